import PyProof.Rows.All
import Wide.All
import OpenK.AllK
import Wide.FinOn
import HandS.ForMost
import HandS.ForExc
import HandS.DictComp
import HandS.IsInst
import HandS.Defaults
import HandS.Deep
import HandS.Conv
import HandS.NoneIn
import HandS.TupAny
import HandS.Steps
import HandS.ExcInit
import HandS.ExcField
import HandS.Evl
import HandS.More
import PySem.Challenge.RW_deltawires_k34_whole_both_ring_filter
import HandS.Walk
set_option Elab.async false
set_option linter.all false
set_option maxRecDepth 100000
set_option maxHeartbeats 4000000
/-! rules that the layer lacks: a star in a target, chains of three, get's side terms -/
namespace K34
open PySem PySem.Spec PyProof.Rows L2
section
variable {X : Cx} {pos : Pos}
/-- first, .., *mid, .., last = a sequence of xs: the middle's list stands at p -/
def gStar (sq : Hp → Addr → List V → Prop) (n i : Nat) (t : TGs) : TG := fun v σ H Q => ∃ a xs, v = .ref a ∧ sq H a xs ∧ n ≤ xs.length + 1 ∧ xs.length ≤ 16384 ∧
  ∀ p, H p = none → t (xs.take i ++ [.ref p] ++ (xs.drop i).drop (xs.length + 1 - n)) σ (upd H p (.lst ((xs.drop i).take (xs.length + 1 - n)))) Q
theorem pgs_star {e : Expr} {es : List Expr} {t : TG} {u : TGs} {sp : Pos} (h1 : PG X e t) (h2 : PGs X es u)
    (hs : (assignEach (.Starred e sp :: es) X.env).map (·.2) = assign e X.env :: (assignEach es X.env).map (·.2) := by rfl) : PGs X (.Starred e sp :: es) (gCons t u) := by
  refine ⟨fun pins s σ H vs us Q I r h => ?_⟩
  obtain ⟨v, rest, rfl, h⟩ := h
  cases r with
  | cons rv rr =>
    rw [hs]
    unfold assignInOrder
    refine wpAny_bind (wpAny_holding (thn (h1.run pins s σ H v _ _ I rv h) fun _ s1 ⟨σ1, H1, I1, q1⟩ => ?_))
    exact h2.run pins s1 σ1 H1 rest _ Q I1 rr q1

theorem star_end {pins : List (Addr × Obj)} {s : Shared} {σ : L2.St} {H : Hp} {ts : List (Value → Sem Unit)} {its : List Value} {xs : List V} {n i : Nat} {h2 : Heap} {tk : Nat} {Q : Unit → Shared → Prop} (I : Inv X pins σ H s)
    (hv : Vals xs its) (hz : xs.length ≤ 16384) (k : ∀ b o, s.heap.get? b = some o → h2.get? b = some o)
    (h : ∀ p s', H p = none → Inv X pins σ (upd H p (.lst ((xs.drop i).take (xs.length + 1 - n)))) s' → wpAny (model X.prog X.w) X.A (assignInOrder ts (its.take i ++ [Value.ref p] ++ (its.drop i).drop (xs.length + 1 - n))) Q X.xe s') :
    wpAny (model X.prog X.w) X.A (newList ((its.drop i).take (xs.length + 1 - n)) >>= fun d => pure (its.take i ++ [d] ++ (its.drop i).drop (xs.length + 1 - n)))
      (fun vs s' => wpAny (model X.prog X.w) X.A (assignInOrder ts vs) Q X.xe s') X.xe { s with heap := h2, toks := tk } := by
  have I1 : Inv X pins σ H { s with heap := h2, toks := tk } := I.kept (t' := tk) k
  have hl : ((its.drop i).take (xs.length + 1 - n)).length ≤ sizeLine := by
    rw [List.length_take, List.length_drop, ← hv.length, sizeLine_eq]
    omega
  refine wpAny_bind (wpAny_newObj_type (wpAny_pure ?_) hl)
  have hv2 : Vals ((xs.drop i).take (xs.length + 1 - n)) ((its.drop i).take (xs.length + 1 - n)) := (hv.drop i).take _
  exact h _ _ I1.fresh (I1.lnew hv2 (by rw [hv2.length]; exact hl))

theorem pg_starT {es : List Expr} {k : Nat} {t : TGs} {n i : Nat} (hc : X.calm = true) (h : PGs X es t) (hn : (assignEach es X.env).length = n := by rfl) (hst : (assignEach es X.env).findIdx? (·.1) = some i := by rfl) (hi : i < n := by decide) :
    PG X (.Tuple es k pos) (gStar (SqT X.K) n i t) := by
  refine ⟨fun pins s σ H v u Q I r hw => ?_⟩
  obtain ⟨a, xs, rfl, hq, hl, hz, hw⟩ := hw
  cases r
  obtain ⟨its, rv, ht, hsz⟩ := I.tuple hq
  have hlen : its.length = xs.length := rv.length.symm
  rw [PyProof.Rows.assign_Tuple]
  refine wpAny_bind (wpAny_standAt ?_)
  unfold unpack
  rw [hn, hst]
  have ne : a ≠ s.heap.objs.size := Nat.ne_of_lt ht.lt
  refine wpAny_bind (wpAny_holding ?_)
  unfold unpackItems
  refine wpAny_bind ?_
  unfold notIterableAtAll
  refine wpAny_bind (wpAny_specialOf ht.typeIs slot_tuple_iter.lookup (wpAny_pure ?_))
  simp only [Bool.false_eq_true, if_false]
  refine wpAny_bind (wpAny_holding (iter_tuple ht (wpAny_bind (wpAny_holding ?_))))
  refine draw_tuple ne i 0 _ _ ⟨_, Heap.get?_push_size _ rfl, rfl, rfl⟩ (ht.push _) (by rw [List.size_toArray]; omega) fun h1 it1 sb1 => ?_
  have ht1 : IsTup h1 a its.toArray := (ht.push _).extBut sb1.extBut ne
  rw [Nat.zero_add] at it1
  have lt1 : s.heap.objs.size < h1.objs.size := by
    obtain ⟨o, ho, _⟩ := it1
    exact Heap.lt_size ho
  rw [List.drop_zero]
  have f1 : (its.toArray.toList.take i).length = i := by show (its.take i).length = i; rw [List.length_take]; omega
  rw [if_neg (by rw [f1]; exact Nat.lt_irrefl _)]
  refine wpAny_bind (wpAny_holding (PySem.W.kun_collect (s := { s with heap := h1 }) (k := i) (T := "tuple_iterator") (.inr (.inr (.inr rfl))) (Walks.tuple (A := X.A.in1) (I.ok.hd hc) s.heap.objs.size a ne its.toArray)
    (fun j u st => st.1.typeIs) (by rw [List.size_toArray]; omega) ⟨it1, ht1⟩ lt1 ht1.lt (fun h2 tk hk => ?_) (by rw [List.size_toArray, hlen]; exact hsz)))

  have l2 : (its.drop i).length = xs.length - i := by rw [List.length_drop, hlen]
  rw [if_neg (show ¬ (its.drop i).length < n - 1 - i by rw [l2]; omega), show (its.drop i).length - (n - 1 - i) = xs.length + 1 - n by rw [l2]; omega]
  have keep : ∀ b o, s.heap.get? b = some o → h2.get? b = some o := fun b o e => hk b o (Nat.ne_of_lt (Heap.lt_size e)) (sb1.extBut b o (Nat.ne_of_lt (Heap.lt_size e)) (Heap.get?_push_of_some _ e))
  refine star_end (s := s) (h2 := h2) (tk := tk) I rv hz keep fun p s' hp I' => ?_
  have hv3 : Vals (xs.take i ++ [V.ref p] ++ (xs.drop i).drop (xs.length + 1 - n)) (its.take i ++ [Value.ref p] ++ (its.drop i).drop (xs.length + 1 - n)) :=
    ((rv.take i).append (show Vals [V.ref p] [Value.ref p] from .cons rfl .nil)).append ((rv.drop i).drop _)
  exact h.run pins _ σ _ _ _ Q I' hv3 (hw p hp)
theorem pg_starL {es : List Expr} {k : Nat} {t : TGs} {n i : Nat} (hc : X.calm = true) (h : PGs X es t) (hn : (assignEach es X.env).length = n := by rfl) (hst : (assignEach es X.env).findIdx? (·.1) = some i := by rfl) (hi : i < n := by decide) :
    PG X (.Tuple es k pos) (gStar (SqL X.K) n i t) := by
  refine ⟨fun pins s σ H v u Q I r hw => ?_⟩
  obtain ⟨a, xs, rfl, hq, hl, hz, hw⟩ := hw
  cases r
  obtain ⟨its, rv, pl, hsz⟩ := I.list hq
  have ht : s.heap.IsList a its.toArray := by
    obtain ⟨o, m, e, c, d, q⟩ := pl
    exact ⟨o, e, c, m, q⟩
  have hlen : its.length = xs.length := rv.length.symm
  rw [PyProof.Rows.assign_Tuple]
  refine wpAny_bind (wpAny_standAt ?_)
  unfold unpack
  rw [hn, hst]
  have lt0 : a < s.heap.objs.size := by
    obtain ⟨o, ho, _⟩ := ht
    exact Heap.lt_size ho
  have ne : a ≠ s.heap.objs.size := Nat.ne_of_lt lt0
  refine wpAny_bind (wpAny_holding ?_)
  unfold unpackItems
  refine wpAny_bind ?_
  unfold notIterableAtAll
  refine wpAny_bind (wpAny_specialOf ht.typeIs slot_list_iter.lookup (wpAny_pure ?_))
  simp only [Bool.false_eq_true, if_false]
  refine wpAny_bind (wpAny_holding (wpAny_pyIter_list ht (wpAny_bind (wpAny_holding ?_))))
  refine PySem.W.kun_draw ne i 0 _ _ ⟨_, Heap.get?_push_size _ rfl, rfl, rfl⟩ (ht.push _) (by rw [List.size_toArray]; omega) fun h1 it1 sb1 => ?_
  have ht1 : h1.IsList a its.toArray := (ht.push _).extBut sb1.extBut ne
  rw [Nat.zero_add] at it1
  have lt1 : s.heap.objs.size < h1.objs.size := by
    obtain ⟨o, ho, _⟩ := it1
    exact Heap.lt_size ho
  have lt2 : a < h1.objs.size := by
    obtain ⟨o, ho, _⟩ := ht1
    exact Heap.lt_size ho
  rw [List.drop_zero]
  have f1 : (its.toArray.toList.take i).length = i := by show (its.take i).length = i; rw [List.length_take]; omega
  rw [if_neg (by rw [f1]; exact Nat.lt_irrefl _)]
  refine wpAny_bind (wpAny_holding (PySem.W.kun_collect (s := { s with heap := h1 }) (k := i) (T := "list_iterator") (.inr (.inr (.inl rfl))) (Walks.list (A := X.A.in1) (I.ok.hd hc) s.heap.objs.size a ne its.toArray)
    (fun j u st => st.1.typeIs) (by rw [List.size_toArray]; omega) ⟨it1, ht1⟩ lt1 lt2 (fun h2 tk hk => ?_) (by rw [List.size_toArray, hlen]; exact hsz)))

  have l2 : (its.drop i).length = xs.length - i := by rw [List.length_drop, hlen]
  rw [if_neg (show ¬ (its.drop i).length < n - 1 - i by rw [l2]; omega), show (its.drop i).length - (n - 1 - i) = xs.length + 1 - n by rw [l2]; omega]
  have keep : ∀ b o, s.heap.get? b = some o → h2.get? b = some o := fun b o e => hk b o (Nat.ne_of_lt (Heap.lt_size e)) (sb1.extBut b o (Nat.ne_of_lt (Heap.lt_size e)) (Heap.get?_push_of_some _ e))
  refine star_end (s := s) (h2 := h2) (tk := tk) I rv hz keep fun p s' hp I' => ?_
  have hv3 : Vals (xs.take i ++ [V.ref p] ++ (xs.drop i).drop (xs.length + 1 - n)) (its.take i ++ [Value.ref p] ++ (its.drop i).drop (xs.length + 1 - n)) :=
    ((rv.take i).append (show Vals [V.ref p] [Value.ref p] from .cons rfl .nil)).append ((rv.drop i).drop _)
  exact h.run pins _ σ _ _ _ Q I' hv3 (hw p hp)
/-- a op1 b op2 c op3 d -/
def tChain3 (r r' r2 : R2) (ta tb tc td : TE) : TE := fun σ H Q => ta σ H fun x H1 => tb σ H1 fun y H2 => r x y H2 fun z H3 => ∃ k, z = .bl k ∧
  (if k = true then tc σ H3 fun w H4 => r' y w H4 fun z2 H5 => ∃ k2, z2 = .bl k2 ∧ (if k2 = true then td σ H5 fun w2 H6 => r2 w w2 H6 Q else Q (.bl false) H5) else Q (.bl false) H3)
theorem pe_chain3 {op op' op2 : CmpOp} {r r' r2 : R2} {a b c d : Expr} {ta tb tc td : TE} (ho : OpR X (compareOp op) r) (ho' : OpR X (compareOp op') r') (ho2 : OpR X (compareOp op2) r2) (ha : PE X a ta) (hb : PE X b tb) (hc : PE X c tc) (hd : PE X d td)
    (hm : lastMarks [op, op', op2] [b, c, d] = false := by with_unfolding_all rfl) : PE X (.Compare a [op, op', op2] [b, c, d] pos) (tChain3 r r' r2 ta tb tc td) := by
  refine ⟨fun pins s σ H Q I h => ?_⟩
  refine Compare_chain (thn (ha.run pins s σ H _ I h) fun v s1 ⟨x, H1, I1, r1, q1⟩ => chain_link (thn (hb.run pins s1 σ H1 _ I1 q1) fun u s2 ⟨y, H2, I2, ry, q2⟩ => thn (ho pins s2 σ H2 x y v u _ I2 r1 ry q2) fun e s3 ⟨z, H3, I3, r3, k, ez, q3⟩ => ?_)) hm
  subst ez
  cases r3
  refine wpAny_truthy_bool ?_
  cases k with
  | false => exact ite_ff ⟨.bl false, H3, I3, rfl, q3⟩
  | true =>
    refine ite_tt (chain_link (thn (hc.run pins s3 σ H3 _ I3 q3) fun w4 s4 ⟨z4, H4, I4, r4, q4⟩ => thn (ho' pins s4 σ H4 y z4 u w4 _ I4 ry r4 q4) fun e5 s5 ⟨z5, H5, I5, r5, k2, e2, q5⟩ => ?_))
    subst e2
    cases r5
    refine wpAny_truthy_bool ?_
    cases k2 with
    | false => exact ite_ff ⟨.bl false, H5, I5, rfl, q5⟩
    | true => exact ite_tt (chain_last (thn (hd.run pins s5 σ H5 _ I5 q5) fun w6 s6 ⟨z6, H6, I6, r6, q6⟩ => ho2 pins s6 σ H6 z4 z6 w4 w6 Q I6 r4 r6 q6))

/-- B.__init__(self, ..) where B is an own class over ValueError without an __init__ of its own -/
theorem pe_weinit {B : Addr} {x : Str} {e : Expr} {es : List Expr} {ta : TA} {p1 p2 : Pos} {pl : Sem Bool} (hg : Gl X x) (hm : X.mg x = some (.ref B)) (hga : PySem.W.specialIn X.K (.ref B) "__getattribute__" = some (some (.builtin "type.__getattribute__")))
    (hr : PySem.W.readsIn X.K B (.type "type") = true) (hi : PySem.W.findCls X.K (.ref B) (.type "type") "__init__" = some (.val (.builtin "ValueError.__init__"))) (ha : PA X (e :: es) ta) (hdb : (x == ("__debug__" : Str)) = false := by decide)
    (hc : eval (.Call (.Attribute (.Name x p1) "__init__" p2) (e :: es) [] pos) X.env = (do
      let ov ← eval (.Name x p1) X.env
      standAt p2.atName
      let (f, first) ← holding [ov] (getMethod ov "__init__" pl)
      callWith pos f first (backTo pos (starEach (e :: es) X.env)) (backToKw pos (keywordEach [] X.env))) := by rfl)
    (he : starEach (e :: es) X.env = (false, eval e X.env) :: starEach es X.env := by rfl) (hpl : (backTo pos (starEach es X.env)).any (·.1) = false := by rfl) :
    PE X (.Call (.Attribute (.Name x p1) "__init__" p2) (e :: es) [] pos) (tVeI X.K ta) := by
  refine ⟨fun pins s σ H Q I h => ?_⟩
  refine PySem.W.methodCall_KW (ld_glob I hg hm ?_ hdb) hc
  refine PySem.W.method_cls I.kIn hga (PySem.W.cls_value I.kIn hr hi rfl ?_)
  show wpAny _ _ (callWith pos (Value.builtin "ValueError.__init__") [] (backTo pos (starEach (e :: es) X.env)) []) _ _ _
  refine PyProof.Rows.callWith_method1 (thn (ha.run pos pins _ σ H _ (I.tok _) h) fun us s1 ⟨vs, H1, I1, r1, a, C, ws, ev, hl, T, ea, q⟩ => ?_) he hpl
  subst ev
  cases r1 with
  | @cons _ u0 _ ur ra rw' =>
    obtain rfl : u0 = Value.ref a := ra
    have hlen : ur.length ≤ sizeLine := by
      rw [← Paired.length rw', sizeLine_eq]
      omega
    exact oinit_ok T I1 ea hlen fun s' J => ⟨.non, H1, J, rfl, q⟩
/-- C(..) in a try: what __init__ raises is wished for at the slots -/
def tMakeS (C : Addr) (sp : Sp) (dvs : List V) (E : L2.St → XK) (t : TA) : TE := fun σ H Q => t σ H fun vs H1 => ∀ x dx, H1 x = none → H1 dx = none → dx ≠ x →
  sp (.ref x :: (vs ++ dvs)) (upd (upd H1 dx (.own x)) x (.ins C dx [])) (fun v H2 => v = .non ∧ Q (.ref x) H2) (E σ)
theorem run_makeS {CX : CXT} {C f : Addr} {fd : FuncData} {ps : List Str} {sp : Sp} {E : XK} {kk : Nat} {dvs : List V} {ds : List Value} {pins : List (Addr × Obj)} {σ : L2.St} {H : Hp} {s : Shared} {Q : VK} {us : List Value} {vs : List V} (M : Mk X.K C f)
    (F : FnOk X.prog X.w X.K X.mg X.base CX kk f fd ps sp) (hr : Room (kk + 1) X.A) (hb : Binds X.K fd ps ds) (hd : Vals dvs ds) (hx : PassesAt CX X σ E) (I : Inv X pins σ H s) (r : Vals vs us)
    (h : ∀ x dx, H x = none → H dx = none → dx ≠ x → sp (.ref x :: (vs ++ dvs)) (upd (upd H dx (.own x)) x (.ins C dx [])) (fun v H2 => v = .non ∧ Q (.ref x) H2) E) :
    wpAny (model X.prog X.w) X.A (call (.ref C) us) (EP X pins σ Q) X.xe s := by
  have q0 := h (s.heap.objs.size + 1) s.heap.objs.size (I.hok.fresh (Nat.le_succ _)) (I.hok.fresh (Nat.le_refl _)) (Nat.ne_of_lt (Nat.lt_succ_self _))
  have J := Inv.made (C := C) I
  have rr : Vals (V.ref (s.heap.objs.size + 1) :: (vs ++ dvs)) (Value.ref (s.heap.objs.size + 1) :: (us ++ ds)) := .cons rfl (r.append hd)
  have ll : (Value.ref (s.heap.objs.size + 1) :: us ++ ds).length = ps.length := (rr.length.symm.trans (F.len _ _ _ _ q0))
  have bb := hb _ (Value.ref (s.heap.objs.size + 1) :: us) J.kIn ll
  refine wpAny_call (make_map (f := f) I.kIn M.makes M.init (beq_iff_eq.mp M.fn) (codeAny_mono (F.run _ X.stack _ _ _ _ _ _ E (hr.make C us []) (J.env0.make C us []) bb rr q0) fun res s' z => ?_))
  cases res with
  | error er => exact hx pins _ _ er s' J z
  | ok fl =>
    cases fl with
    | ret u =>
      obtain ⟨v, H', I3, rv, ev, q3⟩ := J.after z
      subst ev
      exact ⟨rv, V.ref (s.heap.objs.size + 1), H', I3, rfl, q3⟩
    | next => exact z.elim
    | brk => exact z.elim
    | cont => exact z.elim
theorem pe_makeS {CX : CXT} {C f : Addr} {fd : FuncData} {ps : List Str} {sp : Sp} {E : L2.St → XK} {kk : Nat} {dvs : List V} {ds : List Value} {x : Str} {p : Pos} {e : Expr} {es : List Expr} {t : TA} (M : Mk X.K C f)
    (F : FnOk X.prog X.w X.K X.mg X.base CX kk f fd ps sp) (hr : Room (kk + 1) X.A) (hg : Gl X x) (hm : X.mg x = some (.ref C)) (hb : Binds X.K fd ps ds) (hd : Vals dvs ds) (hx : ∀ σ, PassesAt CX X σ (E σ))
    (ha : PA X (e :: es) t) (hdb : (x == ("__debug__" : Str)) = false := by decide) (he : starEach (e :: es) X.env = (false, eval e X.env) :: starEach es X.env := by rfl) (hpl : (backTo pos (starEach es X.env)).any (·.1) = false := by rfl) :
    PE X (.Call (.Name x p) (e :: es) [] pos) (tMakeS C sp dvs E t) := by
  refine ⟨fun pins s σ H Q I h => wpAny_Call_Name_kw (ld_glob I hg hm ?_ hdb)⟩
  exact PySem.W.callWith_K (h₀ := X.base) I.ok.mod.kin M.kp (thn (ha.run pos pins s σ H _ I h) fun us s1 ⟨vs, H1, I1, r, q⟩ => ⟨I1.kIn, run_makeS M F hr hb hd (hx σ) I1 r q⟩) he hpl

/-- d.get(k, z), d a written dict with text keys -/
def tKGet2 (K : PySem.W.Frag) (w : World) (td ty tx : TE) : TE := fun σ H Q => td σ H fun x H1 => ∃ d es n, x = .ref d ∧ KDict K w d es n ∧ ty σ H1 fun y H2 => tx σ H2 fun z H3 => ∃ (k : Str) (r : Option Value), y = .str k ∧ PySem.W.nsIn K d k = some r ∧
  ((∃ u v, r = some u ∧ RelV v u ∧ Q v H3) ∨ (r = none ∧ Q z H3))
theorem pe_kget2 {o e f : Expr} {td ty tx : TE} {apos cpos : Pos} (ho : PE X o td) (he : PE X e ty) (hf : PE X f tx) (m : M2 X o "get" apos e f cpos) : PE X (.Call (.Attribute o "get" apos) [e, f] [] cpos) (tKGet2 X.K X.w td ty tx) := by
  refine ⟨fun pins s σ H Q I h => ?_⟩
  refine wpAny_Call_method m.base m.few m.line PySem.F.plainAttrs_dict PySem.F.slot_dict_get PySem.F.type_dict_get (thn (ho.run pins s σ H _ I h) fun u s1 ⟨x, H1, I1, rx, d, es, n, ex, D, q1⟩ => ?_)
  subst ex
  obtain rfl : u = Value.ref d := rx
  refine ⟨kd_type D I1, fun b q => ?_, ?_⟩
  · cases q
    exact ⟨_, I1.kIn _ _ D.at_, rfl⟩
  rw [m.trees]
  refine Calls.callWith_builtin rfl (Calls.evalArgs_plain (Calls.spliced_cons (thn (he.run pins s1 σ H1 _ I1 q1) fun iv s2 ⟨y, H2, I2, ry, q2⟩ =>
    Calls.spliced_cons (thn (hf.run pins s2 σ H2 _ I2 q2) fun fv s3 ⟨z, H3, I3, rz, k, r, ey, er, q3⟩ => Calls.spliced_nil ?_))))
  subst ey
  obtain ⟨t, rfl⟩ := ry
  have M := PySem.W.mapOf_K (prog := X.prog) (w := X.w) I3.kIn D.at_ D.lit
  refine call_meetsIn PySem.F.slot_dict_get (kd_type D I3) PySem.F.entry_dict_get (PySem.F.args_dict_get_3 _ _ _) (meets_dict_get_default (PySem.strKind X.prog X.w) d (PySem.strKind_is X.prog X.w k t) D.low fv) ⟨_, M, ?_⟩
  have e2 := PySem.W.find_K D.at_ er
  rcases q3 with ⟨u, v, rfl, rv, q3⟩ | ⟨rfl, q3⟩
  · exact ⟨v, H3, I3.tok _, by rw [e2]; exact rv, q3⟩
  · exact ⟨z, H3, I3.tok _, by rw [e2]; exact rz, q3⟩
end
end K34
/-! the data: terms, rows, statements, blocks; what stands in the heap -/
namespace K34
open PySem PySem.Spec PyProof.Rows L2
inductive Tm where
  | is (x : Str)
  | of (n : Str)
  | op1 (o : Str) (a : Tm)
  | op2 (o : Str) (a b : Tm)
  | op3 (o : Str) (a b c : Tm)
  | part (a : Tm) (hi lo : Int)
namespace Tm
def d : Tm → PyData
  | .is x => .tuple [.str "is", .str x]
  | .of n => .tuple [.str "of", .str n]
  | .op1 o a => .tuple [.str o, a.d]
  | .op2 o a b => .tuple [.str o, a.d, b.d]
  | .op3 o a b c => .tuple [.str o, a.d, b.d, c.d]
  | .part a hi lo => .tuple [.str "part", a.d, .int hi, .int lo]
def size : Tm → Int
  | .is _ => 1
  | .of _ => 1
  | .op1 _ a => 1 + a.size
  | .op2 _ a b => 1 + (a.size + b.size)
  | .op3 _ a b c => 1 + (a.size + (b.size + c.size))
  | .part a _ _ => 1 + a.size
def kids : Tm → List Tm
  | .is _ => []
  | .of _ => []
  | .op1 _ a => [a]
  | .op2 _ a b => [a, b]
  | .op3 _ a b c => [a, b, c]
  | .part a _ _ => [a]
def names : Tm → List Str
  | .is _ => []
  | .of n => [n]
  | .op1 _ a => a.names
  | .op2 _ a b => a.names ++ b.names
  | .op3 _ a b c => a.names ++ (b.names ++ c.names)
  | .part a _ _ => a.names
end Tm
/-- what an operator makes of widths -/
inductive O1 : Str → Int → Int → Prop
  | not (w : Int) : O1 "not" w w
  | any (w : Int) : O1 "any" w 1
  | all (w : Int) : O1 "all" w 1
inductive O2 : Str → Int → Int → Int → Prop
  | and (w : Int) : O2 "and" w w w
  | or (w : Int) : O2 "or" w w w
  | xor (w : Int) : O2 "xor" w w w
  | plus (w : Int) : O2 "plus" w w w
  | same (w : Int) : O2 "same" w w 1
  | less (w : Int) : O2 "less" w w 1
  | join (a b : Int) (h : a + b ≤ 8) : O2 "join" a b (a + b)
inductive O3 : Str → Int → Int → Int → Int → Prop
  | pick (w : Int) : O3 "pick" 1 w w w
abbrev Ctx := List (Str × Int)
/-- signs 0, 1, x -/
def Bits (x : Str) : Prop := ∀ c ∈ x.cps.toList, c = 48 ∨ c = 49 ∨ c = 120
/-- a term of a width over names, at most so deep -/
inductive Ok (g : Ctx) : Nat → Int → Tm → Prop
  | is {n : Nat} {w : Int} {x : Str} (hl : (x.length : Int) = w) (h1 : 1 ≤ w) (h8 : w ≤ 8) (hb : Bits x) : Ok g (n + 1) w (.is x)
  | of {n : Nat} {w : Int} {x : Str} (h : (x, w) ∈ g) : Ok g (n + 1) w (.of x)
  | op1 {n : Nat} {o : Str} {a w : Int} {t : Tm} (h : O1 o a w) (ha : Ok g n a t) : Ok g (n + 1) w (.op1 o t)
  | op2 {n : Nat} {o : Str} {a b w : Int} {t u : Tm} (h : O2 o a b w) (ha : Ok g n a t) (hb : Ok g n b u) : Ok g (n + 1) w (.op2 o t u)
  | op3 {n : Nat} {o : Str} {a b c w : Int} {t u v : Tm} (h : O3 o a b c w) (ha : Ok g n a t) (hb : Ok g n b u) (hc : Ok g n c v) : Ok g (n + 1) w (.op3 o t u v)
  | part {n : Nat} {a w hi lo : Int} {t : Tm} (ha : Ok g n a t) (h0 : 0 ≤ lo) (h1 : lo ≤ hi) (h2 : hi < a) (hw : w = hi - lo + 1) : Ok g (n + 1) w (.part t hi lo)
theorem Ok.up {g : Ctx} {n : Nat} {w : Int} {t : Tm} (h : Ok g n w t) : ∀ m, n ≤ m → Ok g m w t := by
  induction h with
  | is hl h1 h8 hb => intro m hm; obtain ⟨k, rfl⟩ : ∃ k, m = k + 1 := ⟨m - 1, by omega⟩; exact .is hl h1 h8 hb
  | of h => intro m hm; obtain ⟨k, rfl⟩ : ∃ k, m = k + 1 := ⟨m - 1, by omega⟩; exact .of h
  | op1 h _ ia => intro m hm; obtain ⟨k, rfl⟩ : ∃ k, m = k + 1 := ⟨m - 1, by omega⟩; exact .op1 h (ia k (by omega))
  | op2 h _ _ ia ib => intro m hm; obtain ⟨k, rfl⟩ : ∃ k, m = k + 1 := ⟨m - 1, by omega⟩; exact .op2 h (ia k (by omega)) (ib k (by omega))
  | op3 h _ _ _ ia ib ic => intro m hm; obtain ⟨k, rfl⟩ : ∃ k, m = k + 1 := ⟨m - 1, by omega⟩; exact .op3 h (ia k (by omega)) (ib k (by omega)) (ic k (by omega))
  | part _ h0 h1 h2 hw ia => intro m hm; obtain ⟨k, rfl⟩ : ∃ k, m = k + 1 := ⟨m - 1, by omega⟩; exact .part (ia k (by omega)) h0 h1 h2 hw
theorem Ok.ctx {g g' : Ctx} {n : Nat} {w : Int} {t : Tm} (h : Ok g n w t) (hg : ∀ p ∈ g, p ∈ g') : Ok g' n w t := by
  induction h with
  | is hl h1 h8 hb => exact .is hl h1 h8 hb
  | of h => exact .of (hg _ h)
  | op1 h _ ia => exact .op1 h ia
  | op2 h _ _ ia ib => exact .op2 h ia ib
  | op3 h _ _ _ ia ib ic => exact .op3 h ia ib ic
  | part _ h0 h1 h2 hw ia => exact .part ia h0 h1 h2 hw
theorem Ok.none {g : Ctx} {w : Int} {t : Tm} (h : Ok g 0 w t) : False := nomatch h
theorem Ok.size_pos {g : Ctx} {n : Nat} {w : Int} {t : Tm} (h : Ok g n w t) : 1 ≤ t.size := by
  induction h <;> simp only [Tm.size] <;> omega
theorem Ok.size3 {g : Ctx} {n : Nat} {w : Int} {t : Tm} (h : Ok g n w t) : 2 * t.size + 1 ≤ ((3 ^ n : Nat) : Int) := by
  have e : ∀ n : Nat, ((3 ^ (n + 1) : Nat) : Int) = 3 * ((3 ^ n : Nat) : Int) := fun n => by rw [Nat.pow_succ]; omega
  have p : ∀ n : Nat, (1 : Int) ≤ ((3 ^ n : Nat) : Int) := fun n => by have := Nat.pow_pos (n := n) (show 0 < 3 by decide); omega
  induction h with
  | @is n _ _ _ _ _ _ => simp only [Tm.size]; rw [e]; have := p n; omega
  | @of n _ _ _ => simp only [Tm.size]; rw [e]; have := p n; omega
  | @op1 n _ _ _ _ _ _ ia => simp only [Tm.size]; rw [e]; have := p n; omega
  | @op2 n _ _ _ _ _ _ _ _ _ ia ib => simp only [Tm.size]; rw [e]; have := p n; omega
  | @op3 n _ _ _ _ _ _ _ _ _ _ _ _ ia ib ic => simp only [Tm.size]; rw [e]; have := p n; omega
  | @part n _ _ _ _ _ _ _ _ _ _ ia => simp only [Tm.size]; rw [e]; have := p n; omega
theorem Ok.names_in {g : Ctx} {n : Nat} {w : Int} {t : Tm} (h : Ok g n w t) : ∀ x ∈ t.names, ∃ k, (x, k) ∈ g := by
  induction h with
  | is => intro x hx; exact absurd hx (by simp [Tm.names])
  | of h => intro x hx; simp only [Tm.names, List.mem_singleton] at hx; subst hx; exact ⟨_, h⟩
  | op1 _ _ ia => exact ia
  | op2 _ _ _ ia ib => intro x hx; simp only [Tm.names, List.mem_append] at hx; rcases hx with hx | hx; exact ia x hx; exact ib x hx
  | op3 _ _ _ _ ia ib ic => intro x hx; simp only [Tm.names, List.mem_append] at hx; rcases hx with hx | hx | hx; exact ia x hx; exact ib x hx; exact ic x hx
  | part _ _ _ _ _ ia => exact ia
/-- a name, as is_name has it -/
def lowers : List Nat := [97, 98, 99, 100, 101, 102, 103, 104, 105, 106, 107, 108, 109, 110, 111, 112, 113, 114, 115, 116, 117, 118, 119, 120, 121, 122]
def digits : List Nat := [48, 49, 50, 51, 52, 53, 54, 55, 56, 57]
def wordsL : List Str := ["not", "and", "or", "xor", "plus", "same", "less", "any", "all", "pick", "join", "part"]
def othersL : List Str := ["is", "of", "at", "filters", "later"]
structure IsNm (x : Str) : Prop where
  pos : 1 ≤ x.length
  le : x.length ≤ 8
  hd : ∃ c, x.cps[0]? = some c ∧ c ∈ lowers
  all : ∀ c ∈ x.cps.toList, c ∈ lowers ∨ c ∈ digits
  nw : x ∉ wordsL
  no : x ∉ othersL
structure GOk (g : Ctx) : Prop where
  nm : ∀ x w, (x, w) ∈ g → IsNm x
  lo : ∀ x w, (x, w) ∈ g → 1 ≤ w
  hi : ∀ x w, (x, w) ∈ g → w ≤ 8
  nd : (g.map (·.1)).Nodup
theorem Ok.pos {g : Ctx} (G : GOk g) {n : Nat} {w : Int} {t : Tm} (h : Ok g n w t) : 1 ≤ w ∧ w ≤ 8 := by
  induction h with
  | is hl h1 h8 hb => exact ⟨h1, h8⟩
  | of h => exact ⟨G.lo _ _ h, G.hi _ _ h⟩
  | op1 h _ ia => cases h <;> first | exact ia | decide
  | op2 h _ _ ia ib => cases h <;> first | exact ia | decide | omega
  | op3 h _ _ _ ia ib ic => cases h; exact ib
  | part _ h0 h1 h2 hw ia => omega
/-! ### rows -/
inductive What where
  | non | val (x : Str) | term (t : Tm) | bus (ds : List (Tm × Tm))
def What.d : What → PyData
  | .non => .none
  | .val x => .str x
  | .term t => t.d
  | .bus ds => .tuple (ds.map fun p => .tuple [p.1.d, p.2.d])
def What.names : What → List Str
  | .non => []
  | .val _ => []
  | .term t => t.names
  | .bus ds => ds.flatMap fun p => p.1.names ++ p.2.names
def What.terms : What → List Tm
  | .non => []
  | .val _ => []
  | .term t => [t]
  | .bus ds => ds.flatMap fun p => [p.1, p.2]
structure Row where
  sort : Str
  name : Str
  width : Int
  what : What
def Row.d (r : Row) : PyData := .tuple [.str r.sort, .str r.name, .int r.width, r.what.d]
def ctx (rs : List Row) : Ctx := rs.map fun r => (r.name, r.width)
inductive RowOk (g : Ctx) : Row → Prop
  | input (n : Str) (w : Int) : RowOk g ⟨"input", n, w, .non⟩
  | kept (n : Str) (w : Int) (x : Str) (hl : (x.length : Int) = w) (hb : Bits x) : RowOk g ⟨"kept", n, w, .val x⟩
  | wire (n : Str) (w : Int) (t : Tm) (h : Ok g 4 w t) : RowOk g ⟨"wire", n, w, .term t⟩
  | filter (n : Str) (w : Int) (t : Tm) (h : Ok g 4 w t) : RowOk g ⟨"filter", n, w, .term t⟩
  | bus (n : Str) (w : Int) (ds : List (Tm × Tm)) (h2 : 2 ≤ ds.length) (h4 : ds.length ≤ 4) (h : ∀ p ∈ ds, Ok g 4 1 p.1 ∧ Ok g 4 w p.2) : RowOk g ⟨"bus", n, w, .bus ds⟩
/-- signals in good form -/
structure SigOk (rs : List Row) : Prop where
  g : GOk (ctx rs)
  row : ∀ r ∈ rs, RowOk (ctx rs) r
  len : rs.length ≤ 11
  led : (rs.filter fun r => decide (r.sort = ("wire" : Str) ∨ r.sort = ("bus" : Str))).length ≤ 8
/-! ### statements -/
inductive Stt where
  | set (w n : Str) (t : Tm)
  | iff (t : Tm) (a b : List Stt)
mutual
def Stt.d : Stt → PyData
  | .set w n t => .tuple [.str w, .str n, t.d]
  | .iff t a b => .tuple [.str "if", t.d, .tuple (sttsD a), .tuple (sttsD b)]
def sttsD : List Stt → List PyData
  | [] => []
  | s :: r => s.d :: sttsD r
end
mutual
def Stt.weight : Stt → Int
  | .set _ _ _ => 1
  | .iff _ a b => 1 + (weightL a + weightL b)
def weightL : List Stt → Int
  | [] => 0
  | s :: r => s.weight + weightL r
end
mutual
def Stt.sets (w : Str) : Stt → List Str
  | .set o n _ => if o = w then [n] else []
  | .iff _ a b => setsL w a ++ setsL w b
def setsL (w : Str) : List Stt → List Str
  | [] => []
  | s :: r => s.sets w ++ setsL w r
end
theorem sttsD_map (l : List Stt) : sttsD l = l.map Stt.d := by
  induction l with
  | nil => rfl
  | cons s r ih => simp only [sttsD, List.map_cons, ih]
theorem setsL_flat (w : Str) (l : List Stt) : setsL w l = l.flatMap (Stt.sets w) := by
  induction l with
  | nil => rfl
  | cons s r ih => simp only [setsL, List.flatMap_cons, ih]
theorem weightL_sum (l : List Stt) : weightL l = (l.map Stt.weight).sum := by
  induction l with
  | nil => rfl
  | cons s r ih => simp only [weightL, List.map_cons, List.sum_cons, ih]
/-- a statement over names (kept: those that may be set), at most so many within one another -/
def StOk (g : Ctx) (kept : List Str) : Nat → Stt → Prop
  | 0, _ => False
  | n + 1, .set w x t => (w = "now" ∨ w = "later") ∧ x ∈ kept ∧ ∃ k, (x, k) ∈ g ∧ Ok g 4 k t
  | n + 1, .iff t a b => Ok g 4 1 t ∧ (∀ s ∈ a, StOk g kept n s) ∧ ∀ s ∈ b, StOk g kept n s
theorem StOk.up {g : Ctx} {kept : List Str} : ∀ {n m : Nat} {s : Stt}, StOk g kept n s → n ≤ m → StOk g kept m s
  | 0, _, _, h, _ => h.elim
  | n + 1, 0, _, _, hm => absurd hm (by omega)
  | n + 1, m + 1, .set w x t, h, _ => h
  | n + 1, m + 1, .iff t a b, h, hm => ⟨h.1, fun s hs => (h.2.1 s hs).up (by omega), fun s hs => (h.2.2 s hs).up (by omega)⟩
structure Blk where
  name : Str
  edge : Str
  trig : Str
  body : List Stt
def Blk.d (b : Blk) : PyData := .tuple [.str b.name, .str b.edge, .str b.trig, .tuple (sttsD b.body)]
def keptOf (rs : List Row) : List Str := (rs.filter fun r => decide (r.sort = ("kept" : Str))).map Row.name
structure BlkOk1 (rs : List Row) (b : Blk) : Prop where
  nm : IsNm b.name
  edge : b.edge = "rise" ∨ b.edge = "fall"
  trig : (b.trig, 1) ∈ ctx rs
  body : ∀ s ∈ b.body, StOk (ctx rs) (keptOf rs) 4 s
  few : weightL b.body ≤ 20
structure BlksOk (rs : List Row) (bs : List Blk) : Prop where
  one : ∀ b ∈ bs, BlkOk1 rs b
  len : bs.length ≤ 6
  nd : ((rs.map Row.name) ++ (bs.map Blk.name)).Nodup
/-! ### what stands in the heap -/
end K34
namespace L2
open PySem PySem.Spec PyProof.Rows
mutual
theorem Dp.mono {K : PySem.W.Frag} {H H' : Hp} (e : Same H H') : ∀ {v : V} {d : PyData}, Dp K H v d → Dp K H' v d
  | _, _, .non => .non
  | _, _, .bl b => .bl b
  | _, _, .int i => .int i
  | _, _, .str x => .str x
  | _, _, .lst h r => .lst (e.seq h) (DpAll.mono e r)
  | _, _, .tup h r => .tup (Evl.ex_t e h) (DpAll.mono e r)
theorem DpAll.mono {K : PySem.W.Frag} {H H' : Hp} (e : Same H H') : ∀ {vs : List V} {ds : List PyData}, DpAll K H vs ds → DpAll K H' vs ds
  | _, _, .nil => .nil
  | _, _, .cons h r => .cons (Dp.mono e h) (DpAll.mono e r)
end
end L2
namespace K34
open PySem PySem.Spec PyProof.Rows L2
theorem same_new {H : Hp} {p : Addr} (h : H p = none) (o : HO) : Same H (upd H p o) := fun b u q => by rw [upd_ne (ne_of_none q h)]; exact q
/-- the widths' dict -/
def WD (H : Hp) (p : Addr) (g : Ctx) : Prop := H p = some (.dK (g.map fun q => (Sum.inr q.1, V.int q.2)))
def Ret (H : Hp) (Q : VK) (P : V → Hp → Prop) : Prop := ∀ v H', Same H H' → P v H' → Q v H'
theorem Ret.go {H H1 : Hp} {Q : VK} {P : V → Hp → Prop} (r : Ret H Q P) (e : Same H H1) : Ret H1 Q P := fun v H' e' p => r v H' (e.trans e') p
end K34
/-! the text by places, the scopes, what the top leaves (printed by gent.py) -/
namespace K34
open PySem PySem.Spec PyProof.Rows L2
def topS (i : Nat) : Stmt := PySem.Challenge.pw_deltawires_k34_whole_both_ring_filter.main.body.getD i (.Pass ⟨0, 0, 0, 0⟩)
abbrev s_is_value : Stmt := topS 8
abbrev n_is_value : List Str := ["thing", "width", "sign"]
abbrev p_is_value : List Str := ["thing", "width"]
theorem sc_is_value : FnScope n_is_value p_is_value (defScope s_is_value) := ⟨rfl, rfl, rfl, by decide +kernel, rfl, by decide +kernel, by decide +kernel⟩
abbrev s_arguments_of : Stmt := topS 18
abbrev n_arguments_of : List Str := ["word"]
abbrev p_arguments_of : List Str := ["word"]
theorem sc_arguments_of : FnScope n_arguments_of p_arguments_of (defScope s_arguments_of) := ⟨rfl, rfl, rfl, by decide +kernel, rfl, by decide +kernel, by decide +kernel⟩
abbrev s_is_name : Stmt := topS 19
abbrev n_is_name : List Str := ["thing", "is_free", "sign"]
abbrev p_is_name : List Str := ["thing"]
theorem sc_is_name : FnScope n_is_name p_is_name (defScope s_is_name) := ⟨rfl, rfl, rfl, by decide +kernel, rfl, by decide +kernel, by decide +kernel⟩
abbrev s_is_whole : Stmt := topS 20
abbrev n_is_whole : List Str := ["thing"]
abbrev p_is_whole : List Str := ["thing"]
theorem sc_is_whole : FnScope n_is_whole p_is_whole (defScope s_is_whole) := ⟨rfl, rfl, rfl, by decide +kernel, rfl, by decide +kernel, by decide +kernel⟩
abbrev s_are_bounds : Stmt := topS 21
abbrev n_are_bounds : List Str := ["things", "high", "low", "thing"]
abbrev p_are_bounds : List Str := ["things"]
theorem sc_are_bounds : FnScope n_are_bounds p_are_bounds (defScope s_are_bounds) := ⟨rfl, rfl, rfl, by decide +kernel, rfl, by decide +kernel, by decide +kernel⟩
abbrev s_leaf_weight : Stmt := topS 22
abbrev n_leaf_weight : List Str := ["word", "things", "is_right"]
abbrev p_leaf_weight : List Str := ["word", "things"]
theorem sc_leaf_weight : FnScope n_leaf_weight p_leaf_weight (defScope s_leaf_weight) := ⟨rfl, rfl, rfl, by decide +kernel, rfl, by decide +kernel, by decide +kernel⟩
abbrev s_term_weight : Stmt := topS 23
abbrev n_term_weight : List Str := ["thing", "deep", "word", "things", "terms", "is_right", "weights", "term"]
abbrev p_term_weight : List Str := ["thing", "deep"]
theorem sc_term_weight : FnScope n_term_weight p_term_weight (defScope s_term_weight) := ⟨rfl, rfl, rfl, by decide +kernel, rfl, by decide +kernel, by decide +kernel⟩
abbrev s_is_term : Stmt := topS 24
abbrev n_is_term : List Str := ["thing"]
abbrev p_is_term : List Str := ["thing"]
theorem sc_is_term : FnScope n_is_term p_is_term (defScope s_is_term) := ⟨rfl, rfl, rfl, by decide +kernel, rfl, by decide +kernel, by decide +kernel⟩
abbrev s_terms_in : Stmt := topS 25
abbrev n_terms_in : List Str := ["term", "word", "things"]
abbrev p_terms_in : List Str := ["term"]
theorem sc_terms_in : FnScope n_terms_in p_terms_in (defScope s_terms_in) := ⟨rfl, rfl, rfl, by decide +kernel, rfl, by decide +kernel, by decide +kernel⟩
abbrev s_operated_width : Stmt := topS 26
abbrev n_operated_width : List Str := ["word", "widths", "first", "others"]
abbrev p_operated_width : List Str := ["word", "widths"]
theorem sc_operated_width : FnScope n_operated_width p_operated_width (defScope s_operated_width) := ⟨rfl, rfl, rfl, by decide +kernel, rfl, by decide +kernel, by decide +kernel⟩
abbrev s_fitting_width : Stmt := topS 27
abbrev n_fitting_width : List Str := ["term", "widths", "word", "first", "rest", "inner", "high", "low", "one"]
abbrev p_fitting_width : List Str := ["term", "widths"]
theorem sc_fitting_width : FnScope n_fitting_width p_fitting_width (defScope s_fitting_width) := ⟨rfl, rfl, rfl, by decide +kernel, rfl, by decide +kernel, by decide +kernel⟩
abbrev s_width_of : Stmt := topS 28
abbrev n_width_of : List Str := ["term", "widths", "found"]
abbrev p_width_of : List Str := ["term", "widths"]
theorem sc_width_of : FnScope n_width_of p_width_of (defScope s_width_of) := ⟨rfl, rfl, rfl, by decide +kernel, rfl, by decide +kernel, by decide +kernel⟩
abbrev s_names_along : Stmt := topS 29
abbrev n_names_along : List Str := ["term", "one", "name"]
abbrev p_names_along : List Str := ["term"]
theorem sc_names_along : FnScope n_names_along p_names_along (defScope s_names_along) := ⟨rfl, rfl, rfl, by decide +kernel, rfl, by decide +kernel, by decide +kernel⟩
abbrev s_names_in : Stmt := topS 30
abbrev n_names_in : List Str := ["term", "name"]
abbrev p_names_in : List Str := ["term"]
theorem sc_names_in : FnScope n_names_in p_names_in (defScope s_names_in) := ⟨rfl, rfl, rfl, by decide +kernel, rfl, by decide +kernel, by decide +kernel⟩
abbrev s_has_width : Stmt := topS 42
abbrev n_has_width : List Str := ["term", "width", "widths", "found"]
abbrev p_has_width : List Str := ["term", "width", "widths"]
theorem sc_has_width : FnScope n_has_width p_has_width (defScope s_has_width) := ⟨rfl, rfl, rfl, by decide +kernel, rfl, by decide +kernel, by decide +kernel⟩
abbrev s_name_wrong : Stmt := topS 43
abbrev n_name_wrong : List Str := ["name", "at", "taken", "who"]
abbrev p_name_wrong : List Str := ["name", "at", "taken"]
theorem sc_name_wrong : FnScope n_name_wrong p_name_wrong (defScope s_name_wrong) := ⟨rfl, rfl, rfl, by decide +kernel, rfl, by decide +kernel, by decide +kernel⟩
abbrev s_is_width : Stmt := topS 44
abbrev n_is_width : List Str := ["thing"]
abbrev p_is_width : List Str := ["thing"]
theorem sc_is_width : FnScope n_is_width p_is_width (defScope s_is_width) := ⟨rfl, rfl, rfl, by decide +kernel, rfl, by decide +kernel, by decide +kernel⟩
abbrev s_is_row : Stmt := topS 45
abbrev n_is_row : List Str := ["thing"]
abbrev p_is_row : List Str := ["thing"]
theorem sc_is_row : FnScope n_is_row p_is_row (defScope s_is_row) := ⟨rfl, rfl, rfl, by decide +kernel, rfl, by decide +kernel, by decide +kernel⟩
abbrev s_signal_wrong : Stmt := topS 46
abbrev n_signal_wrong : List Str := ["row", "at", "taken", "wrong"]
abbrev p_signal_wrong : List Str := ["row", "at", "taken"]
theorem sc_signal_wrong : FnScope n_signal_wrong p_signal_wrong (defScope s_signal_wrong) := ⟨rfl, rfl, rfl, by decide +kernel, rfl, by decide +kernel, by decide +kernel⟩
abbrev s_signals_wrong : Stmt := topS 47
abbrev n_signals_wrong : List Str := ["signals", "taken", "at", "row", "wrong"]
abbrev p_signals_wrong : List Str := ["signals"]
theorem sc_signals_wrong : FnScope n_signals_wrong p_signals_wrong (defScope s_signals_wrong) := ⟨rfl, rfl, rfl, by decide +kernel, rfl, by decide +kernel, by decide +kernel⟩
abbrev s_many_wrong : Stmt := topS 48
abbrev n_many_wrong : List Str := ["signals", "blocks", "row"]
abbrev p_many_wrong : List Str := ["signals", "blocks"]
theorem sc_many_wrong : FnScope n_many_wrong p_many_wrong (defScope s_many_wrong) := ⟨rfl, rfl, rfl, by decide +kernel, rfl, by decide +kernel, by decide +kernel⟩
abbrev s_is_driver : Stmt := topS 49
abbrev n_is_driver : List Str := ["thing", "width", "widths", "when", "term"]
abbrev p_is_driver : List Str := ["thing", "width", "widths"]
theorem sc_is_driver : FnScope n_is_driver p_is_driver (defScope s_is_driver) := ⟨rfl, rfl, rfl, by decide +kernel, rfl, by decide +kernel, by decide +kernel⟩
abbrev s_are_drivers : Stmt := topS 50
abbrev n_are_drivers : List Str := ["thing", "width", "widths", "one"]
abbrev p_are_drivers : List Str := ["thing", "width", "widths"]
theorem sc_are_drivers : FnScope n_are_drivers p_are_drivers (defScope s_are_drivers) := ⟨rfl, rfl, rfl, by decide +kernel, rfl, by decide +kernel, by decide +kernel⟩
abbrev s_is_what : Stmt := topS 51
abbrev n_is_what : List Str := ["row", "widths", "sort", "name", "width", "what"]
abbrev p_is_what : List Str := ["row", "widths"]
theorem sc_is_what : FnScope n_is_what p_is_what (defScope s_is_what) := ⟨rfl, rfl, rfl, by decide +kernel, rfl, by decide +kernel, by decide +kernel⟩
abbrev s_widths_of : Stmt := topS 52
abbrev n_widths_of : List Str := ["signals", "sort", "name", "width", "what"]
abbrev p_widths_of : List Str := ["signals"]
theorem sc_widths_of : FnScope n_widths_of p_widths_of (defScope s_widths_of) := ⟨rfl, rfl, rfl, by decide +kernel, rfl, by decide +kernel, by decide +kernel⟩
abbrev s_what_wrong : Stmt := topS 53
abbrev n_what_wrong : List Str := ["signals", "widths", "row"]
abbrev p_what_wrong : List Str := ["signals"]
theorem sc_what_wrong : FnScope n_what_wrong p_what_wrong (defScope s_what_wrong) := ⟨rfl, rfl, rfl, by decide +kernel, rfl, by decide +kernel, by decide +kernel⟩
abbrev s_statement_weight : Stmt := topS 54
abbrev n_statement_weight : List Str := ["statement", "widths", "kept", "deep", "word", "what", "rest", "weights", "is_kept", "body"]
abbrev p_statement_weight : List Str := ["statement", "widths", "kept", "deep"]
theorem sc_statement_weight : FnScope n_statement_weight p_statement_weight (defScope s_statement_weight) := ⟨rfl, rfl, rfl, by decide +kernel, rfl, by decide +kernel, by decide +kernel⟩
abbrev s_body_weight : Stmt := topS 55
abbrev n_body_weight : List Str := ["body", "widths", "kept", "deep", "weights", "statement"]
abbrev p_body_weight : List Str := ["body", "widths", "kept", "deep"]
theorem sc_body_weight : FnScope n_body_weight p_body_weight (defScope s_body_weight) := ⟨rfl, rfl, rfl, by decide +kernel, rfl, by decide +kernel, by decide +kernel⟩
abbrev s_block_wrong : Stmt := topS 56
abbrev n_block_wrong : List Str := ["row", "at", "taken", "signals", "name", "edge", "trigger", "body", "wrong", "widths", "weight", "one"]
abbrev p_block_wrong : List Str := ["row", "at", "taken", "signals"]
theorem sc_block_wrong : FnScope n_block_wrong p_block_wrong (defScope s_block_wrong) := ⟨rfl, rfl, rfl, by decide +kernel, rfl, by decide +kernel, by decide +kernel⟩
abbrev s_blocks_wrong : Stmt := topS 57
abbrev n_blocks_wrong : List Str := ["signals", "blocks", "taken", "at", "row", "wrong"]
abbrev p_blocks_wrong : List Str := ["signals", "blocks"]
theorem sc_blocks_wrong : FnScope n_blocks_wrong p_blocks_wrong (defScope s_blocks_wrong) := ⟨rfl, rfl, rfl, by decide +kernel, rfl, by decide +kernel, by decide +kernel⟩
abbrev s_set_by : Stmt := topS 58
abbrev n_set_by : List Str := ["body", "word", "found", "first", "what", "rest", "inner", "name"]
abbrev p_set_by : List Str := ["body", "word"]
theorem sc_set_by : FnScope n_set_by p_set_by (defScope s_set_by) := ⟨rfl, rfl, rfl, by decide +kernel, rfl, by decide +kernel, by decide +kernel⟩
abbrev s_both_wrong : Stmt := topS 59
abbrev n_both_wrong : List Str := ["signals", "blocks", "now", "later", "row", "word", "name"]
abbrev p_both_wrong : List Str := ["signals", "blocks"]
theorem sc_both_wrong : FnScope n_both_wrong p_both_wrong (defScope s_both_wrong) := ⟨rfl, rfl, rfl, by decide +kernel, rfl, by decide +kernel, by decide +kernel⟩
abbrev s_terms_of : Stmt := topS 60
abbrev n_terms_of : List Str := ["row", "sort", "name", "width", "what", "driver", "term"]
abbrev p_terms_of : List Str := ["row"]
theorem sc_terms_of : FnScope n_terms_of p_terms_of (defScope s_terms_of) := ⟨rfl, rfl, rfl, by decide +kernel, rfl, by decide +kernel, by decide +kernel⟩
abbrev s_names_beside : Stmt := topS 61
abbrev n_names_beside : List Str := ["signals", "row", "term", "name"]
abbrev p_names_beside : List Str := ["signals"]
theorem sc_names_beside : FnScope n_names_beside p_names_beside (defScope s_names_beside) := ⟨rfl, rfl, rfl, by decide +kernel, rfl, by decide +kernel, by decide +kernel⟩
abbrev s_hangs_on : Stmt := topS 62
abbrev n_hangs_on : List Str := ["name", "beside", "found", "left", "one"]
abbrev p_hangs_on : List Str := ["name", "beside"]
theorem sc_hangs_on : FnScope n_hangs_on p_hangs_on (defScope s_hangs_on) := ⟨rfl, rfl, rfl, by decide +kernel, rfl, by decide +kernel, by decide +kernel⟩
abbrev s_ring_wrong : Stmt := topS 63
abbrev n_ring_wrong : List Str := ["signals", "beside", "row", "filters", "name", "other"]
abbrev p_ring_wrong : List Str := ["signals"]
theorem sc_ring_wrong : FnScope n_ring_wrong p_ring_wrong (defScope s_ring_wrong) := ⟨rfl, rfl, rfl, by decide +kernel, rfl, by decide +kernel, by decide +kernel⟩
abbrev s_first_clash : Stmt := topS 64
abbrev n_first_clash : List Str := ["signals", "blocks", "wrong"]
abbrev p_first_clash : List Str := ["signals", "blocks"]
theorem sc_first_clash : FnScope n_first_clash p_first_clash (defScope s_first_clash) := ⟨rfl, rfl, rfl, by decide +kernel, rfl, by decide +kernel, by decide +kernel⟩
abbrev s__law_pot : Stmt := topS 68
abbrev n__law_pot : List Str := ["_law_script", "_law_k", "_law_cell", "_law_seed"]
abbrev p__law_pot : List Str := ["_law_script", "_law_k"]
theorem sc__law_pot : FnScope n__law_pot p__law_pot (defScope s__law_pot) := ⟨rfl, rfl, rfl, by decide +kernel, rfl, by decide +kernel, by decide +kernel⟩
abbrev s__law_digit : Stmt := topS 69
abbrev n__law_digit : List Str := ["_law_pot_here", "_law_many_here", "_law_digit_here", "_law_spread"]
abbrev p__law_digit : List Str := ["_law_pot_here", "_law_many_here"]
theorem sc__law_digit : FnScope n__law_digit p__law_digit (defScope s__law_digit) := ⟨rfl, rfl, rfl, by decide +kernel, rfl, by decide +kernel, by decide +kernel⟩
abbrev s__law_name : Stmt := topS 70
abbrev n__law_name : List Str := ["_law_pot_here", "_law_taken", "_law_signs", "_law_barred", "_law_some", "_law_way", "_law_name_here", "_law_k", "_law_one"]
abbrev p__law_name : List Str := ["_law_pot_here", "_law_taken"]
theorem sc__law_name : FnScope n__law_name p__law_name (defScope s__law_name) := ⟨rfl, rfl, rfl, by decide +kernel, rfl, by decide +kernel, by decide +kernel⟩
abbrev s__law_value : Stmt := topS 71
abbrev n__law_value : List Str := ["_law_pot_here", "_law_width_here", "_law_signs", "_law_k"]
abbrev p__law_value : List Str := ["_law_pot_here", "_law_width_here", "_law_signs"]
theorem sc__law_value : FnScope n__law_value p__law_value (defScope s__law_value) := ⟨rfl, rfl, rfl, by decide +kernel, rfl, by decide +kernel, by decide +kernel⟩
abbrev s__law_leaf : Stmt := topS 72
abbrev n__law_leaf : List Str := ["_law_pot_here", "_law_names_here", "_law_width_here", "_law_some", "_law_name_here", "_law_wide"]
abbrev p__law_leaf : List Str := ["_law_pot_here", "_law_names_here", "_law_width_here"]
theorem sc__law_leaf : FnScope n__law_leaf p__law_leaf (defScope s__law_leaf) := ⟨rfl, rfl, rfl, by decide +kernel, rfl, by decide +kernel, by decide +kernel⟩
abbrev s__law_term : Stmt := topS 73
abbrev n__law_term : List Str := ["_law_pot_here", "_law_names_here", "_law_width_here", "_law_deep", "_law_way", "_law_other", "_law_word", "_law_when", "_law_cut", "_law_low"]
abbrev p__law_term : List Str := ["_law_pot_here", "_law_names_here", "_law_width_here", "_law_deep"]
theorem sc__law_term : FnScope n__law_term p__law_term (defScope s__law_term) := ⟨rfl, rfl, rfl, by decide +kernel, rfl, by decide +kernel, by decide +kernel⟩
abbrev s__law_width : Stmt := topS 74
abbrev n__law_width : List Str := ["_law_pot_here"]
abbrev p__law_width : List Str := ["_law_pot_here"]
theorem sc__law_width : FnScope n__law_width p__law_width (defScope s__law_width) := ⟨rfl, rfl, rfl, by decide +kernel, rfl, by decide +kernel, by decide +kernel⟩
abbrev s__law_sources : Stmt := topS 75
abbrev n__law_sources : List Str := ["_law_pot_here", "_law_taken", "_law_found", "_law_k", "_law_width_here"]
abbrev p__law_sources : List Str := ["_law_pot_here", "_law_taken"]
theorem sc__law_sources : FnScope n__law_sources p__law_sources (defScope s__law_sources) := ⟨rfl, rfl, rfl, by decide +kernel, rfl, by decide +kernel, by decide +kernel⟩
abbrev s__law_led : Stmt := topS 76
abbrev n__law_led : List Str := ["_law_pot_here", "_law_plain", "_law_every", "_law_taken", "_law_deep", "_law_made", "_law_over", "_law_width_here", "_law_what", "_law_drivers", "_law_k", "_law_name_here"]
abbrev p__law_led : List Str := ["_law_pot_here", "_law_plain", "_law_every", "_law_taken", "_law_deep"]
theorem sc__law_led : FnScope n__law_led p__law_led (defScope s__law_led) := ⟨rfl, rfl, rfl, by decide +kernel, rfl, by decide +kernel, by decide +kernel⟩
abbrev s__law_body : Stmt := topS 77
abbrev n__law_body : List Str := ["_law_pot_here", "_law_kept", "_law_every", "_law_deep", "_law_room", "_law_found", "_law_k", "_law_way", "_law_when", "_law_first", "_law_word", "_law_name_here", "_law_width_here"]
abbrev p__law_body : List Str := ["_law_pot_here", "_law_kept", "_law_every", "_law_deep", "_law_room"]
theorem sc__law_body : FnScope n__law_body p__law_body (defScope s__law_body) := ⟨rfl, rfl, rfl, by decide +kernel, rfl, by decide +kernel, by decide +kernel⟩
abbrev s__law_blocks : Stmt := topS 78
abbrev n__law_blocks : List Str := ["_law_pot_here", "_law_signals", "_law_taken", "_law_every", "_law_triggers", "_law_kept", "_law_row", "_law_found", "_law_k", "_law_edge", "_law_trigger", "_law_body_here", "_law_name_here", "_law_width_here"]
abbrev p__law_blocks : List Str := ["_law_pot_here", "_law_signals", "_law_taken"]
theorem sc__law_blocks : FnScope n__law_blocks p__law_blocks (defScope s__law_blocks) := ⟨rfl, rfl, rfl, by decide +kernel, rfl, by decide +kernel, by decide +kernel⟩
abbrev s__law_design : Stmt := topS 79
abbrev n__law_design : List Str := ["_law_pot_here", "_law_taken", "_law_rows", "_law_plain", "_law_every", "_law_k", "_law_signals", "_law_row"]
abbrev p__law_design : List Str := ["_law_pot_here"]
theorem sc__law_design : FnScope n__law_design p__law_design (defScope s__law_design) := ⟨rfl, rfl, rfl, by decide +kernel, rfl, by decide +kernel, by decide +kernel⟩
abbrev s__law_clash : Stmt := topS 80
abbrev n__law_clash : List Str := ["_law_signals", "_law_blocks_here", "_law_told", "e"]
abbrev p__law_clash : List Str := ["_law_signals", "_law_blocks_here"]
theorem sc__law_clash : FnScope n__law_clash p__law_clash (defScope s__law_clash) := ⟨rfl, rfl, rfl, by decide +kernel, rfl, by decide +kernel, by decide +kernel⟩
abbrev s__law_names : Stmt := topS 81
abbrev n__law_names : List Str := ["_law_term_here", "_law_found", "_law_inner"]
abbrev p__law_names : List Str := ["_law_term_here"]
theorem sc__law_names : FnScope n__law_names p__law_names (defScope s__law_names) := ⟨rfl, rfl, rfl, by decide +kernel, rfl, by decide +kernel, by decide +kernel⟩
abbrev s__law_beside : Stmt := topS 82
abbrev n__law_beside : List Str := ["_law_row", "_law_found", "_law_when", "_law_term_here"]
abbrev p__law_beside : List Str := ["_law_row"]
theorem sc__law_beside : FnScope n__law_beside p__law_beside (defScope s__law_beside) := ⟨rfl, rfl, rfl, by decide +kernel, rfl, by decide +kernel, by decide +kernel⟩
abbrev s__law_reached : Stmt := topS 83
abbrev n__law_reached : List Str := ["_law_table", "_law_name_here", "_law_found", "_law_left", "_law_one"]
abbrev p__law_reached : List Str := ["_law_table", "_law_name_here"]
theorem sc__law_reached : FnScope n__law_reached p__law_reached (defScope s__law_reached) := ⟨rfl, rfl, rfl, by decide +kernel, rfl, by decide +kernel, by decide +kernel⟩
abbrev s__law_sets : Stmt := topS 84
abbrev n__law_sets : List Str := ["_law_body_here", "_law_word", "_law_found", "_law_statement"]
abbrev p__law_sets : List Str := ["_law_body_here", "_law_word"]
theorem sc__law_sets : FnScope n__law_sets p__law_sets (defScope s__law_sets) := ⟨rfl, rfl, rfl, by decide +kernel, rfl, by decide +kernel, by decide +kernel⟩
abbrev s__law_due : Stmt := topS 85
abbrev n__law_due : List Str := ["_law_signals", "_law_blocks_here", "_law_now", "_law_later", "_law_block", "_law_table", "_law_filters", "_law_clashing", "_law_rings", "_law_hung", "_law_name_here", "_law_row", "_law_one"]
abbrev p__law_due : List Str := ["_law_signals", "_law_blocks_here"]
theorem sc__law_due : FnScope n__law_due p__law_due (defScope s__law_due) := ⟨rfl, rfl, rfl, by decide +kernel, rfl, by decide +kernel, by decide +kernel⟩
abbrev s__law_anew : Stmt := topS 86
abbrev n__law_anew : List Str := ["_law_pot_here", "_law_signals", "_law_names_here", "_law_found", "_law_row", "_law_what"]
abbrev p__law_anew : List Str := ["_law_pot_here", "_law_signals"]
theorem sc__law_anew : FnScope n__law_anew p__law_anew (defScope s__law_anew) := ⟨rfl, rfl, rfl, by decide +kernel, rfl, by decide +kernel, by decide +kernel⟩
abbrev s__law_many : Stmt := topS 87
abbrev n__law_many : List Str := ["_law_body_here", "_law_found", "_law_statement"]
abbrev p__law_many : List Str := ["_law_body_here"]
theorem sc__law_many : FnScope n__law_many p__law_many (defScope s__law_many) := ⟨rfl, rfl, rfl, by decide +kernel, rfl, by decide +kernel, by decide +kernel⟩
abbrev s__law_more_set : Stmt := topS 88
abbrev n__law_more_set : List Str := ["_law_pot_here", "_law_signals", "_law_blocks_here", "_law_names_here", "_law_kept", "_law_found", "_law_block", "_law_body_here", "_law_row", "_law_more", "_law_triggers", "_law_name_here", "_law_term_here", "_law_width_here", "_law_one", "_law_k", "_law_other"]
abbrev p__law_more_set : List Str := ["_law_pot_here", "_law_signals", "_law_blocks_here"]
theorem sc__law_more_set : FnScope n__law_more_set p__law_more_set (defScope s__law_more_set) := ⟨rfl, rfl, rfl, by decide +kernel, rfl, by decide +kernel, by decide +kernel⟩
abbrev s_law : Stmt := topS 89
abbrev n_law : List Str := ["_law_script", "_law_k", "_law_pot_here", "_law_signals", "_law_blocks_here"]
abbrev p_law : List Str := ["_law_script"]
theorem sc_law : FnScope n_law p_law (defScope s_law) := ⟨rfl, rfl, rfl, by decide +kernel, rfl, by decide +kernel, by decide +kernel⟩
abbrev s_ClashI : Stmt := inClass (topS 4) 0
abbrev n_ClashI : List Str := ["self", "kind", "who"]
theorem sc_ClashI : FnScope n_ClashI n_ClashI (defScope s_ClashI) := ⟨rfl, rfl, rfl, by decide +kernel, rfl, by decide +kernel, by decide +kernel⟩
abbrev s_DesignI : Stmt := inClass (topS 66) 0
abbrev n_DesignI : List Str := ["self", "signals", "blocks", "clash", "kind", "who", "row"]
abbrev p_DesignI : List Str := ["self", "signals", "blocks"]
theorem sc_DesignI : FnScope n_DesignI p_DesignI (defScope s_DesignI) := ⟨rfl, rfl, rfl, by decide +kernel, rfl, by decide +kernel, by decide +kernel⟩
/-- what the top leaves -/
structure TX (K : PySem.W.Frag) (mg : Str → Option Value) (w : World) where
  a_is_value : Addr
  d_is_value : FuncData
  F_is_value : FunD K "is_value" "is_value" (defArgs s_is_value) (defBody s_is_value) (defScope s_is_value) [] [("width", V.int 0)] a_is_value d_is_value
  m_is_value : mg "is_value" = some (.ref a_is_value)
  a_arguments_of : Addr
  d_arguments_of : FuncData
  F_arguments_of : Fun K "arguments_of" "arguments_of" s_arguments_of a_arguments_of d_arguments_of
  m_arguments_of : mg "arguments_of" = some (.ref a_arguments_of)
  b_arguments_of : Binds K d_arguments_of p_arguments_of []
  a_is_name : Addr
  d_is_name : FuncData
  F_is_name : Fun K "is_name" "is_name" s_is_name a_is_name d_is_name
  m_is_name : mg "is_name" = some (.ref a_is_name)
  b_is_name : Binds K d_is_name p_is_name []
  a_is_whole : Addr
  d_is_whole : FuncData
  F_is_whole : Fun K "is_whole" "is_whole" s_is_whole a_is_whole d_is_whole
  m_is_whole : mg "is_whole" = some (.ref a_is_whole)
  b_is_whole : Binds K d_is_whole p_is_whole []
  a_are_bounds : Addr
  d_are_bounds : FuncData
  F_are_bounds : Fun K "are_bounds" "are_bounds" s_are_bounds a_are_bounds d_are_bounds
  m_are_bounds : mg "are_bounds" = some (.ref a_are_bounds)
  b_are_bounds : Binds K d_are_bounds p_are_bounds []
  a_leaf_weight : Addr
  d_leaf_weight : FuncData
  F_leaf_weight : Fun K "leaf_weight" "leaf_weight" s_leaf_weight a_leaf_weight d_leaf_weight
  m_leaf_weight : mg "leaf_weight" = some (.ref a_leaf_weight)
  b_leaf_weight : Binds K d_leaf_weight p_leaf_weight []
  a_term_weight : Addr
  d_term_weight : FuncData
  F_term_weight : FunD K "term_weight" "term_weight" (defArgs s_term_weight) (defBody s_term_weight) (defScope s_term_weight) [V.int 10] [] a_term_weight d_term_weight
  m_term_weight : mg "term_weight" = some (.ref a_term_weight)
  b_term_weight : Binds K d_term_weight p_term_weight []
  a_is_term : Addr
  d_is_term : FuncData
  F_is_term : Fun K "is_term" "is_term" s_is_term a_is_term d_is_term
  m_is_term : mg "is_term" = some (.ref a_is_term)
  b_is_term : Binds K d_is_term p_is_term []
  a_terms_in : Addr
  d_terms_in : FuncData
  F_terms_in : Fun K "terms_in" "terms_in" s_terms_in a_terms_in d_terms_in
  m_terms_in : mg "terms_in" = some (.ref a_terms_in)
  b_terms_in : Binds K d_terms_in p_terms_in []
  a_operated_width : Addr
  d_operated_width : FuncData
  F_operated_width : Fun K "operated_width" "operated_width" s_operated_width a_operated_width d_operated_width
  m_operated_width : mg "operated_width" = some (.ref a_operated_width)
  b_operated_width : Binds K d_operated_width p_operated_width []
  a_fitting_width : Addr
  d_fitting_width : FuncData
  F_fitting_width : Fun K "fitting_width" "fitting_width" s_fitting_width a_fitting_width d_fitting_width
  m_fitting_width : mg "fitting_width" = some (.ref a_fitting_width)
  b_fitting_width : Binds K d_fitting_width p_fitting_width []
  a_width_of : Addr
  d_width_of : FuncData
  F_width_of : Fun K "width_of" "width_of" s_width_of a_width_of d_width_of
  m_width_of : mg "width_of" = some (.ref a_width_of)
  b_width_of : Binds K d_width_of p_width_of []
  a_names_along : Addr
  d_names_along : FuncData
  F_names_along : Fun K "names_along" "names_along" s_names_along a_names_along d_names_along
  m_names_along : mg "names_along" = some (.ref a_names_along)
  b_names_along : Binds K d_names_along p_names_along []
  a_names_in : Addr
  d_names_in : FuncData
  F_names_in : Fun K "names_in" "names_in" s_names_in a_names_in d_names_in
  m_names_in : mg "names_in" = some (.ref a_names_in)
  b_names_in : Binds K d_names_in p_names_in []
  a_has_width : Addr
  d_has_width : FuncData
  F_has_width : Fun K "has_width" "has_width" s_has_width a_has_width d_has_width
  m_has_width : mg "has_width" = some (.ref a_has_width)
  b_has_width : Binds K d_has_width p_has_width []
  a_name_wrong : Addr
  d_name_wrong : FuncData
  F_name_wrong : Fun K "name_wrong" "name_wrong" s_name_wrong a_name_wrong d_name_wrong
  m_name_wrong : mg "name_wrong" = some (.ref a_name_wrong)
  b_name_wrong : Binds K d_name_wrong p_name_wrong []
  a_is_width : Addr
  d_is_width : FuncData
  F_is_width : Fun K "is_width" "is_width" s_is_width a_is_width d_is_width
  m_is_width : mg "is_width" = some (.ref a_is_width)
  b_is_width : Binds K d_is_width p_is_width []
  a_is_row : Addr
  d_is_row : FuncData
  F_is_row : Fun K "is_row" "is_row" s_is_row a_is_row d_is_row
  m_is_row : mg "is_row" = some (.ref a_is_row)
  b_is_row : Binds K d_is_row p_is_row []
  a_signal_wrong : Addr
  d_signal_wrong : FuncData
  F_signal_wrong : Fun K "signal_wrong" "signal_wrong" s_signal_wrong a_signal_wrong d_signal_wrong
  m_signal_wrong : mg "signal_wrong" = some (.ref a_signal_wrong)
  b_signal_wrong : Binds K d_signal_wrong p_signal_wrong []
  a_signals_wrong : Addr
  d_signals_wrong : FuncData
  F_signals_wrong : Fun K "signals_wrong" "signals_wrong" s_signals_wrong a_signals_wrong d_signals_wrong
  m_signals_wrong : mg "signals_wrong" = some (.ref a_signals_wrong)
  b_signals_wrong : Binds K d_signals_wrong p_signals_wrong []
  a_many_wrong : Addr
  d_many_wrong : FuncData
  F_many_wrong : Fun K "many_wrong" "many_wrong" s_many_wrong a_many_wrong d_many_wrong
  m_many_wrong : mg "many_wrong" = some (.ref a_many_wrong)
  b_many_wrong : Binds K d_many_wrong p_many_wrong []
  a_is_driver : Addr
  d_is_driver : FuncData
  F_is_driver : Fun K "is_driver" "is_driver" s_is_driver a_is_driver d_is_driver
  m_is_driver : mg "is_driver" = some (.ref a_is_driver)
  b_is_driver : Binds K d_is_driver p_is_driver []
  a_are_drivers : Addr
  d_are_drivers : FuncData
  F_are_drivers : Fun K "are_drivers" "are_drivers" s_are_drivers a_are_drivers d_are_drivers
  m_are_drivers : mg "are_drivers" = some (.ref a_are_drivers)
  b_are_drivers : Binds K d_are_drivers p_are_drivers []
  a_is_what : Addr
  d_is_what : FuncData
  F_is_what : Fun K "is_what" "is_what" s_is_what a_is_what d_is_what
  m_is_what : mg "is_what" = some (.ref a_is_what)
  b_is_what : Binds K d_is_what p_is_what []
  a_widths_of : Addr
  d_widths_of : FuncData
  F_widths_of : Fun K "widths_of" "widths_of" s_widths_of a_widths_of d_widths_of
  m_widths_of : mg "widths_of" = some (.ref a_widths_of)
  b_widths_of : Binds K d_widths_of p_widths_of []
  a_what_wrong : Addr
  d_what_wrong : FuncData
  F_what_wrong : Fun K "what_wrong" "what_wrong" s_what_wrong a_what_wrong d_what_wrong
  m_what_wrong : mg "what_wrong" = some (.ref a_what_wrong)
  b_what_wrong : Binds K d_what_wrong p_what_wrong []
  a_statement_weight : Addr
  d_statement_weight : FuncData
  F_statement_weight : Fun K "statement_weight" "statement_weight" s_statement_weight a_statement_weight d_statement_weight
  m_statement_weight : mg "statement_weight" = some (.ref a_statement_weight)
  b_statement_weight : Binds K d_statement_weight p_statement_weight []
  a_body_weight : Addr
  d_body_weight : FuncData
  F_body_weight : Fun K "body_weight" "body_weight" s_body_weight a_body_weight d_body_weight
  m_body_weight : mg "body_weight" = some (.ref a_body_weight)
  b_body_weight : Binds K d_body_weight p_body_weight []
  a_block_wrong : Addr
  d_block_wrong : FuncData
  F_block_wrong : Fun K "block_wrong" "block_wrong" s_block_wrong a_block_wrong d_block_wrong
  m_block_wrong : mg "block_wrong" = some (.ref a_block_wrong)
  b_block_wrong : Binds K d_block_wrong p_block_wrong []
  a_blocks_wrong : Addr
  d_blocks_wrong : FuncData
  F_blocks_wrong : Fun K "blocks_wrong" "blocks_wrong" s_blocks_wrong a_blocks_wrong d_blocks_wrong
  m_blocks_wrong : mg "blocks_wrong" = some (.ref a_blocks_wrong)
  b_blocks_wrong : Binds K d_blocks_wrong p_blocks_wrong []
  a_set_by : Addr
  d_set_by : FuncData
  F_set_by : Fun K "set_by" "set_by" s_set_by a_set_by d_set_by
  m_set_by : mg "set_by" = some (.ref a_set_by)
  b_set_by : Binds K d_set_by p_set_by []
  a_both_wrong : Addr
  d_both_wrong : FuncData
  F_both_wrong : Fun K "both_wrong" "both_wrong" s_both_wrong a_both_wrong d_both_wrong
  m_both_wrong : mg "both_wrong" = some (.ref a_both_wrong)
  b_both_wrong : Binds K d_both_wrong p_both_wrong []
  a_terms_of : Addr
  d_terms_of : FuncData
  F_terms_of : Fun K "terms_of" "terms_of" s_terms_of a_terms_of d_terms_of
  m_terms_of : mg "terms_of" = some (.ref a_terms_of)
  b_terms_of : Binds K d_terms_of p_terms_of []
  a_names_beside : Addr
  d_names_beside : FuncData
  F_names_beside : Fun K "names_beside" "names_beside" s_names_beside a_names_beside d_names_beside
  m_names_beside : mg "names_beside" = some (.ref a_names_beside)
  b_names_beside : Binds K d_names_beside p_names_beside []
  a_hangs_on : Addr
  d_hangs_on : FuncData
  F_hangs_on : Fun K "hangs_on" "hangs_on" s_hangs_on a_hangs_on d_hangs_on
  m_hangs_on : mg "hangs_on" = some (.ref a_hangs_on)
  b_hangs_on : Binds K d_hangs_on p_hangs_on []
  a_ring_wrong : Addr
  d_ring_wrong : FuncData
  F_ring_wrong : Fun K "ring_wrong" "ring_wrong" s_ring_wrong a_ring_wrong d_ring_wrong
  m_ring_wrong : mg "ring_wrong" = some (.ref a_ring_wrong)
  b_ring_wrong : Binds K d_ring_wrong p_ring_wrong []
  a_first_clash : Addr
  d_first_clash : FuncData
  F_first_clash : Fun K "first_clash" "first_clash" s_first_clash a_first_clash d_first_clash
  m_first_clash : mg "first_clash" = some (.ref a_first_clash)
  b_first_clash : Binds K d_first_clash p_first_clash []
  a__law_pot : Addr
  d__law_pot : FuncData
  F__law_pot : Fun K "_law_pot" "_law_pot" s__law_pot a__law_pot d__law_pot
  m__law_pot : mg "_law_pot" = some (.ref a__law_pot)
  b__law_pot : Binds K d__law_pot p__law_pot []
  a__law_digit : Addr
  d__law_digit : FuncData
  F__law_digit : Fun K "_law_digit" "_law_digit" s__law_digit a__law_digit d__law_digit
  m__law_digit : mg "_law_digit" = some (.ref a__law_digit)
  b__law_digit : Binds K d__law_digit p__law_digit []
  a__law_name : Addr
  d__law_name : FuncData
  F__law_name : Fun K "_law_name" "_law_name" s__law_name a__law_name d__law_name
  m__law_name : mg "_law_name" = some (.ref a__law_name)
  b__law_name : Binds K d__law_name p__law_name []
  a__law_value : Addr
  d__law_value : FuncData
  F__law_value : Fun K "_law_value" "_law_value" s__law_value a__law_value d__law_value
  m__law_value : mg "_law_value" = some (.ref a__law_value)
  b__law_value : Binds K d__law_value p__law_value []
  a__law_leaf : Addr
  d__law_leaf : FuncData
  F__law_leaf : Fun K "_law_leaf" "_law_leaf" s__law_leaf a__law_leaf d__law_leaf
  m__law_leaf : mg "_law_leaf" = some (.ref a__law_leaf)
  b__law_leaf : Binds K d__law_leaf p__law_leaf []
  a__law_term : Addr
  d__law_term : FuncData
  F__law_term : Fun K "_law_term" "_law_term" s__law_term a__law_term d__law_term
  m__law_term : mg "_law_term" = some (.ref a__law_term)
  b__law_term : Binds K d__law_term p__law_term []
  a__law_width : Addr
  d__law_width : FuncData
  F__law_width : Fun K "_law_width" "_law_width" s__law_width a__law_width d__law_width
  m__law_width : mg "_law_width" = some (.ref a__law_width)
  b__law_width : Binds K d__law_width p__law_width []
  a__law_sources : Addr
  d__law_sources : FuncData
  F__law_sources : Fun K "_law_sources" "_law_sources" s__law_sources a__law_sources d__law_sources
  m__law_sources : mg "_law_sources" = some (.ref a__law_sources)
  b__law_sources : Binds K d__law_sources p__law_sources []
  a__law_led : Addr
  d__law_led : FuncData
  F__law_led : Fun K "_law_led" "_law_led" s__law_led a__law_led d__law_led
  m__law_led : mg "_law_led" = some (.ref a__law_led)
  b__law_led : Binds K d__law_led p__law_led []
  a__law_body : Addr
  d__law_body : FuncData
  F__law_body : Fun K "_law_body" "_law_body" s__law_body a__law_body d__law_body
  m__law_body : mg "_law_body" = some (.ref a__law_body)
  b__law_body : Binds K d__law_body p__law_body []
  a__law_blocks : Addr
  d__law_blocks : FuncData
  F__law_blocks : Fun K "_law_blocks" "_law_blocks" s__law_blocks a__law_blocks d__law_blocks
  m__law_blocks : mg "_law_blocks" = some (.ref a__law_blocks)
  b__law_blocks : Binds K d__law_blocks p__law_blocks []
  a__law_design : Addr
  d__law_design : FuncData
  F__law_design : Fun K "_law_design" "_law_design" s__law_design a__law_design d__law_design
  m__law_design : mg "_law_design" = some (.ref a__law_design)
  b__law_design : Binds K d__law_design p__law_design []
  a__law_clash : Addr
  d__law_clash : FuncData
  F__law_clash : Fun K "_law_clash" "_law_clash" s__law_clash a__law_clash d__law_clash
  m__law_clash : mg "_law_clash" = some (.ref a__law_clash)
  b__law_clash : Binds K d__law_clash p__law_clash []
  a__law_names : Addr
  d__law_names : FuncData
  F__law_names : Fun K "_law_names" "_law_names" s__law_names a__law_names d__law_names
  m__law_names : mg "_law_names" = some (.ref a__law_names)
  b__law_names : Binds K d__law_names p__law_names []
  a__law_beside : Addr
  d__law_beside : FuncData
  F__law_beside : Fun K "_law_beside" "_law_beside" s__law_beside a__law_beside d__law_beside
  m__law_beside : mg "_law_beside" = some (.ref a__law_beside)
  b__law_beside : Binds K d__law_beside p__law_beside []
  a__law_reached : Addr
  d__law_reached : FuncData
  F__law_reached : Fun K "_law_reached" "_law_reached" s__law_reached a__law_reached d__law_reached
  m__law_reached : mg "_law_reached" = some (.ref a__law_reached)
  b__law_reached : Binds K d__law_reached p__law_reached []
  a__law_sets : Addr
  d__law_sets : FuncData
  F__law_sets : Fun K "_law_sets" "_law_sets" s__law_sets a__law_sets d__law_sets
  m__law_sets : mg "_law_sets" = some (.ref a__law_sets)
  b__law_sets : Binds K d__law_sets p__law_sets []
  a__law_due : Addr
  d__law_due : FuncData
  F__law_due : Fun K "_law_due" "_law_due" s__law_due a__law_due d__law_due
  m__law_due : mg "_law_due" = some (.ref a__law_due)
  b__law_due : Binds K d__law_due p__law_due []
  a__law_anew : Addr
  d__law_anew : FuncData
  F__law_anew : Fun K "_law_anew" "_law_anew" s__law_anew a__law_anew d__law_anew
  m__law_anew : mg "_law_anew" = some (.ref a__law_anew)
  b__law_anew : Binds K d__law_anew p__law_anew []
  a__law_many : Addr
  d__law_many : FuncData
  F__law_many : Fun K "_law_many" "_law_many" s__law_many a__law_many d__law_many
  m__law_many : mg "_law_many" = some (.ref a__law_many)
  b__law_many : Binds K d__law_many p__law_many []
  a__law_more_set : Addr
  d__law_more_set : FuncData
  F__law_more_set : Fun K "_law_more_set" "_law_more_set" s__law_more_set a__law_more_set d__law_more_set
  m__law_more_set : mg "_law_more_set" = some (.ref a__law_more_set)
  b__law_more_set : Binds K d__law_more_set p__law_more_set []
  a_law : Addr
  d_law : FuncData
  F_law : Fun K "law" "law" s_law a_law d_law
  m_law : mg "law" = some (.ref a_law)
  b_law : Binds K d_law p_law []
  v_is_value : List Value
  bv_is_value : Vals [V.int 0] v_is_value
  bd_is_value : Binds K d_is_value p_is_value v_is_value
  kb_is_value : KBn K d_is_value p_is_value 1 ["width"] (fun us ws => us ++ ws) (fun us ws => us ++ ws)
  v_term_weight : List Value
  bv_term_weight : Vals [V.int 10] v_term_weight
  bd_term_weight : Binds K d_term_weight p_term_weight v_term_weight
  z_len : mg "len" = none
  z_isinstance : mg "isinstance" = none
  z_all : mg "all" = none
  z_any : mg "any" = none
  z_sum : mg "sum" = none
  z_max : mg "max" = none
  z_min : mg "min" = none
  z_int : mg "int" = none
  z_str : mg "str" = none
  z_list : mg "list" = none
  z_tuple : mg "tuple" = none
  z_dict : mg "dict" = none
  z_range : mg "range" = none
  z_enumerate : mg "enumerate" = none
  z_bool : mg "bool" = none
  t_WIDEST : Tok
  m_WIDEST : mg "WIDEST" = some (.int 8 t_WIDEST)
  t_MOST_TUPLES : Tok
  m_MOST_TUPLES : mg "MOST_TUPLES" = some (.int 60 t_MOST_TUPLES)
  t_DEEPEST_terms : Tok
  m_DEEPEST_terms : mg "DEEPEST_terms" = some (.int 10 t_DEEPEST_terms)
  t_LONGEST_NAME : Tok
  m_LONGEST_NAME : mg "LONGEST_NAME" = some (.int 8 t_LONGEST_NAME)
  t_FIELDS : Tok
  m_FIELDS : mg "FIELDS" = some (.int 4 t_FIELDS)
  t_MOST_SIGNALS : Tok
  m_MOST_SIGNALS : mg "MOST_SIGNALS" = some (.int 24 t_MOST_SIGNALS)
  t_MOST_WIRES : Tok
  m_MOST_WIRES : mg "MOST_WIRES" = some (.int 8 t_MOST_WIRES)
  t_MOST_BLOCKS : Tok
  m_MOST_BLOCKS : mg "MOST_BLOCKS" = some (.int 6 t_MOST_BLOCKS)
  t_MOST_STATEMENTS : Tok
  m_MOST_STATEMENTS : mg "MOST_STATEMENTS" = some (.int 20 t_MOST_STATEMENTS)
  t_DEEPEST_clashes : Tok
  m_DEEPEST_clashes : mg "DEEPEST_clashes" = some (.int 4 t_DEEPEST_clashes)
  t_LEAST_DRIVERS : Tok
  m_LEAST_DRIVERS : mg "LEAST_DRIVERS" = some (.int 2 t_LEAST_DRIVERS)
  t_MOST_DRIVERS : Tok
  m_MOST_DRIVERS : mg "MOST_DRIVERS" = some (.int 4 t_MOST_DRIVERS)
  t_SIGNS : Tok
  m_SIGNS : mg "SIGNS" = some (.str "01xz" t_SIGNS)
  t_LETTERS : Tok
  m_LETTERS : mg "LETTERS" = some (.str "abcdefghijklmnopqrstuvwxyz" t_LETTERS)
  t_FIGURES : Tok
  m_FIGURES : mg "FIGURES" = some (.str "0123456789" t_FIGURES)
  a_WORDS : Addr
  m_WORDS : mg "WORDS" = some (.ref a_WORDS)
  q_WORDS : ∀ H : Hp, SqT K H a_WORDS (["not", "and", "or", "xor", "plus", "same", "less", "any", "all", "pick", "join", "part"].map fun x : String => V.str (Str.ofString x))
  a_OTHER_WORDS : Addr
  m_OTHER_WORDS : mg "OTHER_WORDS" = some (.ref a_OTHER_WORDS)
  q_OTHER_WORDS : ∀ H : Hp, SqT K H a_OTHER_WORDS (["is", "of", "at", "filters", "later"].map fun x : String => V.str (Str.ofString x))
  a_SORTS : Addr
  m_SORTS : mg "SORTS" = some (.ref a_SORTS)
  q_SORTS : ∀ H : Hp, SqT K H a_SORTS (["input", "wire", "filter", "bus", "kept"].map fun x : String => V.str (Str.ofString x))
  a_EDGES : Addr
  m_EDGES : mg "EDGES" = some (.ref a_EDGES)
  q_EDGES : ∀ H : Hp, SqT K H a_EDGES (["rise", "fall"].map fun x : String => V.str (Str.ofString x))
  a_ARGUMENTS : Addr
  m_ARGUMENTS : mg "ARGUMENTS" = some (.ref a_ARGUMENTS)
  es_ARGUMENTS : Array DictEntry
  en_ARGUMENTS : Nat
  kd_ARGUMENTS : KDict K w a_ARGUMENTS es_ARGUMENTS en_ARGUMENTS
  tg_not : Tok
  g_not : PySem.W.nsIn K a_ARGUMENTS "not" = some (some (.int 1 tg_not))
  tg_any : Tok
  g_any : PySem.W.nsIn K a_ARGUMENTS "any" = some (some (.int 1 tg_any))
  tg_all : Tok
  g_all : PySem.W.nsIn K a_ARGUMENTS "all" = some (some (.int 1 tg_all))
  tg_pick : Tok
  g_pick : PySem.W.nsIn K a_ARGUMENTS "pick" = some (some (.int 3 tg_pick))
  g_and : PySem.W.nsIn K a_ARGUMENTS "and" = some none
  g_or : PySem.W.nsIn K a_ARGUMENTS "or" = some none
  g_xor : PySem.W.nsIn K a_ARGUMENTS "xor" = some none
  g_plus : PySem.W.nsIn K a_ARGUMENTS "plus" = some none
  g_same : PySem.W.nsIn K a_ARGUMENTS "same" = some none
  g_less : PySem.W.nsIn K a_ARGUMENTS "less" = some none
  g_join : PySem.W.nsIn K a_ARGUMENTS "join" = some none
  a_WireError : Addr
  m_WireError : mg "WireError" = some (.ref a_WireError)
  wg_WireError : PySem.W.specialIn K (.ref a_WireError) "__getattribute__" = some (some (.builtin "type.__getattribute__"))
  wr_WireError : PySem.W.readsIn K a_WireError (.type "type") = true
  wi_WireError : PySem.W.findCls K (.ref a_WireError) (.type "type") "__init__" = some (.val (.builtin "ValueError.__init__"))
  a_NoTerm : Addr
  m_NoTerm : mg "NoTerm" = some (.ref a_NoTerm)
  a_Clash : Addr
  m_Clash : mg "Clash" = some (.ref a_Clash)
  oex_Clash : OexC K a_Clash
  xf_Clash : XfC K a_Clash
  nk_Clash : PySem.W.findIn K (.ref a_Clash) "kind" = some none
  nw_Clash : PySem.W.findIn K (.ref a_Clash) "who" = some none
  te_Clash : PySem.W.exmOne K (.ref a_Clash) (.ref a_Clash) = some true
  a_ClashI : Addr
  d_ClashI : FuncData
  F_ClashI : Fun K "__init__" "Clash.__init__" s_ClashI a_ClashI d_ClashI
  b_ClashI : Binds K d_ClashI n_ClashI []
  i_Clash : PySem.W.findIn K (.ref a_Clash) "__init__" = some (some (.ref a_ClashI))
  ti_Clash : PySem.W.typeIn K (.ref a_ClashI) = some (.type "function")
  a_Design : Addr
  m_Design : mg "Design" = some (.ref a_Design)
  cl_Design : Cls K a_Design
  n1_Design : NoAttr K a_Design "rows"
  n2_Design : NoAttr K a_Design "parts"
  n3_Design : NoAttr K a_Design "by_names"
  n4_Design : NoAttr K a_Design "beside"
  a_DesignI : Addr
  d_DesignI : FuncData
  T0 : Addr
  F_DesignI : FunD K "__init__" "Design.__init__" (defArgs s_DesignI) (defBody s_DesignI) (defScope s_DesignI) [V.ref T0] [] a_DesignI d_DesignI
  b_DesignI : Binds K d_DesignI p_DesignI []
  mk_Design : Mk K a_Design a_DesignI
theorem TX.k_is_value {K : PySem.W.Frag} {mg : Str → Option Value} {w : World} (T : TX K mg w) : PySem.W.keepIn K (.ref T.a_is_value) = true := T.F_is_value.kp
theorem TX.k_arguments_of {K : PySem.W.Frag} {mg : Str → Option Value} {w : World} (T : TX K mg w) : PySem.W.keepIn K (.ref T.a_arguments_of) = true := T.F_arguments_of.kp
theorem TX.k_is_name {K : PySem.W.Frag} {mg : Str → Option Value} {w : World} (T : TX K mg w) : PySem.W.keepIn K (.ref T.a_is_name) = true := T.F_is_name.kp
theorem TX.k_is_whole {K : PySem.W.Frag} {mg : Str → Option Value} {w : World} (T : TX K mg w) : PySem.W.keepIn K (.ref T.a_is_whole) = true := T.F_is_whole.kp
theorem TX.k_are_bounds {K : PySem.W.Frag} {mg : Str → Option Value} {w : World} (T : TX K mg w) : PySem.W.keepIn K (.ref T.a_are_bounds) = true := T.F_are_bounds.kp
theorem TX.k_leaf_weight {K : PySem.W.Frag} {mg : Str → Option Value} {w : World} (T : TX K mg w) : PySem.W.keepIn K (.ref T.a_leaf_weight) = true := T.F_leaf_weight.kp
theorem TX.k_term_weight {K : PySem.W.Frag} {mg : Str → Option Value} {w : World} (T : TX K mg w) : PySem.W.keepIn K (.ref T.a_term_weight) = true := T.F_term_weight.kp
theorem TX.k_is_term {K : PySem.W.Frag} {mg : Str → Option Value} {w : World} (T : TX K mg w) : PySem.W.keepIn K (.ref T.a_is_term) = true := T.F_is_term.kp
theorem TX.k_terms_in {K : PySem.W.Frag} {mg : Str → Option Value} {w : World} (T : TX K mg w) : PySem.W.keepIn K (.ref T.a_terms_in) = true := T.F_terms_in.kp
theorem TX.k_operated_width {K : PySem.W.Frag} {mg : Str → Option Value} {w : World} (T : TX K mg w) : PySem.W.keepIn K (.ref T.a_operated_width) = true := T.F_operated_width.kp
theorem TX.k_fitting_width {K : PySem.W.Frag} {mg : Str → Option Value} {w : World} (T : TX K mg w) : PySem.W.keepIn K (.ref T.a_fitting_width) = true := T.F_fitting_width.kp
theorem TX.k_width_of {K : PySem.W.Frag} {mg : Str → Option Value} {w : World} (T : TX K mg w) : PySem.W.keepIn K (.ref T.a_width_of) = true := T.F_width_of.kp
theorem TX.k_names_along {K : PySem.W.Frag} {mg : Str → Option Value} {w : World} (T : TX K mg w) : PySem.W.keepIn K (.ref T.a_names_along) = true := T.F_names_along.kp
theorem TX.k_names_in {K : PySem.W.Frag} {mg : Str → Option Value} {w : World} (T : TX K mg w) : PySem.W.keepIn K (.ref T.a_names_in) = true := T.F_names_in.kp
theorem TX.k_has_width {K : PySem.W.Frag} {mg : Str → Option Value} {w : World} (T : TX K mg w) : PySem.W.keepIn K (.ref T.a_has_width) = true := T.F_has_width.kp
theorem TX.k_name_wrong {K : PySem.W.Frag} {mg : Str → Option Value} {w : World} (T : TX K mg w) : PySem.W.keepIn K (.ref T.a_name_wrong) = true := T.F_name_wrong.kp
theorem TX.k_is_width {K : PySem.W.Frag} {mg : Str → Option Value} {w : World} (T : TX K mg w) : PySem.W.keepIn K (.ref T.a_is_width) = true := T.F_is_width.kp
theorem TX.k_is_row {K : PySem.W.Frag} {mg : Str → Option Value} {w : World} (T : TX K mg w) : PySem.W.keepIn K (.ref T.a_is_row) = true := T.F_is_row.kp
theorem TX.k_signal_wrong {K : PySem.W.Frag} {mg : Str → Option Value} {w : World} (T : TX K mg w) : PySem.W.keepIn K (.ref T.a_signal_wrong) = true := T.F_signal_wrong.kp
theorem TX.k_signals_wrong {K : PySem.W.Frag} {mg : Str → Option Value} {w : World} (T : TX K mg w) : PySem.W.keepIn K (.ref T.a_signals_wrong) = true := T.F_signals_wrong.kp
theorem TX.k_many_wrong {K : PySem.W.Frag} {mg : Str → Option Value} {w : World} (T : TX K mg w) : PySem.W.keepIn K (.ref T.a_many_wrong) = true := T.F_many_wrong.kp
theorem TX.k_is_driver {K : PySem.W.Frag} {mg : Str → Option Value} {w : World} (T : TX K mg w) : PySem.W.keepIn K (.ref T.a_is_driver) = true := T.F_is_driver.kp
theorem TX.k_are_drivers {K : PySem.W.Frag} {mg : Str → Option Value} {w : World} (T : TX K mg w) : PySem.W.keepIn K (.ref T.a_are_drivers) = true := T.F_are_drivers.kp
theorem TX.k_is_what {K : PySem.W.Frag} {mg : Str → Option Value} {w : World} (T : TX K mg w) : PySem.W.keepIn K (.ref T.a_is_what) = true := T.F_is_what.kp
theorem TX.k_widths_of {K : PySem.W.Frag} {mg : Str → Option Value} {w : World} (T : TX K mg w) : PySem.W.keepIn K (.ref T.a_widths_of) = true := T.F_widths_of.kp
theorem TX.k_what_wrong {K : PySem.W.Frag} {mg : Str → Option Value} {w : World} (T : TX K mg w) : PySem.W.keepIn K (.ref T.a_what_wrong) = true := T.F_what_wrong.kp
theorem TX.k_statement_weight {K : PySem.W.Frag} {mg : Str → Option Value} {w : World} (T : TX K mg w) : PySem.W.keepIn K (.ref T.a_statement_weight) = true := T.F_statement_weight.kp
theorem TX.k_body_weight {K : PySem.W.Frag} {mg : Str → Option Value} {w : World} (T : TX K mg w) : PySem.W.keepIn K (.ref T.a_body_weight) = true := T.F_body_weight.kp
theorem TX.k_block_wrong {K : PySem.W.Frag} {mg : Str → Option Value} {w : World} (T : TX K mg w) : PySem.W.keepIn K (.ref T.a_block_wrong) = true := T.F_block_wrong.kp
theorem TX.k_blocks_wrong {K : PySem.W.Frag} {mg : Str → Option Value} {w : World} (T : TX K mg w) : PySem.W.keepIn K (.ref T.a_blocks_wrong) = true := T.F_blocks_wrong.kp
theorem TX.k_set_by {K : PySem.W.Frag} {mg : Str → Option Value} {w : World} (T : TX K mg w) : PySem.W.keepIn K (.ref T.a_set_by) = true := T.F_set_by.kp
theorem TX.k_both_wrong {K : PySem.W.Frag} {mg : Str → Option Value} {w : World} (T : TX K mg w) : PySem.W.keepIn K (.ref T.a_both_wrong) = true := T.F_both_wrong.kp
theorem TX.k_terms_of {K : PySem.W.Frag} {mg : Str → Option Value} {w : World} (T : TX K mg w) : PySem.W.keepIn K (.ref T.a_terms_of) = true := T.F_terms_of.kp
theorem TX.k_names_beside {K : PySem.W.Frag} {mg : Str → Option Value} {w : World} (T : TX K mg w) : PySem.W.keepIn K (.ref T.a_names_beside) = true := T.F_names_beside.kp
theorem TX.k_hangs_on {K : PySem.W.Frag} {mg : Str → Option Value} {w : World} (T : TX K mg w) : PySem.W.keepIn K (.ref T.a_hangs_on) = true := T.F_hangs_on.kp
theorem TX.k_ring_wrong {K : PySem.W.Frag} {mg : Str → Option Value} {w : World} (T : TX K mg w) : PySem.W.keepIn K (.ref T.a_ring_wrong) = true := T.F_ring_wrong.kp
theorem TX.k_first_clash {K : PySem.W.Frag} {mg : Str → Option Value} {w : World} (T : TX K mg w) : PySem.W.keepIn K (.ref T.a_first_clash) = true := T.F_first_clash.kp
theorem TX.k__law_pot {K : PySem.W.Frag} {mg : Str → Option Value} {w : World} (T : TX K mg w) : PySem.W.keepIn K (.ref T.a__law_pot) = true := T.F__law_pot.kp
theorem TX.k__law_digit {K : PySem.W.Frag} {mg : Str → Option Value} {w : World} (T : TX K mg w) : PySem.W.keepIn K (.ref T.a__law_digit) = true := T.F__law_digit.kp
theorem TX.k__law_name {K : PySem.W.Frag} {mg : Str → Option Value} {w : World} (T : TX K mg w) : PySem.W.keepIn K (.ref T.a__law_name) = true := T.F__law_name.kp
theorem TX.k__law_value {K : PySem.W.Frag} {mg : Str → Option Value} {w : World} (T : TX K mg w) : PySem.W.keepIn K (.ref T.a__law_value) = true := T.F__law_value.kp
theorem TX.k__law_leaf {K : PySem.W.Frag} {mg : Str → Option Value} {w : World} (T : TX K mg w) : PySem.W.keepIn K (.ref T.a__law_leaf) = true := T.F__law_leaf.kp
theorem TX.k__law_term {K : PySem.W.Frag} {mg : Str → Option Value} {w : World} (T : TX K mg w) : PySem.W.keepIn K (.ref T.a__law_term) = true := T.F__law_term.kp
theorem TX.k__law_width {K : PySem.W.Frag} {mg : Str → Option Value} {w : World} (T : TX K mg w) : PySem.W.keepIn K (.ref T.a__law_width) = true := T.F__law_width.kp
theorem TX.k__law_sources {K : PySem.W.Frag} {mg : Str → Option Value} {w : World} (T : TX K mg w) : PySem.W.keepIn K (.ref T.a__law_sources) = true := T.F__law_sources.kp
theorem TX.k__law_led {K : PySem.W.Frag} {mg : Str → Option Value} {w : World} (T : TX K mg w) : PySem.W.keepIn K (.ref T.a__law_led) = true := T.F__law_led.kp
theorem TX.k__law_body {K : PySem.W.Frag} {mg : Str → Option Value} {w : World} (T : TX K mg w) : PySem.W.keepIn K (.ref T.a__law_body) = true := T.F__law_body.kp
theorem TX.k__law_blocks {K : PySem.W.Frag} {mg : Str → Option Value} {w : World} (T : TX K mg w) : PySem.W.keepIn K (.ref T.a__law_blocks) = true := T.F__law_blocks.kp
theorem TX.k__law_design {K : PySem.W.Frag} {mg : Str → Option Value} {w : World} (T : TX K mg w) : PySem.W.keepIn K (.ref T.a__law_design) = true := T.F__law_design.kp
theorem TX.k__law_clash {K : PySem.W.Frag} {mg : Str → Option Value} {w : World} (T : TX K mg w) : PySem.W.keepIn K (.ref T.a__law_clash) = true := T.F__law_clash.kp
theorem TX.k__law_names {K : PySem.W.Frag} {mg : Str → Option Value} {w : World} (T : TX K mg w) : PySem.W.keepIn K (.ref T.a__law_names) = true := T.F__law_names.kp
theorem TX.k__law_beside {K : PySem.W.Frag} {mg : Str → Option Value} {w : World} (T : TX K mg w) : PySem.W.keepIn K (.ref T.a__law_beside) = true := T.F__law_beside.kp
theorem TX.k__law_reached {K : PySem.W.Frag} {mg : Str → Option Value} {w : World} (T : TX K mg w) : PySem.W.keepIn K (.ref T.a__law_reached) = true := T.F__law_reached.kp
theorem TX.k__law_sets {K : PySem.W.Frag} {mg : Str → Option Value} {w : World} (T : TX K mg w) : PySem.W.keepIn K (.ref T.a__law_sets) = true := T.F__law_sets.kp
theorem TX.k__law_due {K : PySem.W.Frag} {mg : Str → Option Value} {w : World} (T : TX K mg w) : PySem.W.keepIn K (.ref T.a__law_due) = true := T.F__law_due.kp
theorem TX.k__law_anew {K : PySem.W.Frag} {mg : Str → Option Value} {w : World} (T : TX K mg w) : PySem.W.keepIn K (.ref T.a__law_anew) = true := T.F__law_anew.kp
theorem TX.k__law_many {K : PySem.W.Frag} {mg : Str → Option Value} {w : World} (T : TX K mg w) : PySem.W.keepIn K (.ref T.a__law_many) = true := T.F__law_many.kp
theorem TX.k__law_more_set {K : PySem.W.Frag} {mg : Str → Option Value} {w : World} (T : TX K mg w) : PySem.W.keepIn K (.ref T.a__law_more_set) = true := T.F__law_more_set.kp
theorem TX.k_law {K : PySem.W.Frag} {mg : Str → Option Value} {w : World} (T : TX K mg w) : PySem.W.keepIn K (.ref T.a_law) = true := T.F_law.kp
end K34
namespace K34
open PySem PySem.Spec PyProof.Rows L2
theorem _root_.L2.Dp.tup_inv {K : PySem.W.Frag} {H : Hp} {v : V} {ds : List PyData} (h : Dp K H v (.tuple ds)) : ∃ a xs, v = .ref a ∧ SqT K H a xs ∧ DpAll K H xs ds := by
  cases h with
  | tup h r => exact ⟨_, _, rfl, h, r⟩
theorem _root_.L2.Dp.lst_inv {K : PySem.W.Frag} {H : Hp} {v : V} {ds : List PyData} (h : Dp K H v (.list ds)) : ∃ a xs, v = .ref a ∧ SqL K H a xs ∧ DpAll K H xs ds := by
  cases h with
  | lst h r => exact ⟨_, _, rfl, h, r⟩
theorem _root_.L2.Dp.str_inv {K : PySem.W.Frag} {H : Hp} {v : V} {x : Str} (h : Dp K H v (.str x)) : v = .str x := by cases h; rfl
theorem _root_.L2.Dp.int_inv {K : PySem.W.Frag} {H : Hp} {v : V} {x : Int} (h : Dp K H v (.int x)) : v = .int x := by cases h; rfl
theorem _root_.L2.Dp.non_inv {K : PySem.W.Frag} {H : Hp} {v : V} (h : Dp K H v .none) : v = .non := by cases h; rfl
theorem _root_.L2.DpAll.nil_inv {K : PySem.W.Frag} {H : Hp} {xs : List V} (h : DpAll K H xs []) : xs = [] := by cases h; rfl
theorem _root_.L2.DpAll.cons_inv {K : PySem.W.Frag} {H : Hp} {xs : List V} {d : PyData} {ds : List PyData} (h : DpAll K H xs (d :: ds)) : ∃ v vs, xs = v :: vs ∧ Dp K H v d ∧ DpAll K H vs ds := by
  cases h with
  | cons h r => exact ⟨_, _, rfl, h, r⟩
theorem _root_.L2.DpAll.length {K : PySem.W.Frag} {H : Hp} : ∀ {xs : List V} {ds : List PyData}, DpAll K H xs ds → xs.length = ds.length
  | _, _, .nil => rfl
  | _, _, .cons _ r => congrArg Nat.succ r.length
theorem _root_.L2.DpAll.get {K : PySem.W.Frag} {H : Hp} : ∀ {xs : List V} {ds : List PyData} {i : Nat} {x : V}, DpAll K H xs ds → xs[i]? = some x → ∃ d, ds[i]? = some d ∧ Dp K H x d
  | _, _, 0, _, .cons h r, e => by cases e; exact ⟨_, rfl, h⟩
  | _, _, i + 1, _, .cons h r, e => r.get (i := i) e
theorem _root_.L2.DpAll.snoc {K : PySem.W.Frag} {H : Hp} {v : V} {d : PyData} (hv : Dp K H v d) : ∀ {xs : List V} {ds : List PyData}, DpAll K H xs ds → DpAll K H (xs ++ [v]) (ds ++ [d])
  | _, _, .nil => .cons hv .nil
  | _, _, .cons h r => .cons h (r.snoc hv)
/-! ### heads of stars -/
theorem star2 {sq : Hp → Addr → List V → Prop} {a : Addr} {x : V} {ys : List V} {t : TGs} {σ : L2.St} {H : Hp} {Q : L2.St → Hp → Prop} (hs : sq H a (x :: ys)) (hz : ys.length ≤ 1000) (k : ∀ p, H p = none → t [x, .ref p] σ (upd H p (.lst ys)) Q) : gStar sq 2 1 t (.ref a) σ H Q := by
  refine ⟨a, _, rfl, hs, by simp only [List.length_cons]; omega, by simp only [List.length_cons]; omega, fun p hp => ?_⟩
  have e1 : (List.drop 1 (x :: ys)).take ((x :: ys).length + 1 - 2) = ys := by rw [List.drop_one, List.tail_cons, List.take_of_length_le (by simp only [List.length_cons]; omega)]
  have e2 : (List.drop 1 (x :: ys)).drop ((x :: ys).length + 1 - 2) = [] := by rw [List.drop_one, List.tail_cons, List.drop_eq_nil_of_le (by simp only [List.length_cons]; omega)]
  rw [e1, e2]
  exact k p hp
theorem star3 {sq : Hp → Addr → List V → Prop} {a : Addr} {x y : V} {ys : List V} {t : TGs} {σ : L2.St} {H : Hp} {Q : L2.St → Hp → Prop} (hs : sq H a (x :: y :: ys)) (hz : ys.length ≤ 1000) (k : ∀ p, H p = none → t [x, y, .ref p] σ (upd H p (.lst ys)) Q) : gStar sq 3 2 t (.ref a) σ H Q := by
  refine ⟨a, _, rfl, hs, by simp only [List.length_cons]; omega, by simp only [List.length_cons]; omega, fun p hp => ?_⟩
  have e1 : (List.drop 2 (x :: y :: ys)).take ((x :: y :: ys).length + 1 - 3) = ys := by rw [List.drop_succ_cons, List.drop_succ_cons, List.drop_zero, List.take_of_length_le (by simp only [List.length_cons]; omega)]
  have e2 : (List.drop 2 (x :: y :: ys)).drop ((x :: y :: ys).length + 1 - 3) = [] := by rw [List.drop_succ_cons, List.drop_succ_cons, List.drop_zero, List.drop_eq_nil_of_le (by simp only [List.length_cons]; omega)]
  rw [e1, e2]
  exact k p hp
theorem hu65 {A : Around} {k : Nat} (hr : Room k A) : A.units + 65 < cLine := by have := hr.un; omega
/-- x not in a tuple of data -/
def rNotInTD (K : PySem.W.Frag) : R2 := fun x y H Q => ∃ d ds, Dp K H x d ∧ Dp K H y (.tuple ds) ∧ SeqAt.shaped d = true ∧ SeqAt.shaped (.tuple ds) = true ∧ Q (.bl (!ds.any fun z => PyData.eqv z d)) H
theorem op_notInTD {X : Cx} (hu : X.A.units + 65 < cLine) : OpR X (compareOp .NotIn) (rNotInTD X.K) := by
  intro pins s σ H x y v u Q I rx ry ⟨d, ds, hd, he, sd, se, q⟩
  obtain ⟨as, r1⟩ := Dp.reads I d x v hd rx
  obtain ⟨bs, r2⟩ := Dp.reads I (.tuple ds) y u he ry
  exact SeqAt.notIn_tuple_reads r2 r1 (SeqAt.canLay_of_shaped se) (SeqAt.canLay_of_shaped sd) (room_in_shaped sd hu) ⟨.bl _, H, I, rfl, q⟩
theorem yes_go {σ : L2.St} {H : Hp} {A B : Hp → Prop} (h : A H) : tYes σ H fun b H3 => if b = true then A H3 else B H3 := by
  show (if true = true then A H else B H)
  rw [if_pos rfl]
  exact h
/-! ### rules whose reading names the written part itself -/
section
variable {X : Cx} {K : PySem.W.Frag}
theorem op_in_seqK (hK : X.K = K) : OpR X (compareOp .In) (rIn K false) := hK ▸ op_in_seq
theorem op_notIn_seqK (hK : X.K = K) : OpR X (compareOp .NotIn) (rIn K true) := hK ▸ op_notIn_seq
theorem ix_tupK (hK : X.K = K) : IxR X (rIxT K) := hK ▸ ix_tup
theorem ix_listK (hK : X.K = K) : IxR X (rIxL K) := hK ▸ ix_list
theorem sl_tupAK (hK : X.K = K) : SlR X (rSlA K) := hK ▸ sl_tupA
theorem sl_listK (hK : X.K = K) : SlR X (rSlL K) := hK ▸ sl_list
theorem pi_listK {tg l : Expr} {tl : TE} (hK : X.K = K) (hl : PE X l tl) : PI X tg l (iList K tl) := hK ▸ pi_list hl
theorem pi_tupK {tg l : Expr} {tl : TE} (hK : X.K = K) (hl : PE X l tl) : PI X tg l (iTup K tl) := hK ▸ pi_tup hl
theorem call_len_seqK (hK : X.K = K) : CallR X (.builtin "len") (fun xs H Q => ∃ p ys, xs = [.ref p] ∧ (SqL K H p ys ∨ SqT K H p ys) ∧ Q (.int ys.length) H) := hK ▸ call_len_seq
end
theorem sz {n : Nat} (h : n ≤ 1000) : n ≤ sizeLine := Nat.le_of_lt (small1000 h)
theorem if_t {c : Bool} {A B : Prop} (hc : c = true) (h : A) : if c = true then A else B := by rw [if_pos hc]; exact h
theorem if_f {c : Bool} {A B : Prop} (hc : c = false) (h : B) : if c = true then A else B := by rw [hc, if_neg Bool.false_ne_true]; exact h
/-! ### the words -/
def opsL : List Str := ["not", "and", "or", "xor", "plus", "same", "less", "any", "all", "pick", "join"]
theorem ops_io {o : Str} (h : o ∈ opsL) : inV (.str o) [.str "is", .str "of"] = false := by revert o; decide +kernel
theorem ops_is {o : Str} (h : o ∈ opsL) : decide (V.str o = V.str "is") = false := by revert o; decide +kernel
theorem ops_of {o : Str} (h : o ∈ opsL) : decide (V.str o = V.str "of") = false := by revert o; decide +kernel
theorem ops_part {o : Str} (h : o ∈ opsL) : decide (V.str o = V.str "part") = false := by revert o; decide +kernel
theorem O1.mem {o : Str} {a w : Int} (h : O1 o a w) : o ∈ opsL := by cases h <;> decide +kernel
theorem O2.mem {o : Str} {a b w : Int} (h : O2 o a b w) : o ∈ opsL := by cases h <;> decide +kernel
theorem O3.mem {o : Str} {a b c w : Int} (h : O3 o a b c w) : o ∈ opsL := by cases h <;> decide +kernel
theorem Ok.shape {g : Ctx} {n : Nat} {w : Int} {t : Tm} (h : Ok g n w t) : (∃ x, t = .is x) ∨ (∃ x, t = .of x) ∨ (∃ a hi lo, t = .part a hi lo) ∨ ∃ o, o ∈ opsL ∧ t.d = .tuple (.str o :: t.kids.map Tm.d) := by
  cases h with
  | is => exact .inl ⟨_, rfl⟩
  | of => exact .inr (.inl ⟨_, rfl⟩)
  | op1 h => exact .inr (.inr (.inr ⟨_, h.mem, rfl⟩))
  | op2 h => exact .inr (.inr (.inr ⟨_, h.mem, rfl⟩))
  | op3 h => exact .inr (.inr (.inr ⟨_, h.mem, rfl⟩))
  | part => exact .inr (.inr (.inl ⟨_, _, _, rfl⟩))
theorem Ok.kids_le {g : Ctx} {n : Nat} {w : Int} {t : Tm} (h : Ok g n w t) : t.kids.length ≤ 3 := by cases h <;> simp [Tm.kids]
end K34
/-! loops and comprehensions over data -/
namespace K34
open PySem PySem.Spec PyProof.Rows L2
mutual
def noL : PyData → Bool
  | .list _ => false
  | .dict _ => false
  | .tuple ds => noLs ds
  | .none => true
  | .bool _ => true
  | .int _ => true
  | .str _ => true
def noLs : List PyData → Bool
  | [] => true
  | d :: ds => noL d && noLs ds
end
theorem noLs_iff : ∀ {ds : List PyData}, noLs ds = true ↔ ∀ d ∈ ds, noL d = true
  | [] => by simp [noLs]
  | d :: ds => by simp [noLs, noLs_iff (ds := ds)]
theorem Tm.noL : ∀ t : Tm, K34.noL t.d = true
  | .is x => rfl
  | .of n => rfl
  | .op1 o a => by simp [Tm.d, K34.noL, noLs, a.noL]
  | .op2 o a b => by simp [Tm.d, K34.noL, noLs, a.noL, b.noL]
  | .op3 o a b c => by simp [Tm.d, K34.noL, noLs, a.noL, b.noL, c.noL]
  | .part a hi lo => by simp [Tm.d, K34.noL, noLs, a.noL]
/-- tuples stay -/
structure TK (H H' : Hp) : Prop where
  tup : ∀ a xs, H a = some (.tup xs) → H' a = some (.tup xs)
  frz : ∀ a o u, H a = some (.frz o u) → H' a = some (.frz o u)
theorem TK.of {H H' : Hp} (e : Same H H') : TK H H' := ⟨fun a xs h => e a _ h, fun a o u h => e a _ h⟩
theorem TK.refl (H : Hp) : TK H H := ⟨fun _ _ h => h, fun _ _ _ h => h⟩
theorem TK.trans {H H1 H2 : Hp} (a : TK H H1) (b : TK H1 H2) : TK H H2 := ⟨fun c xs h => b.tup c xs (a.tup c xs h), fun c o u h => b.frz c o u (a.frz c o u h)⟩
theorem TK.lst {H : Hp} {D : Addr} {xs ys : List V} (h : H D = some (.lst xs)) : TK H (upd H D (.lst ys)) :=
  ⟨fun a zs e => by rw [upd_ne (ne_of e h (by intro z; cases z))]; exact e, fun a o u e => by rw [upd_ne (ne_of e h (by intro z; cases z))]; exact e⟩
theorem TK.sqt {K : PySem.W.Frag} {H H' : Hp} {a : Addr} {xs : List V} (e : TK H H') (h : SqT K H a xs) : SqT K H' a xs := by
  rcases h with (h | ⟨o, h⟩) | h
  · exact .inl (.inl (e.tup _ _ h))
  · exact .inl (.inr ⟨o, e.frz _ _ _ h⟩)
  · exact .inr h
end K34
namespace L2
open PySem PySem.Spec PyProof.Rows K34
mutual
theorem Dp.tk {K : PySem.W.Frag} {H H' : Hp} (e : TK H H') : ∀ {v : V} {d : PyData}, Dp K H v d → noL d = true → Dp K H' v d
  | _, _, .non, _ => .non
  | _, _, .bl b, _ => .bl b
  | _, _, .int i, _ => .int i
  | _, _, .str x, _ => .str x
  | _, _, .lst h r, q => by simp [noL] at q
  | _, _, .tup h r, q => .tup (e.sqt h) (DpAll.tk e r (by simpa [noL] using q))
theorem DpAll.tk {K : PySem.W.Frag} {H H' : Hp} (e : TK H H') : ∀ {vs : List V} {ds : List PyData}, DpAll K H vs ds → noLs ds = true → DpAll K H' vs ds
  | _, _, .nil, _ => .nil
  | _, _, .cons h r, q => by
    simp only [noLs, Bool.and_eq_true] at q
    exact .cons (Dp.tk e h q.1) (DpAll.tk e r q.2)
end
theorem DpAll.map_inv {K : PySem.W.Frag} {H : Hp} {α : Type} {f : α → PyData} {g : α → V} (hf : ∀ v a, Dp K H v (f a) → v = g a) : ∀ {l : List α} {vs : List V}, DpAll K H vs (l.map f) → vs = l.map g
  | [], _, h => h.nil_inv
  | a :: l, _, h => by
    obtain ⟨v, vs, rfl, h1, h2⟩ := h.cons_inv
    rw [hf _ _ h1, h2.map_inv hf, List.map_cons]
theorem DpAll.ints {K : PySem.W.Frag} {H : Hp} {l : List Int} {vs : List V} (h : DpAll K H vs (l.map PyData.int)) : vs = l.map V.int := h.map_inv fun _ _ z => z.int_inv
theorem DpAll.strs {K : PySem.W.Frag} {H : Hp} {l : List Str} {vs : List V} (h : DpAll K H vs (l.map PyData.str)) : vs = l.map V.str := h.map_inv fun _ _ z => z.str_inv
theorem DpAll.bls {K : PySem.W.Frag} {H : Hp} {l : List Bool} {vs : List V} (h : DpAll K H vs (l.map PyData.bool)) : vs = l.map V.bl := h.map_inv fun _ _ z => by cases z; rfl
theorem dpa_strs {K : PySem.W.Frag} {H : Hp} : ∀ l : List Str, DpAll K H (l.map V.str) (l.map PyData.str)
  | [] => .nil
  | a :: l => .cons (.str a) (dpa_strs l)
theorem dpa_ints {K : PySem.W.Frag} {H : Hp} : ∀ l : List Int, DpAll K H (l.map V.int) (l.map PyData.int)
  | [] => .nil
  | a :: l => .cons (.int a) (dpa_ints l)
theorem DpAll.app {K : PySem.W.Frag} {H : Hp} : ∀ {xs ys : List V} {ds es : List PyData}, DpAll K H xs ds → DpAll K H ys es → DpAll K H (xs ++ ys) (ds ++ es)
  | _, _, _, _, .nil, r => r
  | _, _, _, _, .cons h t, r => .cons h (DpAll.app t r)
theorem DpAll.at {K : PySem.W.Frag} {H : Hp} {vs : List V} {ds : List PyData} {i : Nat} {d : PyData} (h : DpAll K H vs ds) (e : ds[i]? = some d) : ∃ v, vs[i]? = some v ∧ Dp K H v d := by
  obtain ⟨hi, _⟩ := List.getElem?_eq_some_iff.mp e
  have hj : i < vs.length := by rw [h.length]; exact hi
  obtain ⟨d', e', h'⟩ := h.get (List.getElem?_eq_getElem hj)
  rw [e] at e'
  cases e'
  exact ⟨_, List.getElem?_eq_getElem hj, h'⟩
end L2
namespace K34
open PySem PySem.Spec PyProof.Rows L2
section
variable {J : It} {n : Nat} {G : Hp → Prop} {Y : Nat → Hp → V → Hp → Prop} {K : PySem.W.Frag}
theorem same_lst {H1 H : Hp} {D : Addr} {o : HO} (e : Same H1 H) (hD : H1 D = none) : Same H1 (upd H D o) := Evl.Ex.mut e hD
/-- [elt for x in it if ..]: what is made is es without its gaps -/
theorem lcO (w : Walk J n G Y) {g : TG} {tt : TT} {te : TE} {vs : List Nat} {σ : L2.St} {H1 : Hp} {D : Addr} {Qd : Hp → Prop} (es : List (Option PyData)) (hn : es.length = n) (hz : n ≤ 1000) (hL : ∀ d, some d ∈ es → noL d = true) (hD : H1 D = none)
    (hG : ∀ H', Same H1 H' → G H') (hY : ∀ i H x H', Y i H x H' → Same H H')
    (step : ∀ i x H H' e, i < n → es[i]? = some e → Same H1 H → Y i H x H' → ∀ (Qy : VK) (Qn : Hp → Prop), (∀ d, e = some d → ∀ v H2, Same H' H2 → Dp K H2 v d → Qy v H2) → (e = none → ∀ H2, Same H' H2 → Qn H2) →
      g x (wipe σ vs) H' fun σ2 H2 => wipe σ2 vs = wipe σ vs ∧ tt σ2 H2 fun b H3 => if b = true then te σ2 H3 Qy else Qn H3)
    (hd : ∀ ys H, Same H1 H → H D = some (.lst ys) → DpAll K H ys (es.filterMap id) → Qd H) :
    ∃ W : Nat → Nat → Hp → Prop, (∃ m, W 0 m (upd H1 D (.lst []))) ∧ ∀ i m H, W i m H →
      (J.stop i H ∧ Qd H) ∨ (J.go i H ∧ ∃ Nx : Hp → Prop, (∀ H', Nx H' → ∃ m', m' < m ∧ W (i + 1) m' H') ∧ ∀ x H', J.yld i H x H' → g x (wipe σ vs) H' fun σ2 H2 => wipe σ2 vs = wipe σ vs ∧ tt σ2 H2 fun b H3 =>
        if b = true then te σ2 H3 fun y H4 => ∃ acc, H4 D = some (.lst acc) ∧ acc.length < sizeLine ∧ Nx (upd H4 D (.lst (acc ++ [y]))) else Nx H3) := by
  refine lc_it w (fun i H => Same H1 H ∧ ∃ acc, H D = some (.lst acc) ∧ acc.length ≤ i ∧ DpAll K H acc ((es.take i).filterMap id)) ⟨same_new hD _, [], upd_same, Nat.le_refl _, .nil⟩ (fun i H _ p => hG H p.1) ?_ ?_
  · rintro i x H H' hi ⟨e1, acc, ha, hl, hr⟩ y
    obtain ⟨e, he⟩ : ∃ e, es[i]? = some e := ⟨es[i], List.getElem?_eq_getElem (by omega)⟩
    have eH := hY _ _ _ _ y
    have tk : (es.take (i + 1)).filterMap id = (es.take i).filterMap id ++ e.toList := by
      rw [List.take_add_one, he, List.filterMap_append]
      cases e <;> rfl
    have hLt : noLs ((es.take i).filterMap id) = true := noLs_iff.mpr fun d hd => by
      rw [List.mem_filterMap] at hd
      obtain ⟨o, ho, eo⟩ := hd
      exact hL d (by rw [← show o = some d from eo]; exact List.mem_of_mem_take ho)
    refine step i x H H' e hi he e1 y (fun y H4 => ∃ acc, H4 D = some (.lst acc) ∧ acc.length < sizeLine ∧ (Same H1 (upd H4 D (.lst (acc ++ [y]))) ∧ ∃ acc', upd H4 D (.lst (acc ++ [y])) D = some (.lst acc') ∧ acc'.length ≤ i + 1 ∧ DpAll K (upd H4 D (.lst (acc ++ [y]))) acc' ((es.take (i + 1)).filterMap id)))
      (fun H3 => Same H1 H3 ∧ ∃ acc, H3 D = some (.lst acc) ∧ acc.length ≤ i + 1 ∧ DpAll K H3 acc ((es.take (i + 1)).filterMap id)) (fun d ed v H2 e2 dv => ?_) fun en H2 e2 => ?_
    · subst ed
      have e3 := eH.trans e2
      refine ⟨acc, e3 _ _ ha, Nat.lt_of_le_of_lt hl (small1000 (by omega)), same_lst (e1.trans e3) hD, _, upd_same, by rw [List.length_append, List.length_singleton]; omega, ?_⟩
      rw [tk]
      have t1 : TK H2 (upd H2 D (.lst (acc ++ [v]))) := TK.lst (e3 _ _ ha)
      exact ((hr.mono e3).tk t1 hLt).app (.cons (dv.tk t1 (hL d (List.mem_of_getElem? he))) .nil)
    · subst en
      have e3 := eH.trans e2
      refine ⟨e1.trans e3, acc, e3 _ _ ha, by omega, ?_⟩
      rw [tk, show (none : Option PyData).toList = [] from rfl, List.append_nil]
      exact hr.mono e3
  · rintro H ⟨e1, acc, ha, _, hr⟩
    rw [List.take_of_length_le (by omega)] at hr
    exact hd acc H e1 ha hr
/-- a block that captures nothing -/
theorem blk_nf {N : List Str} {sc sc' scope : Scope} {own : List (Str × Nat)} (h : BlkOk N sc scope own) (hf : (scope.names.all fun y => match y.2 with | .free => false | _ => true) = true) : BlkOk N sc' scope own :=
  { kind := h.kind, uniq := h.uniq, ix := h.ix, own := h.own
    free := fun y hy e => by
      have q := List.all_eq_true.mp hf y hy
      rw [e] at q
      cases q }
/-- all but D stays -/
def SameX (D : Addr) (H H' : Hp) : Prop := ∀ b o, b ≠ D → H b = some o → H' b = some o
/-- [elt for x in it for y in it1] -/
theorem lc2D (w : Walk J n G Y) {g : TG} {wi1 : TI} {g1 : TG} {te : TE} {vs vs1 : List Nat} {σ : L2.St} {H1 : Hp} {D : Addr} {Qd : Hp → Prop} (es : List (List PyData)) (hn : es.length = n) (hz : es.flatten.length ≤ 1000) (hL : noLs es.flatten = true) (hD : H1 D = none)
    (hG : ∀ H', Same H1 H' → G H') (hY : ∀ i H x H', Y i H x H' → Same H H') (gm : ∀ x σ H Q Q', (∀ σ' H', Q σ' H' → Q' σ' H') → g x σ H Q → g x σ H Q') (gm1 : ∀ x σ H Q Q', (∀ σ' H', Q σ' H' → Q' σ' H') → g1 x σ H Q → g1 x σ H Q')
    (step : ∀ i x H H' el, i < n → es[i]? = some el → Same H1 H → Y i H x H' → (∃ acc, H' D = some (.lst acc)) → ∀ (R : L2.St → It → Hp → Prop),
      (∀ σ2 J1 n1 G1 Y1 H4, Walk J1 n1 G1 Y1 → el.length = n1 → Same H' H4 → (∀ H5, SameX D H4 H5 → TK H4 H5 → G1 H5) → (∀ j H x H', Y1 j H x H' → Same H H') →
        (∀ j x H5 H6 e, el[j]? = some e → SameX D H4 H5 → TK H4 H5 → Same H1 H5 → Y1 j H5 x H6 → ∀ Qy : VK, (∀ v H7, Same H6 H7 → Dp K H7 v e → Qy v H7) → g1 x (wipe σ2 vs1) H6 fun σ3 H7 => wipe σ3 vs1 = wipe σ2 vs1 ∧ te σ3 H7 Qy) → R σ2 J1 H4) →
      g x (wipe σ vs) H' fun σ2 H2 => wipe σ2 vs = wipe σ vs ∧ wi1 σ2 H2 (R σ2))
    (hd : ∀ ys H, Same H1 H → H D = some (.lst ys) → DpAll K H ys es.flatten → Qd H) :
    ∃ W : Nat → Nat → Hp → Prop, (∃ m, W 0 m (upd H1 D (.lst []))) ∧ ∀ i m H, W i m H →
      (J.stop i H ∧ Qd H) ∨ (J.go i H ∧ ∃ Nx : Hp → Prop, (∀ H', Nx H' → ∃ m', m' < m ∧ W (i + 1) m' H') ∧ ∀ x H', J.yld i H x H' → g x (wipe σ vs) H' fun σ2 H2 => wipe σ2 vs = wipe σ vs ∧ tYes σ2 H2 fun b H3 =>
        if b = true then wi1 σ2 H3 fun J1 H4 => ∃ W1 : Nat → Nat → Hp → Prop, (∃ m, W1 0 m H4) ∧ ∀ j k H, W1 j k H →
          (J1.stop j H ∧ Nx H) ∨ (J1.go j H ∧ ∃ Nx1 : Hp → Prop, (∀ H', Nx1 H' → ∃ k', k' < k ∧ W1 (j + 1) k' H') ∧ ∀ x H', J1.yld j H x H' → g1 x (wipe σ2 vs1) H' fun σ3 H5 => wipe σ3 vs1 = wipe σ2 vs1 ∧ tYes σ3 H5 fun b H6 =>
            if b = true then te σ3 H6 fun y H7 => ∃ acc, H7 D = some (.lst acc) ∧ acc.length < sizeLine ∧ Nx1 (upd H7 D (.lst (acc ++ [y]))) else Nx1 H6)
        else Nx H3) := by
  refine ⟨fun i m H => m = n - i ∧ i ≤ n ∧ Same H1 H ∧ ∃ acc, H D = some (.lst acc) ∧ DpAll K H acc (es.take i).flatten, ⟨n, by simp, Nat.zero_le _, same_new hD _, [], upd_same, .nil⟩, ?_⟩
  rintro i m H ⟨rfl, hi, e1, acc, ha, hr⟩
  by_cases hlt : i < n
  · refine .inr ⟨w.goes i H hlt (hG H e1), fun H' => Same H1 H' ∧ ∃ acc, H' D = some (.lst acc) ∧ DpAll K H' acc (es.take (i + 1)).flatten, fun H' p => ⟨n - (i + 1), by omega, rfl, hlt, p⟩, fun x H' y0 => ?_⟩
    have y := w.yields i H x H' hlt (hG H e1) y0
    have eH := hY _ _ _ _ y
    obtain ⟨el, he⟩ : ∃ el, es[i]? = some el := ⟨es[i], List.getElem?_eq_getElem (by omega)⟩
    have tk : (es.take (i + 1)).flatten = (es.take i).flatten ++ el := by rw [List.take_add_one, he]; simp
    have le1 : (es.take i).flatten.length + el.length ≤ es.flatten.length := by
      have q : es.flatten = (es.take (i + 1)).flatten ++ (es.drop (i + 1)).flatten := by rw [← List.flatten_append, List.take_append_drop]
      rw [q, List.length_append, tk, List.length_append]
      omega
    have sub : ∀ d, d ∈ (es.take i).flatten ++ el → noL d = true := fun d hd => noLs_iff.mp hL d (by
      have q : es.flatten = (es.take (i + 1)).flatten ++ (es.drop (i + 1)).flatten := by rw [← List.flatten_append, List.take_append_drop]
      rw [q, tk]
      exact List.mem_append_left _ hd)
    refine gm _ _ _ _ _ (fun σ2 H2 z => ⟨z.1, (by dsimp only [tYes]; first | exact z.2 | (rw [if_pos rfl]; exact z.2))⟩) (step i x H H' el hlt he e1 y ⟨acc, eH _ _ ha⟩ (fun σ2 J1 H4 => ∃ W1 : Nat → Nat → Hp → Prop, (∃ m, W1 0 m H4) ∧ ∀ j k H, W1 j k H →
          (J1.stop j H ∧ (Same H1 H ∧ ∃ acc, H D = some (.lst acc) ∧ DpAll K H acc (es.take (i + 1)).flatten)) ∨ (J1.go j H ∧ ∃ Nx1 : Hp → Prop, (∀ H', Nx1 H' → ∃ k', k' < k ∧ W1 (j + 1) k' H') ∧ ∀ x H', J1.yld j H x H' → g1 x (wipe σ2 vs1) H' fun σ3 H5 => wipe σ3 vs1 = wipe σ2 vs1 ∧ tYes σ3 H5 fun b H6 =>
            if b = true then te σ3 H6 fun y H7 => ∃ acc, H7 D = some (.lst acc) ∧ acc.length < sizeLine ∧ Nx1 (upd H7 D (.lst (acc ++ [y]))) else Nx1 H6)) ?_)
    intro σ2 J1 n1 G1 Y1 H4 w1 hn1 e4 hG1 hY1 st1
    have e14 : Same H1 H4 := e1.trans (eH.trans e4)
    refine ⟨fun j k H5 => k = n1 - j ∧ j ≤ n1 ∧ SameX D H4 H5 ∧ TK H4 H5 ∧ Same H1 H5 ∧ ∃ acc, H5 D = some (.lst acc) ∧ DpAll K H5 acc ((es.take i).flatten ++ el.take j), ⟨n1, by simp, Nat.zero_le _, fun _ _ _ h => h, TK.refl _, e14, acc, e4 _ _ (eH _ _ ha), ?_⟩, ?_⟩
    · rw [List.take_zero, List.append_nil]
      exact hr.mono (eH.trans e4)
    rintro j k H5 ⟨rfl, hj, sx, tx, e5, acc5, ha5, hr5⟩
    by_cases hlt1 : j < n1
    · refine .inr ⟨w1.goes j H5 hlt1 (hG1 H5 sx tx), fun H6 => j + 1 ≤ n1 ∧ SameX D H4 H6 ∧ TK H4 H6 ∧ Same H1 H6 ∧ ∃ acc, H6 D = some (.lst acc) ∧ DpAll K H6 acc ((es.take i).flatten ++ el.take (j + 1)), fun H6 p => ⟨n1 - (j + 1), by omega, rfl, p⟩, fun x6 H6 y6 => ?_⟩
      have y1 := w1.yields j H5 x6 H6 hlt1 (hG1 H5 sx tx) y6
      have e6 := hY1 _ _ _ _ y1
      obtain ⟨e, hee⟩ : ∃ e, el[j]? = some e := ⟨el[j], List.getElem?_eq_getElem (by omega)⟩
      have tk1 : el.take (j + 1) = el.take j ++ [e] := by rw [List.take_add_one, hee]; rfl
      refine gm1 _ _ _ _ _ (fun σ3 H7 z => ⟨z.1, (by dsimp only [tYes]; first | exact z.2 | (rw [if_pos rfl]; exact z.2))⟩) (st1 j x6 H5 H6 e hee sx tx e5 y1 _ fun v H7 e7 dv => ?_)
      have e57 := e6.trans e7
      have l5 : acc5.length ≤ (es.take i).flatten.length + j := by
        have q := hr5.length
        rw [List.length_append, List.length_take] at q
        omega
      refine ⟨acc5, e57 _ _ ha5, small1000 (by omega), hlt1, ?_, ?_, same_lst (e5.trans e57) hD, _, upd_same, ?_⟩
      · intro b o hb q
        rw [upd_ne hb]
        exact e57 _ _ (sx b o hb q)
      · exact tx.trans ((TK.of e57).trans (TK.lst (e57 _ _ ha5)))
      · have t1 : TK H7 (upd H7 D (.lst (acc5 ++ [v]))) := TK.lst (e57 _ _ ha5)
        rw [tk1, ← List.append_assoc]
        refine ((hr5.mono e57).tk t1 (noLs_iff.mpr fun d hd => ?_)).app (.cons (dv.tk t1 (sub e (List.mem_append_right _ (List.mem_of_getElem? hee)))) .nil)
        rcases List.mem_append.mp hd with hd | hd
        · exact sub d (List.mem_append_left _ hd)
        · exact sub d (List.mem_append_right _ (List.mem_of_mem_take hd))
    · have ej : j = n1 := by omega
      subst ej
      refine .inl ⟨w1.stops H5 (hG1 H5 sx tx), e5, acc5, ha5, ?_⟩
      rw [tk]
      rw [show el.take j = el from List.take_of_length_le (by omega)] at hr5
      exact hr5
  · have e : i = n := by omega
    subst e
    rw [List.take_of_length_le (by omega)] at hr
    exact .inl ⟨w.stops H (hG H e1), hd acc H e1 ha hr⟩
theorem fm_some {α β : Type} (f : α → β) (l : List α) : (l.map fun a => some (f a)).filterMap id = l.map f := by
  induction l with
  | nil => rfl
  | cons a l ih => simp
/-- without a test -/
theorem lcD (w : Walk J n G Y) {g : TG} {te : TE} {vs : List Nat} {σ : L2.St} {H1 : Hp} {D : Addr} {Qd : Hp → Prop} (es : List PyData) (hn : es.length = n) (hz : n ≤ 1000) (hL : noLs es = true) (hD : H1 D = none)
    (hG : ∀ H', Same H1 H' → G H') (hY : ∀ i H x H', Y i H x H' → Same H H')
    (step : ∀ i x H H' e, i < n → es[i]? = some e → Same H1 H → Y i H x H' → ∀ (Qy : VK), (∀ v H2, Same H' H2 → Dp K H2 v e → Qy v H2) → g x (wipe σ vs) H' fun σ2 H2 => wipe σ2 vs = wipe σ vs ∧ te σ2 H2 Qy)
    (gm : ∀ x σ H Q Q', (∀ σ' H', Q σ' H' → Q' σ' H') → g x σ H Q → g x σ H Q')
    (hd : ∀ ys H, Same H1 H → H D = some (.lst ys) → DpAll K H ys es → Qd H) :
    ∃ W : Nat → Nat → Hp → Prop, (∃ m, W 0 m (upd H1 D (.lst []))) ∧ ∀ i m H, W i m H →
      (J.stop i H ∧ Qd H) ∨ (J.go i H ∧ ∃ Nx : Hp → Prop, (∀ H', Nx H' → ∃ m', m' < m ∧ W (i + 1) m' H') ∧ ∀ x H', J.yld i H x H' → g x (wipe σ vs) H' fun σ2 H2 => wipe σ2 vs = wipe σ vs ∧ tYes σ2 H2 fun b H3 =>
        if b = true then te σ2 H3 fun y H4 => ∃ acc, H4 D = some (.lst acc) ∧ acc.length < sizeLine ∧ Nx (upd H4 D (.lst (acc ++ [y]))) else Nx H3) := by
  refine lcO (K := K) (tt := tYes) w (es.map some) (by rw [List.length_map]; exact hn) hz (fun d hd => ?_) hD hG hY (fun i x H H' e hi he e1 y Qy Qn hy _ => ?_) fun ys H e1 h1 h2 => hd ys H e1 h1 (by simpa using h2)
  · rw [List.mem_map] at hd
    obtain ⟨d', hd', e⟩ := hd
    cases e
    exact noLs_iff.mp hL _ hd'
  · rw [List.getElem?_map] at he
    cases e0 : es[i]? with
    | none => rw [e0] at he; cases he
    | some d =>
      rw [e0] at he
      cases he
      exact gm _ _ _ _ _ (fun σ' H' z => ⟨z.1, if_t (A := te σ' H' Qy) (B := Qn H') rfl z.2⟩) (step i x H H' d hi e0 e1 y Qy (hy d rfl))
/-- {k: v for x in it if ..} -/
theorem dc_it (w : Walk J n G Y) {g : TG} {tt : TT} {tk tv : TE} {vs : List Nat} {σ : L2.St} {H1 : Hp} {D : Addr} {Qd : Hp → Prop} (Pv : Nat → Hp → Prop) (h0 : Pv 0 (upd H1 D (.dK []))) (hG : ∀ i H, i ≤ n → Pv i H → G H)
    (hs : ∀ i x H H', i < n → Pv i H → Y i H x H' → g x (wipe σ vs) H' fun σ2 H2 => wipe σ2 vs = wipe σ vs ∧ tt σ2 H2 fun b H3 =>
      if b = true then tk σ2 H3 fun y H4 => tv σ2 H4 fun z H5 => ∃ kvs k, y = kV k ∧ H5 D = some (.dK kvs) ∧ kvs.length < sizeLine ∧ Pv (i + 1) (upd H5 D (.dK (putK kvs k z))) else Pv (i + 1) H3) (hd : ∀ H, Pv n H → Qd H) :
    ∃ W : Nat → Nat → Hp → Prop, (∃ m, W 0 m (upd H1 D (.dK []))) ∧ ∀ i m H, W i m H →
      (J.stop i H ∧ Qd H) ∨ (J.go i H ∧ ∃ Nx : Hp → Prop, (∀ H', Nx H' → ∃ m', m' < m ∧ W (i + 1) m' H') ∧ ∀ x H', J.yld i H x H' → g x (wipe σ vs) H' fun σ2 H2 => wipe σ2 vs = wipe σ vs ∧ tt σ2 H2 fun b H3 =>
        if b = true then tk σ2 H3 fun y H4 => tv σ2 H4 fun z H5 => ∃ kvs k, y = kV k ∧ H5 D = some (.dK kvs) ∧ kvs.length < sizeLine ∧ Nx (upd H5 D (.dK (putK kvs k z))) else Nx H3) := by
  refine ⟨fun i m H => m = n - i ∧ i ≤ n ∧ Pv i H, ⟨n, (Nat.sub_zero n).symm, Nat.zero_le _, h0⟩, ?_⟩
  rintro i m H ⟨rfl, hi, p⟩
  have q := hG i H hi p
  rcases Nat.lt_or_ge i n with hlt | hge
  · exact .inr ⟨w.goes i H hlt q, Pv (i + 1), fun H' p' => ⟨n - (i + 1), by omega, rfl, hlt, p'⟩, fun x H' y => hs i x H H' hlt p (w.yields i H x H' hlt q y)⟩
  · obtain rfl : i = n := by omega
    exact .inl ⟨w.stops H q, hd H p⟩
theorem gm_name {i : Nat} : ∀ x σ H Q Q', (∀ σ' H', Q σ' H' → Q' σ' H') → gName i x σ H Q → gName i x σ H Q' := fun _ _ _ _ _ h z => h _ _ z
theorem gNil_m : ∀ vs σ H Q Q', (∀ σ' H', Q σ' H' → Q' σ' H') → gNil vs σ H Q → gNil vs σ H Q' := fun _ _ _ _ _ h z => ⟨z.1, h _ _ z.2⟩
theorem gCons_m {t : TG} {u : TGs} (ht : ∀ x σ H Q Q', (∀ σ' H', Q σ' H' → Q' σ' H') → t x σ H Q → t x σ H Q') (hu : ∀ vs σ H Q Q', (∀ σ' H', Q σ' H' → Q' σ' H') → u vs σ H Q → u vs σ H Q') :
    ∀ vs σ H Q Q', (∀ σ' H', Q σ' H' → Q' σ' H') → gCons t u vs σ H Q → gCons t u vs σ H Q' := fun _ _ _ _ _ h ⟨v, r, e, z⟩ => ⟨v, r, e, ht _ _ _ _ _ (fun σ' H' q => hu _ _ _ _ _ h q) z⟩
theorem gTup_m {k : Nat} {t : TGs} (ht : ∀ vs σ H Q Q', (∀ σ' H', Q σ' H' → Q' σ' H') → t vs σ H Q → t vs σ H Q') : ∀ x σ H Q Q', (∀ σ' H', Q σ' H' → Q' σ' H') → gTup K k t x σ H Q → gTup K k t x σ H Q' :=
  fun _ _ _ _ _ h ⟨a, xs, e, s, l, z⟩ => ⟨a, xs, e, s, l, ht _ _ _ _ _ h z⟩
end
def YStr (z : Str) : Nat → Hp → V → Hp → Prop := fun i H v H' => H' = H ∧ ∃ c, z.cps[i]? = some c ∧ v = .str ⟨#[c]⟩
theorem walk_str' {z : Str} : Walk (Its z) z.cps.size (fun _ => True) (YStr z) := walk_str
theorem yat_same {xs : List V} : ∀ i H x H', YAt xs i H x H' → Same H H' := fun _ _ _ _ h => by rw [h.1]; exact Same.refl _
theorem ystr_same {z : Str} : ∀ i H x H', YStr z i H x H' → Same H H' := fun _ _ _ _ h => by rw [h.1]; exact Same.refl _
end K34
namespace K34
open PySem PySem.Spec PyProof.Rows L2
local macro_rules | `(tactic| walk_at "sm") => `(tactic| (repeat (first | exact Same.refl _ | assumption | refine Same.trans ?_ (same_new (by assumption) _) | refine Same.trans ?_ (by assumption))))
section
variable {P : Program} {w : World} {K : PySem.W.Frag} {mg : Str → Option Value} {base : Heap}
def spTermsIn (K : PySem.W.Frag) : Sp := fun vs H Q _ => ∃ (v : V) (t : Tm) (g : Ctx) (n : Nat) (wd : Int), vs = [v] ∧ Dp K H v t.d ∧ Ok g n wd t ∧ Ret H Q fun r H' => Dp K H' r (.list (t.kids.map Tm.d))
theorem ok_terms_in (T : TX K mg w) : FnOk P w K mg base CX0 1 T.a_terms_in T.d_terms_in p_terms_in (spTermsIn K) := by
  refine T.F_terms_in.ok sc_terms_in (fun vs H Q E h => ?_) (fun cdv A outer s H vs Q E hr h => ?_)
  · obtain ⟨v, t, g, n, wd, rfl, _⟩ := h; rfl
  obtain ⟨v, t, g, n, wd, rfl, hv, ho, k⟩ := h
  have nd := sc_terms_in.nd
  refine ⟨_, ((pss_cons (ps_asg (pv 0) (pg_starT (n := 2) (i := 1) rfl (pgs_cons (pg_name (i := 1) nd rfl (Or.inl rfl)) (pgs_star (pg_name (i := 2) nd rfl (Or.inl rfl)) pgs_nil))))
      (pss_cons (ps_if (pt_cmpR op_in_seq (pv 1) (pe_tup (pa_cons pe_str (pa_cons pe_str pa_nil))) (by rfl)) (pss_one (ps_ret (pe_lst pa_nil))) pss_nil)
      (pss_one (ps_ret (pe_ifExp (pt_cmpR op_eq (pv 1) pe_str (nomark _)) (pe_slice sl_list (pv 2) po_none (po_some pe_int)) (pv 2))))))), ?_⟩
  have go : ∀ (o : Str) (ds : List PyData), t.d = .tuple (.str o :: ds) → ds.length ≤ 3 → inV (.str o) [.str "is", .str "of"] = true ∧ t.kids = [] ∨ inV (.str o) [.str "is", .str "of"] = false ∧ (decide (V.str o = V.str "part") = true ∧ t.kids.map Tm.d = ds.take 1 ∨ decide (V.str o = V.str "part") = false ∧ t.kids.map Tm.d = ds) → ∃ o ds, t.d = .tuple (.str o :: ds) ∧ ds.length ≤ 3 ∧ (inV (.str o) [.str "is", .str "of"] = true ∧ t.kids = [] ∨ inV (.str o) [.str "is", .str "of"] = false ∧ (decide (V.str o = V.str "part") = true ∧ t.kids.map Tm.d = ds.take 1 ∨ decide (V.str o = V.str "part") = false ∧ t.kids.map Tm.d = ds)) := fun o ds h1 h2 h3 => ⟨o, ds, h1, h2, h3⟩
  obtain ⟨o, ds, ed, l3, cs⟩ : ∃ o ds, t.d = .tuple (.str o :: ds) ∧ ds.length ≤ 3 ∧ (inV (.str o) [.str "is", .str "of"] = true ∧ t.kids = [] ∨ inV (.str o) [.str "is", .str "of"] = false ∧ (decide (V.str o = V.str "part") = true ∧ t.kids.map Tm.d = ds.take 1 ∨ decide (V.str o = V.str "part") = false ∧ t.kids.map Tm.d = ds)) := by
    rcases ho.shape with ⟨x, rfl⟩ | ⟨x, rfl⟩ | ⟨a, hi, lo, rfl⟩ | ⟨o, om, e⟩
    · exact go "is" _ rfl (by show 1 ≤ 3; decide) (.inl ⟨by decide +kernel, rfl⟩)
    · exact go "of" _ rfl (by show 1 ≤ 3; decide) (.inl ⟨by decide +kernel, rfl⟩)
    · exact go "part" _ rfl (by show 3 ≤ 3; decide) (.inr ⟨by decide +kernel, .inl ⟨by decide +kernel, rfl⟩⟩)
    · exact go o _ e (by rw [List.length_map]; exact ho.kids_le) (.inr ⟨ops_io om, .inr ⟨ops_part om, rfl⟩⟩)
  rw [ed] at hv
  obtain ⟨p, xs, rfl, hs, r⟩ := Dp.tup_inv hv
  obtain ⟨v0, ys, rfl, h0, r0⟩ := DpAll.cons_inv r
  cases Dp.str_inv h0
  have l4 := r0.length
  refine ⟨_, rfl, star2 hs (by omega) fun q hq => ?_⟩
  refine ⟨_, _, rfl, _, _, rfl, rfl, _, rfl, by show 2 ≤ sizeLine; decide, fun p2 hp2 => ?_⟩
  refine ⟨p2, _, rfl, .inr (SqT.of upd_same), rfl, rfl, _, rfl, ?_⟩
  have e2 : Same H (upd (upd H q (.lst ys)) p2 (.tup [.str "is", .str "of"])) := by walk_at "sm"
  have hq2 : upd (upd H q (.lst ys)) p2 (.tup [.str "is", .str "of"]) q = some (.lst ys) := by rw [upd_ne (ne_of_none upd_same hp2)]; exact upd_same
  rcases cs with ⟨c1, ek⟩ | ⟨c1, ⟨c2, ek⟩ | ⟨c2, ek⟩⟩
  · refine if_t c1 ?_
    refine ⟨by show 0 ≤ sizeLine; decide, fun p3 hp3 => k _ _ (by walk_at "sm") ?_⟩
    rw [ek]
    exact .lst (SqL.of upd_same) .nil
  · refine if_f c1 ⟨_, rfl, rfl, _, rfl, if_t c2 ?_⟩
    refine ⟨_, rfl, _, rfl, q, _, rfl, SqL.of hq2, fun p3 hp3 => k _ _ (by walk_at "sm") ?_⟩
    rw [ek]
    refine .lst (SqL.of upd_same) ?_
    have e3 : cutV ys none (some 1) = ys.take 1 := by
      unfold cutV
      rw [HT.sIx_none, List.drop_zero, show (1 : Int) = ((1 : Nat) : Int) from rfl, HT.sIx_nat, Nat.sub_zero]
      cases ys <;> simp
    rw [e3]
    have r2 := r0.mono (e2.trans (same_new hp3 (.lst (ys.take 1))))
    cases r2 with
    | nil => exact .nil
    | cons h _ => exact .cons h .nil
  · refine if_f c1 ⟨_, rfl, rfl, _, rfl, if_f c2 ⟨_, rfl, k _ _ e2 ?_⟩⟩
    rw [ek]
    exact .lst (SqL.of hq2) (r0.mono e2)
end
end K34
namespace K34
open PySem PySem.Spec PyProof.Rows L2
local macro_rules | `(tactic| walk_at "sm") => `(tactic| (repeat (first | exact Same.refl _ | assumption | refine Same.trans ?_ (same_new (by assumption) _) | refine Same.trans ?_ (by assumption))))
theorem O1.cs {o : Str} {a r : Int} (h : O1 o a r) : (inV (.str o) [.str "any", .str "all"] = true ∧ r = 1) ∨ (inV (.str o) [.str "any", .str "all"] = false ∧ decide (V.str o = V.str "join") = false ∧ decide (V.str o = V.str "pick") = false ∧ inV (.str o) [.str "same", .str "less"] = false ∧ a = r) := by
  cases h
  · exact .inr ⟨by decide +kernel, by decide +kernel, by decide +kernel, by decide +kernel, rfl⟩
  · exact .inl ⟨by decide +kernel, rfl⟩
  · exact .inl ⟨by decide +kernel, rfl⟩
theorem O2.cs {o : Str} {a b r : Int} (h : O2 o a b r) : inV (.str o) [.str "any", .str "all"] = false ∧ ((decide (V.str o = V.str "join") = true ∧ a + b ≤ 8 ∧ r = a + b) ∨
    (decide (V.str o = V.str "join") = false ∧ decide (V.str o = V.str "pick") = false ∧ b = a ∧ (inV (.str o) [.str "same", .str "less"] = true ∧ r = 1 ∨ inV (.str o) [.str "same", .str "less"] = false ∧ r = a))) := by
  cases h
  · exact ⟨by decide +kernel, .inr ⟨by decide +kernel, by decide +kernel, rfl, .inr ⟨by decide +kernel, rfl⟩⟩⟩
  · exact ⟨by decide +kernel, .inr ⟨by decide +kernel, by decide +kernel, rfl, .inr ⟨by decide +kernel, rfl⟩⟩⟩
  · exact ⟨by decide +kernel, .inr ⟨by decide +kernel, by decide +kernel, rfl, .inr ⟨by decide +kernel, rfl⟩⟩⟩
  · exact ⟨by decide +kernel, .inr ⟨by decide +kernel, by decide +kernel, rfl, .inr ⟨by decide +kernel, rfl⟩⟩⟩
  · exact ⟨by decide +kernel, .inr ⟨by decide +kernel, by decide +kernel, rfl, .inl ⟨by decide +kernel, rfl⟩⟩⟩
  · exact ⟨by decide +kernel, .inr ⟨by decide +kernel, by decide +kernel, rfl, .inl ⟨by decide +kernel, rfl⟩⟩⟩
  · exact ⟨by decide +kernel, .inl ⟨by decide +kernel, by assumption, rfl⟩⟩
inductive OpW : Str → List Int → Int → Prop
  | o1 {o : Str} {a r : Int} (h : O1 o a r) : OpW o [a] r
  | o2 {o : Str} {a b r : Int} (h : O2 o a b r) : OpW o [a, b] r
  | o3 {o : Str} {a b c r : Int} (h : O3 o a b c r) : OpW o [a, b, c] r
theorem OpW.inv {o : Str} {ws : List Int} {r : Int} (h : OpW o ws r) : (∃ a, ws = [a] ∧ O1 o a r) ∨ (∃ a b, ws = [a, b] ∧ O2 o a b r) ∨ ∃ a b c, ws = [a, b, c] ∧ O3 o a b c r := by
  cases h with
  | o1 h => exact .inl ⟨_, rfl, h⟩
  | o2 h => exact .inr (.inl ⟨_, _, rfl, h⟩)
  | o3 h => exact .inr (.inr ⟨_, _, _, rfl, h⟩)
section
variable {P : Program} {w : World} {K : PySem.W.Frag} {mg : Str → Option Value} {base : Heap}
def spOpW (K : PySem.W.Frag) : Sp := fun vs H Q _ => ∃ (o : Str) (a : Addr) (ws : List Int) (r : Int), vs = [.str o, .ref a] ∧ SqL K H a (ws.map V.int) ∧ OpW o ws r ∧ Ret H Q fun v _ => v = .int r
theorem ok_operated_width (T : TX K mg w) : FnOk P w K mg base CX0 1 T.a_operated_width T.d_operated_width p_operated_width (spOpW K) := by
  refine T.F_operated_width.ok sc_operated_width (fun vs H Q E h => ?_) (fun cdv A outer s H vs Q E hr h => ?_)
  · obtain ⟨o, a, ws, r, rfl, _⟩ := h; rfl
  obtain ⟨o, a, ws, r, rfl, hs, hw, k⟩ := h
  have nd := sc_operated_width.nd
  refine ⟨_, ((pss_cons (ps_asg (pv 1) (pg_starL (n := 2) (i := 1) rfl (pgs_cons (pg_name (i := 2) nd rfl (Or.inl rfl)) (pgs_star (pg_name (i := 3) nd rfl (Or.inl rfl)) pgs_nil))))
      (pss_cons (ps_if (pt_cmpR op_in_seq (pv 0) (pe_tup (pa_cons pe_str (pa_cons pe_str pa_nil))) (by rfl)) (pss_one (ps_ret pe_int)) pss_nil)
      (pss_cons (ps_if (pt_cmpR op_eq (pv 0) pe_str (nomark _)) (pss_one (ps_ret (pe_ifExp (pt_cmpR op_le (pe_callB (cr_sum rfl) (by rfl) T.z_sum (by decide +kernel) (pa_cons (pv 1) pa_nil)) (pe_glob (v := .int 8) rfl T.m_WIDEST ⟨_, rfl⟩) (nomark _)) (pe_callB (cr_sum rfl) (by rfl) T.z_sum (by decide +kernel) (pa_cons (pv 1) pa_nil)) pe_int))) pss_nil)
      (pss_cons (ps_if (pt_cmpR op_eq (pv 0) pe_str (nomark _)) (pss_one (ps_ret (pe_ifExp (PW.pt (pw_and (pt_cmpR op_eq (pv 2) pe_int (nomark _)) (pw_and1 (pt_cmpR op_eq (pe_ix ix_list (pv 3) pe_int (fun _ _ => rfl)) (pe_ix ix_list (pv 3) pe_int (fun _ _ => rfl)) (nomark _))))) (pe_ix ix_list (pv 3) pe_int (fun _ _ => rfl)) pe_int))) pss_nil)
      (pss_cons (ps_if (pt_cmpR (op_notInTD (hu65 hr)) (pv 3) (pe_tup (pa_cons (pe_lst pa_nil) (pa_cons (pe_lst (pa_cons (pv 2) pa_nil)) pa_nil))) (by rfl)) (pss_one (ps_ret pe_int)) pss_nil)
      (pss_one (ps_ret (pe_ifExp (pt_cmpR op_in_seq (pv 0) (pe_tup (pa_cons pe_str (pa_cons pe_str pa_nil))) (by rfl)) pe_int (pv 2)))))))))), ?_⟩
  rcases hw.inv with ⟨x, rfl, h1⟩ | ⟨x, y, rfl, h2⟩ | ⟨x, y, z, rfl, h3⟩
  · refine ⟨_, rfl, star2 (ys := []) hs (by show 0 ≤ 1000; decide) fun q hq => ⟨_, _, rfl, _, _, rfl, rfl, _, rfl, by show 2 ≤ sizeLine; decide, fun p2 hp2 => ?_⟩⟩
    refine ⟨p2, _, rfl, .inr (SqT.of upd_same), rfl, rfl, _, rfl, ?_⟩
    rcases h1.cs with ⟨c1, rfl⟩ | ⟨c1, c2, c3, c4, rfl⟩
    · exact if_t c1 (k _ _ (by walk_at "sm") rfl)
    refine if_f c1 ⟨_, rfl, rfl, _, rfl, if_f c2 ⟨_, rfl, rfl, _, rfl, if_f c3 ⟨_, rfl, ?_⟩⟩⟩
    refine ⟨by show 0 ≤ sizeLine; decide, fun p3 hp3 => ⟨_, rfl, by show 1 ≤ sizeLine; decide, fun p4 hp4 => ⟨by show 2 ≤ sizeLine; decide, fun p5 hp5 => ?_⟩⟩⟩
    have g1 : Same (upd H q (.lst [])) (upd (upd (upd (upd (upd H q (.lst [])) p2 (.tup [.str "any", .str "all"])) p3 (.lst [])) p4 (.lst [.int x])) p5 (.tup [.ref p3, .ref p4])) := by walk_at "sm"
    have d1 : Dp K (upd (upd (upd (upd (upd H q (.lst [])) p2 (.tup [.str "any", .str "all"])) p3 (.lst [])) p4 (.lst [.int x])) p5 (.tup [.ref p3, .ref p4])) (.ref q) (.list []) := .lst (SqL.of (g1 _ _ upd_same)) .nil
    have d2 : Dp K (upd (upd (upd (upd (upd H q (.lst [])) p2 (.tup [.str "any", .str "all"])) p3 (.lst [])) p4 (.lst [.int x])) p5 (.tup [.ref p3, .ref p4])) (.ref p5) (.tuple [.list [], .list [.int x]]) :=
      .tup (SqT.of upd_same) (.cons (.lst (SqL.of (((same_new hp4 _).trans (same_new hp5 _)) _ _ upd_same)) .nil) (.cons (.lst (SqL.of ((same_new hp5 _) _ _ upd_same)) (.cons (.int x) .nil)) .nil))
    refine ⟨_, _, d1, d2, rfl, rfl, _, rfl, if_f ?_ ?_⟩
    · simp [PyData.eqv, PyData.eqvAll]
    refine ⟨_, rfl, by show 2 ≤ sizeLine; decide, fun p6 hp6 => ⟨p6, _, rfl, .inr (SqT.of upd_same), rfl, rfl, _, rfl, if_f c4 ⟨_, rfl, k _ _ (by walk_at "sm") rfl⟩⟩⟩
  · refine ⟨_, rfl, star2 (ys := [.int y]) hs (by show 1 ≤ 1000; decide) fun q hq => ⟨_, _, rfl, _, _, rfl, rfl, _, rfl, by show 2 ≤ sizeLine; decide, fun p2 hp2 => ?_⟩⟩
    refine ⟨p2, _, rfl, .inr (SqT.of upd_same), rfl, rfl, _, rfl, ?_⟩
    have e2 : Same H (upd (upd H q (.lst [.int y])) p2 (.tup [.str "any", .str "all"])) := by walk_at "sm"
    obtain ⟨c1, ⟨c2, h8, rfl⟩ | ⟨c2, c3, rfl, c4⟩⟩ := h2.cs
    · have es : ([x, y] : List Int).sum = x + y := by simp
      refine if_f c1 ⟨_, rfl, rfl, _, rfl, if_t c2 ?_⟩
      refine ⟨_, rfl, a, [x, y], rfl, e2.seq hs, _, _, rfl, rfl, _, rfl, if_t (decide_eq_true (by rw [es]; exact h8)) ?_⟩
      exact ⟨_, rfl, a, [x, y], rfl, e2.seq hs, k _ _ e2 (by rw [es])⟩
    refine if_f c1 ⟨_, rfl, rfl, _, rfl, if_f c2 ⟨_, rfl, rfl, _, rfl, if_f c3 ⟨_, rfl, ?_⟩⟩⟩
    refine ⟨by show 0 ≤ sizeLine; decide, fun p3 hp3 => ⟨_, rfl, by show 1 ≤ sizeLine; decide, fun p4 hp4 => ⟨by show 2 ≤ sizeLine; decide, fun p5 hp5 => ?_⟩⟩⟩
    have g1 : Same (upd H q (.lst [.int y])) (upd (upd (upd (upd (upd H q (.lst [.int y])) p2 (.tup [.str "any", .str "all"])) p3 (.lst [])) p4 (.lst [.int y])) p5 (.tup [.ref p3, .ref p4])) := by walk_at "sm"
    have d1 : Dp K (upd (upd (upd (upd (upd H q (.lst [.int y])) p2 (.tup [.str "any", .str "all"])) p3 (.lst [])) p4 (.lst [.int y])) p5 (.tup [.ref p3, .ref p4])) (.ref q) (.list [.int y]) := .lst (SqL.of (g1 _ _ upd_same)) (.cons (.int y) .nil)
    have d2 : Dp K (upd (upd (upd (upd (upd H q (.lst [.int y])) p2 (.tup [.str "any", .str "all"])) p3 (.lst [])) p4 (.lst [.int y])) p5 (.tup [.ref p3, .ref p4])) (.ref p5) (.tuple [.list [], .list [.int y]]) :=
      .tup (SqT.of upd_same) (.cons (.lst (SqL.of (((same_new hp4 _).trans (same_new hp5 _)) _ _ upd_same)) .nil) (.cons (.lst (SqL.of ((same_new hp5 _) _ _ upd_same)) (.cons (.int y) .nil)) .nil))
    refine ⟨_, _, d1, d2, rfl, rfl, _, rfl, if_f ?_ ?_⟩
    · simp [PyData.eqv, PyData.eqvAll]
    refine ⟨_, rfl, by show 2 ≤ sizeLine; decide, fun p6 hp6 => ⟨p6, _, rfl, .inr (SqT.of upd_same), rfl, rfl, _, rfl, ?_⟩⟩
    rcases c4 with ⟨c4, rfl⟩ | ⟨c4, rfl⟩
    · exact if_t c4 (k _ _ (by walk_at "sm") rfl)
    · exact if_f c4 ⟨_, rfl, k _ _ (by walk_at "sm") rfl⟩
  · cases h3
    refine ⟨_, rfl, star2 (ys := [V.int r, V.int r]) hs (by show 2 ≤ 1000; decide) fun q hq => ⟨_, _, rfl, _, _, rfl, rfl, _, rfl, by show 2 ≤ sizeLine; decide, fun p2 hp2 => ?_⟩⟩
    refine ⟨p2, _, rfl, .inr (SqT.of upd_same), rfl, rfl, _, rfl, if_f (by decide +kernel) ⟨_, rfl, rfl, _, rfl, if_f (by decide +kernel) ⟨_, rfl, rfl, _, rfl, if_t (by decide +kernel) ?_⟩⟩⟩
    have hq2 : upd (upd H q (.lst [V.int r, V.int r])) p2 (.tup [.str "any", .str "all"]) q = some (.lst [V.int r, V.int r]) := by rw [upd_ne (ne_of_none upd_same hp2)]; exact upd_same
    have i0 : atI [V.int r, V.int r] 0 = some (V.int r) := rfl
    have i1 : atI [V.int r, V.int r] 1 = some (V.int r) := rfl
    refine ⟨_, rfl, rfl, _, rfl, if_t (by decide) ?_⟩
    refine ⟨_, rfl, q, _, _, _, rfl, rfl, SqL.of hq2, i0, _, rfl, q, _, _, _, rfl, rfl, SqL.of hq2, i1, rfl, _, rfl, if_t (by simp) ?_⟩
    exact ⟨_, rfl, q, _, _, _, rfl, rfl, SqL.of hq2, i0, k _ _ (by walk_at "sm") rfl⟩
end
end K34
namespace K34
open PySem PySem.Spec PyProof.Rows L2
local macro_rules | `(tactic| walk_at "sm") => `(tactic| (repeat (first | exact Same.refl _ | assumption | refine Same.trans ?_ (same_new (by assumption) _) | refine Same.trans ?_ (by assumption))))
section
variable {P : Program} {w : World} {K : PySem.W.Frag} {mg : Str → Option Value} {base : Heap}
theorem len8 {x : Str} (h : x.length ≤ 8) : x.length ≤ sizeLine := sz (by omega)
theorem bit_in {c : Nat} (h : c = 48 ∨ c = 49 ∨ c = 120) : decide (c ∈ (Str.ofString "01xz").cps.toList) = true := by
  rcases h with rfl | rfl | rfl <;> decide +kernel
def spIsValue : Sp := fun vs H Q _ => ∃ (x : Str) (k : Int), vs = [.str x, .int k] ∧ 1 ≤ x.length ∧ x.length ≤ 8 ∧ Bits x ∧ (k = 0 ∨ k = x.length) ∧ Ret H Q fun v _ => v = .bl true
theorem ok_is_value (T : TX K mg w) : FnOk P w K mg base CX0 1 T.a_is_value T.d_is_value p_is_value spIsValue := by
  refine T.F_is_value.ok sc_is_value (fun vs H Q E h => ?_) (fun cdv A outer s H vs Q E hr h => ?_)
  · obtain ⟨x, k, rfl, _⟩ := h; rfl
  obtain ⟨x, k, rfl, h1, h8, hb, hk, q⟩ := h
  have nd := sc_is_value.nd
  refine ⟨_, PSs.nox ((pss_cons (ps_if (PW.pt (pw_or (pt_not (pt_val (pe_callB call_isi (by rfl) T.z_isinstance (by decide +kernel) (pa_cons (pv 0) (pa_cons (pe_bltn (v := .ty "str") rfl T.z_str (by decide +kernel) rfl) pa_nil))))) (pw_or1 (pt_not (pt_chain op_le op_le pe_int (pe_callB call_len_str (by rfl) T.z_len PySem.boot_len (pa_cons (pv 0) pa_nil)) (pe_glob (v := .int 8) rfl T.m_WIDEST ⟨_, rfl⟩)))))) (pss_one (ps_ret pe_bl)) pss_nil)
      (pss_one (ps_ret (pe_and (pe_callB (cr_all rfl) (by rfl) T.z_all (by decide +kernel) (pa_cons (pe_lc (own := [("sign", 2)]) (g := gName 2) (tt := tYes) rfl nd (pi_str (pv 0)) (blkOk_by (N := n_is_value) (sc := defScope s_is_value) (by decide +kernel)) (fun _ _ _ _ _ => (pg_name (i := 2) nd rfl (Or.inl rfl))) (fun _ _ _ _ _ => pts_nil) (fun _ _ _ _ _ => (pe_cmpR op_inS (pv 2) (pe_glob (v := .str "01xz") rfl T.m_SIGNS ⟨_, rfl⟩) (by rfl)))) pa_nil)) (pe_one (pe_cmpR op_in_seq (pv 1) (pe_tup (pa_cons pe_int (pa_cons (pe_callB call_len_str (by rfl) T.z_len PySem.boot_len (pa_cons (pv 0) pa_nil)) pa_nil))) (by rfl)))))))), ?_⟩
  refine ⟨_, rfl, _, _, _, _, true, rfl, .ty "str", .base (.str x), kit_ty (by decide +kernel), _, rfl, if_f rfl ?_⟩
  refine ⟨_, rfl, x, rfl, len8 h8, _, _, rfl, rfl, _, rfl, if_t (decide_eq_true (by omega)) ⟨_, _, rfl, rfl, _, rfl, if_f ?_ ?_⟩⟩
  · rw [decide_eq_true (show (x.length : Int) ≤ 8 by omega)]; rfl
  refine ⟨_, rfl, x, rfl, fun D hD => ?_⟩
  refine lcD (K := K) walk_str' (List.replicate x.cps.size (.bool true)) (by simp) (by show x.length ≤ 1000; omega) (noLs_iff.mpr fun d hd => by rw [List.eq_of_mem_replicate hd]; rfl) hD (fun _ _ => True.intro) ystr_same ?_ gm_name ?_
  · rintro i _ H1 _ e hi he e1 ⟨rfl, c, hc, rfl⟩ Qy hy
    refine ⟨rfl, _, rfl, _, _, rfl, rfl, ?_⟩
    rw [List.getElem?_replicate] at he
    rw [if_pos hi] at he
    cases he
    rw [bit_in (hb c (by rw [← Array.getElem?_toList] at hc; exact List.mem_of_getElem? hc))]
    exact hy _ _ (Same.refl _) (.bl true)
  · intro ys H1 e1 hys hr1
    have ey : ys = (List.replicate x.cps.size true).map V.bl := (show DpAll K H1 ys ((List.replicate x.cps.size true).map PyData.bool) by rw [List.map_replicate]; exact hr1).bls
    subst ey
    refine ⟨_, _, rfl, SqL.of hys, _, rfl, if_t (by simp) ?_⟩
    refine ⟨_, rfl, _, rfl, x, rfl, len8 h8, by show 2 ≤ sizeLine; decide, fun p hp => ⟨p, _, rfl, .inr (SqT.of upd_same), rfl, rfl, ?_⟩⟩
    have e0 : inV (V.int k) [V.int 0, V.int (x.length : Int)] = true := by
      rcases hk with rfl | rfl
      · rfl
      · simp [inV, eqV]
    show Q (.bl (inV (V.int k) [V.int 0, V.int (x.length : Int)])) _
    rw [e0]
    exact q _ _ (by walk_at "sm") rfl
def spArgs : Sp := fun vs H Q _ => ∃ (o : Str) (k : Int), vs = [.str o] ∧ o ∈ opsL ∧ (k = if o = "pick" then 3 else if o ∈ (["not", "any", "all"] : List Str) then 1 else 2) ∧ Ret H Q fun v _ => v = .int k
theorem ok_arguments_of (T : TX K mg w) : FnOk P w K mg base CX0 1 T.a_arguments_of T.d_arguments_of p_arguments_of spArgs := by
  refine T.F_arguments_of.ok sc_arguments_of (fun vs H Q E h => ?_) (fun cdv A outer s H vs Q E hr h => ?_)
  · obtain ⟨x, k, rfl, _⟩ := h; rfl
  obtain ⟨o, k, rfl, ho, hk, q⟩ := h
  refine ⟨_, ((pss_one (ps_ret (pe_kget2 (pe_glob (v := .ref T.a_ARGUMENTS) rfl T.m_ARGUMENTS rfl) (pv 0) pe_int ⟨rfl, rfl, rfl, rfl⟩)))), ?_⟩
  refine ⟨_, _, _, rfl, T.kd_ARGUMENTS, _, rfl, o, ?_⟩
  have q1 := fun H' e => q (.int k) H' e rfl
  rw [hk] at q1
  simp only [opsL, List.mem_cons, List.not_mem_nil, or_false] at ho
  have n1 : ∀ (u : Value) (v : V), RelV v u → V.int k = v → (∃ u', ∃ v', some u = some u' ∧ RelV v' u' ∧ Q v' H) := fun u v r e => ⟨u, v, rfl, r, by subst e; exact q _ _ (Same.refl _) rfl⟩
  rcases ho with rfl | rfl | rfl | rfl | rfl | rfl | rfl | rfl | rfl | rfl | rfl
  · exact ⟨_, rfl, T.g_not, .inl (n1 _ (.int 1) ⟨_, rfl⟩ (by rw [hk]; decide +kernel))⟩
  · exact ⟨_, rfl, T.g_and, .inr ⟨rfl, q _ _ (Same.refl _) (show V.int 2 = V.int k by rw [hk]; decide +kernel)⟩⟩
  · exact ⟨_, rfl, T.g_or, .inr ⟨rfl, q _ _ (Same.refl _) (show V.int 2 = V.int k by rw [hk]; decide +kernel)⟩⟩
  · exact ⟨_, rfl, T.g_xor, .inr ⟨rfl, q _ _ (Same.refl _) (show V.int 2 = V.int k by rw [hk]; decide +kernel)⟩⟩
  · exact ⟨_, rfl, T.g_plus, .inr ⟨rfl, q _ _ (Same.refl _) (show V.int 2 = V.int k by rw [hk]; decide +kernel)⟩⟩
  · exact ⟨_, rfl, T.g_same, .inr ⟨rfl, q _ _ (Same.refl _) (show V.int 2 = V.int k by rw [hk]; decide +kernel)⟩⟩
  · exact ⟨_, rfl, T.g_less, .inr ⟨rfl, q _ _ (Same.refl _) (show V.int 2 = V.int k by rw [hk]; decide +kernel)⟩⟩
  · exact ⟨_, rfl, T.g_any, .inl (n1 _ (.int 1) ⟨_, rfl⟩ (by rw [hk]; decide +kernel))⟩
  · exact ⟨_, rfl, T.g_all, .inl (n1 _ (.int 1) ⟨_, rfl⟩ (by rw [hk]; decide +kernel))⟩
  · exact ⟨_, rfl, T.g_pick, .inl (n1 _ (.int 3) ⟨_, rfl⟩ (by rw [hk]; decide +kernel))⟩
  · exact ⟨_, rfl, T.g_join, .inr ⟨rfl, q _ _ (Same.refl _) (show V.int 2 = V.int k by rw [hk]; decide +kernel)⟩⟩
def strsV (l : List Str) : List V := l.map V.str
theorem inV_str {x : Str} : ∀ {l : List Str}, inV (.str x) (l.map V.str) = decide (x ∈ l)
  | [] => rfl
  | y :: l => by
    have ih := inV_str (x := x) (l := l)
    unfold inV at ih ⊢
    rw [List.map_cons, List.any_cons, ih]
    by_cases e : x = y
    · subst e; simp [eqV]
    · have e' : ¬ y = x := fun z => e z.symm
      simp [eqV, e, e']
theorem flat_strs : ∀ l : List Str, (l.map V.str).all flatV = true
  | [] => rfl
  | _ :: l => by rw [List.map_cons, List.all_cons, flat_strs l]; rfl
theorem low_in {c : Nat} (h : c ∈ lowers) : decide (c ∈ (Str.ofString "abcdefghijklmnopqrstuvwxyz").cps.toList) = true := by revert c; decide +kernel
theorem dig_in {c : Nat} (h : c ∈ digits) : decide (c ∈ (Str.ofString "0123456789").cps.toList) = true := by revert c; decide +kernel
theorem dig_low {c : Nat} (h : c ∈ digits) : decide (c ∈ (Str.ofString "abcdefghijklmnopqrstuvwxyz").cps.toList) = false := by revert c; decide +kernel
def spIsName : Sp := fun vs H Q _ => ∃ (x : Str), vs = [.str x] ∧ IsNm x ∧ Ret H Q fun v _ => v = .bl true
theorem ok_is_name (T : TX K mg w) : FnOk P w K mg base CX0 1 T.a_is_name T.d_is_name p_is_name spIsName := by
  refine T.F_is_name.ok sc_is_name (fun vs H Q E h => ?_) (fun cdv A outer s H vs Q E hr h => ?_)
  · obtain ⟨x, rfl, _⟩ := h; rfl
  obtain ⟨x, rfl, hn, q⟩ := h
  have nd := sc_is_name.nd
  refine ⟨_, ((pss_cons (ps_if (PW.pt (pw_or (pt_not (pt_val (pe_callB call_isi (by rfl) T.z_isinstance (by decide +kernel) (pa_cons (pv 0) (pa_cons (pe_bltn (v := .ty "str") rfl T.z_str (by decide +kernel) rfl) pa_nil))))) (pw_or (pt_not (pt_chain op_le op_le pe_int (pe_callB call_len_str (by rfl) T.z_len PySem.boot_len (pa_cons (pv 0) pa_nil)) (pe_glob (v := .int 8) rfl T.m_LONGEST_NAME ⟨_, rfl⟩))) (pw_or1 (pt_cmpR op_notInS (pe_ix ix_str (pv 0) pe_int (fun _ _ => rfl)) (pe_glob (v := .str "abcdefghijklmnopqrstuvwxyz") rfl T.m_LETTERS ⟨_, rfl⟩) (by rfl)))))) (pss_one (ps_ret pe_bl)) pss_nil)
      (pss_cons (ps_set (i := 1) nd rfl (Or.inl rfl) (pe_and (pe_cmpR op_notIn_seq (pv 0) (pe_glob (v := .ref T.a_WORDS) rfl T.m_WORDS rfl) (by rfl)) (pe_one (pe_cmpR op_notIn_seq (pv 0) (pe_glob (v := .ref T.a_OTHER_WORDS) rfl T.m_OTHER_WORDS rfl) (by rfl)))))
      (pss_one (ps_ret (pe_and (pv 1) (pe_one (pe_callB (cr_all rfl) (by rfl) T.z_all (by decide +kernel) (pa_cons (pe_lc (own := [("sign", 2)]) (g := gName 2) (tt := tYes) rfl nd (pi_str (pv 0)) (blkOk_by (N := n_is_name) (sc := defScope s_is_name) (by decide +kernel)) (fun _ _ _ _ _ => (pg_name (i := 2) nd rfl (Or.inl rfl))) (fun _ _ _ _ _ => pts_nil) (fun _ _ _ _ _ => (pe_or (pe_cmpR op_inS (pv 2) (pe_glob (v := .str "abcdefghijklmnopqrstuvwxyz") rfl T.m_LETTERS ⟨_, rfl⟩) (by rfl)) (pe_one (pe_cmpR op_inS (pv 2) (pe_glob (v := .str "0123456789") rfl T.m_FIGURES ⟨_, rfl⟩) (by rfl)))))) pa_nil))))))))), ?_⟩
  obtain ⟨c0, hc0, hl0⟩ := hn.hd
  refine ⟨_, rfl, _, _, _, _, true, rfl, .ty "str", .base (.str x), kit_ty (by decide +kernel), _, rfl, if_f rfl ?_⟩
  refine ⟨_, rfl, x, rfl, len8 hn.le, _, _, rfl, rfl, _, rfl, if_t (decide_eq_true (by have := hn.pos; omega)) ⟨_, _, rfl, rfl, _, rfl, if_f ?_ ?_⟩⟩
  · rw [decide_eq_true (show (x.length : Int) ≤ 8 by have := hn.le; omega)]; rfl
  refine ⟨_, rfl, x, 0, c0, rfl, rfl, len8 hn.le, atI_nat (j := 0) (by rw [Array.getElem?_toList]; exact hc0), _, _, rfl, rfl, _, rfl, if_f (by rw [low_in hl0]; rfl) ?_⟩
  have m1 : inV (.str x) (wordsL.map V.str) = false := by rw [inV_str]; exact decide_eq_false hn.nw
  have m2 : inV (.str x) (othersL.map V.str) = false := by rw [inV_str]; exact decide_eq_false hn.no
  have s1 : SqT K H T.a_WORDS (wordsL.map V.str) := T.q_WORDS H
  have s2 : SqT K H T.a_OTHER_WORDS (othersL.map V.str) := T.q_OTHER_WORDS H
  refine ⟨_, rfl, _, _, rfl, .inr s1, rfl, flat_strs _, _, rfl, if_t (by rw [m1]; rfl) ⟨_, rfl, _, _, rfl, .inr s2, rfl, flat_strs _, ?_⟩⟩
  refine ⟨_, rfl, true, by rw [m2]; rfl, if_t rfl ?_⟩
  refine ⟨_, rfl, x, rfl, fun D hD => ?_⟩
  refine lcD (K := K) walk_str' (List.replicate x.cps.size (.bool true)) (by simp) (by have := hn.le; show x.length ≤ 1000; omega) (noLs_iff.mpr fun d hd => by rw [List.eq_of_mem_replicate hd]; rfl) hD (fun _ _ => True.intro) ystr_same ?_ gm_name ?_
  · rintro i _ H1 _ e hi he e1 ⟨rfl, c, hc, rfl⟩ Qy hy
    rw [List.getElem?_replicate] at he
    rw [if_pos hi] at he
    cases he
    have g := hy _ _ (Same.refl _) (.bl true)
    refine ⟨rfl, _, rfl, c, _, rfl, rfl, ?_⟩
    rcases hn.all c (by rw [← Array.getElem?_toList] at hc; exact List.mem_of_getElem? hc) with hcl | hcd
    · exact ⟨true, by rw [low_in hcl], if_t rfl g⟩
    · exact ⟨false, by rw [dig_low hcd], if_f rfl ⟨_, rfl, c, _, rfl, rfl, by rw [dig_in hcd]; exact g⟩⟩
  · intro ys H1 e1 hys hr1
    have ey : ys = (List.replicate x.cps.size true).map V.bl := (show DpAll K H1 ys ((List.replicate x.cps.size true).map PyData.bool) by rw [List.map_replicate]; exact hr1).bls
    subst ey
    refine ⟨_, _, rfl, SqL.of hys, ?_⟩
    have e0 : (List.replicate x.cps.size true).all id = true := by simp
    rw [e0]
    exact q _ _ e1 rfl
def spIsWhole : Sp := fun vs H Q _ => ∃ i : Int, vs = [.int i] ∧ Q (.bl true) H
theorem ok_is_whole (T : TX K mg w) : FnOk P w K mg base CX0 1 T.a_is_whole T.d_is_whole p_is_whole spIsWhole := by
  refine T.F_is_whole.ok sc_is_whole (fun vs H Q E h => ?_) (fun cdv A outer s H vs Q E hr h => ?_)
  · obtain ⟨x, rfl, _⟩ := h; rfl
  obtain ⟨i, rfl, q⟩ := h
  refine ⟨_, ((pss_one (ps_ret (pe_and (pe_callB call_isi (by rfl) T.z_isinstance (by decide +kernel) (pa_cons (pv 0) (pa_cons (pe_bltn (v := .ty "int") rfl T.z_int (by decide +kernel) rfl) pa_nil))) (pe_one (pe_not (pe_callB call_isi (by rfl) T.z_isinstance (by decide +kernel) (pa_cons (pv 0) (pa_cons (pe_bltn (v := .ty "bool") rfl T.z_bool (by decide +kernel) rfl) pa_nil))))))))), ?_⟩
  refine ⟨_, rfl, _, _, _, _, true, rfl, .ty "int", .base (.int i), kit_ty (by decide +kernel), _, rfl, if_t rfl ?_⟩
  exact ⟨_, rfl, _, _, _, _, false, rfl, .ty "bool", .base (.int i), kit_ty (by decide +kernel), _, rfl, q⟩
def spIsWidth : Sp := fun vs H Q _ => ∃ i : Int, vs = [.int i] ∧ 1 ≤ i ∧ i ≤ 8 ∧ Q (.bl true) H
theorem ok_is_width (T : TX K mg w) : FnOk P w K mg base CX0 1 T.a_is_width T.d_is_width p_is_width spIsWidth := by
  refine T.F_is_width.ok sc_is_width (fun vs H Q E h => ?_) (fun cdv A outer s H vs Q E hr h => ?_)
  · obtain ⟨x, rfl, _⟩ := h; rfl
  obtain ⟨i, rfl, h1, h8, q⟩ := h
  refine ⟨_, ((pss_one (ps_ret (pe_and (pe_callB call_isi (by rfl) T.z_isinstance (by decide +kernel) (pa_cons (pv 0) (pa_cons (pe_bltn (v := .ty "int") rfl T.z_int (by decide +kernel) rfl) pa_nil))) (pe_and (pe_not (pe_callB call_isi (by rfl) T.z_isinstance (by decide +kernel) (pa_cons (pv 0) (pa_cons (pe_bltn (v := .ty "bool") rfl T.z_bool (by decide +kernel) rfl) pa_nil)))) (pe_one (pe_chain op_le op_le pe_int (pv 0) (pe_glob (v := .int 8) rfl T.m_WIDEST ⟨_, rfl⟩)))))))), ?_⟩
  refine ⟨_, rfl, _, _, _, _, true, rfl, .ty "int", .base (.int i), kit_ty (by decide +kernel), _, rfl, if_t rfl ?_⟩
  refine ⟨_, rfl, _, _, _, _, false, rfl, .ty "bool", .base (.int i), kit_ty (by decide +kernel), _, rfl, true, rfl, if_t rfl ?_⟩
  refine ⟨_, rfl, _, _, rfl, rfl, _, rfl, if_t (decide_eq_true h1) ⟨_, _, rfl, rfl, ?_⟩⟩
  show Q (V.bl (decide (i ≤ 8))) H
  rw [decide_eq_true h8]
  exact q
theorem tyx_tup {H : Hp} {a : Addr} {xs : List V} (h : SqT K H a xs) : TyX K H (.ref a) (.type "tuple") := by
  rcases h with (h | ⟨o, h⟩) | ⟨o, its, n, h, c, _⟩
  · exact .base (.tup h)
  · exact .fTuple h
  · exact .kTuple h c
def spIsRow (K : PySem.W.Frag) : Sp := fun vs H Q _ => ∃ (a : Addr) (xs : List V), vs = [.ref a] ∧ SqT K H a xs ∧ xs.length = 4 ∧ Q (.bl true) H
theorem ok_is_row (T : TX K mg w) : FnOk P w K mg base CX0 1 T.a_is_row T.d_is_row p_is_row (spIsRow K) := by
  refine T.F_is_row.ok sc_is_row (fun vs H Q E h => ?_) (fun cdv A outer s H vs Q E hr h => ?_)
  · obtain ⟨a, xs, rfl, _⟩ := h; rfl
  obtain ⟨a, xs, rfl, hs, h4, q⟩ := h
  refine ⟨_, ((pss_one (ps_ret (pe_and (pe_callB call_isi (by rfl) T.z_isinstance (by decide +kernel) (pa_cons (pv 0) (pa_cons (pe_bltn (v := .ty "tuple") rfl T.z_tuple (by decide +kernel) rfl) pa_nil))) (pe_one (pe_cmpR op_eq (pe_callB call_len_seq (by rfl) T.z_len PySem.boot_len (pa_cons (pv 0) pa_nil)) (pe_glob (v := .int 4) rfl T.m_FIELDS ⟨_, rfl⟩) (nomark _))))))), ?_⟩
  refine ⟨_, rfl, _, _, _, _, true, rfl, .ty "tuple", tyx_tup hs, kit_ty (by decide +kernel), _, rfl, if_t rfl ?_⟩
  refine ⟨_, rfl, a, xs, rfl, .inr hs, rfl, ?_⟩
  rw [decide_eq_true (show V.int (xs.length : Int) = V.int 4 by rw [h4]; rfl)]
  exact q
end
end K34
namespace K34
open PySem PySem.Spec PyProof.Rows L2
local macro_rules | `(tactic| walk_at "sm") => `(tactic| (repeat (first | exact Same.refl _ | assumption | refine Same.trans ?_ (same_new (by assumption) _) | refine Same.trans ?_ (by assumption))))
theorem fn_none {P : Program} {w : World} {K : PySem.W.Frag} {mg : Str → Option Value} {base : Heap} {CX : CXT} {k : Nat} {f : Addr} {fd : FuncData} {ps : List Str} {sp : Sp} (no : ∀ vs H Q E, ¬ sp vs H Q E) : FnOk P w K mg base CX k f fd ps sp :=
  ⟨fun vs H Q E h => absurd h (no vs H Q E), fun A outer s H args us vs Q E _ _ _ _ h => absurd h (no vs H Q E)⟩
/-! ### data that == takes -/
theorem strOk_of {x : Str} (h : ∀ c ∈ x.cps.toList, c < 1114112) : PyData.strOk x = true := by
  unfold PyData.strOk
  rw [Array.all_eq_true_iff_forall_mem]
  exact fun c hc => decide_eq_true (h c (Array.mem_toList_iff.mpr hc))
theorem strOk_bits {x : Str} (h : Bits x) : PyData.strOk x = true := strOk_of fun c hc => by rcases h c hc with rfl | rfl | rfl <;> decide
theorem strOk_nm {x : Str} (h : IsNm x) : PyData.strOk x = true := strOk_of fun c hc => by
  rcases h.all c hc with h | h
  · exact (show ∀ c ∈ lowers, c < 1114112 by decide +kernel) c h
  · exact (show ∀ c ∈ digits, c < 1114112 by decide +kernel) c h
theorem strOk_op {o : Str} (h : o ∈ opsL) : PyData.strOk o = true := by revert o; decide +kernel
theorem Ok.lay {g : Ctx} (G : GOk g) {n : Nat} {w : Int} {t : Tm} (h : Ok g n w t) : t.d.canLay0 = true ∧ t.d.depth ≤ n := by
  have e1 : PyData.strOk "is" = true := by decide +kernel
  have e2 : PyData.strOk "of" = true := by decide +kernel
  have e3 : PyData.strOk "part" = true := by decide +kernel
  induction h with
  | is hl h1 h8 hb => exact ⟨by simp [Tm.d, PyData.canLay0, PyData.canLayAll0, e1, strOk_bits hb], by simp [Tm.d, PyData.depth, PyData.depthAll]⟩
  | of h => exact ⟨by simp [Tm.d, PyData.canLay0, PyData.canLayAll0, e2, strOk_nm (G.nm _ _ h)], by simp [Tm.d, PyData.depth, PyData.depthAll]⟩
  | op1 h _ ia => exact ⟨by simp [Tm.d, PyData.canLay0, PyData.canLayAll0, strOk_op h.mem, ia.1], by have := ia.2; simp only [Tm.d, PyData.depth, PyData.depthAll]; omega⟩
  | op2 h _ _ ia ib => exact ⟨by simp [Tm.d, PyData.canLay0, PyData.canLayAll0, strOk_op h.mem, ia.1, ib.1], by have := ia.2; have := ib.2; simp only [Tm.d, PyData.depth, PyData.depthAll]; omega⟩
  | op3 h _ _ _ ia ib ic => exact ⟨by simp [Tm.d, PyData.canLay0, PyData.canLayAll0, strOk_op h.mem, ia.1, ib.1, ic.1], by have := ia.2; have := ib.2; have := ic.2; simp only [Tm.d, PyData.depth, PyData.depthAll]; omega⟩
  | part _ h0 h1 h2 hw ia => exact ⟨by simp [Tm.d, PyData.canLay0, PyData.canLayAll0, e3, ia.1], by have := ia.2; simp only [Tm.d, PyData.depth, PyData.depthAll]; omega⟩
theorem Ok.shaped {g : Ctx} (G : GOk g) {n : Nat} {w : Int} {t : Tm} (h : Ok g n w t) (hn : n ≤ 60) : SeqAt.shaped t.d = true := by
  unfold SeqAt.shaped
  rw [(h.lay G).1, decide_eq_true (Nat.le_trans (h.lay G).2 (by omega))]
  rfl
theorem Tm.size_kids {g : Ctx} {n : Nat} {w : Int} {t : Tm} (h : Ok g n w t) : t.size = 1 + (t.kids.map Tm.size).sum := by
  cases h <;> simp [Tm.size, Tm.kids]
theorem Ok.kids {g : Ctx} {n : Nat} {w : Int} {t : Tm} (h : Ok g (n + 1) w t) : ∀ u ∈ t.kids, ∃ k, Ok g n k u := by
  cases h with
  | is => intro u hu; exact absurd hu (by simp [Tm.kids])
  | of => intro u hu; exact absurd hu (by simp [Tm.kids])
  | op1 h ha => intro u hu; simp only [Tm.kids, List.mem_singleton] at hu; subst hu; exact ⟨_, ha⟩
  | op2 h ha hb => intro u hu; simp only [Tm.kids, List.mem_cons, List.not_mem_nil, or_false] at hu; rcases hu with rfl | rfl; exact ⟨_, ha⟩; exact ⟨_, hb⟩
  | op3 h ha hb hc => intro u hu; simp only [Tm.kids, List.mem_cons, List.not_mem_nil, or_false] at hu; rcases hu with rfl | rfl | rfl; exact ⟨_, ha⟩; exact ⟨_, hb⟩; exact ⟨_, hc⟩
  | part ha => intro u hu; simp only [Tm.kids, List.mem_singleton] at hu; subst hu; exact ⟨_, ha⟩
theorem inV_int0 : ∀ {l : List Int}, (∀ k ∈ l, 1 ≤ k) → inV (.int 0) (l.map V.int) = false
  | [], _ => rfl
  | k :: l, h => by
    have ih := inV_int0 (l := l) fun j hj => h j (List.mem_cons_of_mem _ hj)
    have hk := h k List.mem_cons_self
    unfold inV at ih ⊢
    rw [List.map_cons, List.any_cons, ih]
    have : ¬ k = 0 := by omega
    simp [eqV, this]
theorem flat_ints : ∀ l : List Int, (l.map V.int).all flatV = true
  | [] => rfl
  | _ :: l => by rw [List.map_cons, List.all_cons, flat_ints l]; rfl
section
variable {P : Program} {w : World} {K : PySem.W.Frag} {mg : Str → Option Value} {base : Heap}
def spBounds (K : PySem.W.Frag) : Sp := fun vs H Q _ => ∃ (a : Addr) (hi lo : Int), vs = [.ref a] ∧ SqL K H a [.int hi, .int lo] ∧ 0 ≤ lo ∧ lo ≤ hi ∧ hi < 8 ∧ Ret H Q fun v _ => v = .bl true
theorem ok_are_bounds (T : TX K mg w) (G_is_whole : FnOk P w K mg base CX0 1 T.a_is_whole T.d_is_whole p_is_whole spIsWhole) : FnOk P w K mg base CX0 2 T.a_are_bounds T.d_are_bounds p_are_bounds (spBounds K) := by
  refine T.F_are_bounds.ok sc_are_bounds (fun vs H Q E h => ?_) (fun cdv A outer s H vs Q E hr h => ?_)
  · obtain ⟨a, hi, lo, rfl, _⟩ := h; rfl
  obtain ⟨a, hi, lo, rfl, hs, h0, h1, h8, q⟩ := h
  have nd := sc_are_bounds.nd
  refine ⟨_, ((pss_cons (ps_if (PW.pt (pw_or (pt_cmpR op_ne (pe_callB call_len_seq (by rfl) T.z_len PySem.boot_len (pa_cons (pv 0) pa_nil)) pe_int (nomark _)) (pw_or1 (pt_not (pt_val (pe_callB (cr_all rfl) (by rfl) T.z_all (by decide +kernel) (pa_cons (pe_lc (own := [("thing", 3)]) (g := gName 3) (tt := tYes) rfl nd (pi_list (pv 0)) (blkOk_by (N := n_are_bounds) (sc := defScope s_are_bounds) (by decide +kernel)) (fun _ _ _ _ _ => (pg_name (i := 3) nd rfl (Or.inl rfl))) (fun _ _ _ _ _ => pts_nil) (fun _ _ _ _ _ => (pe_call G_is_whole (hr.mono (by omega)) rfl T.m_is_whole T.k_is_whole T.b_is_whole .nil pass0 (pa_cons (pv 3) pa_nil)))) pa_nil))))))) (pss_one (ps_ret pe_bl)) pss_nil)
      (pss_cons (ps_asg (pv 0) (pg_unl rfl (pgs_cons (pg_name (i := 1) nd rfl (Or.inl rfl)) (pgs_cons (pg_name (i := 2) nd rfl (Or.inl rfl)) pgs_nil))))
      (pss_one (ps_ret (pe_chain3 op_le op_le op_lt pe_int (pv 2) (pv 1) (pe_glob (v := .int 8) rfl T.m_WIDEST ⟨_, rfl⟩))))))), ?_⟩
  refine ⟨_, rfl, a, _, rfl, .inl hs, rfl, _, rfl, if_f rfl ?_⟩
  refine ⟨_, rfl, a, rfl, ⟨_, hs⟩, fun D hD => ?_⟩
  refine lcD (K := K) walk_list [.bool true, .bool true] rfl (by show 2 ≤ 1000; decide) rfl hD (fun _ e => e.seq hs) yat_same ?_ gm_name ?_
  · rintro i x H1 _ e hi' he e1 ⟨rfl, hx⟩ Qy hy
    refine ⟨rfl, _, rfl, ?_⟩
    match i, hx, he with
    | 0, hx, he => cases hx; cases he; exact ⟨_, rfl, hy _ _ (Same.refl _) (.bl true)⟩
    | 1, hx, he => cases hx; cases he; exact ⟨_, rfl, hy _ _ (Same.refl _) (.bl true)⟩
    | n + 2, hx, he => cases he
  · intro ys H1 e1 hys hr1
    obtain rfl : ys = [true, true].map V.bl := (show DpAll K H1 ys ([true, true].map PyData.bool) from hr1).bls
    refine ⟨_, _, rfl, SqL.of hys, _, rfl, if_f rfl ?_⟩
    refine ⟨_, rfl, a, _, rfl, e1.seq hs, rfl, _, _, rfl, _, _, rfl, rfl, ?_⟩
    refine ⟨_, rfl, _, _, rfl, rfl, true, congrArg V.bl (decide_eq_true h0), if_t rfl ⟨_, rfl, _, _, rfl, rfl, true, congrArg V.bl (decide_eq_true h1), if_t rfl ⟨_, _, rfl, rfl, ?_⟩⟩⟩
    show Q (V.bl (decide (hi < 8))) H1
    rw [decide_eq_true h8]
    exact q _ _ e1 rfl
theorem bits_z {x : Str} (h : Bits x) : (122 : Nat) ∉ x.cps.toList := fun hz => by rcases h _ hz with h | h | h <;> exact absurd h (by decide)
def spLeafW (K : PySem.W.Frag) : Sp := fun vs H Q _ => ∃ (o x : Str) (a : Addr), vs = [.str o, .ref a] ∧ SqL K H a [.str x] ∧ ((o = "of" ∧ IsNm x) ∨ (o = "is" ∧ 1 ≤ x.length ∧ x.length ≤ 8 ∧ Bits x)) ∧ Ret H Q fun v _ => v = .int 1
theorem ok_leaf_weight (T : TX K mg w) (G_is_name : FnOk P w K mg base CX0 1 T.a_is_name T.d_is_name p_is_name spIsName) (G_is_value : FnOk P w K mg base CX0 1 T.a_is_value T.d_is_value p_is_value spIsValue) :
    FnOk P w K mg base CX0 2 T.a_leaf_weight T.d_leaf_weight p_leaf_weight (spLeafW K) := by
  refine T.F_leaf_weight.ok sc_leaf_weight (fun vs H Q E h => ?_) (fun cdv A outer s H vs Q E hr h => ?_)
  · obtain ⟨o, x, a, rfl, _⟩ := h; rfl
  obtain ⟨o, x, a, rfl, hs, hc, q⟩ := h
  have nd := sc_leaf_weight.nd
  refine ⟨_, ((pss_cons (ps_set (i := 2) nd rfl (Or.inl rfl) (pe_and (pe_cmpR op_eq (pe_callB call_len_seq (by rfl) T.z_len PySem.boot_len (pa_cons (pv 1) pa_nil)) pe_int (nomark _)) (pe_one (pe_ifExp (pt_cmpR op_eq (pv 0) pe_str (nomark _)) (pe_call G_is_name (hr.mono (by omega)) rfl T.m_is_name T.k_is_name T.b_is_name .nil pass0 (pa_cons (pe_ix ix_list (pv 1) pe_int (fun _ _ => rfl)) pa_nil)) (pe_call G_is_value (hr.mono (by omega)) rfl T.m_is_value T.k_is_value T.bd_is_value T.bv_is_value pass0 (pa_cons (pe_ix ix_list (pv 1) pe_int (fun _ _ => rfl)) pa_nil))))))
      (pss_one (ps_ret (pe_callTy call_int1 (by rfl) T.z_int (by decide +kernel) (pa_cons (pe_and (pv 2) (pe_one (pe_or (pe_cmpR op_eq (pv 0) pe_str (nomark _)) (pe_one (pe_cmpR op_notInS pe_str (pe_ix ix_list (pv 1) pe_int (fun _ _ => rfl)) (by rfl)))))) pa_nil)))))), ?_⟩
  have i0 : atI [V.str x] 0 = some (.str x) := rfl
  refine ⟨_, rfl, a, _, rfl, .inl hs, rfl, _, rfl, if_t (by rfl) ?_⟩
  rcases hc with ⟨rfl, hn⟩ | ⟨rfl, h1, h8, hb⟩
  · refine ⟨_, rfl, rfl, _, rfl, if_t (by decide +kernel) ?_⟩
    refine ⟨_, rfl, a, _, _, _, rfl, rfl, hs, i0, x, rfl, hn, ?_⟩
    rintro _ H1 e1 rfl
    refine ⟨_, rfl, true, rfl, if_t rfl ⟨_, rfl, rfl, true, by decide +kernel, if_t rfl (.inr ⟨_, rfl, q _ _ e1 rfl⟩)⟩⟩
  · refine ⟨_, rfl, rfl, _, rfl, if_f (by decide +kernel) ?_⟩
    refine ⟨_, rfl, a, _, _, _, rfl, rfl, hs, i0, x, 0, rfl, h1, h8, hb, .inl rfl, ?_⟩
    rintro _ H1 e1 rfl
    refine ⟨_, rfl, true, rfl, if_t rfl ⟨_, rfl, rfl, false, by decide +kernel, if_f rfl ?_⟩⟩
    refine ⟨_, rfl, a, _, _, _, rfl, rfl, e1.seq hs, i0, 122, x, rfl, rfl, .inr ⟨_, rfl, ?_⟩⟩
    rw [decide_eq_false (bits_z hb)]
    exact q _ _ e1 rfl
end
end K34
namespace K34
open PySem PySem.Spec PyProof.Rows L2
local macro_rules | `(tactic| walk_at "sm") => `(tactic| (repeat (first | exact Same.refl _ | assumption | refine Same.trans ?_ (same_new (by assumption) _) | refine Same.trans ?_ (by assumption))))
theorem atI_0 {α : Type} {x : α} {xs : List α} : atI (x :: xs) 0 = some x := atI_nat (j := 0) rfl
theorem words_in {o : Str} (h : o ∈ opsL) : inV (.str o) (wordsL.map V.str) = true := by rw [inV_str]; revert o; decide +kernel
theorem O1.argc {o : Str} {a r : Int} (h : O1 o a r) : (1 : Int) = if o = "pick" then 3 else if o ∈ (["not", "any", "all"] : List Str) then 1 else 2 := by cases h <;> decide +kernel
theorem O2.argc {o : Str} {a b r : Int} (h : O2 o a b r) : (2 : Int) = if o = "pick" then 3 else if o ∈ (["not", "any", "all"] : List Str) then 1 else 2 := by cases h <;> decide +kernel
theorem O3.argc {o : Str} {a b c r : Int} (h : O3 o a b c r) : (3 : Int) = if o = "pick" then 3 else if o ∈ (["not", "any", "all"] : List Str) then 1 else 2 := by cases h <;> decide +kernel
/-- a term's tuple: leaf, part, operator -/
theorem Ok.shape2 {g : Ctx} {n : Nat} {w : Int} {t : Tm} (h : Ok g n w t) : (∃ x, t = .is x ∧ 1 ≤ x.length ∧ x.length ≤ 8 ∧ Bits x) ∨ (∃ x, t = .of x ∧ (x, w) ∈ g) ∨ (∃ a hi lo, t = .part a hi lo ∧ 0 ≤ lo ∧ lo ≤ hi ∧ w = hi - lo + 1) ∨
    ∃ o, o ∈ opsL ∧ t.d = .tuple (.str o :: t.kids.map Tm.d) ∧ (t.kids.length : Int) = (if o = "pick" then 3 else if o ∈ (["not", "any", "all"] : List Str) then 1 else 2) := by
  cases h with
  | is hl h1 h8 hb => exact .inl ⟨_, rfl, by omega, by omega, hb⟩
  | of h => exact .inr (.inl ⟨_, rfl, h⟩)
  | op1 h => exact .inr (.inr (.inr ⟨_, h.mem, rfl, h.argc⟩))
  | op2 h => exact .inr (.inr (.inr ⟨_, h.mem, rfl, h.argc⟩))
  | op3 h => exact .inr (.inr (.inr ⟨_, h.mem, rfl, h.argc⟩))
  | part _ h0 h1 h2 hw => exact .inr (.inr (.inl ⟨_, _, _, rfl, h0, h1, hw⟩))
section
variable {P : Program} {w : World} {K : PySem.W.Frag} {mg : Str → Option Value} {base : Heap}
def spTW (K : PySem.W.Frag) (n : Nat) : Sp := fun vs H Q _ => ∃ (v : V) (k : Int) (t : Tm) (g : Ctx) (wd : Int), vs = [v, .int k] ∧ Dp K H v t.d ∧ Ok g n wd t ∧ GOk g ∧ (n : Int) ≤ k ∧ n ≤ 10 ∧ Ret H Q fun r _ => r = .int t.size
theorem ok_term_weight1 (T : TX K mg w) (n : Nat) (G_term_weight : FnOk P w K mg base CX0 (n + 3) T.a_term_weight T.d_term_weight p_term_weight (spTW K n))
    (G_leaf_weight : FnOk P w K mg base CX0 2 T.a_leaf_weight T.d_leaf_weight p_leaf_weight (spLeafW K)) (G_are_bounds : FnOk P w K mg base CX0 2 T.a_are_bounds T.d_are_bounds p_are_bounds (spBounds K))
    (G_arguments_of : FnOk P w K mg base CX0 1 T.a_arguments_of T.d_arguments_of p_arguments_of spArgs) : FnOk P w K mg base CX0 (n + 1 + 3) T.a_term_weight T.d_term_weight p_term_weight (spTW K (n + 1)) := by
  refine T.F_term_weight.ok sc_term_weight (fun vs H Q E h => ?_) (fun cdv A outer s H vs Q E hr h => ?_)
  · obtain ⟨v, k, t, g, wd, rfl, _⟩ := h; rfl
  obtain ⟨v, k, t, g, wd, rfl, hv, ho, G, hk, h10, q⟩ := h
  have nd := sc_term_weight.nd
  refine ⟨_, PSs.nox ((pss_cons (ps_if (PW.pt (pw_or (pt_cmpR op_eq (pv 1) pe_int (nomark _)) (pw_or (pt_not (pt_val (pe_callB call_isi (by rfl) T.z_isinstance (by decide +kernel) (pa_cons (pv 0) (pa_cons (pe_bltn (v := .ty "tuple") rfl T.z_tuple (by decide +kernel) rfl) pa_nil))))) (pw_or (pt_cmpR (op_eqD hr.units) (pv 0) (pe_tup pa_nil) (nomark _)) (pw_or1 (pt_not (pt_val (pe_callB call_isi (by rfl) T.z_isinstance (by decide +kernel) (pa_cons (pe_ix ix_tup (pv 0) pe_int (fun _ _ => rfl)) (pa_cons (pe_bltn (v := .ty "str") rfl T.z_str (by decide +kernel) rfl) pa_nil)))))))))) (pss_one (ps_ret pe_int)) pss_nil)
      (pss_cons (ps_asg (pv 0) (pg_starT (n := 2) (i := 1) rfl (pgs_cons (pg_name (i := 2) nd rfl (Or.inl rfl)) (pgs_star (pg_name (i := 3) nd rfl (Or.inl rfl)) pgs_nil))))
      (pss_cons (ps_if (pt_cmpR op_in_seq (pv 2) (pe_tup (pa_cons pe_str (pa_cons pe_str pa_nil))) (by rfl)) (pss_one (ps_ret (pe_call G_leaf_weight (hr.mono (by omega)) rfl T.m_leaf_weight T.k_leaf_weight T.b_leaf_weight .nil pass0 (pa_cons (pv 2) (pa_cons (pv 3) pa_nil))))) pss_nil)
      (pss_cons (ps_if (pt_cmpR op_eq (pv 2) pe_str (nomark _)) (pss_one (ps_par (i := 4) (j := 5) (by rfl) nd rfl rfl (by decide) rfl rfl (pa_cons (pe_slice sl_list (pv 3) po_none (po_some pe_int)) (pa_cons (pe_call G_are_bounds (hr.mono (by omega)) rfl T.m_are_bounds T.k_are_bounds T.b_are_bounds .nil pass0 (pa_cons (pe_slice sl_list (pv 3) (po_some pe_int) po_none) pa_nil)) pa_nil)) (by rfl))) (pss_one (ps_par (i := 4) (j := 5) (by rfl) nd rfl rfl (by decide) rfl rfl (pa_cons (pv 3) (pa_cons (pe_and (pe_cmpR op_in_seq (pv 2) (pe_glob (v := .ref T.a_WORDS) rfl T.m_WORDS rfl) (by rfl)) (pe_one (pe_cmpR op_eq (pe_callB call_len_seq (by rfl) T.z_len PySem.boot_len (pa_cons (pv 3) pa_nil)) (pe_call G_arguments_of (hr.mono (by omega)) rfl T.m_arguments_of T.k_arguments_of T.b_arguments_of .nil pass0 (pa_cons (pv 2) pa_nil)) (nomark _)))) pa_nil)) (by rfl))))
      (pss_cons (ps_set (i := 6) nd rfl (Or.inl rfl) (pe_ifExp (pt_val (pv 5)) (pe_lc (own := [("term", 7)]) (g := gName 7) (tt := tYes) rfl nd (pi_list (pv 4)) (blkOk_by (N := n_term_weight) (sc := defScope s_term_weight) (by decide +kernel)) (fun _ _ _ _ _ => (pg_name (i := 7) nd rfl (Or.inl rfl))) (fun _ _ _ _ _ => pts_nil) (fun _ _ _ _ _ => (pe_call G_term_weight (hr.mono (by omega)) rfl T.m_term_weight T.k_term_weight T.b_term_weight .nil pass0 (pa_cons (pv 7) (pa_cons (pe_op op_sub (pv 1) pe_int) pa_nil))))) (pe_lst (pa_cons pe_int pa_nil))))
      (pss_one (ps_ret (pe_ifExp (pt_cmpR op_in_seq pe_int (pv 6) (by rfl)) pe_int (pe_op op_add pe_int (pe_callB (cr_sum rfl) (by rfl) T.z_sum (by decide +kernel) (pa_cons (pv 6) pa_nil)))))))))))), ?_⟩
  obtain ⟨o, ds, ed⟩ : ∃ o ds, t.d = .tuple (.str o :: ds) := by
    cases ho <;> exact ⟨_, _, rfl⟩
  have hsh := ho.shaped G (by omega)
  have hv' := hv
  rw [ed] at hv'
  obtain ⟨p, xs, rfl, hs, r⟩ := Dp.tup_inv hv'
  obtain ⟨v0, ys, rfl, h0, r0⟩ := DpAll.cons_inv r
  obtain rfl := Dp.str_inv h0
  refine ⟨_, rfl, rfl, _, rfl, if_f (decide_eq_false fun z => by have := V.int.inj z; omega) ?_⟩
  refine ⟨_, rfl, _, _, _, _, true, rfl, .ty "tuple", tyx_tup hs, kit_ty (by decide +kernel), _, rfl, if_f rfl ?_⟩
  refine ⟨_, rfl, by show 0 ≤ sizeLine; decide, fun p0 hp0 => ?_⟩
  have f0 : Same H (upd H p0 (.tup [])) := same_new hp0 _
  refine ⟨t.d, .tuple [], hv.mono f0, .tup (SqT.of upd_same) .nil, hsh, rfl, _, rfl, if_f (by rw [ed]; rfl) ?_⟩
  have hs0 := Evl.ex_t f0 hs
  refine ⟨_, rfl, p, _, _, _, rfl, rfl, hs0, atI_0, _, _, _, _, true, rfl, .ty "str", .base (.str o), kit_ty (by decide +kernel), _, rfl, if_f rfl ?_⟩
  have l3 := ho.kids_le
  have lys : ys.length = ds.length := r0.length
  have ld : ds.length ≤ 3 := by
    cases ho <;> (cases ed; simp)
  refine ⟨_, rfl, star2 hs0 (by omega) fun q1 hq1 => ?_⟩
  have f1 : Same H (upd (upd H p0 (.tup [])) q1 (.lst ys)) := by walk_at "sm"
  refine ⟨_, _, rfl, _, _, rfl, rfl, _, rfl, by show 2 ≤ sizeLine; decide, fun p2 hp2 => ?_⟩
  have f2 : Same H (upd (upd (upd H p0 (.tup [])) q1 (.lst ys)) p2 (.tup [.str "is", .str "of"])) := by walk_at "sm"
  have hys : upd (upd (upd H p0 (.tup [])) q1 (.lst ys)) p2 (.tup [.str "is", .str "of"]) q1 = some (.lst ys) := by rw [upd_ne (ne_of_none upd_same hp2)]; exact upd_same
  refine ⟨p2, _, rfl, .inr (SqT.of upd_same), rfl, rfl, _, rfl, ?_⟩
  have fin : ∀ (H3 : Hp) (pw : Addr) (ms : List Int), Same H H3 → H3 pw = some (.lst (ms.map V.int)) → (∀ m ∈ ms, 1 ≤ m) → t.size = 1 + ms.sum → Q (.int (1 + ms.sum)) H3 := fun H3 pw ms e _ _ es => q _ _ e (by rw [es])
  rcases ho.shape2 with ⟨x, rfl, hx1, hx8, hxb⟩ | ⟨x, rfl, hxg⟩ | ⟨a, hi, lo, rfl, hl0, hl1, hw⟩ | ⟨o', om, e', ea⟩
  · cases ed
    obtain ⟨v1, _, rfl, h1, r1⟩ := DpAll.cons_inv r0
    obtain rfl := DpAll.nil_inv r1
    obtain rfl := Dp.str_inv h1
    refine if_t (by decide +kernel) ⟨_, rfl, _, rfl, "is", x, q1, rfl, SqL.of hys, .inr ⟨rfl, hx1, hx8, hxb⟩, ?_⟩
    rintro _ H3 e3 rfl
    exact q _ _ (f2.trans e3) rfl
  · cases ed
    obtain ⟨v1, _, rfl, h1, r1⟩ := DpAll.cons_inv r0
    obtain rfl := DpAll.nil_inv r1
    obtain rfl := Dp.str_inv h1
    refine if_t (by decide +kernel) ⟨_, rfl, _, rfl, "of", x, q1, rfl, SqL.of hys, .inl ⟨rfl, G.nm _ _ hxg⟩, ?_⟩
    rintro _ H3 e3 rfl
    exact q _ _ (f2.trans e3) rfl
  · cases ed
    have ha : Ok g n (wd - wd + (wd - wd)) a ∨ ∃ k, Ok g n k a ∧ hi < k ∧ k ≤ 8 := by
      cases ho with
      | part ha _ _ h2 _ => exact .inr ⟨_, ha, h2, (ha.pos G).2⟩
    obtain ⟨k', ha, h2, h8⟩ : ∃ k, Ok g n k a ∧ hi < k ∧ k ≤ 8 := by
      cases ho with
      | part ha _ _ h2 _ => exact ⟨_, ha, h2, (ha.pos G).2⟩
    obtain ⟨v1, _, rfl, h1, r1⟩ := DpAll.cons_inv r0
    obtain ⟨v2, _, rfl, h2', r2⟩ := DpAll.cons_inv r1
    obtain ⟨v3, _, rfl, h3, r3⟩ := DpAll.cons_inv r2
    obtain rfl := DpAll.nil_inv r3
    obtain rfl := Dp.int_inv h2'
    obtain rfl := Dp.int_inv h3
    refine if_f (by decide +kernel) ⟨_, rfl, rfl, _, rfl, if_t (by decide +kernel) ?_⟩
    refine ⟨_, rfl, _, rfl, q1, _, rfl, SqL.of hys, fun p3 hp3 => ?_⟩
    have ec : cutV [v1, .int hi, .int lo] none (some 1) = [v1] := rfl
    have ec2 : cutV [v1, .int hi, .int lo] (some 1) none = [.int hi, .int lo] := rfl
    rw [ec]
    refine ⟨_, rfl, _, rfl, q1, _, rfl, SqL.of (by rw [upd_ne (ne_of_none hys hp3)]; exact hys), fun p4 hp4 => ?_⟩
    rw [ec2]
    refine ⟨p4, hi, lo, rfl, SqL.of upd_same, hl0, hl1, by omega, ?_⟩
    rintro _ H5 e5 rfl
    have f5 : Same H H5 := by walk_at "sm"
    have hp35 : H5 p3 = some (.lst [v1]) := e5 _ _ (by rw [upd_ne (ne_of_none upd_same hp4)]; exact upd_same)
    refine ⟨_, _, rfl, ⟨_, rfl, true, rfl, if_t rfl ⟨_, rfl, p3, rfl, ⟨_, SqL.of hp35⟩, fun D hD => ?_⟩⟩⟩
    refine lcD (K := K) walk_list [.int a.size] rfl (by show 1 ≤ 1000; decide) rfl hD (fun _ e => e.seq (SqL.of hp35)) yat_same ?_ gm_name ?_
    · rintro i x H6 _ e hi' he e6 ⟨rfl, hx⟩ Qy hy
      match i, hx, he with
      | 0, hx, he =>
        cases hx; cases he
        refine ⟨rfl, _, rfl, _, rfl, _, _, rfl, rfl, _, _, a, g, k', rfl, h1.mono (f5.trans e6), ha, G, by omega, by omega, ?_⟩
        rintro _ H7 e7 rfl
        exact hy _ _ e7 (.int _)
      | n + 1, hx, he => cases he
    · intro zs H6 e6 hzs hr6
      obtain rfl : zs = [a.size].map V.int := (show DpAll K H6 zs ([a.size].map PyData.int) from hr6).ints
      have pa := ha.size_pos
      refine ⟨_, rfl, D, _, rfl, .inl (SqL.of hzs), rfl, flat_ints _, _, rfl, if_f (inV_int0 (by simpa using pa)) ?_⟩
      refine ⟨_, rfl, D, [a.size], rfl, SqL.of hzs, _, _, rfl, rfl, ?_⟩
      exact q _ _ (f5.trans e6) (by simp [Tm.size])
  · rw [e'] at ed
    cases ed
    have hk' := ho.kids
    refine if_f (ops_io om) ⟨_, rfl, rfl, _, rfl, if_f (ops_part om) ?_⟩
    have hq2 := SqT.of (K := K) (H := upd (upd (upd H p0 (.tup [])) q1 (.lst ys)) p2 (.tup [.str "is", .str "of"])) (a := p2) upd_same
    refine ⟨_, rfl, _, rfl, _, _, rfl, .inr (T.q_WORDS _), rfl, flat_strs wordsL, true, ?_, ?_⟩
    · show V.bl (inV (V.str o) (wordsL.map V.str)) = V.bl true
      rw [words_in om]
    refine if_t rfl ⟨_, rfl, q1, _, rfl, .inl (SqL.of hys), _, rfl, o, _, rfl, om, rfl, ?_⟩
    rintro _ H5 e5 rfl
    refine ⟨rfl, ?_⟩
    have f5 : Same H H5 := f2.trans e5
    have hys5 : H5 q1 = some (.lst ys) := e5 _ _ hys
    have eq1 : decide (V.int (ys.length : Int) = V.int (if o = "pick" then 3 else if o ∈ (["not", "any", "all"] : List Str) then 1 else 2)) = true := by
      rw [lys, List.length_map, ← ea]
      simp
    refine ⟨_, _, rfl, ⟨_, rfl, true, congrArg V.bl eq1, if_t rfl ⟨_, rfl, q1, rfl, ⟨_, SqL.of hys5⟩, fun D hD => ?_⟩⟩⟩
    refine lcD (K := K) walk_list (t.kids.map fun u => PyData.int u.size) (by rw [List.length_map, lys, List.length_map]) (by omega) (noLs_iff.mpr fun d hd => by rw [List.mem_map] at hd; obtain ⟨u, _, rfl⟩ := hd; rfl) hD (fun _ e => e.seq (SqL.of hys5)) yat_same ?_ gm_name ?_
    · rintro i x H6 _ e hi' he e6 ⟨rfl, hx⟩ Qy hy
      rw [List.getElem?_map] at he
      obtain ⟨d, hd, hxd⟩ := r0.get hx
      rw [List.getElem?_map] at hd
      cases hu : t.kids[i]? with
      | none => rw [hu] at he; cases he
      | some u =>
        rw [hu] at he hd
        cases he; cases hd
        obtain ⟨ku, hku⟩ := hk' u (List.mem_of_getElem? hu)
        refine ⟨rfl, _, rfl, _, rfl, _, _, rfl, rfl, _, _, u, g, ku, rfl, hxd.mono (f5.trans e6), hku, G, by omega, by omega, ?_⟩
        rintro _ H7 e7 rfl
        exact hy _ _ e7 (.int _)
    · intro zs H6 e6 hzs hr6
      obtain rfl : zs = (t.kids.map Tm.size).map V.int := (show DpAll K H6 zs ((t.kids.map Tm.size).map PyData.int) by rw [List.map_map]; exact hr6).ints
      refine ⟨_, rfl, D, _, rfl, .inl (SqL.of hzs), rfl, flat_ints _, _, rfl, if_f (inV_int0 fun m hm => ?_) ?_⟩
      · rw [List.mem_map] at hm
        obtain ⟨u, hu, rfl⟩ := hm
        exact (hk' u hu).choose_spec.size_pos
      refine ⟨_, rfl, D, _, rfl, SqL.of hzs, _, _, rfl, rfl, ?_⟩
      exact q _ _ (f5.trans e6) (by rw [Tm.size_kids ho])
theorem ok_term_weight (T : TX K mg w) (G_leaf_weight : FnOk P w K mg base CX0 2 T.a_leaf_weight T.d_leaf_weight p_leaf_weight (spLeafW K)) (G_are_bounds : FnOk P w K mg base CX0 2 T.a_are_bounds T.d_are_bounds p_are_bounds (spBounds K))
    (G_arguments_of : FnOk P w K mg base CX0 1 T.a_arguments_of T.d_arguments_of p_arguments_of spArgs) : ∀ n, FnOk P w K mg base CX0 (n + 3) T.a_term_weight T.d_term_weight p_term_weight (spTW K n)
  | 0 => fn_none fun vs H Q E ⟨_, _, _, _, _, _, _, h, _⟩ => h.none
  | n + 1 => ok_term_weight1 T n (ok_term_weight T G_leaf_weight G_are_bounds G_arguments_of n) G_leaf_weight G_are_bounds G_arguments_of
end
end K34
namespace K34
open PySem PySem.Spec PyProof.Rows L2
local macro_rules | `(tactic| walk_at "sm") => `(tactic| (repeat (first | exact Same.refl _ | assumption | refine Same.trans ?_ (same_new (by assumption) _) | refine Same.trans ?_ (by assumption))))
theorem WD.mono {H H' : Hp} {p : Addr} {g : Ctx} (e : Same H H') (h : WD H p g) : WD H' p g := e _ _ h
theorem valV_ctx {x : Str} {k : Int} : ∀ {g : Ctx}, (g.map (·.1)).Nodup → (x, k) ∈ g → valV (g.map fun q => ((Sum.inr q.1 : Key), V.int q.2)) (Sum.inr x) = some (.int k)
  | [], _, h => by simp at h
  | (y, j) :: g, nd, h => by
    rw [List.map_cons] at nd ⊢
    rw [List.nodup_cons] at nd
    by_cases e : y = x
    · subst e
      rw [valV_pos rfl]
      rcases List.mem_cons.mp h with h | h
      · cases h; rfl
      · exact absurd (List.mem_map.mpr ⟨_, h, rfl⟩) nd.1
    · rw [valV_neg (fun z => e (Sum.inr.inj z))]
      rcases List.mem_cons.mp h with h | h
      · cases h; exact absurd rfl e
      · exact valV_ctx nd.2 h
theorem Ok.opw {g : Ctx} {n : Nat} {w : Int} {t : Tm} {o : Str} (h : Ok g (n + 1) w t) (om : o ∈ opsL) (e : t.d = .tuple (.str o :: t.kids.map Tm.d)) :
    ∃ ws, OpW o ws w ∧ ws.length = t.kids.length ∧ ∀ (i : Nat) u k, t.kids[i]? = some u → ws[i]? = some k → Ok g n k u := by
  have n1 : (Str.ofString "is") ∉ opsL := by decide +kernel
  have n2 : (Str.ofString "of") ∉ opsL := by decide +kernel
  have n3 : (Str.ofString "part") ∉ opsL := by decide +kernel
  cases h with
  | is => cases e
  | of => cases e
  | part => cases e
  | op1 h ha => cases e; exact ⟨_, .o1 h, rfl, fun i u k hu hk => by match i, hu, hk with | 0, hu, hk => cases hu; cases hk; exact ha | n + 1, hu, hk => cases hu⟩
  | op2 h ha hb => cases e; exact ⟨_, .o2 h, rfl, fun i u k hu hk => by match i, hu, hk with | 0, hu, hk => cases hu; cases hk; exact ha | 1, hu, hk => cases hu; cases hk; exact hb | n + 2, hu, hk => cases hu⟩
  | op3 h ha hb hc => cases e; exact ⟨_, .o3 h, rfl, fun i u k hu hk => by match i, hu, hk with | 0, hu, hk => cases hu; cases hk; exact ha | 1, hu, hk => cases hu; cases hk; exact hb | 2, hu, hk => cases hu; cases hk; exact hc | n + 3, hu, hk => cases hu⟩
section
variable {P : Program} {w : World} {K : PySem.W.Frag} {mg : Str → Option Value} {base : Heap}
def spIsTerm (K : PySem.W.Frag) : Sp := fun vs H Q _ => ∃ (v : V) (t : Tm) (g : Ctx) (wd : Int), vs = [v] ∧ Dp K H v t.d ∧ Ok g 4 wd t ∧ GOk g ∧ Ret H Q fun r _ => r = .bl true
theorem ok_is_term (T : TX K mg w) (G_term_weight : FnOk P w K mg base CX0 7 T.a_term_weight T.d_term_weight p_term_weight (spTW K 4)) : FnOk P w K mg base CX0 8 T.a_is_term T.d_is_term p_is_term (spIsTerm K) := by
  refine T.F_is_term.ok sc_is_term (fun vs H Q E h => ?_) (fun cdv A outer s H vs Q E hr h => ?_)
  · obtain ⟨v, t, g, wd, rfl, _⟩ := h; rfl
  obtain ⟨v, t, g, wd, rfl, hv, ho, G, q⟩ := h
  refine ⟨_, ((pss_one (ps_ret (pe_chain op_lt op_le pe_int (pe_call G_term_weight (hr.mono (by omega)) rfl T.m_term_weight T.k_term_weight T.bd_term_weight T.bv_term_weight pass0 (pa_cons (pv 0) pa_nil)) (pe_glob (v := .int 60) rfl T.m_MOST_TUPLES ⟨_, rfl⟩))))), ?_⟩
  have s1 := ho.size_pos
  have s2 : 2 * t.size + 1 ≤ 81 := ho.size3
  refine ⟨_, rfl, v, 10, t, g, wd, rfl, hv, ho, G, by decide, by decide, ?_⟩
  rintro _ H1 e1 rfl
  refine ⟨_, _, rfl, rfl, _, rfl, if_t (decide_eq_true (by omega)) ⟨_, _, rfl, rfl, ?_⟩⟩
  show Q (V.bl (decide (t.size ≤ 60))) H1
  rw [decide_eq_true (show t.size ≤ 60 by omega)]
  exact q _ _ e1 rfl
def spFW (K : PySem.W.Frag) (n : Nat) : Sp := fun vs H Q _ => ∃ (v : V) (dw : Addr) (t : Tm) (g : Ctx) (wd : Int), vs = [v, .ref dw] ∧ Dp K H v t.d ∧ Ok g n wd t ∧ GOk g ∧ WD H dw g ∧ Ret H Q fun r _ => r = .int wd
theorem ok_fitting_width1 (T : TX K mg w) (n : Nat) (G_fitting_width : FnOk P w K mg base CX0 (n + 2) T.a_fitting_width T.d_fitting_width p_fitting_width (spFW K n))
    (G_terms_in : FnOk P w K mg base CX0 1 T.a_terms_in T.d_terms_in p_terms_in (spTermsIn K)) (G_operated_width : FnOk P w K mg base CX0 1 T.a_operated_width T.d_operated_width p_operated_width (spOpW K)) :
    FnOk P w K mg base CX0 (n + 1 + 2) T.a_fitting_width T.d_fitting_width p_fitting_width (spFW K (n + 1)) := by
  refine T.F_fitting_width.ok sc_fitting_width (fun vs H Q E h => ?_) (fun cdv A outer s H vs Q E hr h => ?_)
  · obtain ⟨v, dw, t, g, wd, rfl, _⟩ := h; rfl
  obtain ⟨v, dw, t, g, wd, rfl, hv, ho, G, hw, q⟩ := h
  have nd := sc_fitting_width.nd
  have hu := hu_of hr
  refine ⟨_, ((pss_cons (ps_asg (pv 0) (pg_starT (n := 3) (i := 2) rfl (pgs_cons (pg_name (i := 2) nd rfl (Or.inl rfl)) (pgs_cons (pg_name (i := 3) nd rfl (Or.inl rfl)) (pgs_star (pg_name (i := 4) nd rfl (Or.inl rfl)) pgs_nil)))))
      (pss_cons (ps_if (pt_cmpR op_eq (pv 2) pe_str (nomark _)) (pss_one (ps_ret (pe_callB call_len_str (by rfl) T.z_len PySem.boot_len (pa_cons (pv 3) pa_nil)))) pss_nil)
      (pss_cons (ps_if (pt_cmpR op_eq (pv 2) pe_str (nomark _)) (pss_one (ps_ret (pe_dget2 hu (pv 1) (pv 3) pe_int ⟨rfl, rfl, rfl, rfl⟩))) pss_nil)
      (pss_cons (ps_setLc (i := 5) (own := [("one", 8)]) (g := gName 8) (tt := tYes) rfl nd rfl rfl (sw_true rfl rfl rfl (by decide +kernel)) (pi_list (pe_call G_terms_in (hr.mono (by omega)) rfl T.m_terms_in T.k_terms_in T.b_terms_in .nil pass0 (pa_cons (pv 0) pa_nil))) (blkOk_by (N := n_fitting_width) (sc := defScope s_fitting_width) (by decide +kernel)) (fun _ _ _ _ _ => (pg_name (i := 8) nd rfl (Or.inl rfl))) (fun _ _ _ _ _ => pts_nil) (fun _ _ _ _ _ => (pe_call G_fitting_width (hr.mono (by omega)) rfl T.m_fitting_width T.k_fitting_width T.b_fitting_width .nil pass0 (pa_cons (pv 8) (pa_cons (pv 1) pa_nil)))))
      (pss_cons (ps_if (pt_cmpR op_in_seq pe_int (pv 5) (by rfl)) (pss_one (ps_ret pe_int)) pss_nil)
      (pss_cons (ps_if (pt_cmpR op_eq (pv 2) pe_str (nomark _)) (pss_cons (ps_asg (pv 4) (pg_unl rfl (pgs_cons (pg_name (i := 6) nd rfl (Or.inl rfl)) (pgs_cons (pg_name (i := 7) nd rfl (Or.inl rfl)) pgs_nil))))
      (pss_one (ps_ret (pe_ifExp (pt_cmpR op_lt (pv 6) (pe_ix ix_list (pv 5) pe_int (fun _ _ => rfl)) (nomark _)) (pe_op op_add (pe_op op_sub (pv 6) (pv 7)) pe_int) pe_int)))) pss_nil)
      (pss_one (ps_ret (pe_call G_operated_width (hr.mono (by omega)) rfl T.m_operated_width T.k_operated_width T.b_operated_width .nil pass0 (pa_cons (pv 2) (pa_cons (pv 5) pa_nil)))))))))))), ?_⟩
  rcases ho.shape2 with ⟨x, rfl, hx1, hx8, hxb⟩ | ⟨x, rfl, hxg⟩ | ⟨a, hi, lo, rfl, hl0, hl1, hwd⟩ | ⟨o, om, ed, ea⟩
  · obtain ⟨p, xs, rfl, hs, r⟩ := Dp.tup_inv hv
    obtain ⟨v0, _, rfl, h0, r0⟩ := DpAll.cons_inv r
    obtain ⟨v1, _, rfl, h1, r1⟩ := DpAll.cons_inv r0
    obtain rfl := DpAll.nil_inv r1
    obtain rfl := Dp.str_inv h0
    obtain rfl := Dp.str_inv h1
    refine ⟨_, rfl, star3 hs (by show 0 ≤ 1000; decide) fun q1 hq1 => ⟨_, _, rfl, _, _, rfl, _, _, rfl, rfl, _, rfl, rfl, _, rfl, if_t (by decide +kernel) ?_⟩⟩
    refine ⟨_, rfl, x, rfl, len8 hx8, q _ _ (by walk_at "sm") ?_⟩
    cases ho with
    | is hl => exact congrArg V.int hl
  · obtain ⟨p, xs, rfl, hs, r⟩ := Dp.tup_inv hv
    obtain ⟨v0, _, rfl, h0, r0⟩ := DpAll.cons_inv r
    obtain ⟨v1, _, rfl, h1, r1⟩ := DpAll.cons_inv r0
    obtain rfl := DpAll.nil_inv r1
    obtain rfl := Dp.str_inv h0
    obtain rfl := Dp.str_inv h1
    refine ⟨_, rfl, star3 hs (by show 0 ≤ 1000; decide) fun q1 hq1 => ⟨_, _, rfl, _, _, rfl, _, _, rfl, rfl, _, rfl, rfl, _, rfl, if_f (by decide +kernel) ⟨_, rfl, rfl, _, rfl, if_t (by decide +kernel) ?_⟩⟩⟩
    have hw1 : WD (upd H q1 (.lst [])) dw g := hw.mono (same_new hq1 _)
    refine ⟨_, rfl, dw, rfl, .inl ⟨_, .of hw1⟩, _, rfl, _, DGet.k (k := Sum.inr x) hw1, ?_⟩
    rw [valV_ctx G.nd hxg]
    exact q _ _ (same_new hq1 _) rfl
  · obtain ⟨k', ha, h2, h8⟩ : ∃ k, Ok g n k a ∧ hi < k ∧ k ≤ 8 := by
      cases ho with
      | part ha _ _ h2 _ => exact ⟨_, ha, h2, (ha.pos G).2⟩
    obtain ⟨p, xs, rfl, hs, r⟩ := Dp.tup_inv hv
    obtain ⟨v0, _, rfl, h0, r0⟩ := DpAll.cons_inv r
    obtain ⟨v1, _, rfl, h1, r1⟩ := DpAll.cons_inv r0
    obtain ⟨v2, _, rfl, h2', r2⟩ := DpAll.cons_inv r1
    obtain ⟨v3, _, rfl, h3, r3⟩ := DpAll.cons_inv r2
    obtain rfl := DpAll.nil_inv r3
    obtain rfl := Dp.str_inv h0
    obtain rfl := Dp.int_inv h2'
    obtain rfl := Dp.int_inv h3
    refine ⟨_, rfl, star3 hs (by show 2 ≤ 1000; decide) fun q1 hq1 => ⟨_, _, rfl, _, _, rfl, _, _, rfl, rfl, _, rfl, rfl, _, rfl, if_f (by decide +kernel) ⟨_, rfl, rfl, _, rfl, if_f (by decide +kernel) ?_⟩⟩⟩
    have f1 : Same H (upd H q1 (.lst [.int hi, .int lo])) := same_new hq1 _
    refine ⟨_, rfl, _, _, _, _, _, rfl, hv.mono f1, ho, fun r2 H2 e2 hd => ?_⟩
    obtain ⟨l2, zs, rfl, hl2, rz⟩ := Dp.lst_inv hd
    obtain ⟨z1, _, rfl, hz1, rz1⟩ := DpAll.cons_inv rz
    obtain rfl := DpAll.nil_inv rz1
    have f2 := f1.trans e2
    refine ⟨l2, rfl, ⟨_, hl2⟩, fun D hD => ?_⟩
    refine lcD (K := K) walk_list [.int k'] rfl (by show 1 ≤ 1000; decide) rfl hD (fun _ e => e.seq hl2) yat_same ?_ gm_name ?_
    · rintro i x H6 _ e hi' he e6 ⟨rfl, hx⟩ Qy hy
      match i, hx, he with
      | 0, hx, he =>
        cases hx; cases he
        refine ⟨rfl, _, rfl, _, rfl, _, _, a, g, k', rfl, hz1.mono e6, ha, G, hw.mono (f2.trans e6), ?_⟩
        rintro _ H7 e7 rfl
        exact hy _ _ e7 (.int _)
      | n + 1, hx, he => cases he
    · intro ys H6 e6 hys hr6
      obtain rfl : ys = [k'].map V.int := (show DpAll K H6 ys ([k'].map PyData.int) from hr6).ints
      have pk := (ha.pos G).1
      have f6 := f2.trans e6
      refine ⟨_, rfl, D, _, rfl, .inl (SqL.of hys), rfl, flat_ints _, _, rfl, if_f (inV_int0 (by simpa using pk)) ?_⟩
      refine ⟨_, rfl, rfl, _, rfl, if_t (by decide +kernel) ?_⟩
      refine ⟨_, rfl, q1, _, rfl, SqL.of (e6 _ _ (e2 _ _ upd_same)), rfl, _, _, rfl, _, _, rfl, rfl, ?_⟩
      refine ⟨_, rfl, _, rfl, D, _, _, _, rfl, rfl, SqL.of hys, atI_0, _, _, rfl, rfl, _, rfl, if_t (decide_eq_true h2) ?_⟩
      refine ⟨_, rfl, _, rfl, _, _, rfl, rfl, _, _, rfl, rfl, q _ _ f6 ?_⟩
      rw [hwd]
  · obtain ⟨ws, how, lws, hws⟩ := ho.opw om ed
    have hv' := hv
    rw [ed] at hv'
    obtain ⟨p, xs, rfl, hs, r⟩ := Dp.tup_inv hv'
    obtain ⟨v0, ys, rfl, h0, r0⟩ := DpAll.cons_inv r
    obtain rfl := Dp.str_inv h0
    have lys := r0.length
    rw [List.length_map] at lys
    have l3 := ho.kids_le
    obtain ⟨y1, yr, rfl⟩ : ∃ y1 yr, ys = y1 :: yr := by
      cases ys with
      | nil =>
        have e0 : ws = [] := List.eq_nil_of_length_eq_zero (by rw [lws, ← lys]; rfl)
        subst e0
        rcases how.inv with ⟨_, h, _⟩ | ⟨_, _, h, _⟩ | ⟨_, _, _, h, _⟩ <;> cases h
      | cons y1 yr => exact ⟨_, _, rfl⟩
    rw [List.length_cons] at lys
    refine ⟨_, rfl, star3 hs (by omega) fun q1 hq1 => ⟨_, _, rfl, _, _, rfl, _, _, rfl, rfl, _, rfl, rfl, _, rfl, if_f (ops_is om) ⟨_, rfl, rfl, _, rfl, if_f (ops_of om) ?_⟩⟩⟩
    have f1 : Same H (upd H q1 (.lst yr)) := same_new hq1 _
    refine ⟨_, rfl, _, _, _, _, _, rfl, hv.mono f1, ho, fun r2 H2 e2 hd => ?_⟩
    obtain ⟨l2, zs, rfl, hl2, rz⟩ := Dp.lst_inv hd
    have f2 := f1.trans e2
    have lzs := rz.length
    rw [List.length_map] at lzs
    refine ⟨l2, rfl, ⟨_, hl2⟩, fun D hD => ?_⟩
    refine lcD (K := K) walk_list (ws.map PyData.int) (by rw [List.length_map, lzs, lws]) (by omega) (noLs_iff.mpr fun d hd => by rw [List.mem_map] at hd; obtain ⟨u, _, rfl⟩ := hd; rfl) hD (fun _ e => e.seq hl2) yat_same ?_ gm_name ?_
    · rintro i x H6 _ e hi' he e6 ⟨rfl, hx⟩ Qy hy
      rw [List.getElem?_map] at he
      obtain ⟨d, hd, hxd⟩ := rz.get hx
      rw [List.getElem?_map] at hd
      cases hu : t.kids[i]? with
      | none => rw [hu] at hd; cases hd
      | some u =>
        cases hk : ws[i]? with
        | none => rw [hk] at he; cases he
        | some k =>
          rw [hk] at he
          rw [hu] at hd
          cases he; cases hd
          refine ⟨rfl, _, rfl, _, rfl, _, _, u, g, k, rfl, hxd.mono e6, hws i u k hu hk, G, hw.mono (f2.trans e6), ?_⟩
          rintro _ H7 e7 rfl
          exact hy _ _ e7 (.int _)
    · intro ys' H6 e6 hys hr6
      obtain rfl := hr6.ints
      have f6 := f2.trans e6
      refine ⟨_, rfl, D, _, rfl, .inl (SqL.of hys), rfl, flat_ints _, _, rfl, if_f (inV_int0 fun m hm => ?_) ?_⟩
      · obtain ⟨i, hi, hm⟩ := List.getElem_of_mem hm
        have hu : t.kids[i]? = some t.kids[i] := List.getElem?_eq_getElem (by omega)
        exact ((hws i _ m hu (by rw [← hm]; exact List.getElem?_eq_getElem hi)).pos G).1
      refine ⟨_, rfl, rfl, _, rfl, if_f (ops_part om) ?_⟩
      refine ⟨_, rfl, _, rfl, o, D, ws, wd, rfl, SqL.of hys, how, ?_⟩
      rintro _ H7 e7 rfl
      exact q _ _ (f6.trans e7) rfl
theorem ok_fitting_width (T : TX K mg w) (G_terms_in : FnOk P w K mg base CX0 1 T.a_terms_in T.d_terms_in p_terms_in (spTermsIn K)) (G_operated_width : FnOk P w K mg base CX0 1 T.a_operated_width T.d_operated_width p_operated_width (spOpW K)) :
    ∀ n, FnOk P w K mg base CX0 (n + 2) T.a_fitting_width T.d_fitting_width p_fitting_width (spFW K n)
  | 0 => fn_none fun vs H Q E ⟨_, _, _, _, _, _, _, h, _⟩ => h.none
  | n + 1 => ok_fitting_width1 T n (ok_fitting_width T G_terms_in G_operated_width n) G_terms_in G_operated_width
def spWO (K : PySem.W.Frag) : Sp := fun vs H Q _ => ∃ (v : V) (dw : Addr) (t : Tm) (g : Ctx) (wd : Int), vs = [v, .ref dw] ∧ Dp K H v t.d ∧ Ok g 4 wd t ∧ GOk g ∧ WD H dw g ∧ Ret H Q fun r _ => r = .int wd
theorem ok_width_of (T : TX K mg w) (G_is_term : FnOk P w K mg base CX0 8 T.a_is_term T.d_is_term p_is_term (spIsTerm K)) (G_fitting_width : FnOk P w K mg base CX0 6 T.a_fitting_width T.d_fitting_width p_fitting_width (spFW K 4)) :
    FnOk P w K mg base CX0 9 T.a_width_of T.d_width_of p_width_of (spWO K) := by
  refine T.F_width_of.ok sc_width_of (fun vs H Q E h => ?_) (fun cdv A outer s H vs Q E hr h => ?_)
  · obtain ⟨v, dw, t, g, wd, rfl, _⟩ := h; rfl
  obtain ⟨v, dw, t, g, wd, rfl, hv, ho, G, hw, q⟩ := h
  have nd := sc_width_of.nd
  refine ⟨_, ((pss_cons (ps_set (i := 2) nd rfl (Or.inl rfl) (pe_ifExp (pt_val (pe_call G_is_term (hr.mono (by omega)) rfl T.m_is_term T.k_is_term T.b_is_term .nil pass0 (pa_cons (pv 0) pa_nil))) (pe_call G_fitting_width (hr.mono (by omega)) rfl T.m_fitting_width T.k_fitting_width T.b_fitting_width .nil pass0 (pa_cons (pv 0) (pa_cons (pv 1) pa_nil))) pe_int))
      (pss_cons (ps_if (pt_cmpR op_eq (pv 2) pe_int (nomark _)) (pss_one ps_never) pss_nil)
      (pss_one (ps_ret (pv 2)))))), ?_⟩
  refine ⟨_, rfl, v, t, g, wd, rfl, hv, ho, G, ?_⟩
  rintro _ H1 e1 rfl
  refine ⟨true, rfl, if_t rfl ⟨_, rfl, _, rfl, v, dw, t, g, wd, rfl, hv.mono e1, ho, G, hw.mono e1, ?_⟩⟩
  rintro _ H2 e2 rfl
  have := (ho.pos G).1
  refine ⟨_, rfl, rfl, _, rfl, if_f (decide_eq_false fun z => by have := V.int.inj z; omega) ?_⟩
  exact ⟨_, rfl, q _ _ (e1.trans e2) rfl⟩
def spHW (K : PySem.W.Frag) : Sp := fun vs H Q _ => ∃ (v : V) (dw : Addr) (t : Tm) (g : Ctx) (wd : Int), vs = [v, .int wd, .ref dw] ∧ Dp K H v t.d ∧ Ok g 4 wd t ∧ GOk g ∧ WD H dw g ∧ Ret H Q fun r _ => r = .bl true
theorem ok_has_width (T : TX K mg w) (G_width_of : FnOk P w K mg base CX0 9 T.a_width_of T.d_width_of p_width_of (spWO K)) :
    FnOk P w K mg base CX0 10 T.a_has_width T.d_has_width p_has_width (spHW K) := by
  refine T.F_has_width.ok sc_has_width (fun vs H Q E h => ?_) (fun cdv A outer s H vs Q E hr h => ?_)
  · obtain ⟨v, dw, t, g, wd, rfl, _⟩ := h; rfl
  obtain ⟨v, dw, t, g, wd, rfl, hv, ho, G, hw, q⟩ := h
  have nd := sc_has_width.nd
  refine ⟨_, pss_cons (ps_try_only (Wout := fun _ _ _ _ => False) (tb := fun _ => tAsg (tCall (spWO K) [] (fun _ _ _ => False) (tCons (tVar 0) (tCons (tVar 2) tNil))) (gName 3)) (ts := fun _ _ _ => tAsg (tC (.int 0)) (gName 3)) rfl rfl ⟨rfl, by decide, Or.inl T.m_NoTerm⟩ takes0
      (fun W pn xe tk _ => pss_one (ps_set (i := 3) nd rfl (Or.inl rfl) (pe_call G_width_of (hr.mono (by omega)) rfl T.m_width_of T.k_width_of T.b_width_of .nil pass0 (pa_cons (pv 0) (pa_cons (pv 2) pa_nil)))))
      (fun a oe cls d pn _ _ => pss_one (ps_set (i := 3) nd rfl (Or.inl rfl) pe_int))) ((pss_one (ps_ret (pe_cmpR op_eq (pv 3) (pv 1) (nomark _))))), ?_⟩
  refine ⟨_, rfl, _, rfl, v, dw, t, g, wd, rfl, hv, ho, G, hw, ?_⟩
  rintro _ H1 e1 rfl
  refine ⟨_, rfl, _, rfl, rfl, ?_⟩
  show Q (V.bl (decide (V.int wd = V.int wd))) H1
  rw [decide_eq_true rfl]
  exact q _ _ e1 rfl
end
end K34
namespace K34
open PySem PySem.Spec PyProof.Rows L2
local macro_rules | `(tactic| walk_at "sm") => `(tactic| (repeat (first | exact Same.refl _ | assumption | refine Same.trans ?_ (same_new (by assumption) _) | refine Same.trans ?_ (by assumption))))
theorem Ok.names_le {g : Ctx} {n : Nat} {w : Int} {t : Tm} (h : Ok g n w t) : (t.names.length : Int) ≤ t.size := by
  induction h with
  | is => simp [Tm.names, Tm.size]
  | of => simp [Tm.names, Tm.size]
  | op1 _ _ ia => simp only [Tm.names, Tm.size]; omega
  | op2 _ _ _ ia ib => simp only [Tm.names, Tm.size, List.length_append]; omega
  | op3 _ _ _ _ ia ib ic => simp only [Tm.names, Tm.size, List.length_append]; omega
  | part _ _ _ _ _ ia => simp only [Tm.names, Tm.size]; omega
theorem Ok.names40 {g : Ctx} {w : Int} {t : Tm} (h : Ok g 4 w t) : t.names.length ≤ 40 := by
  have a := h.names_le
  have b : 2 * t.size + 1 ≤ 81 := h.size3
  omega
theorem Tm.names_kids {g : Ctx} {n : Nat} {w : Int} {t : Tm} (h : Ok g n w t) : (∃ x, t = .of x) ∨ ((∀ x, t ≠ .of x) ∧ t.names = (t.kids.map Tm.names).flatten) := by
  cases h with
  | is => exact .inr ⟨(by intro x e; cases e), rfl⟩
  | of => exact .inl ⟨_, rfl⟩
  | op1 => exact .inr ⟨(by intro x e; cases e), by simp [Tm.names, Tm.kids]⟩
  | op2 => exact .inr ⟨(by intro x e; cases e), by simp [Tm.names, Tm.kids]⟩
  | op3 => exact .inr ⟨(by intro x e; cases e), by simp [Tm.names, Tm.kids]⟩
  | part => exact .inr ⟨(by intro x e; cases e), by simp [Tm.names, Tm.kids]⟩
/-- a new list -/
def RetN (H : Hp) (Q : VK) (xs : List V) : Prop := ∀ p H', Same H H' → H p = none → H' p = some (.lst xs) → Q (.ref p) H'
theorem noLs_strs (l : List Str) : noLs (l.map PyData.str) = true := noLs_iff.mpr fun d hd => by rw [List.mem_map] at hd; obtain ⟨u, _, rfl⟩ := hd; rfl
section
variable {P : Program} {w : World} {K : PySem.W.Frag} {mg : Str → Option Value} {base : Heap}
def spNA (K : PySem.W.Frag) (n : Nat) : Sp := fun vs H Q _ => ∃ (v : V) (t : Tm) (g : Ctx) (wd : Int), vs = [v] ∧ Dp K H v t.d ∧ Ok g n wd t ∧ GOk g ∧ n ≤ 4 ∧ RetN H Q (t.names.map V.str)
theorem ok_names_along1 (T : TX K mg w) (n : Nat) (G_names_along : FnOk P w K mg base CX0 (n + 2) T.a_names_along T.d_names_along p_names_along (spNA K n))
    (G_terms_in : FnOk P w K mg base CX0 1 T.a_terms_in T.d_terms_in p_terms_in (spTermsIn K)) :
    FnOk P w K mg base CX0 (n + 1 + 2) T.a_names_along T.d_names_along p_names_along (spNA K (n + 1)) := by
  refine T.F_names_along.ok sc_names_along (fun vs H Q E h => ?_) (fun cdv A outer s H vs Q E hr h => ?_)
  · obtain ⟨v, t, g, wd, rfl, _⟩ := h; rfl
  obtain ⟨v, t, g, wd, rfl, hv, ho, G, hn4, q⟩ := h
  have nd := sc_names_along.nd
  refine ⟨_, ((pss_cons (ps_if (pt_cmpR op_eq (pe_ix ix_tup (pv 0) pe_int (fun _ _ => rfl)) pe_str (nomark _)) (pss_one (ps_ret (pe_lst (pa_cons (pe_ix ix_tup (pv 0) pe_int (fun _ _ => rfl)) pa_nil)))) pss_nil)
      (pss_one (ps_ret (pe_lc2 (own := [("one", 1), ("name", 2)]) (vs1 := [2]) (g := gName 1) (tt := tYes) (g1 := gName 2) (tt1 := tYes) rfl nd (pi_list (pe_call G_terms_in (hr.mono (by omega)) rfl T.m_terms_in T.k_terms_in T.b_terms_in .nil pass0 (pa_cons (pv 0) pa_nil))) (blkOk_by (N := n_names_along) (sc := defScope s_names_along) (by decide +kernel)) (by decide) (fun _ _ _ _ _ => (pg_name (i := 1) nd rfl (Or.inl rfl))) (fun _ _ _ _ _ => pts_nil) (fun _ _ _ _ _ => (pi_listK (K := K) rfl (pe_call G_names_along (hr.mono (by omega)) rfl T.m_names_along T.k_names_along T.b_names_along .nil pass0 (pa_cons (pv 1) pa_nil)))) (fun _ _ _ _ _ => (pg_name (i := 2) nd rfl (Or.inl rfl))) (fun _ _ _ _ _ => pts_nil) (fun _ _ _ _ _ => (pv 2))))))), ?_⟩
  obtain ⟨o, ds, ed⟩ : ∃ o ds, t.d = .tuple (.str o :: ds) := by
    cases ho <;> exact ⟨_, _, rfl⟩
  have hv' := hv
  rw [ed] at hv'
  obtain ⟨p, xs, rfl, hs, r⟩ := Dp.tup_inv hv'
  obtain ⟨v0, ys, rfl, h0, r0⟩ := DpAll.cons_inv r
  obtain rfl := Dp.str_inv h0
  refine ⟨_, rfl, p, _, _, _, rfl, rfl, hs, atI_0, rfl, _, rfl, ?_⟩
  rcases Tm.names_kids ho with ⟨x, rfl⟩ | ⟨nx, en⟩
  · cases ed
    obtain ⟨v1, _, rfl, h1, r1⟩ := DpAll.cons_inv r0
    obtain rfl := DpAll.nil_inv r1
    obtain rfl := Dp.str_inv h1
    refine if_t (by decide +kernel) ?_
    refine ⟨_, rfl, p, _, _, _, rfl, rfl, hs, (show atI [V.str "of", V.str x] 1 = some (.str x) from rfl), by show 1 ≤ sizeLine; decide, fun q1 hq1 => q _ _ (same_new hq1 _) hq1 upd_same⟩
  · have eo : decide (V.str o = V.str "of") = false := by
      rcases ho.shape with ⟨x, rfl⟩ | ⟨x, rfl⟩ | ⟨a, hi, lo, rfl⟩ | ⟨o', om, e'⟩
      · cases ed; decide +kernel
      · exact absurd rfl (nx x)
      · cases ed; decide +kernel
      · rw [e'] at ed
        cases ed
        exact ops_of om
    refine if_f eo ?_
    refine ⟨_, rfl, _, t, g, _, _, rfl, hv, ho, fun r2 H2 e2 hd => ?_⟩
    obtain ⟨l2, zs, rfl, hl2, rz⟩ := Dp.lst_inv hd
    have lzs := rz.length
    rw [List.length_map] at lzs
    have l3 := ho.kids_le
    have efl : (t.kids.map fun u => u.names.map PyData.str).flatten = t.names.map PyData.str := by
      rw [en, List.map_flatten, List.map_map]
      rfl
    have l40 : t.names.length ≤ 40 := by
      have h4 : Ok g 4 wd t := ho.up 4 hn4
      exact h4.names40
    refine ⟨l2, rfl, ⟨_, hl2⟩, fun D hD => ?_⟩
    refine lc2D (K := K) walk_list (t.kids.map fun u => u.names.map PyData.str) (by rw [List.length_map, lzs]) (by rw [efl, List.length_map]; omega) (by rw [efl]; exact noLs_strs _) hD (fun _ e => e.seq hl2) yat_same gm_name gm_name ?_ ?_
    · rintro i x H5 _ el hi he e5 ⟨rfl, hx⟩ ⟨acc, hacc⟩ R hR
      rw [List.getElem?_map] at he
      obtain ⟨d, hd, hxd⟩ := rz.get hx
      rw [List.getElem?_map] at hd
      cases hu : t.kids[i]? with
      | none => rw [hu] at hd; cases hd
      | some u =>
        rw [hu] at he hd
        cases he; cases hd
        obtain ⟨k, hk⟩ := ho.kids u (List.mem_of_getElem? hu)
        refine ⟨rfl, _, rfl, _, u, g, k, rfl, hxd.mono e5, hk, G, by omega, fun p4 H4 e4 hp4 hl4 => ⟨p4, rfl, ⟨_, SqL.of hl4⟩, ?_⟩⟩
        refine hR _ _ _ _ _ _ walk_list (by simp) e4 (fun H6 sx tx => SqL.of (sx _ _ (fun z => by rw [z, hacc] at hp4; cases hp4) hl4)) yat_same ?_
        rintro j y H6 _ e hee sx tx e6 ⟨rfl, hy⟩ Qy hq
        rw [List.getElem?_map] at hee hy
        cases hj : u.names[j]? with
        | none => rw [hj] at hee; cases hee
        | some nm =>
          rw [hj] at hee hy
          cases hee; cases hy
          exact ⟨rfl, _, rfl, hq _ _ (Same.refl _) (.str nm)⟩
    · intro zs' H6 e6 hzs hr6
      rw [efl] at hr6
      obtain rfl := hr6.strs
      exact q _ _ (e2.trans e6) ((e2.free hD)) hzs
theorem ok_names_along (T : TX K mg w) (G_terms_in : FnOk P w K mg base CX0 1 T.a_terms_in T.d_terms_in p_terms_in (spTermsIn K)) : ∀ n, FnOk P w K mg base CX0 (n + 2) T.a_names_along T.d_names_along p_names_along (spNA K n)
  | 0 => fn_none fun vs H Q E ⟨_, _, _, _, _, _, h, _⟩ => h.none
  | n + 1 => ok_names_along1 T n (ok_names_along T G_terms_in n) G_terms_in
theorem putK_keys {κ : Type} [DecidableEq κ] {kvs : List (κ × V)} {k : κ} {v : V} {x : κ} : x ∈ (putK kvs k v).map (·.1) ↔ x ∈ kvs.map (·.1) ∨ x = k := by
  unfold putK
  split
  · rename_i h
    have hk : k ∈ kvs.map (·.1) := by
      rw [List.any_eq_true] at h
      obtain ⟨q, hq, e⟩ := h
      exact List.mem_map.mpr ⟨q, hq, of_decide_eq_true e⟩
    have em : (kvs.map fun kv => if kv.1 = k then (kv.1, v) else kv).map (·.1) = kvs.map (·.1) := by
      rw [List.map_map]
      refine List.map_congr_left fun q _ => ?_
      simp only [Function.comp]
      split <;> rfl
    rw [em]
    exact ⟨.inl, fun h => h.elim id fun e => by rw [e]; exact hk⟩
  · simp
def spNI (K : PySem.W.Frag) : Sp := fun vs H Q _ => ∃ (v : V) (t : Tm) (g : Ctx) (wd : Int), vs = [v] ∧ Dp K H v t.d ∧ Ok g 4 wd t ∧ GOk g ∧ ∀ l : List Str, (∀ x, x ∈ l ↔ x ∈ t.names) → l.length ≤ 40 → RetN H Q (l.map V.str)
theorem ok_names_in (T : TX K mg w) (G_names_along : FnOk P w K mg base CX0 6 T.a_names_along T.d_names_along p_names_along (spNA K 4)) : FnOk P w K mg base CX0 7 T.a_names_in T.d_names_in p_names_in (spNI K) := by
  refine T.F_names_in.ok sc_names_in (fun vs H Q E h => ?_) (fun cdv A outer s H vs Q E hr h => ?_)
  · obtain ⟨v, t, g, wd, rfl, _⟩ := h; rfl
  obtain ⟨v, t, g, wd, rfl, hv, ho, G, q⟩ := h
  have nd := sc_names_in.nd
  refine ⟨_, ((pss_one (ps_ret (pe_callTy (call_list_dK rfl) (by rfl) T.z_list (by decide +kernel) (pa_cons (pe_dc (own := [("name", 1)]) (g := gName 1) (tt := tYes) rfl nd (pi_list (pe_call G_names_along (hr.mono (by omega)) rfl T.m_names_along T.k_names_along T.b_names_along .nil pass0 (pa_cons (pv 0) pa_nil))) (blkOk_by (N := n_names_in) (sc := defScope s_names_in) (by decide +kernel)) (fun _ _ _ _ _ => (pg_name (i := 1) nd rfl (Or.inl rfl))) (fun _ _ _ _ _ => pts_nil) (fun _ _ _ _ _ => (pv 1)) (fun _ _ _ _ _ => pe_bl)) pa_nil))))), ?_⟩
  have l40 := ho.names40
  refine ⟨_, rfl, _, t, g, wd, rfl, hv, ho, G, by decide, fun p1 H1 e1 hp1 hl1 => ?_⟩
  refine ⟨p1, rfl, ⟨_, SqL.of hl1⟩, fun D hD => ?_⟩
  refine dc_it (walk_list (K := K) (a := p1) (xs := t.names.map V.str)) (fun i H2 => Same H1 H2 ∧ ∃ kvs : List (Key × V), H2 D = some (.dK kvs) ∧ kvs.length ≤ i ∧ ∀ k, k ∈ kvs.map (·.1) ↔ ∃ x, x ∈ t.names.take i ∧ k = Sum.inr x) ⟨same_new hD _, [], upd_same, Nat.le_refl _, by simp⟩ (fun i H2 _ z => z.1.seq (SqL.of hl1)) ?_ ?_
  · rintro i x H2 _ hi ⟨e2, kvs, hk, hl, hm⟩ ⟨rfl, hx⟩
    rw [List.getElem?_map] at hx
    cases hn : t.names[i]? with
    | none => rw [hn] at hx; cases hx
    | some nm =>
      rw [hn] at hx
      cases hx
      refine ⟨rfl, yes_go ⟨_, rfl, kvs, Sum.inr nm, rfl, hk, small1000 (by rw [List.length_map] at hi; omega), same_lst e2 hD, _, upd_same, Nat.le_trans (length_putK _ _ _) (by omega), fun k => ?_⟩⟩
      rw [putK_keys, hm]
      rw [List.take_add_one, hn]
      constructor
      · rintro (⟨y, hy, rfl⟩ | rfl)
        · exact ⟨y, List.mem_append_left _ hy, rfl⟩
        · exact ⟨nm, List.mem_append_right _ (by simp), rfl⟩
      · rintro ⟨y, hy, rfl⟩
        rcases List.mem_append.mp hy with hy | hy
        · exact .inl ⟨y, hy, rfl⟩
        · obtain rfl : y = nm := by simpa using hy
          exact .inr rfl
  · rintro H2 ⟨e2, kvs, hk, hl, hm⟩
    rw [List.length_map] at hl
    rw [List.length_map, List.take_length] at hm
    refine ⟨D, kvs, rfl, hk, fun r hr1 => ?_⟩
    obtain ⟨l, el⟩ : ∃ l : List Str, kvs.map (·.1) = l.map Sum.inr := by
      have aux : ∀ ks : List Key, (∀ k ∈ ks, ∃ x, k = Sum.inr x) → ∃ l : List Str, ks = l.map Sum.inr := by
        intro ks
        induction ks with
        | nil => exact fun _ => ⟨[], rfl⟩
        | cons k ks ih =>
          intro h
          obtain ⟨x, rfl⟩ := h k List.mem_cons_self
          obtain ⟨l, rfl⟩ := ih fun k' hk' => h k' (List.mem_cons_of_mem _ hk')
          exact ⟨x :: l, rfl⟩
      exact aux _ fun k hk' => by
        obtain ⟨x, _, e⟩ := (hm k).mp hk'
        exact ⟨x, e⟩
    have ev : (kvs.map fun kv => kV kv.1) = l.map V.str := by
      have q1 : (kvs.map fun kv => kV kv.1) = (kvs.map (·.1)).map kV := by rw [List.map_map]; rfl
      rw [q1, el, List.map_map]
      rfl
    rw [ev]
    have ll : l.length = kvs.length := by
      have q1 := congrArg List.length el
      rw [List.length_map, List.length_map] at q1
      exact q1.symm
    refine q l (fun x => ?_) (by omega) _ _ ((e1.trans e2).trans (same_new hr1 _)) ((e1.trans e2).free hr1) upd_same
    have q2 := hm (Sum.inr x)
    rw [el, List.mem_map] at q2
    constructor
    · intro hx
      obtain ⟨y, hy, e⟩ := q2.mp ⟨x, hx, rfl⟩
      cases e
      exact hy
    · intro hx
      obtain ⟨y, hy, e⟩ := q2.mpr ⟨x, hx, rfl⟩
      cases e
      exact hy
end
end K34
/-! the plain law: what hangs on what; the clash of a design -/
namespace K34
open PySem
/-- what n hangs on, by the edges E -/
inductive Rch (E : Str → Str → Prop) (n : Str) : Str → Prop
  | one {y : Str} (h : E n y) : Rch E n y
  | more {x y : Str} (h : Rch E n x) (e : E x y) : Rch E n y
/-- a search's state: found, left -/
structure RInv (E : Str → Str → Prop) (n : Str) (F L : List Str) : Prop where
  f : ∀ x ∈ F, Rch E n x
  l : ∀ x ∈ L, Rch E n x
  c0 : ∀ y, E n y → y ∈ F ∨ y ∈ L
  c : ∀ x ∈ F, ∀ y, E x y → y ∈ F ∨ y ∈ L
  nd : F.Nodup
theorem RInv.start {E : Str → Str → Prop} {n : Str} {l : List Str} (h : ∀ y, y ∈ l ↔ E n y) : RInv E n [] l :=
  ⟨fun x hx => absurd hx List.not_mem_nil, fun x hx => .one ((h x).mp hx), fun y hy => .inr ((h y).mpr hy), fun x hx => absurd hx List.not_mem_nil, .nil⟩
theorem RInv.skip {E : Str → Str → Prop} {n x : Str} {F L L' : List Str} (r : RInv E n F L) (hx : x ∈ F) (h : ∀ y, y ∈ L ↔ y = x ∨ y ∈ L') : RInv E n F L' where
  f := r.f
  l := fun y hy => r.l y ((h y).mpr (.inr hy))
  c0 := fun y hy => (r.c0 y hy).elim .inl fun z => ((h y).mp z).elim (fun e => .inl (e ▸ hx)) .inr
  c := fun z hz y hy => (r.c z hz y hy).elim .inl fun z => ((h y).mp z).elim (fun e => .inl (e ▸ hx)) .inr
  nd := r.nd
theorem RInv.add {E : Str → Str → Prop} {n x : Str} {F L L' l M : List Str} (r : RInv E n F L) (hx : x ∉ F) (h : ∀ y, y ∈ L ↔ y = x ∨ y ∈ L') (hl : ∀ y, y ∈ l ↔ E x y) (hM : ∀ y, y ∈ M ↔ y ∈ L' ∨ y ∈ l) : RInv E n (F ++ [x]) M where
  f := fun y hy => by
    rcases List.mem_append.mp hy with hy | hy
    · exact r.f y hy
    · obtain rfl : y = x := by simpa using hy
      exact r.l _ ((h _).mpr (.inl rfl))
  l := fun y hy => by
    rcases (hM y).mp hy with hy | hy
    · exact r.l y ((h y).mpr (.inr hy))
    · exact .more (r.l x ((h x).mpr (.inl rfl))) ((hl y).mp hy)
  c0 := fun y hy => (r.c0 y hy).elim (fun z => .inl (List.mem_append_left _ z)) fun z => ((h y).mp z).elim (fun e => .inl (by rw [e]; exact List.mem_append_right _ (by simp))) fun z => .inr ((hM y).mpr (.inl z))
  c := fun z hz y hy => by
    rcases List.mem_append.mp hz with hz | hz
    · exact (r.c z hz y hy).elim (fun z => .inl (List.mem_append_left _ z)) fun z => ((h y).mp z).elim (fun e => .inl (by rw [e]; exact List.mem_append_right _ (by simp))) fun z => .inr ((hM y).mpr (.inl z))
    · obtain rfl : z = x := by simpa using hz
      exact .inr ((hM y).mpr (.inr ((hl y).mpr hy)))
  nd := List.nodup_append.mpr ⟨r.nd, by simp, fun a ha b hb e => by
    obtain rfl : b = x := by simpa using hb
    exact hx (e ▸ ha)⟩
theorem RInv.done {E : Str → Str → Prop} {n : Str} {F : List Str} (r : RInv E n F []) : ∀ x, x ∈ F ↔ Rch E n x := fun x =>
  ⟨r.f x, fun h => by
    induction h with
    | one h => exact (r.c0 _ h).elim id fun z => by cases z
    | more _ e ih => exact (r.c _ ih _ e).elim id fun z => by cases z⟩
/-- the edges of rows -/
def Edge (rs : List Row) (x y : Str) : Prop := ∃ r ∈ rs, r.name = x ∧ y ∈ r.what.names
def nowsOf (o : Str) (bs : List Blk) : List Str := bs.flatMap fun b => setsL o b.body
open Classical in
/-- the first that is set now and later -/
noncomputable def bothOf (rs : List Row) (bs : List Blk) : Option (Str × Str) := (rs.find? fun r => decide (r.name ∈ nowsOf "now" bs ∧ r.name ∈ nowsOf "later" bs)).map fun r => ("both", r.name)
open Classical in
noncomputable def ringOf (rs : List Row) : Option (Str × Str) := (rs.find? fun r => decide (Rch (Edge rs) r.name r.name)).map fun r => ("ring", r.name)
def filtersOf (rs : List Row) : List Str := (rs.filter fun r => decide (r.sort = ("filter" : Str))).map Row.name
open Classical in
noncomputable def filtOf (rs : List Row) : Option (Str × Str) := ((filtersOf rs).find? fun n => decide (∃ y ∈ filtersOf rs, Rch (Edge rs) n y)).map fun n => ("filter", n)
/-- what is told of a design in good form -/
noncomputable def clashOf (rs : List Row) (bs : List Blk) : Option (Str × Str) := ((bothOf rs bs).or (ringOf rs)).or (filtOf rs)
theorem What.names_terms (w : What) : w.names = w.terms.flatMap Tm.names := by
  cases w with
  | non => rfl
  | val => rfl
  | term t => simp [What.names, What.terms]
  | bus ds => simp [What.names, What.terms, List.flatMap_assoc]
end K34
namespace K34
open PySem PySem.Spec PyProof.Rows L2
local macro_rules | `(tactic| walk_at "sm") => `(tactic| (repeat (first | exact Same.refl _ | assumption | refine Same.trans ?_ (same_new (by assumption) _) | refine Same.trans ?_ (by assumption))))
theorem find_hit {α : Type} {p : α → Bool} {l : List α} {i : Nat} {r : α} (h : l[i]? = some r) (hn : (l.take i).find? p = none) (hp : p r = true) : l.find? p = some r := by
  obtain ⟨hi, e⟩ := List.getElem?_eq_some_iff.mp h
  have q : l = l.take i ++ r :: l.drop (i + 1) := by rw [← e, ← List.drop_eq_getElem_cons hi, List.take_append_drop]
  rw [q, List.find?_append, hn, List.find?_cons_of_pos hp]
  rfl
theorem find_miss {α : Type} {p : α → Bool} {l : List α} {i : Nat} {r : α} (h : l[i]? = some r) (hn : (l.take i).find? p = none) (hp : p r = false) : (l.take (i + 1)).find? p = none := by
  rw [List.take_add_one, h, List.find?_append, hn]
  simp [hp]
theorem nodup_sub {F : List Str} : ∀ {N : List Str}, F.Nodup → (∀ x ∈ F, x ∈ N) → F.length ≤ N.length := by
  induction F with
  | nil => intro N _ _; exact Nat.zero_le _
  | cons x F ih =>
    intro N nd hs
    rw [List.nodup_cons] at nd
    have hx := hs x List.mem_cons_self
    have h1 := ih (N := N.erase x) nd.2 fun y hy => (List.mem_erase_of_ne fun (e : y = x) => nd.1 (e ▸ hy)).mpr (hs y (List.mem_cons_of_mem _ hy))
    rw [List.length_erase_of_mem hx] at h1
    have h2 := List.length_pos_of_mem hx
    rw [List.length_cons]
    omega
/-- the dict of what stands in each signal's terms -/
structure TB (H : Hp) (p : Addr) (tb : List (Str × Addr × List Str)) : Prop where
  at_ : H p = some (.dK (tb.map fun e => ((Sum.inr e.1 : Key), V.ref e.2.1)))
  lst : ∀ e ∈ tb, H e.2.1 = some (.lst (e.2.2.map V.str))
theorem TB.mono {H H' : Hp} {p : Addr} {tb : List (Str × Addr × List Str)} (e : Same H H') (t : TB H p tb) : TB H' p tb := ⟨e _ _ t.at_, fun x hx => e _ _ (t.lst x hx)⟩
structure TbOk (E : Str → Str → Prop) (tb : List (Str × Addr × List Str)) : Prop where
  edge : ∀ e ∈ tb, ∀ y, y ∈ e.2.2 ↔ E e.1 y
  closed : ∀ e ∈ tb, ∀ y ∈ e.2.2, y ∈ tb.map (·.1)
  nd : (tb.map (·.1)).Nodup
  few : tb.length ≤ 11
  short : ∀ e ∈ tb, e.2.2.length ≤ 400
  nm : ∀ e ∈ tb, IsNm e.1
theorem valV_tb {x : Str} {q : Addr × List Str} : ∀ {tb : List (Str × Addr × List Str)}, (tb.map (·.1)).Nodup → (x, q) ∈ tb → valV (tb.map fun e => ((Sum.inr e.1 : Key), V.ref e.2.1)) (Sum.inr x) = some (.ref q.1)
  | [], _, h => absurd h List.not_mem_nil
  | (y, j) :: g, nd, h => by
    rw [List.map_cons] at nd ⊢
    rw [List.nodup_cons] at nd
    by_cases e : y = x
    · subst e
      rw [valV_pos rfl]
      rcases List.mem_cons.mp h with h | h
      · cases h; rfl
      · exact absurd (List.mem_map.mpr ⟨_, h, rfl⟩) nd.1
    · rw [valV_neg (fun z => e (Sum.inr.inj z))]
      rcases List.mem_cons.mp h with h | h
      · cases h; exact absurd rfl e
      · exact valV_tb nd.2 h
theorem TB.get {E : Str → Str → Prop} {H : Hp} {p : Addr} {tb : List (Str × Addr × List Str)} (t : TB H p tb) (o : TbOk E tb) {x : Str} {q : Addr × List Str} (h : (x, q) ∈ tb) : DGet H p (.str x) (some (.ref q.1)) := by
  rw [← valV_tb o.nd h]
  exact DGet.k (k := Sum.inr x) t.at_
theorem shaped_strs {l : List Str} (h : ∀ x ∈ l, IsNm x) : SeqAt.shaped (.list (l.map PyData.str)) = true := by
  have h1 : PyData.canLayAll0 (l.map PyData.str) = true := by
    induction l with
    | nil => rfl
    | cons x l ih => simp [PyData.canLayAll0, PyData.canLay0, strOk_nm (h x List.mem_cons_self), ih fun y hy => h y (List.mem_cons_of_mem _ hy)]
  have h2 : PyData.depthAll (l.map PyData.str) = 0 := by
    clear h h1
    induction l with
    | nil => rfl
    | cons x l ih => simp [PyData.depthAll, PyData.depth, ih]
  unfold SeqAt.shaped
  simp only [PyData.canLay0, PyData.depth, h1, h2]
  decide
theorem pop_go {l : Addr} {xs : List V} {x : V} {H : Hp} {Q : VK} (h : H l = some (.lst (xs ++ [x]))) (k : Q x (upd H l (.lst xs))) : rPop (.ref l) [] H Q := ⟨l, _, x, rfl, rfl, h, by simp, by rw [List.dropLast_concat]; exact k⟩
section
variable {P : Program} {w : World} {K : PySem.W.Frag} {mg : Str → Option Value} {base : Heap}
def spHang (K : PySem.W.Frag) : Sp := fun vs H Q _ => ∃ (x : Str) (p : Addr) (tb : List (Str × Addr × List Str)) (E : Str → Str → Prop), vs = [.str x, .ref p] ∧ TB H p tb ∧ TbOk E tb ∧ x ∈ tb.map (·.1) ∧ ∀ F : List Str, (∀ y, y ∈ F ↔ Rch E x y) → F.length ≤ 11 → RetN H Q (F.map V.str)
theorem ok_hangs_on (T : TX K mg w) : FnOk P w K mg base CX0 1 T.a_hangs_on T.d_hangs_on p_hangs_on (spHang K) := by
  refine T.F_hangs_on.ok sc_hangs_on (fun vs H Q E h => ?_) (fun cdv A outer s H vs Q E hr h => ?_)
  · obtain ⟨x, p, tb, E', rfl, _⟩ := h; rfl
  obtain ⟨n, p, tb, E', rfl, ht, o, hn, q⟩ := h
  have nd := sc_hangs_on.nd
  have hu := hu_of hr
  refine ⟨_, ((pss_cons (ps_set (i := 2) nd rfl (Or.inl rfl) (pe_lst pa_nil))
      (pss_cons (ps_set (i := 3) nd rfl (Or.inl rfl) (pe_callTy call_list_of (by rfl) T.z_list (by decide +kernel) (pa_cons (pe_dget hu (pv 1) (pv 0) (fun _ _ => rfl)) pa_nil)))
      (pss_cons (ps_while PassesOwn.never (pt_cmpR (op_neD hr.units) (pv 3) (pe_lst pa_nil) (nomark _)) (pss_cons (ps_set (i := 4) nd rfl (Or.inl rfl) (pe_bm0 PySem.F.plainAttrs_list PySem.F.slot_list_pop PySem.F.type_list_pop mt_pop (pv 3)))
      (pss_one (ps_if (pt_cmpR op_notIn_seq (pv 4) (pv 2) (by rfl)) (pss_cons (ps_expr (pe_bm PySem.F.plainAttrs_list PySem.F.slot_list_append PySem.F.type_list_append mt_append (pv 2) (pa_cons (pv 4) pa_nil)))
      (pss_one (ps_expr (pe_bm PySem.F.plainAttrs_list PySem.F.slot_list_extend PySem.F.type_list_extend mt_extend (pv 3) (pa_cons (pe_dget hu (pv 1) (pv 4) (fun _ _ => rfl)) pa_nil))))) pss_nil))))
      (pss_one (ps_ret (pv 2))))))), ?_⟩
  rw [List.mem_map] at hn
  obtain ⟨⟨n, a0, l0⟩, he0, rfl⟩ := hn
  refine ⟨by show 0 ≤ sizeLine; decide, fun pf hpf => ?_⟩
  have f1 : Same H (upd H pf (.lst [])) := same_new hpf _
  refine ⟨_, rfl, _, rfl, p, _, rfl, (ht.mono f1).get o he0, a0, _, rfl, .inl (SqL.of (f1 _ _ (ht.lst _ he0))), fun pl hpl => ?_⟩
  have mem0 : ∀ e ∈ tb, ∀ y ∈ e.2.2, ∃ e' ∈ tb, e'.1 = y := fun e he y hy => by
    have := o.closed e he y hy
    rw [List.mem_map] at this
    exact this
  have hpfl : pf ≠ pl := ne_of_none upd_same hpl
  refine ⟨fun m σ H' => ∃ (F L : List Str) (one : Option V), σ = [some (.str n), some (.ref p), some (.ref pf), some (.ref pl), one] ∧ Same H H' ∧ H' pf = some (.lst (F.map V.str)) ∧ H' pl = some (.lst (L.map V.str)) ∧ RInv E' n F L ∧
    (∀ x ∈ F, x ∈ tb.map (·.1)) ∧ (∀ x ∈ L, x ∈ tb.map (·.1)) ∧ L.length ≤ 400 * (F.length + 1) ∧ m = (tb.length - F.length) * 401 + L.length, ⟨_, [], l0, none, rfl, f1.trans (same_new hpl _), by rw [upd_ne hpfl]; exact upd_same, upd_same, RInv.start (o.edge _ he0), fun x hx => absurd hx List.not_mem_nil, o.closed _ he0, by have := o.short _ he0; simpa using this, rfl⟩, ?_⟩
  rintro m σ H' ⟨F, L, one, rfl, e1, hF, hL, ri, sF, sL, lL, rfl⟩
  have nmL : ∀ x ∈ L, IsNm x := fun x hx => by
    have := sL x hx
    rw [List.mem_map] at this
    obtain ⟨e, he, rfl⟩ := this
    exact o.nm e he
  have lF : F.length ≤ tb.length := by
    have := nodup_sub ri.nd sF
    rw [List.length_map] at this
    exact this
  have l11 := o.few
  refine ⟨_, rfl, by show 0 ≤ sizeLine; decide, fun q2 hq2 => ?_⟩
  have e2 : Same H' (upd H' q2 (.lst [])) := same_new hq2 _
  refine ⟨.list (L.map PyData.str), .list [], .lst (SqL.of (e2 _ _ hL)) (dpa_strs L), .lst (SqL.of upd_same) .nil, shaped_strs nmL, rfl, _, rfl, ?_⟩
  have hF2 := e2 _ _ hF
  have hL2 := e2 _ _ hL
  have e12 := e1.trans e2
  generalize upd H' q2 (.lst []) = H2 at *
  have hc : L = [] ∨ ∃ L' x, L = L' ++ [x] := by
    rcases List.eq_nil_or_concat L with h | ⟨a, b, h⟩
    · exact .inl h
    · exact .inr ⟨a, b, by rw [h, List.concat_eq_append]⟩
  rcases hc with rfl | ⟨L', x, rfl⟩
  · refine if_f rfl ?_
    refine ⟨_, rfl, q F ri.done (by omega) pf H2 e12 hpf hF2⟩
  · refine if_t (by cases L' <;> rfl) ?_
    refine ⟨fun σ' H3 => ∃ m', m' < (tb.length - F.length) * 401 + (L' ++ [x]).length ∧ ∃ (F L : List Str) (one : Option V), σ' = [some (.str n), some (.ref p), some (.ref pf), some (.ref pl), one] ∧ Same H H3 ∧ H3 pf = some (.lst (F.map V.str)) ∧ H3 pl = some (.lst (L.map V.str)) ∧ RInv E' n F L ∧
      (∀ x ∈ F, x ∈ tb.map (·.1)) ∧ (∀ x ∈ L, x ∈ tb.map (·.1)) ∧ L.length ≤ 400 * (F.length + 1) ∧ m' = (tb.length - F.length) * 401 + L.length, fun σ' H3 z => z, ?_⟩
    refine ⟨_, rfl, .inl ⟨rfl, _, SqL.of hL2⟩, pop_go (xs := L'.map V.str) (x := .str x) (by rw [hL2, List.map_append]; rfl) ?_⟩
    have hF3 : upd H2 pl (.lst (L'.map V.str)) pf = some (.lst (F.map V.str)) := by rw [upd_ne hpfl]; exact hF2
    have hL3 : upd H2 pl (.lst (L'.map V.str)) pl = some (.lst (L'.map V.str)) := upd_same
    have hplH : H pl = none := f1.free hpl
    have e3 : Same H (upd H2 pl (.lst (L'.map V.str))) := same_lst e12 hplH
    generalize upd H2 pl (.lst (L'.map V.str)) = H3 at *
    have hm : ∀ y, y ∈ L' ++ [x] ↔ y = x ∨ y ∈ L' := fun y => by simp [or_comm]
    have lL' : L'.length + 1 ≤ 400 * (F.length + 1) := by simpa using lL
    refine ⟨_, rfl, _, rfl, pf, _, rfl, .inl (SqL.of hF3), rfl, flat_strs F, _, rfl, ?_⟩
    by_cases hx : x ∈ F
    · refine if_f (by show (!inV (V.str x) (F.map V.str)) = false; rw [inV_str, decide_eq_true hx]; rfl) ?_
      refine ⟨_, ?_, F, L', _, rfl, e3, hF3, hL3, ri.skip hx hm, sF, fun y hy => sL y (List.mem_append_left _ hy), by omega, rfl⟩
      simp only [List.length_append, List.length_singleton]
      omega
    · refine if_t (by show (!inV (V.str x) (F.map V.str)) = true; rw [inV_str, decide_eq_false hx]; rfl) ?_
      have hxt := sL x (List.mem_append_right _ (by simp))
      rw [List.mem_map] at hxt
      obtain ⟨⟨x, ax, lx⟩, hex, rfl⟩ := hxt
      refine ⟨_, rfl, .inl ⟨rfl, _, SqL.of hF3⟩, _, rfl, pf, _, _, rfl, rfl, hF3, small1000 (by rw [List.length_map]; omega), ?_⟩
      have e4 : Same H (upd H3 pf (.lst (F.map V.str ++ [V.str x]))) := same_lst e3 hpf
      have hF4 : upd H3 pf (.lst (F.map V.str ++ [V.str x])) pf = some (.lst ((F ++ [x]).map V.str)) := by rw [upd_same, List.map_append]; rfl
      have hL4 : upd H3 pf (.lst (F.map V.str ++ [V.str x])) pl = some (.lst (L'.map V.str)) := by rw [upd_ne hpfl.symm]; exact hL3
      generalize upd H3 pf (.lst (F.map V.str ++ [V.str x])) = H4 at *
      have sx : lx.length ≤ 400 := o.short _ hex
      have lF' : (F ++ [x]).length ≤ tb.length := by
        have := nodup_sub (F := F ++ [x]) (N := tb.map (·.1)) (List.nodup_append.mpr ⟨ri.nd, by simp, fun a ha b hb e => by
          obtain rfl : b = x := by simpa using hb
          exact hx (e ▸ ha)⟩) (fun y hy => by
          rcases List.mem_append.mp hy with hy | hy
          · exact sF y hy
          · obtain rfl : y = x := by simpa using hy
            exact List.mem_map.mpr ⟨_, hex, rfl⟩)
        rw [List.length_map] at this
        exact this
      rw [List.length_append, List.length_singleton] at lF'
      refine ⟨_, rfl, .inl ⟨rfl, _, SqL.of hL4⟩, _, rfl, _, rfl, p, _, rfl, (ht.mono e4).get o hex, pl, ax, _, _, rfl, rfl, hL4, e4 _ _ (ht.lst _ hex), by rw [List.length_map, List.length_map, sizeLine_eq]; show L'.length + lx.length ≤ 16777216; omega, ?_⟩
      refine ⟨_, ?_, F ++ [x], L' ++ lx, _, rfl, same_lst e4 hplH, by rw [upd_ne hpfl]; exact hF4, by rw [upd_same, List.map_append], ri.add hx hm (o.edge _ hex) (fun y => List.mem_append), fun y hy => ?_, fun y hy => ?_, ?_, rfl⟩
      · simp only [List.length_append, List.length_singleton]
        omega
      · rcases List.mem_append.mp hy with hy | hy
        · exact sF y hy
        · obtain rfl : y = x := by simpa using hy
          exact List.mem_map.mpr ⟨_, hex, rfl⟩
      · rcases List.mem_append.mp hy with hy | hy
        · exact sL y (List.mem_append_left _ hy)
        · exact o.closed _ hex y hy
      · simp only [List.length_append, List.length_singleton]
        omega
end
end K34
namespace K34
open PySem PySem.Spec PyProof.Rows L2
local macro_rules | `(tactic| walk_at "sm") => `(tactic| (repeat (first | exact Same.refl _ | assumption | refine Same.trans ?_ (same_new (by assumption) _) | refine Same.trans ?_ (by assumption))))
theorem row_inv {K : PySem.W.Frag} {H : Hp} {v : V} {r : Row} (h : Dp K H v r.d) : ∃ (a : Addr) (x : V), v = .ref a ∧ SqT K H a [.str r.sort, .str r.name, .int r.width, x] ∧ Dp K H x r.what.d := by
  obtain ⟨a, xs, rfl, hs, h⟩ := Dp.tup_inv h
  obtain ⟨v0, _, rfl, h0, r0⟩ := DpAll.cons_inv h
  obtain ⟨v1, _, rfl, h1, r1⟩ := DpAll.cons_inv r0
  obtain ⟨v2, _, rfl, h2, r2⟩ := DpAll.cons_inv r1
  obtain ⟨v3, _, rfl, h3, r3⟩ := DpAll.cons_inv r2
  obtain rfl := DpAll.nil_inv r3
  obtain rfl := Dp.str_inv h0
  obtain rfl := Dp.str_inv h1
  obtain rfl := Dp.int_inv h2
  exact ⟨a, v3, rfl, hs, h3⟩
theorem What.terms_ok {g : Ctx} {r : Row} (h : RowOk g r) : r.what.terms.length ≤ 8 ∧ ∀ t ∈ r.what.terms, ∃ k, Ok g 4 k t := by
  cases h with
  | input => exact ⟨Nat.zero_le _, fun t ht => absurd ht (by simp [What.terms])⟩
  | kept => exact ⟨Nat.zero_le _, fun t ht => absurd ht (by simp [What.terms])⟩
  | wire n w t h => exact ⟨by simp [What.terms], fun u hu => by simp only [What.terms, List.mem_singleton] at hu; subst hu; exact ⟨_, h⟩⟩
  | filter n w t h => exact ⟨by simp [What.terms], fun u hu => by simp only [What.terms, List.mem_singleton] at hu; subst hu; exact ⟨_, h⟩⟩
  | bus n w ds h2 h4 h =>
    constructor
    · have : ∀ l : List (Tm × Tm), (l.flatMap fun p => [p.1, p.2]).length = 2 * l.length := by
        intro l
        induction l with
        | nil => rfl
        | cons p l ih => simp only [List.flatMap_cons, List.length_append, ih, List.length_cons, List.length_nil]; omega
      show (ds.flatMap fun p => [p.1, p.2]).length ≤ 8
      rw [this]; omega
    · intro u hu
      simp only [What.terms, List.mem_flatMap, List.mem_cons, List.not_mem_nil, or_false] at hu
      obtain ⟨p, hp, rfl | rfl⟩ := hu
      · exact ⟨_, (h p hp).1⟩
      · exact ⟨_, (h p hp).2⟩
theorem noLs_tms (l : List Tm) : noLs (l.map Tm.d) = true := noLs_iff.mpr fun d hd => by rw [List.mem_map] at hd; obtain ⟨u, _, rfl⟩ := hd; exact u.noL
theorem so1 : decide (V.str "input" = V.str "bus") = false := by decide +kernel
theorem so2 : decide (V.str "kept" = V.str "bus") = false := by decide +kernel
theorem so3 : decide (V.str "wire" = V.str "bus") = false := by decide +kernel
theorem so4 : decide (V.str "filter" = V.str "bus") = false := by decide +kernel
theorem so5 : decide (V.str "bus" = V.str "bus") = true := by decide +kernel
theorem wf1 : inV (V.str "input") [V.str "wire", V.str "filter"] = false := by decide +kernel
theorem wf2 : inV (V.str "kept") [V.str "wire", V.str "filter"] = false := by decide +kernel
theorem wf3 : inV (V.str "wire") [V.str "wire", V.str "filter"] = true := by decide +kernel
theorem wf4 : inV (V.str "filter") [V.str "wire", V.str "filter"] = true := by decide +kernel
section
variable {P : Program} {w : World} {K : PySem.W.Frag} {mg : Str → Option Value} {base : Heap}
def spTermsOf (K : PySem.W.Frag) : Sp := fun vs H Q _ => ∃ (v : V) (r : Row) (g : Ctx), vs = [v] ∧ Dp K H v r.d ∧ RowOk g r ∧ Ret H Q fun u H' => Dp K H' u (.list (r.what.terms.map Tm.d))
theorem ok_terms_of (T : TX K mg w) : FnOk P w K mg base CX0 1 T.a_terms_of T.d_terms_of p_terms_of (spTermsOf K) := by
  refine T.F_terms_of.ok sc_terms_of (fun vs H Q E h => ?_) (fun cdv A outer s H vs Q E hr h => ?_)
  · obtain ⟨v, r, g, rfl, _⟩ := h; rfl
  obtain ⟨v, r, g, rfl, hv, hr', q⟩ := h
  have nd := sc_terms_of.nd
  refine ⟨_, ((pss_cons (ps_asg (pv 0) (pg_tup rfl (pgs_cons (pg_name (i := 1) nd rfl (Or.inl rfl)) (pgs_cons (pg_name (i := 2) nd rfl (Or.inl rfl)) (pgs_cons (pg_name (i := 3) nd rfl (Or.inl rfl)) (pgs_cons (pg_name (i := 4) nd rfl (Or.inl rfl)) pgs_nil))))))
      (pss_cons (ps_if (pt_cmpR op_eq (pv 1) pe_str (nomark _)) (pss_one (ps_ret (pe_lc2 (own := [("driver", 5), ("term", 6)]) (vs1 := [6]) (g := gName 5) (tt := tYes) (g1 := gName 6) (tt1 := tYes) rfl nd (pi_tup (pv 4)) (blkOk_by (N := n_terms_of) (sc := defScope s_terms_of) (by decide +kernel)) (by decide) (fun _ _ _ _ _ => (pg_name (i := 5) nd rfl (Or.inl rfl))) (fun _ _ _ _ _ => pts_nil) (fun _ _ _ _ _ => (pi_tupK (K := K) rfl (pv 5))) (fun _ _ _ _ _ => (pg_name (i := 6) nd rfl (Or.inl rfl))) (fun _ _ _ _ _ => pts_nil) (fun _ _ _ _ _ => (pv 6))))) pss_nil)
      (pss_one (ps_ret (pe_ifExp (pt_cmpR op_in_seq (pv 1) (pe_tup (pa_cons pe_str (pa_cons pe_str pa_nil))) (by rfl)) (pe_lst (pa_cons (pv 4) pa_nil)) (pe_lst pa_nil))))))), ?_⟩
  obtain ⟨a, x, rfl, hs, hx⟩ := row_inv hv
  refine ⟨_, rfl, a, _, rfl, hs, rfl, _, _, rfl, _, _, rfl, _, _, rfl, _, _, rfl, rfl, _, rfl, rfl, _, rfl, ?_⟩
  cases hr' with
  | input n wd =>
    refine if_f so1 ⟨_, rfl, by show 2 ≤ sizeLine; decide, fun p2 hp2 => ⟨p2, _, rfl, .inr (SqT.of upd_same), rfl, rfl, _, rfl, if_f wf1 ⟨by show 0 ≤ sizeLine; decide, fun p3 hp3 => q _ _ (by walk_at "sm") (.lst (SqL.of upd_same) .nil)⟩⟩⟩
  | kept n wd x hl hb =>
    refine if_f so2 ⟨_, rfl, by show 2 ≤ sizeLine; decide, fun p2 hp2 => ⟨p2, _, rfl, .inr (SqT.of upd_same), rfl, rfl, _, rfl, if_f wf2 ⟨by show 0 ≤ sizeLine; decide, fun p3 hp3 => q _ _ (by walk_at "sm") (.lst (SqL.of upd_same) .nil)⟩⟩⟩
  | wire n wd t ht =>
    refine if_f so3 ⟨_, rfl, by show 2 ≤ sizeLine; decide, fun p2 hp2 => ⟨p2, _, rfl, .inr (SqT.of upd_same), rfl, rfl, _, rfl, if_t wf3 ⟨_, rfl, by show 1 ≤ sizeLine; decide, fun p3 hp3 => q _ _ (by walk_at "sm") (.lst (SqL.of upd_same) (.cons (hx.mono (by walk_at "sm")) .nil))⟩⟩⟩
  | filter n wd t ht =>
    refine if_f so4 ⟨_, rfl, by show 2 ≤ sizeLine; decide, fun p2 hp2 => ⟨p2, _, rfl, .inr (SqT.of upd_same), rfl, rfl, _, rfl, if_t wf4 ⟨_, rfl, by show 1 ≤ sizeLine; decide, fun p3 hp3 => q _ _ (by walk_at "sm") (.lst (SqL.of upd_same) (.cons (hx.mono (by walk_at "sm")) .nil))⟩⟩⟩
  | bus n wd ds h2 h4 hd =>
    obtain ⟨b, ys, rfl, hb, rb⟩ := Dp.tup_inv hx
    have lys := rb.length
    rw [List.length_map] at lys
    refine if_t so5 ⟨_, rfl, b, rfl, ⟨_, hb⟩, fun D hD => ?_⟩
    have efl : (ds.map fun p => [p.1.d, p.2.d]).flatten = (What.terms (.bus ds)).map Tm.d := by
      show _ = (ds.flatMap fun p => [p.1, p.2]).map Tm.d
      rw [List.map_flatMap, List.flatMap_def]
      rfl
    have l8 : (What.terms (.bus ds)).length ≤ 8 := (What.terms_ok (RowOk.bus n wd ds h2 h4 hd)).1
    refine lc2D (K := K) walk_tup (ds.map fun p => [p.1.d, p.2.d]) (by rw [List.length_map, lys]) (by rw [efl, List.length_map]; omega) (by rw [efl]; exact noLs_tms _) hD (fun _ e => Evl.ex_t e hb) yat_same gm_name gm_name ?_ ?_
    · rintro i y H5 _ el hi he e5 ⟨rfl, hy⟩ ⟨acc, hacc⟩ R hR
      rw [List.getElem?_map] at he
      obtain ⟨d, hd', hyd⟩ := rb.get hy
      rw [List.getElem?_map] at hd'
      cases hu : ds[i]? with
      | none => rw [hu] at hd'; cases hd'
      | some u =>
        rw [hu] at he hd'
        cases he; cases hd'
        obtain ⟨c, zs, rfl, hc, rc⟩ := Dp.tup_inv hyd
        obtain ⟨z0, _, rfl, hz0, rz0⟩ := DpAll.cons_inv rc
        obtain ⟨z1, _, rfl, hz1, rz1⟩ := DpAll.cons_inv rz0
        obtain rfl := DpAll.nil_inv rz1
        refine ⟨rfl, _, rfl, c, rfl, ⟨_, Evl.ex_t e5 hc⟩, ?_⟩
        refine hR _ _ _ _ _ _ walk_tup rfl (Same.refl _) (fun H6 sx tx => tx.sqt (Evl.ex_t e5 hc)) yat_same ?_
        rintro j y H6 _ e hee sx tx e6 ⟨rfl, hy⟩ Qy hq
        refine ⟨rfl, _, rfl, hq _ _ (Same.refl _) ?_⟩
        match j, hee, hy with
        | 0, hee, hy => cases hee; cases hy; exact hz0.mono e6
        | 1, hee, hy => cases hee; cases hy; exact hz1.mono e6
        | j + 2, hee, hy => cases hee
    · intro zs' H6 e6 hzs hr6
      rw [efl] at hr6
      exact q _ _ e6 (.lst (SqL.of hzs) hr6)
theorem nodup_name {rs : List Row} (nd : (rs.map Row.name).Nodup) {r r' : Row} (h : r ∈ rs) (h' : r' ∈ rs) (e : r.name = r'.name) : r = r' := by
  obtain ⟨i, hi, rfl⟩ := List.getElem_of_mem h
  obtain ⟨j, hj, rfl⟩ := List.getElem_of_mem h'
  have q : (rs.map Row.name)[i]'(by rw [List.length_map]; exact hi) = (rs.map Row.name)[j]'(by rw [List.length_map]; exact hj) := by simpa using e
  have := (List.getElem_inj nd).mp q
  subst this
  rfl
theorem ctx_names (rs : List Row) : (ctx rs).map (·.1) = rs.map Row.name := by unfold ctx; rw [List.map_map]; rfl
def spNB (K : PySem.W.Frag) : Sp := fun vs H Q _ => ∃ (a : Addr) (xs : List V) (rs : List Row), vs = [.ref a] ∧ SqL K H a xs ∧ DpAll K H xs (rs.map Row.d) ∧ SigOk rs ∧
  ∀ (p : Addr) (tb : List (Str × Addr × List Str)) (H' : Hp), Same H H' → TB H' p tb → TbOk (Edge rs) tb → tb.map (·.1) = rs.map Row.name → Q (.ref p) H'
theorem ok_names_beside (T : TX K mg w) (G_terms_of : FnOk P w K mg base CX0 1 T.a_terms_of T.d_terms_of p_terms_of (spTermsOf K)) (G_names_in : FnOk P w K mg base CX0 7 T.a_names_in T.d_names_in p_names_in (spNI K)) :
    FnOk P w K mg base CX0 8 T.a_names_beside T.d_names_beside p_names_beside (spNB K) := by
  refine T.F_names_beside.ok sc_names_beside (fun vs H Q E h => ?_) (fun cdv A outer s H vs Q E hr h => ?_)
  · obtain ⟨a, xs, rs, rfl, _⟩ := h; rfl
  obtain ⟨a, xs, rs, rfl, ha, hd, ok, q⟩ := h
  have nd := sc_names_beside.nd
  refine ⟨_, ((pss_one (ps_ret (pe_dc (own := [("row", 1)]) (g := gName 1) (tt := tYes) rfl nd (pi_list (pv 0)) (blkOk_by (N := n_names_beside) (sc := defScope s_names_beside) (by decide +kernel)) (fun _ _ _ _ _ => (pg_name (i := 1) nd rfl (Or.inl rfl))) (fun _ _ _ _ _ => pts_nil) (fun _ _ _ _ _ => (pe_ix (ix_tupK (K := K) rfl) (pv 1) pe_int (fun _ _ => rfl))) (fun _ _ _ _ _ => (pe_lc2 (own := [("term", 2), ("name", 3)]) (vs1 := [3]) (g := gName 2) (tt := tYes) (g1 := gName 3) (tt1 := tYes) rfl nd (pi_listK (K := K) rfl (pe_call G_terms_of (hr.mono (by omega)) rfl T.m_terms_of T.k_terms_of T.b_terms_of .nil pass0 (pa_cons (pv 1) pa_nil))) (blk_nf (blkOk_by (N := n_names_beside) (sc := defScope s_names_beside) (by decide +kernel)) (by decide +kernel)) (by decide) (fun _ _ _ _ _ => (pg_name (i := 2) nd rfl (Or.inl rfl))) (fun _ _ _ _ _ => pts_nil) (fun _ _ _ _ _ => (pi_listK (K := K) rfl (pe_call G_names_in (hr.mono (by omega)) rfl T.m_names_in T.k_names_in T.b_names_in .nil pass0 (pa_cons (pv 2) pa_nil)))) (fun _ _ _ _ _ => (pg_name (i := 3) nd rfl (Or.inl rfl))) (fun _ _ _ _ _ => pts_nil) (fun _ _ _ _ _ => (pv 3)))))))), ?_⟩
  have lxs := hd.length
  rw [List.length_map] at lxs
  have l11 := ok.len
  have ndn : (rs.map Row.name).Nodup := by rw [← ctx_names]; exact ok.g.nd
  refine ⟨_, rfl, a, rfl, ⟨_, ha⟩, fun D hD => ?_⟩
  refine dc_it (walk_list (K := K) (a := a) (xs := xs)) (fun i H2 => Same H H2 ∧ ∃ tb : List (Str × Addr × List Str), TB H2 D tb ∧ tb.map (·.1) = (rs.take i).map Row.name ∧ ∀ e ∈ tb, e.2.2.length ≤ 400 ∧ ∃ r ∈ rs, r.name = e.1 ∧ ∀ y, y ∈ e.2.2 ↔ y ∈ r.what.names) ⟨same_new hD _, [], ⟨upd_same, fun e he => absurd he List.not_mem_nil⟩, by simp, fun e he => absurd he List.not_mem_nil⟩ (fun i H2 _ z => z.1.seq ha) ?_ ?_
  · rintro i x H2 _ hi ⟨e2, tb, ht, em, hb⟩ ⟨rfl, hx⟩
    obtain ⟨d, hd', hxd⟩ := hd.get hx
    rw [List.getElem?_map] at hd'
    cases hri : rs[i]? with
    | none => rw [hri] at hd'; cases hd'
    | some r =>
      rw [hri] at hd'
      cases hd'
      have hrm : r ∈ rs := List.mem_of_getElem? hri
      have rok := ok.row r hrm
      obtain ⟨c, y, rfl, hc, hy⟩ := row_inv (hxd.mono e2)
      refine ⟨rfl, yes_go ?_⟩
      refine ⟨_, rfl, c, _, _, _, rfl, rfl, hc, (show atI [V.str r.sort, V.str r.name, V.int r.width, y] 1 = some (.str r.name) from rfl), ?_⟩
      refine ⟨_, rfl, _, r, _, rfl, hxd.mono e2, rok, fun u3 H3 e3 hu3 => ?_⟩
      obtain ⟨l3, zs, rfl, hl3, rz⟩ := Dp.lst_inv hu3
      have lzs := rz.length
      rw [List.length_map] at lzs
      obtain ⟨t8, tok⟩ := What.terms_ok rok
      refine ⟨l3, rfl, ⟨_, hl3⟩, fun D5 hD5 => ?_⟩
      -- the inner lists, chosen as they come: kept by a plain loop of our own
      refine ⟨fun j m H5 => m = zs.length - j ∧ j ≤ zs.length ∧ Same H3 H5 ∧ ∃ acc : List Str, H5 D5 = some (.lst (acc.map V.str)) ∧ acc.length ≤ 40 * j ∧ ∀ y, y ∈ acc ↔ y ∈ (r.what.terms.take j).flatMap Tm.names, ⟨_, rfl, Nat.zero_le _, same_new hD5 _, [], upd_same, Nat.le_refl _, by simp⟩, ?_⟩
      rintro j m H5 ⟨rfl, hj, e5, acc, hacc, lacc, macc⟩
      rcases Nat.lt_or_ge j zs.length with hlt | hge
      · refine .inr ⟨walk_list.goes j H5 hlt (e5.seq hl3), fun H' => j + 1 ≤ zs.length ∧ Same H3 H' ∧ ∃ acc : List Str, H' D5 = some (.lst (acc.map V.str)) ∧ acc.length ≤ 40 * (j + 1) ∧ ∀ y, y ∈ acc ↔ y ∈ (r.what.terms.take (j + 1)).flatMap Tm.names, fun H' z => ⟨_, by omega, rfl, z⟩, fun x5 H5' y5 => ?_⟩
        obtain ⟨rfl, hx5⟩ := walk_list.yields j H5 x5 H5' hlt (e5.seq hl3) y5
        obtain ⟨d5, hd5, hxd5⟩ := rz.get hx5
        rw [List.getElem?_map] at hd5
        cases htj : r.what.terms[j]? with
        | none => rw [htj] at hd5; cases hd5
        | some t =>
          rw [htj] at hd5
          cases hd5
          obtain ⟨k, hk⟩ := tok t (List.mem_of_getElem? htj)
          refine ⟨rfl, yes_go ?_⟩
          refine ⟨_, rfl, _, t, _, k, rfl, hxd5.mono e5, hk, ok.g, fun l ml ll p6 H6 e6 hp6 hl6 => ?_⟩
          have hacc6 := e6 _ _ hacc
          have p6D : p6 ≠ D5 := fun z => by rw [z, hacc] at hp6; cases hp6
          have e36 := e5.trans e6
          refine ⟨p6, rfl, ⟨_, SqL.of hl6⟩, ?_⟩
          refine ⟨fun i1 m1 H7 => m1 = l.length - i1 ∧ i1 ≤ l.length ∧ Same H3 H7 ∧ H7 p6 = some (.lst (l.map V.str)) ∧ H7 D5 = some (.lst ((acc ++ l.take i1).map V.str)), ⟨_, rfl, Nat.zero_le _, e36, hl6, by rw [List.take_zero, List.append_nil]; exact hacc6⟩, ?_⟩
          rintro i1 m1 H7 ⟨rfl, hi1, e7, hp7, hD7⟩
          have ll' : (l.map V.str).length = l.length := List.length_map _
          rcases Nat.lt_or_ge i1 l.length with hlt1 | hge1
          · refine .inr ⟨walk_list.goes i1 H7 (by rw [ll']; exact hlt1) (SqL.of hp7), fun H' => i1 + 1 ≤ l.length ∧ Same H3 H' ∧ H' p6 = some (.lst (l.map V.str)) ∧ H' D5 = some (.lst ((acc ++ l.take (i1 + 1)).map V.str)), fun H' z => ⟨_, by omega, rfl, z⟩, fun x7 H7' y7 => ?_⟩
            obtain ⟨rfl, hx7⟩ := walk_list.yields i1 H7 x7 H7' (by rw [ll']; exact hlt1) (SqL.of hp7) y7
            rw [List.getElem?_map] at hx7
            obtain ⟨nm, hnm⟩ : ∃ nm, l[i1]? = some nm := ⟨l[i1], List.getElem?_eq_getElem hlt1⟩
            rw [hnm] at hx7
            cases hx7
            refine ⟨rfl, yes_go ⟨_, rfl, _, hD7, ?_, hlt1, same_lst e7 hD5, ?_, ?_⟩⟩
            · rw [List.length_map, List.length_append, List.length_take]
              exact small1000 (by omega)
            · rw [upd_ne p6D]; exact hp7
            · rw [upd_same, List.take_add_one, hnm]
              simp
          · obtain rfl : i1 = l.length := by omega
            rw [List.take_length] at hD7
            refine .inl ⟨by have := (walk_list (K := K) (a := p6) (xs := l.map V.str)).stops H7 (SqL.of hp7); rw [ll'] at this; exact this, hlt, e7, acc ++ l, hD7, by rw [List.length_append]; omega, fun y => ?_⟩
            rw [List.take_add_one, htj, List.mem_append, macc, ml]
            simp
      · obtain rfl : j = zs.length := by omega
        rw [List.take_of_length_le (by omega)] at macc
        refine .inl ⟨walk_list.stops H5 (e5.seq hl3), _, Sum.inr r.name, rfl, (e3.trans e5) _ _ ht.at_, small1000 ?_, ?_⟩
        · rw [List.length_map]
          have := congrArg List.length em
          rw [List.length_map, List.length_map, List.length_take] at this
          omega
        have e25 : Same H (upd H5 D (.dK (putK (tb.map fun e => ((Sum.inr e.1 : Key), V.ref e.2.1)) (Sum.inr r.name) (.ref D5)))) := same_lst (e2.trans (e3.trans e5)) hD
        have hnew : valV (tb.map fun e => ((Sum.inr e.1 : Key), V.ref e.2.1)) (Sum.inr r.name) = none := by
          have hnt : r.name ∉ tb.map (·.1) := by
            rw [em]
            intro hm
            rw [List.mem_map] at hm
            obtain ⟨r', hr'', e'⟩ := hm
            obtain ⟨k, hk, e⟩ := List.getElem_of_mem hr''
            rw [List.length_take] at hk
            rw [List.getElem_take] at e
            have h1 : rs[k]? = some r' := by rw [← e]; exact List.getElem?_eq_getElem _
            have h2 : (rs.map Row.name)[k]? = some r.name := by rw [List.getElem?_map, h1, ← e']; rfl
            have h3 : (rs.map Row.name)[i]? = some r.name := by rw [List.getElem?_map, hri]; rfl
            have := nd_ix ndn h2 h3
            omega
          clear hb ht em e25
          induction tb with
          | nil => rfl
          | cons e tb ih =>
            rw [List.map_cons, List.mem_cons, not_or] at hnt
            rw [List.map_cons, valV_neg (fun z => hnt.1 (Sum.inr.inj z).symm)]
            exact ih hnt.2
        refine ⟨e25, tb ++ [(r.name, D5, acc)], ⟨?_, ?_⟩, ?_, ?_⟩
        · rw [upd_same, putK_new _ hnew, List.map_append]
          rfl
        · intro e he
          have hne : ∀ {b : Addr} {ys : List V}, H5 b = some (.lst ys) → b ≠ D := fun hb' => ne_of hb' ((e3.trans e5) _ _ ht.at_) (by intro z; cases z)
          rcases List.mem_append.mp he with he | he
          · have := (e3.trans e5) _ _ (ht.lst e he)
            rw [upd_ne (hne this)]
            exact this
          · obtain rfl : e = (r.name, D5, acc) := by simpa using he
            rw [upd_ne (hne hacc)]
            exact hacc
        · rw [List.map_append, em, List.take_add_one, hri, List.map_append]
          rfl
        · intro e he
          rcases List.mem_append.mp he with he | he
          · exact hb e he
          · obtain rfl : e = (r.name, D5, acc) := by simpa using he
            refine ⟨by show acc.length ≤ 400; omega, r, hrm, rfl, fun y => ?_⟩
            rw [What.names_terms]
            exact macc y
  · rintro H2 ⟨e2, tb, ht, em, hb⟩
    rw [List.take_of_length_le (by omega)] at em
    refine q D tb H2 e2 ht ⟨fun e he y => ?_, fun e he y hy => ?_, by rw [em]; exact ndn, ?_, fun e he => (hb e he).1, fun e he => ?_⟩ em
    · obtain ⟨_, r, hr1, en, hm⟩ := hb e he
      rw [hm]
      constructor
      · exact fun h => ⟨r, hr1, en, h⟩
      · rintro ⟨r', hr2, en', h⟩
        obtain rfl := nodup_name ndn hr1 hr2 (en.trans en'.symm)
        exact h
    · obtain ⟨_, r, hr1, en, hm⟩ := hb e he
      rw [hm, What.names_terms, List.mem_flatMap] at hy
      obtain ⟨t, ht', hy⟩ := hy
      obtain ⟨k, hk⟩ := (What.terms_ok (ok.row r hr1)).2 t ht'
      obtain ⟨j, hj⟩ := hk.names_in y hy
      rw [em, ← ctx_names]
      exact List.mem_map.mpr ⟨_, hj, rfl⟩
    · have := congrArg List.length em
      rw [List.length_map, List.length_map] at this
      omega
    · obtain ⟨_, r, hr1, en, hm⟩ := hb e he
      rw [← en]
      exact ok.g.nm _ r.width (List.mem_map.mpr ⟨r, hr1, rfl⟩)
end
end K34
namespace K34
open PySem PySem.Spec PyProof.Rows L2
local macro_rules | `(tactic| walk_at "sm") => `(tactic| (repeat (first | exact Same.refl _ | assumption | refine Same.trans ?_ (same_new (by assumption) _) | refine Same.trans ?_ (by assumption))))
def toldD : Option (Str × Str) → PyData
  | none => .none
  | some (k, x) => .tuple [.str k, .str x]
theorem told_new {K : PySem.W.Frag} {H : Hp} {p : Addr} {k x : Str} : Dp K (upd H p (.tup [.str k, .str x])) (.ref p) (toldD (some (k, x))) := .tup (SqT.of upd_same) (.cons (.str k) (.cons (.str x) .nil))
theorem rows_at {K : PySem.W.Frag} {H : Hp} {xs : List V} {rs : List Row} {i : Nat} {x : V} (hd : DpAll K H xs (rs.map Row.d)) (hx : xs[i]? = some x) : ∃ r, rs[i]? = some r ∧ Dp K H x r.d := by
  obtain ⟨d, hd', hxd⟩ := hd.get hx
  rw [List.getElem?_map] at hd'
  cases hri : rs[i]? with
  | none => rw [hri] at hd'; cases hd'
  | some r => rw [hri] at hd'; cases hd'; exact ⟨r, rfl, hxd⟩
theorem find_all {α : Type} {p : α → Bool} {l : List α} {n : Nat} (hn : l.length ≤ n) (h : (l.take n).find? p = none) : l.find? p = none := by rwa [List.take_of_length_le hn] at h
theorem filters_map : ∀ rs : List Row, (rs.map fun r => if r.sort = (Str.ofString "filter") then some (PyData.str r.name) else none).filterMap id = (filtersOf rs).map PyData.str
  | [] => rfl
  | r :: l => by
    have ih := filters_map l
    unfold filtersOf at ih ⊢
    by_cases hs : r.sort = Str.ofString "filter"
    · rw [List.map_cons, if_pos hs, List.filterMap_cons_some (by rfl), ih, List.filter_cons_of_pos (by simpa using hs)]
      rfl
    · rw [List.map_cons, if_neg hs, List.filterMap_cons_none (by rfl), ih, List.filter_cons_of_neg (by simpa using hs)]
section
variable {P : Program} {w : World} {K : PySem.W.Frag} {mg : Str → Option Value} {base : Heap}
def spRing (K : PySem.W.Frag) : Sp := fun vs H Q _ => ∃ (a : Addr) (xs : List V) (rs : List Row), vs = [.ref a] ∧ SqL K H a xs ∧ DpAll K H xs (rs.map Row.d) ∧ SigOk rs ∧ Ret H Q fun v H' => Dp K H' v (toldD ((ringOf rs).or (filtOf rs)))
open Classical in
theorem ok_ring_wrong (T : TX K mg w) (G_names_beside : FnOk P w K mg base CX0 8 T.a_names_beside T.d_names_beside p_names_beside (spNB K)) (G_hangs_on : FnOk P w K mg base CX0 1 T.a_hangs_on T.d_hangs_on p_hangs_on (spHang K)) :
    FnOk P w K mg base CX0 9 T.a_ring_wrong T.d_ring_wrong p_ring_wrong (spRing K) := by
  refine T.F_ring_wrong.ok sc_ring_wrong (fun vs H Q E h => ?_) (fun cdv A outer s H vs Q E hr h => ?_)
  · obtain ⟨a, xs, rs, rfl, _⟩ := h; rfl
  obtain ⟨a, xs, rs, rfl, ha, hd, ok, q⟩ := h
  have nd := sc_ring_wrong.nd
  refine ⟨_, ((pss_cons (ps_set (i := 1) nd rfl (Or.inl rfl) (pe_call G_names_beside (hr.mono (by omega)) rfl T.m_names_beside T.k_names_beside T.b_names_beside .nil pass0 (pa_cons (pv 0) pa_nil)))
      (pss_cons (ps_for PassesOwn.never rfl (pi_list (pv 0)) (pg_name (i := 2) nd rfl (Or.inl rfl)) (pss_one (ps_if (pt_cmpR op_in_seq (pe_ix ix_tup (pv 2) pe_int (fun _ _ => rfl)) (pe_call G_hangs_on (hr.mono (by omega)) rfl T.m_hangs_on T.k_hangs_on T.b_hangs_on .nil pass0 (pa_cons (pe_ix ix_tup (pv 2) pe_int (fun _ _ => rfl)) (pa_cons (pv 1) pa_nil))) (by rfl)) (pss_one (ps_ret (pe_tup (pa_cons pe_str (pa_cons (pe_ix ix_tup (pv 2) pe_int (fun _ _ => rfl)) pa_nil))))) pss_nil)))
      (pss_cons (ps_set (i := 3) nd rfl (Or.inr rfl) (pe_lc (own := [("row", 2)]) (g := gName 2) rfl nd (pi_list (pv 0)) (blkOk_by (N := n_ring_wrong) (sc := defScope s_ring_wrong) (by decide +kernel)) (fun _ _ _ _ _ => (pg_name (i := 2) nd rfl (Or.inl rfl))) (fun _ _ _ _ _ => pts_one (pt_cmpR op_eq (pe_ix (ix_tupK (K := K) rfl) (pv 2) pe_int (fun _ _ => rfl)) pe_str (nomark _))) (fun _ _ _ _ _ => (pe_ix (ix_tupK (K := K) rfl) (pv 2) pe_int (fun _ _ => rfl)))))
      (pss_cons (ps_for PassesOwn.never rfl (pi_list (pv 3)) (pg_name (i := 4) nd rfl (Or.inl rfl)) (pss_one (ps_if (pt_val (pe_callB (cr_any rfl) (by rfl) T.z_any (by decide +kernel) (pa_cons (pe_lc (own := [("other", 5)]) (g := gName 5) (tt := tYes) rfl nd (pi_list (pe_call G_hangs_on (hr.mono (by omega)) rfl T.m_hangs_on T.k_hangs_on T.b_hangs_on .nil pass0 (pa_cons (pv 4) (pa_cons (pv 1) pa_nil)))) (blkOk_by (N := n_ring_wrong) (sc := defScope s_ring_wrong) (by decide +kernel)) (fun _ _ _ _ _ => (pg_name (i := 5) nd rfl (Or.inl rfl))) (fun _ _ _ _ _ => pts_nil) (fun _ _ _ _ _ => (pe_cmpR (op_in_seqK (K := K) rfl) (pv 5) (pv 3) (by rfl)))) pa_nil))) (pss_one (ps_ret (pe_tup (pa_cons pe_str (pa_cons (pv 4) pa_nil))))) pss_nil)))
      (pss_one (ps_ret pe_non))))))), ?_⟩
  have lxs := hd.length
  rw [List.length_map] at lxs
  have l11 := ok.len
  refine ⟨_, rfl, a, xs, rs, rfl, ha, hd, ok, fun p tb H1 e1 ht tok em => ?_⟩
  refine ⟨_, rfl, a, rfl, ⟨xs, e1.seq ha⟩, ?_⟩
  have mem : ∀ {r : Row}, r ∈ rs → r.name ∈ tb.map (·.1) := fun hr => by rw [em]; exact List.mem_map.mpr ⟨_, hr, rfl⟩
  refine for_it (walk_list (K := K) (a := a) (xs := xs)) (fun i σ H2 => ∃ o, σ = [some (.ref a), some (.ref p), o, none, none, none] ∧ Same H1 H2 ∧ (rs.take i).find? (fun r => decide (Rch (Edge rs) r.name r.name)) = none) ⟨none, rfl, Same.refl _, rfl⟩ (fun i σ H2 _ z => by obtain ⟨_, _, e2, _⟩ := z; exact (e1.trans e2).seq ha) ?_ ?_
  · rintro i x σ H2 _ hi ⟨o, rfl, e2, hf⟩ ⟨rfl, hx⟩
    obtain ⟨r, hri, hxd⟩ := rows_at hd hx
    have hrm : r ∈ rs := List.mem_of_getElem? hri
    obtain ⟨c, y, rfl, hc, hy⟩ := row_inv (hxd.mono (e1.trans e2))
    refine ⟨_, rfl, c, _, _, _, rfl, rfl, hc, (show atI [V.str r.sort, V.str r.name, V.int r.width, y] 1 = some (.str r.name) from rfl), ?_⟩
    refine ⟨_, rfl, c, _, _, _, rfl, rfl, hc, (show atI [V.str r.sort, V.str r.name, V.int r.width, y] 1 = some (.str r.name) from rfl), ?_⟩
    refine ⟨_, rfl, r.name, p, tb, Edge rs, rfl, ht.mono e2, tok, mem hrm, fun F hF lF p3 H3 e3 hp3 hl3 => ?_⟩
    refine ⟨p3, _, rfl, .inl (SqL.of hl3), rfl, flat_strs F, _, rfl, ?_⟩
    by_cases hrc : Rch (Edge rs) r.name r.name
    · refine if_t (by show inV (V.str r.name) (F.map V.str) = true; rw [inV_str]; exact decide_eq_true ((hF _).mpr hrc)) ?_
      refine ⟨_, rfl, c, _, _, _, rfl, rfl, Evl.ex_t e3 hc, (show atI [V.str r.sort, V.str r.name, V.int r.width, y] 1 = some (.str r.name) from rfl), by show 2 ≤ sizeLine; decide, fun p4 hp4 => ?_⟩
      have hfind : ringOf rs = some ((Str.ofString "ring"), r.name) := by
        unfold ringOf
        rw [find_hit hri hf (decide_eq_true hrc)]
        rfl
      refine q _ _ (e1.trans (e2.trans (e3.trans (same_new hp4 _)))) ?_
      rw [hfind]
      exact told_new
    · refine if_f (by show inV (V.str r.name) (F.map V.str) = false; rw [inV_str]; exact decide_eq_false fun z => hrc ((hF _).mp z)) ?_
      exact ⟨_, rfl, e2.trans e3, find_miss hri hf (decide_eq_false hrc)⟩
  · rintro σ H2 ⟨o, rfl, e2, hf⟩
    have hring : ringOf rs = none := by
      unfold ringOf
      rw [find_all (by omega) hf]
      rfl
    refine ⟨_, rfl, a, rfl, ⟨xs, (e1.trans e2).seq ha⟩, fun D hD => ?_⟩
    have e12 := e1.trans e2
    refine lcO (K := K) walk_list (rs.map fun r => if r.sort = (Str.ofString "filter") then some (PyData.str r.name) else none) (by rw [List.length_map, lxs]) (by omega) (fun d hd => by
        rw [List.mem_map] at hd
        obtain ⟨r, _, e⟩ := hd
        split at e <;> cases e
        rfl) hD (fun _ e => (e12.trans e).seq ha) yat_same ?_ ?_
    · rintro i x H3 _ e hi he e3 ⟨rfl, hx⟩ Qy Qn hy hn
      obtain ⟨r, hri, hxd⟩ := rows_at hd hx
      rw [List.getElem?_map, hri] at he
      cases he
      obtain ⟨c, y, rfl, hc, hw⟩ := row_inv (hxd.mono (e12.trans e3))
      refine ⟨rfl, _, rfl, c, _, _, _, rfl, rfl, hc, atI_0, rfl, _, rfl, ?_⟩
      by_cases hs : r.sort = Str.ofString "filter"
      · refine if_t (decide_eq_true (by rw [hs])) ?_
        exact ⟨_, rfl, c, _, _, _, rfl, rfl, hc, (show atI [V.str r.sort, V.str r.name, V.int r.width, y] 1 = some (.str r.name) from rfl), hy _ (if_pos hs) _ _ (Same.refl _) (.str _)⟩
      · refine if_f (decide_eq_false fun z => hs (V.str.inj z)) ?_
        exact hn (if_neg hs) _ (Same.refl _)
    · intro ys H3 e3 hys hr3
      rw [filters_map] at hr3
      obtain rfl := hr3.strs
      have lfs : (filtersOf rs).length ≤ 11 := by
        unfold filtersOf
        rw [List.length_map]
        exact Nat.le_trans (List.length_filter_le _ _) l11
      have e13 := e12.trans e3
      refine ⟨_, rfl, D, rfl, ⟨_, SqL.of hys⟩, ?_⟩
      have e23 := e2.trans e3
      refine for_it (walk_list (K := K) (a := D) (xs := (filtersOf rs).map V.str)) (fun i σ H4 => ∃ o', σ = [some (.ref a), some (.ref p), o, some (.ref D), o', none] ∧ Same H3 H4 ∧ ((filtersOf rs).take i).find? (fun n => decide (∃ y ∈ filtersOf rs, Rch (Edge rs) n y)) = none) ⟨none, rfl, Same.refl _, rfl⟩ (fun i σ H4 _ z => by obtain ⟨_, _, e4, _⟩ := z; exact SqL.of (e4 _ _ hys)) ?_ ?_
      · rintro i x σ H4 _ hi ⟨o', rfl, e4, hf⟩ ⟨rfl, hx⟩
        rw [List.getElem?_map] at hx
        cases hn : (filtersOf rs)[i]? with
        | none => rw [hn] at hx; cases hx
        | some n =>
          rw [hn] at hx
          cases hx
          have hnm : n ∈ tb.map (·.1) := by
            have := List.mem_of_getElem? hn
            unfold filtersOf at this
            rw [List.mem_map] at this
            obtain ⟨r, hr', rfl⟩ := this
            exact mem (List.mem_filter.mp hr').1
          refine ⟨_, rfl, _, rfl, n, p, tb, Edge rs, rfl, ht.mono (e23.trans e4), tok, hnm, fun F hF lF p5 H5 e5 hp5 hl5 => ?_⟩
          have lF11 : F.length ≤ 1000 := by omega
          refine ⟨p5, rfl, ⟨_, SqL.of hl5⟩, fun D6 hD6 => ?_⟩
          refine lcD (K := K) walk_list (F.map fun y => PyData.bool (decide (y ∈ filtersOf rs))) (by simp) (by simpa using lF11) (noLs_iff.mpr fun d hd => by rw [List.mem_map] at hd; obtain ⟨u, _, rfl⟩ := hd; rfl) hD6 (fun _ e => SqL.of (e _ _ hl5)) yat_same ?_ gm_name ?_
          · rintro j x6 H6 _ e hj he e6 ⟨rfl, hx6⟩ Qy hy
            rw [List.getElem?_map] at he hx6
            cases hF6 : F[j]? with
            | none => rw [hF6] at he; cases he
            | some y6 =>
              rw [hF6] at he hx6
              cases he; cases hx6
              refine ⟨rfl, _, rfl, _, rfl, D, _, rfl, .inl (SqL.of (e6 _ _ (e5 _ _ (e4 _ _ hys)))), rfl, flat_strs _, ?_⟩
              rw [inV_str]
              exact hy _ _ (Same.refl _) (.bl _)
          · intro ys6 H6 e6 hys6 hr6
            obtain rfl : ys6 = (F.map fun y => decide (y ∈ filtersOf rs)).map V.bl := (show DpAll K H6 ys6 ((F.map fun y => decide (y ∈ filtersOf rs)).map PyData.bool) by rw [List.map_map]; exact hr6).bls
            refine ⟨D6, _, rfl, SqL.of hys6, _, rfl, ?_⟩
            have hany : ((F.map fun y => decide (y ∈ filtersOf rs)).any id) = decide (∃ y ∈ filtersOf rs, Rch (Edge rs) n y) := by
              rw [Bool.eq_iff_iff, List.any_eq_true, decide_eq_true_iff]
              constructor
              · rintro ⟨b, hb, e⟩
                rw [List.mem_map] at hb
                obtain ⟨y, hy, rfl⟩ := hb
                exact ⟨y, of_decide_eq_true e, (hF y).mp hy⟩
              · rintro ⟨y, hy, hr⟩
                exact ⟨_, List.mem_map.mpr ⟨y, (hF y).mpr hr, rfl⟩, decide_eq_true hy⟩
            have e46 := e5.trans e6
            by_cases hh : ∃ y ∈ filtersOf rs, Rch (Edge rs) n y
            · refine if_t (hany.trans (decide_eq_true hh)) ?_
              refine ⟨_, rfl, by show 2 ≤ sizeLine; decide, fun p7 hp7 => q _ _ (e13.trans (e4.trans (e46.trans (same_new hp7 _)))) ?_⟩
              have hfind : filtOf rs = some ((Str.ofString "filter"), n) := by
                unfold filtOf
                rw [find_hit hn hf (decide_eq_true hh)]
                rfl
              rw [hring, hfind]
              exact told_new
            · refine if_f (hany.trans (decide_eq_false hh)) ?_
              exact ⟨_, rfl, e4.trans e46, find_miss hn hf (decide_eq_false hh)⟩
      · rintro σ H4 ⟨o', rfl, e4, hf⟩
        have hfl : filtOf rs = none := by
          unfold filtOf
          rw [find_all (by simp) hf]
          rfl
        refine q _ _ (e13.trans e4) ?_
        rw [hring, hfl]
        exact .non
end
end K34
namespace K34
open PySem PySem.Spec PyProof.Rows L2
local macro_rules | `(tactic| walk_at "sm") => `(tactic| (repeat (first | exact Same.refl _ | assumption | refine Same.trans ?_ (same_new (by assumption) _) | refine Same.trans ?_ (by assumption))))
theorem Stt.weight_pos : ∀ s : Stt, 1 ≤ s.weight ∧ 0 ≤ s.weight := by
  have hL : ∀ (l : List Stt), (∀ s ∈ l, 0 ≤ s.weight) → 0 ≤ weightL l := by
    intro l
    induction l with
    | nil => intro _; simp [weightL]
    | cons s r ih => intro h; have := ih fun x hx => h x (List.mem_cons_of_mem _ hx); have := h s List.mem_cons_self; simp only [weightL]; omega
  intro s
  induction s using Stt.rec (motive_2 := fun l => ∀ s ∈ l, 0 ≤ s.weight) with
  | set w n t => simp [Stt.weight]
  | iff t a b ia ib => have := hL a ia; have := hL b ib; simp only [Stt.weight]; omega
  | nil => rename_i h; cases h
  | cons s r h1 h2 => rename_i x hx; rcases List.mem_cons.mp hx with rfl | hx; exact h1.2; exact h2 x hx
theorem weightL_app (a b : List Stt) : weightL (a ++ b) = weightL a + weightL b := by rw [weightL_sum, weightL_sum, weightL_sum, List.map_append, List.sum_append]
theorem weightL_nn (l : List Stt) : 0 ≤ weightL l := by
  induction l with
  | nil => simp [weightL]
  | cons s r ih => have := s.weight_pos; simp only [weightL]; omega
theorem weightL_len (l : List Stt) : (l.length : Int) ≤ weightL l := by
  induction l with
  | nil => simp [weightL]
  | cons s r ih => have := s.weight_pos; simp only [weightL, List.length_cons]; omega
theorem weightL_mem {l : List Stt} {s : Stt} (h : s ∈ l) : s.weight ≤ weightL l := by
  induction l with
  | nil => cases h
  | cons x r ih =>
    simp only [weightL]
    have := weightL_nn r
    have := x.weight_pos
    rcases List.mem_cons.mp h with rfl | h
    · omega
    · have := ih h; omega
theorem setsL_app (o : Str) (a b : List Stt) : setsL o (a ++ b) = setsL o a ++ setsL o b := by rw [setsL_flat, setsL_flat, setsL_flat, List.flatMap_append]
theorem sets_len (o : Str) : ∀ l : List Stt, ((setsL o l).length : Int) ≤ weightL l := by
  have hL : ∀ l : List Stt, (∀ s ∈ l, ((s.sets o).length : Int) ≤ s.weight) → ((setsL o l).length : Int) ≤ weightL l := by
    intro l
    induction l with
    | nil => intro _; simp [setsL, weightL]
    | cons s r ih => intro h; have := ih fun x hx => h x (List.mem_cons_of_mem _ hx); have := h s List.mem_cons_self; simp only [setsL, weightL, List.length_append]; omega
  have h1 : ∀ s : Stt, ((s.sets o).length : Int) ≤ s.weight := by
    intro s
    induction s using Stt.rec (motive_2 := fun l => ∀ s ∈ l, ((s.sets o).length : Int) ≤ s.weight) with
    | set w n t => simp only [Stt.sets, Stt.weight]; split <;> simp
    | iff t a b ia ib => have := hL a ia; have := hL b ib; simp only [Stt.weight, Stt.sets, List.length_append]; omega
    | nil => rename_i h; cases h
    | cons s r h1 h2 => rename_i x hx; rcases List.mem_cons.mp hx with rfl | hx; exact h1; exact h2 x hx
  exact fun l => hL l fun s _ => h1 s
mutual
theorem Stt.noL : ∀ s : Stt, K34.noL s.d = true
  | .set w n t => by simp [Stt.d, K34.noL, K34.noLs, t.noL]
  | .iff t a b => by simp [Stt.d, K34.noL, K34.noLs, t.noL, Stt.noLs a, Stt.noLs b]
theorem Stt.noLs : ∀ l : List Stt, K34.noLs (sttsD l) = true
  | [] => rfl
  | s :: r => by simp [sttsD, K34.noLs, s.noL, Stt.noLs r]
end
theorem kw1 : decide (V.str "now" = V.str "if") = false := by decide +kernel
theorem kw2 : decide (V.str "later" = V.str "if") = false := by decide +kernel
theorem kw3 : decide (V.str "if" = V.str "if") = true := by decide +kernel
section
variable {P : Program} {w : World} {K : PySem.W.Frag} {mg : Str → Option Value} {base : Heap}
def spSet (K : PySem.W.Frag) (n : Nat) : Sp := fun vs H Q _ => ∃ (v : V) (o : Str) (b : List Stt) (g : Ctx) (kept : List Str) (m : Nat), n = m + 1 ∧ vs = [v, .str o] ∧ Dp K H v (.tuple (sttsD b)) ∧ (∀ s ∈ b, StOk g kept m s) ∧ weightL b ≤ 20 ∧ RetN H Q ((setsL o b).map V.str)
theorem ok_set_by1 (T : TX K mg w) (n : Nat) (G_set_by : FnOk P w K mg base CX0 (n + 1) T.a_set_by T.d_set_by p_set_by (spSet K n)) :
    FnOk P w K mg base CX0 (n + 1 + 1) T.a_set_by T.d_set_by p_set_by (spSet K (n + 1)) := by
  refine T.F_set_by.ok sc_set_by (fun vs H Q E h => ?_) (fun cdv A outer s H vs Q E hr h => ?_)
  · obtain ⟨v, o, b, g, kept, m, _, rfl, _⟩ := h; rfl
  obtain ⟨v, o, b, g, kept, m, hm, rfl, hv, hb, hw, q⟩ := h
  obtain rfl : n = m := by omega
  have nd := sc_set_by.nd
  refine ⟨_, ((pss_cons (ps_set (i := 2) nd rfl (Or.inl rfl) (pe_lst pa_nil))
      (pss_cons (ps_for PassesOwn.never rfl (pi_tup (pv 0)) (pg_starT (n := 3) (i := 2) rfl (pgs_cons (pg_name (i := 3) nd rfl (Or.inl rfl)) (pgs_cons (pg_name (i := 4) nd rfl (Or.inl rfl)) (pgs_star (pg_name (i := 5) nd rfl (Or.inl rfl)) pgs_nil)))) (pss_one (ps_if (pt_cmpR op_eq (pv 3) pe_str (nomark _)) (pss_one (ps_expr (pe_bm PySem.F.plainAttrs_list PySem.F.slot_list_extend PySem.F.type_list_extend mt_extend (pv 2) (pa_cons (pe_lc2 (own := [("inner", 6), ("name", 7)]) (vs1 := [7]) (g := gName 6) (tt := tYes) (g1 := gName 7) (tt1 := tYes) rfl nd (pi_list (pv 5)) (blkOk_by (N := n_set_by) (sc := defScope s_set_by) (by decide +kernel)) (by decide) (fun _ _ _ _ _ => (pg_name (i := 6) nd rfl (Or.inl rfl))) (fun _ _ _ _ _ => pts_nil) (fun _ _ _ _ _ => (pi_listK (K := K) rfl (pe_call G_set_by (hr.mono (by omega)) rfl T.m_set_by T.k_set_by T.b_set_by .nil pass0 (pa_cons (pv 6) (pa_cons (pv 1) pa_nil))))) (fun _ _ _ _ _ => (pg_name (i := 7) nd rfl (Or.inl rfl))) (fun _ _ _ _ _ => pts_nil) (fun _ _ _ _ _ => (pv 7))) pa_nil)))) (pss_one (ps_if (pt_cmpR op_eq (pv 3) (pv 1) (nomark _)) (pss_one (ps_expr (pe_bm PySem.F.plainAttrs_list PySem.F.slot_list_append PySem.F.type_list_append mt_append (pv 2) (pa_cons (pv 4) pa_nil)))) pss_nil)))))
      (pss_one (ps_ret (pv 2)))))), ?_⟩
  obtain ⟨a, xs, rfl, ha, hd⟩ := Dp.tup_inv hv
  have lxs := hd.length
  rw [sttsD_map, List.length_map] at lxs
  have lb := weightL_len b
  refine ⟨by show 0 ≤ sizeLine; decide, fun pf hpf => ?_⟩
  have f1 : Same H (upd H pf (.lst [])) := same_new hpf _
  refine ⟨_, rfl, a, rfl, ⟨xs, Evl.ex_t f1 ha⟩, ?_⟩
  refine for_it (walk_tup (K := K) (a := a) (xs := xs)) (fun i σ H2 => ∃ o1 o2 o3, σ = [some (.ref a), some (.str o), some (.ref pf), o1, o2, o3, none, none] ∧ Same H H2 ∧ H2 pf = some (.lst ((setsL o (b.take i)).map V.str))) ⟨none, none, none, rfl, f1, upd_same⟩ (fun i σ H2 _ z => by obtain ⟨_, _, _, _, e2, _⟩ := z; exact Evl.ex_t e2 ha) ?_ ?_
  · rintro i x σ _ H2 hi ⟨o1, o2, o3, rfl, e2, hF⟩ ⟨rfl, hx⟩
    obtain ⟨d, hd', hxd⟩ := hd.get hx
    rw [sttsD_map, List.getElem?_map] at hd'
    cases hs : b[i]? with
    | none => rw [hs] at hd'; cases hd'
    | some st =>
      rw [hs] at hd'
      cases hd'
      have hsm : st ∈ b := List.mem_of_getElem? hs
      have sok := hb st hsm
      have tk1 : setsL o (b.take (i + 1)) = setsL o (b.take i) ++ st.sets o := by
        rw [List.take_add_one, hs, setsL_app]
        simp [setsL]
      have lacc : ((setsL o (b.take i)).length : Int) ≤ 20 := by
        have h1 := sets_len o b
        have h2 : setsL o b = setsL o (b.take i) ++ setsL o (b.drop i) := by rw [← setsL_app, List.take_append_drop]
        rw [h2, List.length_append] at h1
        omega
      cases st with
      | set wd nm t =>
        obtain ⟨c, ys, rfl, hc, rc⟩ := Dp.tup_inv (hxd.mono e2)
        obtain ⟨v0, _, rfl, h0, r0⟩ := DpAll.cons_inv rc
        obtain ⟨v1, _, rfl, h1, r1⟩ := DpAll.cons_inv r0
        obtain ⟨v2, _, rfl, h2, r2⟩ := DpAll.cons_inv r1
        obtain rfl := DpAll.nil_inv r2
        obtain rfl := Dp.str_inv h0
        obtain rfl := Dp.str_inv h1
        cases n with
        | zero => exact sok.elim
        | succ k =>
          refine star3 hc (by show 1 ≤ 1000; decide) fun q1 hq1 => ⟨_, _, rfl, _, _, rfl, _, _, rfl, rfl, ?_⟩
          have f3 : Same H2 (upd H2 q1 (.lst [v2])) := same_new hq1 _
          have hw' : decide (V.str wd = V.str "if") = false := by rcases sok.1 with rfl | rfl; exact kw1; exact kw2
          refine ⟨_, rfl, rfl, _, rfl, if_f hw' ?_⟩
          refine ⟨_, rfl, _, rfl, rfl, _, rfl, ?_⟩
          have hF3 := f3 _ _ hF
          by_cases he : wd = o
          · refine if_t (decide_eq_true (by rw [he])) ?_
            refine ⟨_, rfl, .inl ⟨rfl, _, SqL.of hF3⟩, _, rfl, pf, _, _, rfl, rfl, hF3, small1000 (by rw [List.length_map]; omega), ?_⟩
            refine ⟨_, _, _, rfl, same_lst (e2.trans f3) hpf, ?_⟩
            rw [upd_same, tk1, List.map_append]
            simp only [Stt.sets, he, if_true, List.map_cons, List.map_nil]
          · refine if_f (decide_eq_false fun z => he (V.str.inj z)) ?_
            refine ⟨_, _, _, rfl, e2.trans f3, ?_⟩
            rw [hF3, tk1]
            simp only [Stt.sets, he, if_false, List.append_nil]
      | iff t sa sb =>
        obtain ⟨c, ys, rfl, hc, rc⟩ := Dp.tup_inv (hxd.mono e2)
        obtain ⟨v0, _, rfl, h0, r0⟩ := DpAll.cons_inv rc
        obtain ⟨v1, _, rfl, h1, r1⟩ := DpAll.cons_inv r0
        obtain ⟨v2, _, rfl, h2, r2⟩ := DpAll.cons_inv r1
        obtain ⟨v3, _, rfl, h3, r3⟩ := DpAll.cons_inv r2
        obtain rfl := DpAll.nil_inv r3
        obtain rfl := Dp.str_inv h0
        cases n with
        | zero => exact sok.elim
        | succ k =>
          have hwi := weightL_mem hsm
          simp only [Stt.weight] at hwi
          have wa := weightL_nn sa
          have wb := weightL_nn sb
          refine star3 hc (by show 2 ≤ 1000; decide) fun q1 hq1 => ⟨_, _, rfl, _, _, rfl, _, _, rfl, rfl, ?_⟩
          have f3 : Same H2 (upd H2 q1 (.lst [v2, v3])) := same_new hq1 _
          refine ⟨_, rfl, rfl, _, rfl, if_t kw3 ?_⟩
          have hF3 := f3 _ _ hF
          refine ⟨_, rfl, .inl ⟨rfl, _, SqL.of hF3⟩, ?_⟩
          have hq3 : upd H2 q1 (.lst [v2, v3]) q1 = some (.lst [v2, v3]) := upd_same
          have h2' := h2.mono f3
          have h3' := h3.mono f3
          have e3 := e2.trans f3
          generalize upd H2 q1 (.lst [v2, v3]) = H3 at *
          refine ⟨_, rfl, q1, rfl, ⟨_, SqL.of hq3⟩, fun D hD => ?_⟩
          have la := sets_len o sa
          have lb' := sets_len o sb
          refine lc2D (K := K) walk_list [(setsL o sa).map PyData.str, (setsL o sb).map PyData.str] rfl (by simp; omega) (by
            show noLs ((setsL o sa).map PyData.str ++ ((setsL o sb).map PyData.str ++ [])) = true
            rw [List.append_nil, ← List.map_append]
            exact noLs_strs _) hD (fun _ e => SqL.of (e _ _ hq3)) yat_same gm_name gm_name ?_ ?_
          · rintro j y H5 _ el hj he e5 ⟨rfl, hy⟩ ⟨acc, hacc⟩ R hR
            match j, he, hy with
            | 0, he, hy =>
              cases he; cases hy
              refine ⟨rfl, _, rfl, _, rfl, v2, o, sa, g, kept, k, rfl, rfl, h2'.mono e5, sok.2.1, by omega, fun p4 H4 e4 hp4 hl4 => ⟨p4, rfl, ⟨_, SqL.of hl4⟩, ?_⟩⟩
              refine hR _ _ _ _ _ _ walk_list (by simp) e4 (fun H6 sx tx => SqL.of (sx _ _ (fun z => by rw [z, hacc] at hp4; cases hp4) hl4)) yat_same ?_
              rintro i2 y2 H6 _ e hee sx tx e6 ⟨rfl, hy2⟩ Qy hq
              rw [List.getElem?_map] at hee hy2
              cases hj : (setsL o sa)[i2]? with
              | none => rw [hj] at hee; cases hee
              | some nm =>
                rw [hj] at hee hy2
                cases hee; cases hy2
                exact ⟨rfl, _, rfl, hq _ _ (Same.refl _) (.str nm)⟩
            | 1, he, hy =>
              cases he; cases hy
              refine ⟨rfl, _, rfl, _, rfl, v3, o, sb, g, kept, k, rfl, rfl, h3'.mono e5, sok.2.2, by omega, fun p4 H4 e4 hp4 hl4 => ⟨p4, rfl, ⟨_, SqL.of hl4⟩, ?_⟩⟩
              refine hR _ _ _ _ _ _ walk_list (by simp) e4 (fun H6 sx tx => SqL.of (sx _ _ (fun z => by rw [z, hacc] at hp4; cases hp4) hl4)) yat_same ?_
              rintro i2 y2 H6 _ e hee sx tx e6 ⟨rfl, hy2⟩ Qy hq
              rw [List.getElem?_map] at hee hy2
              cases hj : (setsL o sb)[i2]? with
              | none => rw [hj] at hee; cases hee
              | some nm =>
                rw [hj] at hee hy2
                cases hee; cases hy2
                exact ⟨rfl, _, rfl, hq _ _ (Same.refl _) (.str nm)⟩
            | j + 2, he, hy => cases he
          · intro zs' H6 e6 hzs hr6
            obtain rfl : zs' = (setsL o sa ++ setsL o sb).map V.str := DpAll.strs (by rw [List.map_append]; simpa using hr6)
            have hF6 := e6 _ _ hF3
            refine ⟨pf, D, _, _, rfl, rfl, hF6, hzs, by rw [sizeLine_eq]; simp only [List.length_map, List.length_append]; omega, ?_⟩
            refine ⟨_, _, _, rfl, same_lst (e3.trans e6) hpf, ?_⟩
            rw [upd_same, tk1, ← List.map_append]
            simp only [Stt.sets]
  · rintro σ H2 ⟨o1, o2, o3, rfl, e2, hF⟩
    rw [List.take_of_length_le (by omega)] at hF
    exact ⟨_, rfl, q _ _ e2 hpf hF⟩
theorem ok_set_by (T : TX K mg w) : ∀ n, FnOk P w K mg base CX0 (n + 1) T.a_set_by T.d_set_by p_set_by (spSet K n)
  | 0 => fn_none fun vs H Q E ⟨_, _, _, _, _, m, h, _⟩ => by omega
  | n + 1 => ok_set_by1 T n (ok_set_by T n)
end
end K34
namespace K34
open PySem PySem.Spec PyProof.Rows L2
local macro_rules | `(tactic| walk_at "sm") => `(tactic| (repeat (first | exact Same.refl _ | assumption | refine Same.trans ?_ (same_new (by assumption) _) | refine Same.trans ?_ (by assumption))))
theorem blk_inv {K : PySem.W.Frag} {H : Hp} {v : V} {r : Blk} (h : Dp K H v r.d) : ∃ (a : Addr) (x : V), v = .ref a ∧ SqT K H a [.str r.name, .str r.edge, .str r.trig, x] ∧ Dp K H x (.tuple (sttsD r.body)) := by
  obtain ⟨a, xs, rfl, hs, h⟩ := Dp.tup_inv h
  obtain ⟨v0, _, rfl, h0, r0⟩ := DpAll.cons_inv h
  obtain ⟨v1, _, rfl, h1, r1⟩ := DpAll.cons_inv r0
  obtain ⟨v2, _, rfl, h2, r2⟩ := DpAll.cons_inv r1
  obtain ⟨v3, _, rfl, h3, r3⟩ := DpAll.cons_inv r2
  obtain rfl := DpAll.nil_inv r3
  obtain rfl := Dp.str_inv h0
  obtain rfl := Dp.str_inv h1
  obtain rfl := Dp.str_inv h2
  exact ⟨a, v3, rfl, hs, h3⟩
theorem blks_at {K : PySem.W.Frag} {H : Hp} {xs : List V} {rs : List Blk} {i : Nat} {x : V} (hd : DpAll K H xs (rs.map Blk.d)) (hx : xs[i]? = some x) : ∃ r, rs[i]? = some r ∧ Dp K H x r.d := by
  obtain ⟨d, hd', hxd⟩ := hd.get hx
  rw [List.getElem?_map] at hd'
  cases hri : rs[i]? with
  | none => rw [hri] at hd'; cases hd'
  | some r => rw [hri] at hd'; cases hd'; exact ⟨r, rfl, hxd⟩
theorem look_map {f : Str → NameKind → NameKind} (hf : ∀ n k, k = .cell ∨ k = .free → f n k = .cell ∨ f n k = .free) : ∀ {names : List (Str × NameKind)} {x : Str}, names.lookup x = some .cell ∨ names.lookup x = some .free →
    (names.map fun p => (p.1, f p.1 p.2)).lookup x = some .cell ∨ (names.map fun p => (p.1, f p.1 p.2)).lookup x = some .free
  | [], _, h => by simp at h
  | (n, k) :: r, x, h => by
    have ih := @look_map f hf r x
    cases hx : x == n with
    | true =>
      simp only [List.lookup_cons, hx] at h
      simp only [List.map_cons, List.lookup_cons, hx, Option.some.injEq]
      exact hf n k (by simpa using h)
    | false =>
      simp only [List.lookup_cons, hx] at h
      simp only [List.map_cons, List.lookup_cons, hx]
      exact ih h
theorem look_rel {sc : Scope} {env : Env} {x : Str} (h : sc.names.lookup x = some .cell ∨ sc.names.lookup x = some .free) : (relabel sc env).names.lookup x = some .cell ∨ (relabel sc env).names.lookup x = some .free := by
  have q := look_map (f := fun n k => if (k == NameKind.free && env.scope.kind == .function && env.kindOf n == some .cell) then .cell else k) (fun n k hk => by
    split
    · exact .inl rfl
    · exact hk) h
  have e : (relabel sc env).names = sc.names.map fun p => (p.1, if (p.2 == NameKind.free && env.scope.kind == .function && env.kindOf p.1 == some .cell) then .cell else p.2) := by
    unfold relabel
    refine List.map_congr_left fun p _ => ?_
    dsimp only
    split <;> rfl
  rw [e]
  exact q
theorem blk_rel {N : List Str} {sc scope : Scope} {own : List (Str × Nat)} {env : Env} (h : BlkOk N sc scope own) : BlkOk N (relabel sc env) scope own :=
  { kind := h.kind, uniq := h.uniq, ix := h.ix, own := h.own, free := fun y hy e => look_rel (h.free y hy e) }
theorem nows_len {o : Str} : ∀ {bs : List Blk}, (∀ b ∈ bs, weightL b.body ≤ 20) → (nowsOf o bs).length ≤ 20 * bs.length
  | [], _ => Nat.le_refl _
  | b :: bs, h => by
    have h1 := h b List.mem_cons_self
    have h2 := sets_len o b.body
    have h3 := nows_len (o := o) (bs := bs) fun x hx => h x (List.mem_cons_of_mem _ hx)
    unfold nowsOf at h3 ⊢
    rw [List.flatMap_cons, List.length_append, List.length_cons]
    omega
section
variable {P : Program} {w : World} {K : PySem.W.Frag} {mg : Str → Option Value} {base : Heap}
def spBoth (K : PySem.W.Frag) : Sp := fun vs H Q _ => ∃ (a b : Addr) (xs ys : List V) (rs : List Row) (bs : List Blk), vs = [.ref a, .ref b] ∧ SqL K H a xs ∧ DpAll K H xs (rs.map Row.d) ∧ SigOk rs ∧
  SqL K H b ys ∧ DpAll K H ys (bs.map Blk.d) ∧ BlksOk rs bs ∧ Ret H Q fun v H' => Dp K H' v (toldD (bothOf rs bs))
open Classical in
theorem ok_both_wrong (T : TX K mg w) (G_set_by : FnOk P w K mg base CX0 6 T.a_set_by T.d_set_by p_set_by (spSet K 5)) :
    FnOk P w K mg base CX0 7 T.a_both_wrong T.d_both_wrong p_both_wrong (spBoth K) := by
  refine T.F_both_wrong.ok sc_both_wrong (fun vs H Q E h => ?_) (fun cdv A outer s H vs Q E hr h => ?_)
  · obtain ⟨a, b, xs, ys, rs, bs, rfl, _⟩ := h; rfl
  obtain ⟨a, b, xs, ys, rs, bs, rfl, ha, hd, ok, hb, hdb, okb, q⟩ := h
  have nd := sc_both_wrong.nd
  refine ⟨_, ((pss_cons (ps_asg (pe_lc (own := [("word", 5)]) (g := gName 5) (tt := tYes) rfl nd (pi_tup (pe_tup (pa_cons pe_str (pa_cons pe_str pa_nil)))) (blkOk_by (N := n_both_wrong) (sc := defScope s_both_wrong) (by decide +kernel)) (fun _ _ _ _ _ => (pg_name (i := 5) nd rfl (Or.inr rfl))) (fun _ _ _ _ _ => pts_nil) (fun _ _ _ _ _ => (pe_lc2 (own := [("row", 4), ("name", 6)]) (vs1 := [6]) (g := gName 4) (tt := tYes) (g1 := gName 6) (tt1 := tYes) rfl nd (pi_listK (K := K) rfl (pv 1)) (blk_rel (blkOk_by (N := n_both_wrong) (by decide +kernel))) (by decide) (fun _ _ _ _ _ => (pg_name (i := 4) nd rfl (Or.inl rfl))) (fun _ _ _ _ _ => pts_nil) (fun _ _ _ _ _ => (pi_listK (K := K) rfl (pe_call G_set_by (hr.mono (by omega)) rfl T.m_set_by T.k_set_by T.b_set_by .nil pass0 (pa_cons (pe_ix (ix_tupK (K := K) rfl) (pv 4) pe_int (fun _ _ => rfl)) (pa_cons (pv 5) pa_nil))))) (fun _ _ _ _ _ => (pg_name (i := 6) nd rfl (Or.inl rfl))) (fun _ _ _ _ _ => pts_nil) (fun _ _ _ _ _ => (pv 6))))) (pg_unl rfl (pgs_cons (pg_name (i := 2) nd rfl (Or.inl rfl)) (pgs_cons (pg_name (i := 3) nd rfl (Or.inl rfl)) pgs_nil))))
      (pss_cons (ps_for PassesOwn.never rfl (pi_list (pv 0)) (pg_name (i := 4) nd rfl (Or.inl rfl)) (pss_one (ps_if (PW.pt (pw_and (pt_cmpR op_in_seq (pe_ix ix_tup (pv 4) pe_int (fun _ _ => rfl)) (pv 2) (by rfl)) (pw_and1 (pt_cmpR op_in_seq (pe_ix ix_tup (pv 4) pe_int (fun _ _ => rfl)) (pv 3) (by rfl))))) (pss_one (ps_ret (pe_tup (pa_cons pe_str (pa_cons (pe_ix ix_tup (pv 4) pe_int (fun _ _ => rfl)) pa_nil))))) pss_nil)))
      (pss_one (ps_ret pe_non))))), ?_⟩
  have lxs := hd.length
  rw [List.length_map] at lxs
  have lys := hdb.length
  rw [List.length_map] at lys
  have l6 := okb.len
  refine ⟨by show 2 ≤ sizeLine; decide, fun p1 hp1 => ⟨p1, rfl, ⟨_, SqT.of upd_same⟩, fun D hD => ?_⟩⟩
  have f1 : Same H (upd H p1 (.tup [.str "now", .str "later"])) := same_new hp1 _
  have hp1' : upd H p1 (.tup [.str "now", .str "later"]) p1 = some (.tup [.str "now", .str "later"]) := upd_same
  generalize upd H p1 (.tup [.str "now", .str "later"]) = H1 at *
  refine lc_it (walk_tup (K := K) (a := p1) (xs := [.str "now", .str "later"])) (fun i H2 => Same H1 H2 ∧ ∃ ls : List Addr, H2 D = some (.lst (ls.map V.ref)) ∧ ls.length = i ∧ D ∉ ls ∧ ∀ j l, ls[j]? = some l → H2 l = some (.lst ((nowsOf (if j = 0 then "now" else "later") bs).map V.str))) ⟨same_new hD _, [], upd_same, rfl, List.not_mem_nil, fun j l h => by cases h⟩ (fun i H2 _ z => Evl.ex_t z.1 (SqT.of hp1')) ?_ ?_
  · rintro i x _ H2 hi ⟨e2, ls, hls, lls, hDl, hl⟩ ⟨rfl, hx⟩
    refine ⟨rfl, yes_go ?_⟩
    have e12 := f1.trans e2
    refine ⟨_, rfl, b, rfl, ⟨ys, e12.seq hb⟩, fun D3 hD3 => ?_⟩
    have hxo : x = .str (if i = 0 then "now" else "later") := by
      match i, hx with
      | 0, hx => cases hx; rfl
      | 1, hx => cases hx; rfl
      | n + 2, hx => cases hx
    subst hxo
    have efl : (bs.map fun r => (setsL (if i = 0 then "now" else "later") r.body).map PyData.str).flatten = (nowsOf (if i = 0 then "now" else "later") bs).map PyData.str := by
      unfold nowsOf
      rw [List.map_flatMap, List.flatMap_def]
    have l120 := nows_len (o := (if i = 0 then "now" else "later")) fun r hr => (okb.one r hr).few
    refine lc2D (K := K) walk_list (bs.map fun r => (setsL (if i = 0 then "now" else "later") r.body).map PyData.str) (by rw [List.length_map, lys]) (by rw [efl, List.length_map]; omega) (by rw [efl]; exact noLs_strs _) hD3 (fun _ e => (e12.trans e).seq hb) yat_same gm_name gm_name ?_ ?_
    · rintro j y _ H5 el hj he e5 ⟨rfl, hy⟩ ⟨acc, hacc⟩ R hR
      obtain ⟨r, hri, hyd⟩ := blks_at hdb hy
      rw [List.getElem?_map, hri] at he
      cases he
      obtain ⟨c, z, rfl, hc, hz⟩ := blk_inv (hyd.mono (e12.trans e5))
      refine ⟨rfl, _, rfl, c, _, _, _, rfl, rfl, hc, (show atI [V.str r.name, V.str r.edge, V.str r.trig, z] 3 = some z from rfl), ?_⟩
      have rok := okb.one r (List.mem_of_getElem? hri)
      refine ⟨_, rfl, z, _, r.body, _, _, 4, rfl, rfl, hz, rok.body, rok.few, fun p4 H4 e4 hp4 hl4 => ⟨p4, rfl, ⟨_, SqL.of hl4⟩, ?_⟩⟩
      refine hR _ _ _ _ _ _ walk_list (by simp) e4 (fun H6 sx tx => SqL.of (sx _ _ (fun z => by rw [z, hacc] at hp4; cases hp4) hl4)) yat_same ?_
      rintro i2 y2 H6 _ e hee sx tx e6 ⟨rfl, hy2⟩ Qy hq
      rw [List.getElem?_map] at hee hy2
      cases hj : (setsL (if i = 0 then "now" else "later") r.body)[i2]? with
      | none => rw [hj] at hee; cases hee
      | some nm =>
        rw [hj] at hee hy2
        cases hee; cases hy2
        exact ⟨rfl, _, rfl, hq _ _ (Same.refl _) (.str nm)⟩
    · intro zs' H6 e6 hzs hr6
      rw [efl] at hr6
      obtain rfl := hr6.strs
      have hls6 := e6 _ _ hls
      refine ⟨_, hls6, small1000 (by rw [List.length_map]; exact Nat.le_trans (Nat.le_of_lt_succ (by rw [lls]; exact hi)) (by decide)), same_lst (e2.trans e6) hD, ls ++ [D3], by rw [upd_same, List.map_append]; rfl, by rw [List.length_append, lls]; rfl, ?_, fun j l hj => ?_⟩
      · intro hm
        rcases List.mem_append.mp hm with hm | hm
        · exact hDl hm
        · obtain rfl : D = D3 := by simpa using hm
          rw [hls] at hD3
          cases hD3
      · have hl6 : ∀ {l : Addr}, l ≠ D → upd H6 D (.lst (ls.map V.ref ++ [.ref D3])) l = H6 l := fun h => upd_ne h
        by_cases hj' : j < ls.length
        · rw [List.getElem?_append_left hj'] at hj
          rw [hl6 (fun e => hDl (e ▸ List.mem_of_getElem? hj))]
          exact e6 _ _ (hl j l hj)
        · rw [List.getElem?_append_right (by omega)] at hj
          cases hk : j - ls.length with
          | zero =>
            rw [hk] at hj
            cases hj
            rw [hl6 (fun e => by rw [← e, hD3] at hls; cases hls), hzs]
            have : j = i := by omega
            rw [this]
          | succ k => rw [hk] at hj; cases hj
  · rintro H2 ⟨e2, ls, hls, lls, hDl, hl⟩
    match ls, lls with
    | [l1, l2], _ =>
    have h1 := hl 0 l1 rfl
    have h2 := hl 1 l2 rfl
    rw [if_pos rfl] at h1
    rw [if_neg (by decide)] at h2
    refine ⟨D, _, rfl, SqL.of hls, rfl, _, _, rfl, _, _, rfl, rfl, ?_⟩
    have e12 := f1.trans e2
    refine ⟨_, rfl, a, rfl, ⟨xs, e12.seq ha⟩, ?_⟩
    refine for_it (walk_list (K := K) (a := a) (xs := xs)) (fun i σ H3 => ∃ o, σ = [some (.ref a), some (.ref b), some (.ref l1), some (.ref l2), o, none, none] ∧ Same H2 H3 ∧ (rs.take i).find? (fun r => decide (r.name ∈ nowsOf "now" bs ∧ r.name ∈ nowsOf "later" bs)) = none) ⟨none, rfl, Same.refl _, rfl⟩ (fun i σ H3 _ z => by obtain ⟨_, _, e3, _⟩ := z; exact (e12.trans e3).seq ha) ?_ ?_
    · rintro i x σ _ H3 hi ⟨o, rfl, e3, hf⟩ ⟨rfl, hx⟩
      obtain ⟨r, hri, hxd⟩ := rows_at hd hx
      obtain ⟨c, y, rfl, hc, hy⟩ := row_inv (hxd.mono (e12.trans e3))
      have at1 : atI [V.str r.sort, V.str r.name, V.int r.width, y] 1 = some (.str r.name) := rfl
      refine ⟨_, rfl, c, _, _, _, rfl, rfl, hc, at1, _, rfl, l1, _, rfl, .inl (SqL.of (e3 _ _ h1)), rfl, flat_strs _, _, rfl, ?_⟩
      by_cases g1 : r.name ∈ nowsOf "now" bs
      · refine if_t (by show inV (V.str r.name) ((nowsOf "now" bs).map V.str) = true; rw [inV_str]; exact decide_eq_true g1) ?_
        refine ⟨_, rfl, c, _, _, _, rfl, rfl, hc, at1, _, rfl, l2, _, rfl, .inl (SqL.of (e3 _ _ h2)), rfl, flat_strs _, _, rfl, ?_⟩
        by_cases g2 : r.name ∈ nowsOf "later" bs
        · refine if_t (by show inV (V.str r.name) ((nowsOf "later" bs).map V.str) = true; rw [inV_str]; exact decide_eq_true g2) ?_
          refine ⟨_, rfl, c, _, _, _, rfl, rfl, hc, at1, by show 2 ≤ sizeLine; decide, fun p4 hp4 => ?_⟩
          have hfind : bothOf rs bs = some ((Str.ofString "both"), r.name) := by
            unfold bothOf
            rw [find_hit hri hf (decide_eq_true ⟨g1, g2⟩)]
            rfl
          refine q _ _ (e12.trans (e3.trans (same_new hp4 _))) ?_
          rw [hfind]
          exact told_new
        · refine if_f (by show inV (V.str r.name) ((nowsOf "later" bs).map V.str) = false; rw [inV_str]; exact decide_eq_false g2) ?_
          exact ⟨_, rfl, e3, find_miss hri hf (decide_eq_false fun z => g2 z.2)⟩
      · refine if_f (by show inV (V.str r.name) ((nowsOf "now" bs).map V.str) = false; rw [inV_str]; exact decide_eq_false g1) ?_
        exact ⟨_, rfl, e3, find_miss hri hf (decide_eq_false fun z => g1 z.1)⟩
    · rintro σ H3 ⟨o, rfl, e3, hf⟩
      have hn : bothOf rs bs = none := by
        unfold bothOf
        rw [find_all (by omega) hf]
        rfl
      refine q _ _ (e12.trans e3) ?_
      rw [hn]
      exact .non
def spWids (K : PySem.W.Frag) : Sp := fun vs H Q _ => ∃ (a : Addr) (xs : List V) (rs : List Row), vs = [.ref a] ∧ SqL K H a xs ∧ DpAll K H xs (rs.map Row.d) ∧ SigOk rs ∧ ∀ p H', Same H H' → WD H' p (ctx rs) → Q (.ref p) H'
theorem ok_widths_of (T : TX K mg w) : FnOk P w K mg base CX0 1 T.a_widths_of T.d_widths_of p_widths_of (spWids K) := by
  refine T.F_widths_of.ok sc_widths_of (fun vs H Q E h => ?_) (fun cdv A outer s H vs Q E hr h => ?_)
  · obtain ⟨a, xs, rs, rfl, _⟩ := h; rfl
  obtain ⟨a, xs, rs, rfl, ha, hd, ok, q⟩ := h
  have nd := sc_widths_of.nd
  refine ⟨_, ((pss_one (ps_ret (pe_dc (own := [("sort", 1), ("name", 2), ("width", 3), ("what", 4)]) (g := gTup K 4 (gCons (gName 1) (gCons (gName 2) (gCons (gName 3) (gCons (gName 4) gNil))))) (tt := tYes) rfl nd (pi_list (pv 0)) (blkOk_by (N := n_widths_of) (sc := defScope s_widths_of) (by decide +kernel)) (fun _ _ _ _ _ => (pg_tup rfl (pgs_cons (pg_name (i := 1) nd rfl (Or.inl rfl)) (pgs_cons (pg_name (i := 2) nd rfl (Or.inl rfl)) (pgs_cons (pg_name (i := 3) nd rfl (Or.inl rfl)) (pgs_cons (pg_name (i := 4) nd rfl (Or.inl rfl)) pgs_nil)))))) (fun _ _ _ _ _ => pts_nil) (fun _ _ _ _ _ => (pv 2)) (fun _ _ _ _ _ => (pv 3)))))), ?_⟩
  have lxs := hd.length
  rw [List.length_map] at lxs
  have l11 := ok.len
  have ndn : (rs.map Row.name).Nodup := by rw [← ctx_names]; exact ok.g.nd
  refine ⟨_, rfl, a, rfl, ⟨_, ha⟩, fun D hD => ?_⟩
  refine dc_it (walk_list (K := K) (a := a) (xs := xs)) (fun i H2 => Same H H2 ∧ WD H2 D (ctx (rs.take i))) ⟨same_new hD _, upd_same⟩ (fun i H2 _ z => z.1.seq ha) ?_ ?_
  · rintro i x _ H2 hi ⟨e2, hw⟩ ⟨rfl, hx⟩
    obtain ⟨r, hri, hxd⟩ := rows_at hd hx
    obtain ⟨c, y, rfl, hc, hy⟩ := row_inv (hxd.mono e2)
    refine ⟨c, _, rfl, hc, rfl, _, _, rfl, _, _, rfl, _, _, rfl, _, _, rfl, rfl, ?_⟩
    refine ⟨rfl, yes_go ?_⟩
    have hnew : valV ((ctx (rs.take i)).map fun q => ((Sum.inr q.1 : Key), V.int q.2)) (Sum.inr r.name) = none := by
      have hnt : r.name ∉ (rs.take i).map Row.name := by
        intro hm
        rw [List.mem_map] at hm
        obtain ⟨r', hr'', e'⟩ := hm
        obtain ⟨k, hk, e⟩ := List.getElem_of_mem hr''
        rw [List.length_take] at hk
        rw [List.getElem_take] at e
        have h1 : rs[k]? = some r' := by rw [← e]; exact List.getElem?_eq_getElem _
        have h2 : (rs.map Row.name)[k]? = some r.name := by rw [List.getElem?_map, h1, ← e']; rfl
        have h3 : (rs.map Row.name)[i]? = some r.name := by rw [List.getElem?_map, hri]; rfl
        have := nd_ix ndn h2 h3
        omega
      clear hw
      generalize rs.take i = l at hnt
      induction l with
      | nil => rfl
      | cons e l ih =>
        rw [List.map_cons, List.mem_cons, not_or] at hnt
        unfold ctx at ih ⊢
        rw [List.map_cons, List.map_cons, valV_neg (fun z => hnt.1 (Sum.inr.inj z).symm)]
        exact ih hnt.2
    refine ⟨_, rfl, _, rfl, _, Sum.inr r.name, rfl, hw, small1000 ?_, same_lst e2 hD, ?_⟩
    · unfold ctx
      rw [List.length_map, List.length_map, List.length_take]
      omega
    · show upd H2 D _ D = some _
      rw [upd_same, putK_new _ hnew, List.take_add_one, hri]
      unfold ctx
      simp
  · rintro H2 ⟨e2, hw⟩
    rw [List.take_of_length_le (by omega)] at hw
    exact q _ _ e2 hw
end
end K34
namespace K34
open PySem PySem.Spec PyProof.Rows L2
local macro_rules | `(tactic| walk_at "sm") => `(tactic| (repeat (first | exact Same.refl _ | assumption | refine Same.trans ?_ (same_new (by assumption) _) | refine Same.trans ?_ (by assumption))))
theorem sorts_in {g : Ctx} {r : Row} (h : RowOk g r) : inV (.str r.sort) ((["input", "wire", "filter", "bus", "kept"] : List String).map fun x => V.str (Str.ofString x)) = true := by
  cases h <;> (show inV (V.str _) _ = true; first | decide +kernel | rfl)
theorem wb1 : inV (V.str "input") [V.str "wire", V.str "bus"] = false := by decide +kernel
section
variable {P : Program} {w : World} {K : PySem.W.Frag} {mg : Str → Option Value} {base : Heap}
def spNameW (K : PySem.W.Frag) : Sp := fun vs H Q _ => ∃ (x : Str) (i : Int) (a : Addr) (l : List Str), vs = [.str x, .int i, .ref a] ∧ IsNm x ∧ SqL K H a (l.map V.str) ∧ x ∉ l ∧ Ret H Q fun v _ => v = .non
theorem ok_name_wrong (T : TX K mg w) (G_is_name : FnOk P w K mg base CX0 1 T.a_is_name T.d_is_name p_is_name spIsName) : FnOk P w K mg base CX0 2 T.a_name_wrong T.d_name_wrong p_name_wrong (spNameW K) := by
  refine T.F_name_wrong.ok sc_name_wrong (fun vs H Q E h => ?_) (fun cdv A outer s H vs Q E hr h => ?_)
  · obtain ⟨x, i, a, l, rfl, _⟩ := h; rfl
  obtain ⟨x, i, a, l, rfl, hn, hl, hx, q⟩ := h
  have nd := sc_name_wrong.nd
  refine ⟨_, ((pss_cons (ps_set (i := 3) nd rfl (Or.inl rfl) (pe_ifExp (pt_val (pe_callB call_isi (by rfl) T.z_isinstance (by decide +kernel) (pa_cons (pv 0) (pa_cons (pe_bltn (v := .ty "str") rfl T.z_str (by decide +kernel) rfl) pa_nil)))) (pv 0) (pe_callTy call_str_int (by rfl) T.z_str (by decide +kernel) (pa_cons (pv 1) pa_nil))))
      (pss_cons (ps_if (pt_not (pt_val (pe_call G_is_name (hr.mono (by omega)) rfl T.m_is_name T.k_is_name T.b_is_name .nil pass0 (pa_cons (pv 0) pa_nil)))) (pss_one (ps_ret (pe_tup (pa_cons pe_str (pa_cons (pv 3) pa_nil))))) pss_nil)
      (pss_cons (ps_if (pt_cmpR op_in_seq (pv 0) (pv 2) (by rfl)) (pss_one (ps_ret (pe_tup (pa_cons pe_str (pa_cons (pv 3) pa_nil))))) pss_nil)
      (pss_one (ps_ret pe_non)))))), ?_⟩
  refine ⟨_, rfl, _, _, _, _, true, rfl, .ty "str", .base (.str x), kit_ty (by decide +kernel), _, rfl, if_t rfl ⟨_, rfl, ?_⟩⟩
  refine ⟨_, rfl, x, rfl, hn, ?_⟩
  rintro _ H1 e1 rfl
  refine ⟨_, rfl, if_f rfl ?_⟩
  refine ⟨_, rfl, _, rfl, a, _, rfl, .inl (e1.seq hl), rfl, flat_strs l, _, rfl, if_f (by rw [inV_str]; exact decide_eq_false hx) ?_⟩
  exact q _ _ e1 rfl
def spSigW (K : PySem.W.Frag) : Sp := fun vs H Q _ => ∃ (v : V) (r : Row) (i : Int) (a : Addr) (l : List Str) (g : Ctx), vs = [v, .int i, .ref a] ∧ Dp K H v r.d ∧ RowOk g r ∧ IsNm r.name ∧ 1 ≤ r.width ∧ r.width ≤ 8 ∧ SqL K H a (l.map V.str) ∧ r.name ∉ l ∧ Ret H Q fun v _ => v = .non
theorem ok_signal_wrong (T : TX K mg w) (G_is_row : FnOk P w K mg base CX0 1 T.a_is_row T.d_is_row p_is_row (spIsRow K)) (G_name_wrong : FnOk P w K mg base CX0 2 T.a_name_wrong T.d_name_wrong p_name_wrong (spNameW K))
    (G_is_width : FnOk P w K mg base CX0 1 T.a_is_width T.d_is_width p_is_width spIsWidth) : FnOk P w K mg base CX0 3 T.a_signal_wrong T.d_signal_wrong p_signal_wrong (spSigW K) := by
  refine T.F_signal_wrong.ok sc_signal_wrong (fun vs H Q E h => ?_) (fun cdv A outer s H vs Q E hr h => ?_)
  · obtain ⟨v, r, i, a, l, g, rfl, _⟩ := h; rfl
  obtain ⟨v, r, i, a, l, g, rfl, hv, rok, hn, w1, w8, hl, hx, q⟩ := h
  have nd := sc_signal_wrong.nd
  refine ⟨_, ((pss_cons (ps_if (PW.pt (pw_or (pt_not (pt_val (pe_call G_is_row (hr.mono (by omega)) rfl T.m_is_row T.k_is_row T.b_is_row .nil pass0 (pa_cons (pv 0) pa_nil)))) (pw_or1 (pt_cmpR op_notIn_seq (pe_ix ix_tup (pv 0) pe_int (fun _ _ => rfl)) (pe_glob (v := .ref T.a_SORTS) rfl T.m_SORTS rfl) (by rfl))))) (pss_one (ps_ret (pe_tup (pa_cons pe_str (pa_cons (pe_callTy call_str_int (by rfl) T.z_str (by decide +kernel) (pa_cons (pv 1) pa_nil)) pa_nil))))) pss_nil)
      (pss_cons (ps_set (i := 3) nd rfl (Or.inl rfl) (pe_call G_name_wrong (hr.mono (by omega)) rfl T.m_name_wrong T.k_name_wrong T.b_name_wrong .nil pass0 (pa_cons (pe_ix ix_tup (pv 0) pe_int (fun _ _ => rfl)) (pa_cons (pv 1) (pa_cons (pv 2) pa_nil)))))
      (pss_cons (ps_if (PW.pt (pw_and (pt_cmpR op_isN1 (pv 3) pe_non (nomark _)) (pw_and1 (pt_not (pt_val (pe_call G_is_width (hr.mono (by omega)) rfl T.m_is_width T.k_is_width T.b_is_width .nil pass0 (pa_cons (pe_ix ix_tup (pv 0) pe_int (fun _ _ => rfl)) pa_nil))))))) (pss_one (ps_set (i := 3) nd rfl (Or.inl rfl) (pe_tup (pa_cons pe_str (pa_cons (pe_ix ix_tup (pv 0) pe_int (fun _ _ => rfl)) pa_nil))))) pss_nil)
      (pss_one (ps_ret (pv 3))))))), ?_⟩
  obtain ⟨c, y, rfl, hc, hy⟩ := row_inv hv
  have s1 := T.q_SORTS H
  refine ⟨_, rfl, c, _, rfl, hc, rfl, _, rfl, if_f rfl ?_⟩
  refine ⟨_, rfl, c, _, _, _, rfl, rfl, hc, atI_0, _, _, rfl, .inr s1, rfl, by decide +kernel, _, rfl, if_f (by rw [sorts_in rok]; rfl) ?_⟩
  refine ⟨_, rfl, c, _, _, _, rfl, rfl, hc, (show atI [V.str r.sort, V.str r.name, V.int r.width, y] 1 = some (.str r.name) from rfl), ?_⟩
  refine ⟨_, rfl, _, rfl, r.name, i, a, l, rfl, hn, hl, hx, ?_⟩
  rintro _ H1 e1 rfl
  refine ⟨_, rfl, rfl, _, rfl, if_t rfl ?_⟩
  refine ⟨_, rfl, c, _, _, _, rfl, rfl, Evl.ex_t e1 hc, (show atI [V.str r.sort, V.str r.name, V.int r.width, y] 2 = some (.int r.width) from rfl), ?_⟩
  refine ⟨_, rfl, w1, w8, _, rfl, if_f rfl ?_⟩
  exact ⟨_, rfl, q _ _ e1 rfl⟩
def spSigsW (K : PySem.W.Frag) : Sp := fun vs H Q _ => ∃ (a : Addr) (xs : List V) (rs : List Row), vs = [.ref a] ∧ SqL K H a xs ∧ DpAll K H xs (rs.map Row.d) ∧ SigOk rs ∧ Ret H Q fun v _ => v = .non
theorem ok_signals_wrong (T : TX K mg w) (G_signal_wrong : FnOk P w K mg base CX0 3 T.a_signal_wrong T.d_signal_wrong p_signal_wrong (spSigW K)) : FnOk P w K mg base CX0 4 T.a_signals_wrong T.d_signals_wrong p_signals_wrong (spSigsW K) := by
  refine T.F_signals_wrong.ok sc_signals_wrong (fun vs H Q E h => ?_) (fun cdv A outer s H vs Q E hr h => ?_)
  · obtain ⟨a, xs, rs, rfl, _⟩ := h; rfl
  obtain ⟨a, xs, rs, rfl, ha, hd, ok, q⟩ := h
  have nd := sc_signals_wrong.nd
  refine ⟨_, ((pss_cons (ps_set (i := 1) nd rfl (Or.inl rfl) (pe_lst pa_nil))
      (pss_cons (ps_for PassesOwn.never rfl (pi_enum (by rfl) T.z_enumerate (pa_cons (pv 0) pa_nil)) (pg_tup rfl (pgs_cons (pg_name (i := 2) nd rfl (Or.inl rfl)) (pgs_cons (pg_name (i := 3) nd rfl (Or.inl rfl)) pgs_nil))) (pss_cons (ps_set (i := 4) nd rfl (Or.inl rfl) (pe_call G_signal_wrong (hr.mono (by omega)) rfl T.m_signal_wrong T.k_signal_wrong T.b_signal_wrong .nil pass0 (pa_cons (pv 3) (pa_cons (pv 2) (pa_cons (pv 1) pa_nil)))))
      (pss_cons (ps_if (pt_cmpR op_notN1 (pv 4) pe_non (nomark _)) (pss_one (ps_ret (pv 4))) pss_nil)
      (pss_one (ps_expr (pe_bm PySem.F.plainAttrs_list PySem.F.slot_list_append PySem.F.type_list_append mt_append (pv 1) (pa_cons (pe_ix ix_tup (pv 3) pe_int (fun _ _ => rfl)) pa_nil)))))))
      (pss_one (ps_ret pe_non))))), ?_⟩
  have lxs := hd.length
  rw [List.length_map] at lxs
  have l11 := ok.len
  have ndn : (rs.map Row.name).Nodup := by rw [← ctx_names]; exact ok.g.nd
  refine ⟨by show 0 ≤ sizeLine; decide, fun pf hpf => ?_⟩
  have f1 : Same H (upd H pf (.lst [])) := same_new hpf _
  refine ⟨_, rfl, a, xs, rfl, f1.seq ha, ?_⟩
  refine for_it (walk_enum (K := K) (a := a) (xs := xs)) (fun i σ H2 => ∃ o1 o2 o3, σ = [some (.ref a), some (.ref pf), o1, o2, o3] ∧ Same H H2 ∧ H2 pf = some (.lst (((rs.take i).map Row.name).map V.str))) ⟨none, none, none, rfl, f1, upd_same⟩ (fun i σ H2 _ z => by obtain ⟨_, _, _, _, e2, _⟩ := z; exact e2.seq ha) ?_ ?_
  · rintro i x σ H2 H3 hi ⟨o1, o2, o3, rfl, e2, hF⟩ ⟨Tp, xi, y, rfl, hT, rfl, hxi, hx⟩
    cases hxi
    obtain ⟨r, hri, hxd⟩ := rows_at hd hx
    have f3 : Same H2 (upd H2 Tp (.tup [.int (i : Nat), y])) := same_new hT _
    have e3 := e2.trans f3
    have hF3 := f3 _ _ hF
    refine ⟨Tp, _, rfl, SqT.of upd_same, rfl, _, _, rfl, _, _, rfl, rfl, ?_⟩
    generalize upd H2 Tp (.tup [.int (i : Nat), y]) = H3 at *
    obtain ⟨c, z, rfl, hc, hz⟩ := row_inv (hxd.mono e3)
    have hrm := List.mem_of_getElem? hri
    have hcx : (r.name, r.width) ∈ ctx rs := List.mem_map.mpr ⟨r, hrm, rfl⟩
    have hnew : r.name ∉ (rs.take i).map Row.name := by
      intro hm
      rw [List.mem_map] at hm
      obtain ⟨r', hr'', e'⟩ := hm
      obtain ⟨k, hk, e⟩ := List.getElem_of_mem hr''
      rw [List.length_take] at hk
      rw [List.getElem_take] at e
      have h1 : rs[k]? = some r' := by rw [← e]; exact List.getElem?_eq_getElem _
      have h2 : (rs.map Row.name)[k]? = some r.name := by rw [List.getElem?_map, h1, ← e']; rfl
      have h3 : (rs.map Row.name)[i]? = some r.name := by rw [List.getElem?_map, hri]; rfl
      have := nd_ix ndn h2 h3
      omega
    refine ⟨_, rfl, _, rfl, _, rfl, _, r, _, pf, (rs.take i).map Row.name, ctx rs, rfl, hxd.mono e3, ok.row r hrm, ok.g.nm _ _ hcx, ok.g.lo _ _ hcx, ok.g.hi _ _ hcx, SqL.of hF3, hnew, ?_⟩
    rintro _ H4 e4 rfl
    have hF4 := e4 _ _ hF3
    refine ⟨_, rfl, rfl, _, rfl, if_f rfl ?_⟩
    refine ⟨_, rfl, .inl ⟨rfl, _, SqL.of hF4⟩, _, rfl, c, _, _, _, rfl, rfl, Evl.ex_t e4 hc, (show atI [V.str r.sort, V.str r.name, V.int r.width, z] 1 = some (.str r.name) from rfl), pf, _, _, rfl, rfl, hF4, small1000 (by simp only [List.length_map, List.length_take]; omega), ?_⟩
    refine ⟨_, _, _, rfl, same_lst (e3.trans e4) hpf, ?_⟩
    rw [upd_same, List.take_add_one, hri]
    simp
  · rintro σ H2 ⟨o1, o2, o3, rfl, e2, hF⟩
    exact q _ _ e2 rfl
end
end K34
namespace K34
open PySem PySem.Spec PyProof.Rows L2
local macro_rules | `(tactic| walk_at "sm") => `(tactic| (repeat (first | exact Same.refl _ | assumption | refine Same.trans ?_ (same_new (by assumption) _) | refine Same.trans ?_ (by assumption))))
theorem What.noL : ∀ x : What, K34.noL x.d = true
  | .non => rfl
  | .val _ => rfl
  | .term t => t.noL
  | .bus ds => by
    show noLs (ds.map fun p => PyData.tuple [p.1.d, p.2.d]) = true
    refine noLs_iff.mpr fun d hd => ?_
    rw [List.mem_map] at hd
    obtain ⟨u, _, rfl⟩ := hd
    simp [K34.noL, noLs, u.1.noL, u.2.noL]
theorem Row.noL (r : Row) : K34.noL r.d = true := by simp [Row.d, K34.noL, noLs, r.what.noL]
theorem rows_noL (rs : List Row) : noLs (rs.map Row.d) = true := noLs_iff.mpr fun d hd => by rw [List.mem_map] at hd; obtain ⟨u, _, rfl⟩ := hd; exact u.noL
theorem Blk.noL (r : Blk) : K34.noL r.d = true := by simp [Blk.d, K34.noL, noLs, Stt.noLs r.body]
theorem blks_noL (rs : List Blk) : noLs (rs.map Blk.d) = true := noLs_iff.mpr fun d hd => by rw [List.mem_map] at hd; obtain ⟨u, _, rfl⟩ := hd; exact u.noL
theorem filt_map {α β : Type} (p : α → Bool) (f : α → β) : ∀ l : List α, (l.map fun r => if p r = true then some (f r) else none).filterMap id = (l.filter p).map f
  | [] => rfl
  | r :: l => by
    have ih := filt_map p f l
    by_cases hs : p r = true
    · rw [List.map_cons, if_pos hs, List.filterMap_cons_some (by rfl), ih, List.filter_cons_of_pos hs]
      rfl
    · rw [List.map_cons, if_neg hs, List.filterMap_cons_none (by rfl), ih, List.filter_cons_of_neg hs]
theorem so6 : decide (V.str "input" = V.str "input") = true := by decide +kernel
theorem so7 : decide (V.str "kept" = V.str "input") = false := by decide +kernel
theorem so8 : decide (V.str "wire" = V.str "input") = false := by decide +kernel
theorem so9 : decide (V.str "filter" = V.str "input") = false := by decide +kernel
theorem so10 : decide (V.str "bus" = V.str "input") = false := by decide +kernel
theorem so11 : decide (V.str "kept" = V.str "kept") = true := by decide +kernel
theorem so12 : decide (V.str "wire" = V.str "kept") = false := by decide +kernel
theorem so13 : decide (V.str "filter" = V.str "kept") = false := by decide +kernel
theorem so14 : decide (V.str "bus" = V.str "kept") = false := by decide +kernel
section
variable {P : Program} {w : World} {K : PySem.W.Frag} {mg : Str → Option Value} {base : Heap}
def spMany (K : PySem.W.Frag) : Sp := fun vs H Q _ => ∃ (a b : Addr) (xs ys : List V) (rs : List Row), vs = [.ref a, .ref b] ∧ SqL K H a xs ∧ DpAll K H xs (rs.map Row.d) ∧ SigOk rs ∧ H b = some (.lst ys) ∧ ys.length ≤ 6 ∧ Ret H Q fun v _ => v = .non
theorem ok_many_wrong (T : TX K mg w) : FnOk P w K mg base CX0 1 T.a_many_wrong T.d_many_wrong p_many_wrong (spMany K) := by
  refine T.F_many_wrong.ok sc_many_wrong (fun vs H Q E h => ?_) (fun cdv A outer s H vs Q E hr h => ?_)
  · obtain ⟨a, b, xs, ys, rs, rfl, _⟩ := h; rfl
  obtain ⟨a, b, xs, ys, rs, rfl, ha, hd, ok, hb, l6, q⟩ := h
  have nd := sc_many_wrong.nd
  refine ⟨_, ((pss_cons (ps_if (pt_cmpR op_gt (pe_callB call_len_seq (by rfl) T.z_len PySem.boot_len (pa_cons (pv 0) pa_nil)) (pe_glob (v := .int 24) rfl T.m_MOST_SIGNALS ⟨_, rfl⟩) (nomark _)) (pss_one (ps_ret (pe_tup (pa_cons pe_str (pa_cons pe_str pa_nil))))) pss_nil)
      (pss_cons (ps_if (pt_cmpR op_gt (pe_callB call_len_seq (by rfl) T.z_len PySem.boot_len (pa_cons (pe_lc (own := [("row", 2)]) (g := gName 2) rfl nd (pi_list (pv 0)) (blkOk_by (N := n_many_wrong) (sc := defScope s_many_wrong) (by decide +kernel)) (fun _ _ _ _ _ => (pg_name (i := 2) nd rfl (Or.inl rfl))) (fun _ _ _ _ _ => pts_one (pt_cmpR (op_in_seqK (K := K) rfl) (pe_ix (ix_tupK (K := K) rfl) (pv 2) pe_int (fun _ _ => rfl)) (pe_tup (pa_cons pe_str (pa_cons pe_str pa_nil))) (by rfl))) (fun _ _ _ _ _ => (pv 2))) pa_nil)) (pe_glob (v := .int 8) rfl T.m_MOST_WIRES ⟨_, rfl⟩) (nomark _)) (pss_one (ps_ret (pe_tup (pa_cons pe_str (pa_cons pe_str pa_nil))))) pss_nil)
      (pss_cons (ps_if (PW.pt (pw_and (pt_val (pe_callB call_isi (by rfl) T.z_isinstance (by decide +kernel) (pa_cons (pv 1) (pa_cons (pe_bltn (v := .ty "list") rfl T.z_list (by decide +kernel) rfl) pa_nil)))) (pw_and1 (pt_cmpR op_gt (pe_callB call_len_seq (by rfl) T.z_len PySem.boot_len (pa_cons (pv 1) pa_nil)) (pe_glob (v := .int 6) rfl T.m_MOST_BLOCKS ⟨_, rfl⟩) (nomark _))))) (pss_one (ps_ret (pe_tup (pa_cons pe_str (pa_cons pe_str pa_nil))))) pss_nil)
      (pss_one (ps_ret pe_non)))))), ?_⟩
  have lxs := hd.length
  rw [List.length_map] at lxs
  have l11 := ok.len
  refine ⟨_, rfl, a, xs, rfl, .inl ha, _, _, rfl, rfl, _, rfl, if_f (decide_eq_false (by omega)) ?_⟩
  refine ⟨_, rfl, a, rfl, ⟨xs, ha⟩, fun D hD => ?_⟩
  refine lcO (K := K) walk_list (rs.map fun r => if decide (r.sort = ("wire" : Str) ∨ r.sort = ("bus" : Str)) = true then some r.d else none) (by rw [List.length_map, lxs]) (by omega) (fun d hd => by
      rw [List.mem_map] at hd
      obtain ⟨r, _, e⟩ := hd
      split at e <;> cases e
      exact r.noL) hD (fun _ e => e.seq ha) yat_same ?_ ?_
  · rintro i x _ H3 e hi he e3 ⟨rfl, hx⟩ Qy Qn hy hn
    obtain ⟨r, hri, hxd⟩ := rows_at hd hx
    rw [List.getElem?_map, hri] at he
    cases he
    have hxd3 := hxd.mono e3
    obtain ⟨c, y, rfl, hc, hw⟩ := row_inv hxd3
    refine ⟨rfl, _, rfl, c, _, _, _, rfl, rfl, hc, atI_0, by show 2 ≤ sizeLine; decide, fun p hp => ⟨p, _, rfl, .inr (SqT.of upd_same), rfl, rfl, _, rfl, ?_⟩⟩
    have ev : inV (V.str r.sort) [V.str "wire", V.str "bus"] = decide (r.sort = ("wire" : Str) ∨ r.sort = ("bus" : Str)) := by
      show inV (V.str r.sort) (([("wire" : Str), ("bus" : Str)]).map V.str) = _
      rw [inV_str]
      simp
    by_cases hs : decide (r.sort = ("wire" : Str) ∨ r.sort = ("bus" : Str)) = true
    · refine if_t (by show inV (V.str r.sort) [V.str "wire", V.str "bus"] = true; rw [ev, hs]) ?_
      exact ⟨_, rfl, hy _ (if_pos hs) _ _ (same_new hp _) (hxd3.mono (same_new hp _))⟩
    · refine if_f (by show inV (V.str r.sort) [V.str "wire", V.str "bus"] = false; rw [ev]; simpa using hs) ?_
      exact hn (if_neg hs) _ (same_new hp _)
  · intro zs H1 e1 hzs hr1
    rw [filt_map] at hr1
    have lz := hr1.length
    rw [List.length_map] at lz
    have l8 := ok.led
    refine ⟨D, zs, rfl, .inl (SqL.of hzs), _, _, rfl, rfl, _, rfl, if_f (decide_eq_false (by omega)) ?_⟩
    have hb1 := e1 _ _ hb
    refine ⟨_, rfl, _, _, _, _, true, rfl, .ty "list", .base (.lst hb1), kit_ty (by decide +kernel), _, rfl, if_t rfl ?_⟩
    refine ⟨_, rfl, b, ys, rfl, .inl (SqL.of hb1), _, _, rfl, rfl, _, rfl, if_f (decide_eq_false (by omega)) ?_⟩
    exact q _ _ e1 rfl
def spDrv (K : PySem.W.Frag) : Sp := fun vs H Q _ => ∃ (v : V) (p : Tm × Tm) (wd : Int) (dw : Addr) (g : Ctx), vs = [v, .int wd, .ref dw] ∧ Dp K H v (.tuple [p.1.d, p.2.d]) ∧ Ok g 4 1 p.1 ∧ Ok g 4 wd p.2 ∧ GOk g ∧ WD H dw g ∧ Ret H Q fun v _ => v = .bl true
theorem ok_is_driver (T : TX K mg w) (G_has_width : FnOk P w K mg base CX0 10 T.a_has_width T.d_has_width p_has_width (spHW K)) : FnOk P w K mg base CX0 11 T.a_is_driver T.d_is_driver p_is_driver (spDrv K) := by
  refine T.F_is_driver.ok sc_is_driver (fun vs H Q E h => ?_) (fun cdv A outer s H vs Q E hr h => ?_)
  · obtain ⟨v, p, wd, dw, g, rfl, _⟩ := h; rfl
  obtain ⟨v, p, wd, dw, g, rfl, hv, o1, o2, G, hw, q⟩ := h
  have nd := sc_is_driver.nd
  refine ⟨_, ((pss_cons (ps_if (PW.pt (pw_or (pt_not (pt_val (pe_callB call_isi (by rfl) T.z_isinstance (by decide +kernel) (pa_cons (pv 0) (pa_cons (pe_bltn (v := .ty "tuple") rfl T.z_tuple (by decide +kernel) rfl) pa_nil))))) (pw_or1 (pt_cmpR op_ne (pe_callB call_len_seq (by rfl) T.z_len PySem.boot_len (pa_cons (pv 0) pa_nil)) pe_int (nomark _))))) (pss_one (ps_ret pe_bl)) pss_nil)
      (pss_cons (ps_asg (pv 0) (pg_tup rfl (pgs_cons (pg_name (i := 3) nd rfl (Or.inl rfl)) (pgs_cons (pg_name (i := 4) nd rfl (Or.inl rfl)) pgs_nil))))
      (pss_one (ps_ret (pe_and (pe_call G_has_width (hr.mono (by omega)) rfl T.m_has_width T.k_has_width T.b_has_width .nil pass0 (pa_cons (pv 3) (pa_cons pe_int (pa_cons (pv 2) pa_nil)))) (pe_one (pe_call G_has_width (hr.mono (by omega)) rfl T.m_has_width T.k_has_width T.b_has_width .nil pass0 (pa_cons (pv 4) (pa_cons (pv 1) (pa_cons (pv 2) pa_nil))))))))))), ?_⟩
  obtain ⟨c, ys, rfl, hc, rc⟩ := Dp.tup_inv hv
  obtain ⟨v0, _, rfl, h0, r0⟩ := DpAll.cons_inv rc
  obtain ⟨v1, _, rfl, h1, r1⟩ := DpAll.cons_inv r0
  obtain rfl := DpAll.nil_inv r1
  refine ⟨_, rfl, _, _, _, _, true, rfl, .ty "tuple", tyx_tup hc, kit_ty (by decide +kernel), _, rfl, if_f rfl ?_⟩
  refine ⟨_, rfl, c, _, rfl, .inr hc, rfl, _, rfl, if_f rfl ?_⟩
  refine ⟨_, rfl, c, _, rfl, hc, rfl, _, _, rfl, _, _, rfl, rfl, ?_⟩
  refine ⟨_, rfl, _, rfl, v0, dw, p.1, g, 1, rfl, h0, o1, G, hw, ?_⟩
  rintro _ H1 e1 rfl
  refine ⟨_, rfl, if_t rfl ?_⟩
  refine ⟨_, rfl, _, rfl, _, rfl, v1, dw, p.2, g, wd, rfl, h1.mono e1, o2, G, hw.mono e1, ?_⟩
  rintro _ H2 e2 rfl
  exact q _ _ (e1.trans e2) rfl
def spDrvs (K : PySem.W.Frag) : Sp := fun vs H Q _ => ∃ (v : V) (ds : List (Tm × Tm)) (wd : Int) (dw : Addr) (g : Ctx), vs = [v, .int wd, .ref dw] ∧ Dp K H v (What.d (.bus ds)) ∧ 2 ≤ ds.length ∧ ds.length ≤ 4 ∧ (∀ p ∈ ds, Ok g 4 1 p.1 ∧ Ok g 4 wd p.2) ∧ GOk g ∧ WD H dw g ∧ Ret H Q fun v _ => v = .bl true
theorem ok_are_drivers (T : TX K mg w) (G_is_driver : FnOk P w K mg base CX0 11 T.a_is_driver T.d_is_driver p_is_driver (spDrv K)) : FnOk P w K mg base CX0 12 T.a_are_drivers T.d_are_drivers p_are_drivers (spDrvs K) := by
  refine T.F_are_drivers.ok sc_are_drivers (fun vs H Q E h => ?_) (fun cdv A outer s H vs Q E hr h => ?_)
  · obtain ⟨v, ds, wd, dw, g, rfl, _⟩ := h; rfl
  obtain ⟨v, ds, wd, dw, g, rfl, hv, d2, d4, hds, G, hw, q⟩ := h
  have nd := sc_are_drivers.nd
  refine ⟨_, ((pss_cons (ps_if (PW.pt (pw_or (pt_not (pt_val (pe_callB call_isi (by rfl) T.z_isinstance (by decide +kernel) (pa_cons (pv 0) (pa_cons (pe_bltn (v := .ty "tuple") rfl T.z_tuple (by decide +kernel) rfl) pa_nil))))) (pw_or1 (pt_not (pt_chain op_le op_le (pe_glob (v := .int 2) rfl T.m_LEAST_DRIVERS ⟨_, rfl⟩) (pe_callB call_len_seq (by rfl) T.z_len PySem.boot_len (pa_cons (pv 0) pa_nil)) (pe_glob (v := .int 4) rfl T.m_MOST_DRIVERS ⟨_, rfl⟩)))))) (pss_one (ps_ret pe_bl)) pss_nil)
      (pss_one (ps_ret (pe_callB (cr_all rfl) (by rfl) T.z_all (by decide +kernel) (pa_cons (pe_lc (own := [("one", 3)]) (g := gName 3) (tt := tYes) rfl nd (pi_tup (pv 0)) (blkOk_by (N := n_are_drivers) (sc := defScope s_are_drivers) (by decide +kernel)) (fun _ _ _ _ _ => (pg_name (i := 3) nd rfl (Or.inl rfl))) (fun _ _ _ _ _ => pts_nil) (fun _ _ _ _ _ => (pe_call G_is_driver (hr.mono (by omega)) rfl T.m_is_driver T.k_is_driver T.b_is_driver .nil pass0 (pa_cons (pv 3) (pa_cons (pv 1) (pa_cons (pv 2) pa_nil)))))) pa_nil)))))), ?_⟩
  obtain ⟨c, ys, rfl, hc, rc⟩ := Dp.tup_inv hv
  have lys := rc.length
  rw [List.length_map] at lys
  refine ⟨_, rfl, _, _, _, _, true, rfl, .ty "tuple", tyx_tup hc, kit_ty (by decide +kernel), _, rfl, if_f rfl ?_⟩
  refine ⟨_, rfl, c, ys, rfl, .inr hc, _, _, rfl, rfl, _, rfl, if_t (decide_eq_true (by omega)) ⟨_, _, rfl, rfl, _, rfl, if_f ?_ ?_⟩⟩
  · rw [decide_eq_true (show (ys.length : Int) ≤ 4 by omega)]; rfl
  refine ⟨_, rfl, c, rfl, ⟨ys, hc⟩, fun D hD => ?_⟩
  refine lcD (K := K) walk_tup (List.replicate ys.length (.bool true)) (by simp) (by omega) (noLs_iff.mpr fun d hd => by rw [List.eq_of_mem_replicate hd]; rfl) hD (fun _ e => Evl.ex_t e hc) yat_same ?_ gm_name ?_
  · rintro i x _ H1 e hi he e1 ⟨rfl, hx⟩ Qy hy
    rw [List.getElem?_replicate, if_pos hi] at he
    cases he
    obtain ⟨d, hd', hxd⟩ := rc.get hx
    rw [List.getElem?_map] at hd'
    cases hu : ds[i]? with
    | none => rw [hu] at hd'; cases hd'
    | some p =>
      rw [hu] at hd'
      cases hd'
      have hp := hds p (List.mem_of_getElem? hu)
      refine ⟨rfl, _, rfl, _, rfl, _, rfl, _, p, wd, dw, g, rfl, hxd.mono e1, hp.1, hp.2, G, hw.mono e1, ?_⟩
      rintro _ H2 e2 rfl
      exact hy _ _ e2 (.bl true)
  · intro zs H1 e1 hzs hr1
    have ey : zs = (List.replicate ys.length true).map V.bl := (show DpAll K H1 zs ((List.replicate ys.length true).map PyData.bool) by rw [List.map_replicate]; exact hr1).bls
    subst ey
    refine ⟨_, _, rfl, SqL.of hzs, ?_⟩
    have e0 : (List.replicate ys.length true).all id = true := by simp
    rw [e0]
    exact q _ _ e1 rfl
def spIsWhat (K : PySem.W.Frag) : Sp := fun vs H Q _ => ∃ (v : V) (r : Row) (dw : Addr) (g : Ctx), vs = [v, .ref dw] ∧ Dp K H v r.d ∧ RowOk g r ∧ 1 ≤ r.width ∧ r.width ≤ 8 ∧ GOk g ∧ WD H dw g ∧ Ret H Q fun v _ => v = .bl true
theorem ok_is_what (T : TX K mg w) (G_is_value : FnOk P w K mg base CX0 1 T.a_is_value T.d_is_value p_is_value spIsValue) (G_are_drivers : FnOk P w K mg base CX0 12 T.a_are_drivers T.d_are_drivers p_are_drivers (spDrvs K))
    (G_has_width : FnOk P w K mg base CX0 10 T.a_has_width T.d_has_width p_has_width (spHW K)) : FnOk P w K mg base CX0 13 T.a_is_what T.d_is_what p_is_what (spIsWhat K) := by
  refine T.F_is_what.ok sc_is_what (fun vs H Q E h => ?_) (fun cdv A outer s H vs Q E hr h => ?_)
  · obtain ⟨v, r, dw, g, rfl, _⟩ := h; rfl
  obtain ⟨v, r, dw, g, rfl, hv, rok, w1, w8, G, hw, q⟩ := h
  have nd := sc_is_what.nd
  refine ⟨_, ((pss_cons (ps_asg (pv 0) (pg_tup rfl (pgs_cons (pg_name (i := 2) nd rfl (Or.inl rfl)) (pgs_cons (pg_name (i := 3) nd rfl (Or.inl rfl)) (pgs_cons (pg_name (i := 4) nd rfl (Or.inl rfl)) (pgs_cons (pg_name (i := 5) nd rfl (Or.inl rfl)) pgs_nil))))))
      (pss_cons (ps_if (pt_cmpR op_eq (pv 2) pe_str (nomark _)) (pss_one (ps_ret (pe_cmpR op_isN1 (pv 5) pe_non (nomark _)))) pss_nil)
      (pss_cons (ps_if (pt_cmpR op_eq (pv 2) pe_str (nomark _)) (pss_one (ps_ret (pe_and (pe_callN G_is_value (hr.mono (by omega)) rfl T.m_is_value T.k_is_value T.kb_is_value pass0 (pa_cons (pv 5) pa_nil) (pk_cons (pv 4) pk_nil)) (pe_one (pe_cmpR op_notInS pe_str (pv 5) (by rfl)))))) pss_nil)
      (pss_cons (ps_if (pt_cmpR op_eq (pv 2) pe_str (nomark _)) (pss_one (ps_ret (pe_call G_are_drivers (hr.mono (by omega)) rfl T.m_are_drivers T.k_are_drivers T.b_are_drivers .nil pass0 (pa_cons (pv 5) (pa_cons (pv 4) (pa_cons (pv 1) pa_nil)))))) pss_nil)
      (pss_one (ps_ret (pe_call G_has_width (hr.mono (by omega)) rfl T.m_has_width T.k_has_width T.b_has_width .nil pass0 (pa_cons (pv 5) (pa_cons (pv 4) (pa_cons (pv 1) pa_nil))))))))))), ?_⟩
  obtain ⟨a, x, rfl, hs, hx⟩ := row_inv hv
  refine ⟨_, rfl, a, _, rfl, hs, rfl, _, _, rfl, _, _, rfl, _, _, rfl, _, _, rfl, rfl, _, rfl, rfl, _, rfl, ?_⟩
  cases rok with
  | input n wd =>
    obtain rfl := Dp.non_inv hx
    refine if_t so6 ?_
    exact ⟨_, rfl, rfl, q _ _ (Same.refl _) rfl⟩
  | kept n wd y hl hb =>
    obtain rfl := Dp.str_inv hx
    refine if_f so7 ⟨_, rfl, rfl, _, rfl, if_t so11 ?_⟩
    have l1 : 1 ≤ y.length := by have : (1 : Int) ≤ wd := w1; omega
    have l8 : y.length ≤ 8 := by have : wd ≤ (8 : Int) := w8; omega
    refine ⟨_, rfl, _, rfl, rfl, rfl, y, wd, rfl, l1, l8, hb, .inr hl.symm, ?_⟩
    rintro _ H1 e1 rfl
    refine ⟨_, rfl, if_t rfl ?_⟩
    refine ⟨_, rfl, 122, y, rfl, rfl, ?_⟩
    rw [decide_eq_false (bits_z hb)]
    exact q _ _ e1 rfl
  | wire n wd t ht =>
    refine if_f so8 ⟨_, rfl, rfl, _, rfl, if_f so12 ⟨_, rfl, rfl, _, rfl, if_f so3 ?_⟩⟩
    refine ⟨_, rfl, _, rfl, _, rfl, x, dw, t, g, wd, rfl, hx, ht, G, hw, ?_⟩
    rintro _ H1 e1 rfl
    exact q _ _ e1 rfl
  | filter n wd t ht =>
    refine if_f so9 ⟨_, rfl, rfl, _, rfl, if_f so13 ⟨_, rfl, rfl, _, rfl, if_f so4 ?_⟩⟩
    refine ⟨_, rfl, _, rfl, _, rfl, x, dw, t, g, wd, rfl, hx, ht, G, hw, ?_⟩
    rintro _ H1 e1 rfl
    exact q _ _ e1 rfl
  | bus n wd ds h2 h4 hd =>
    refine if_f so10 ⟨_, rfl, rfl, _, rfl, if_f so14 ⟨_, rfl, rfl, _, rfl, if_t so5 ?_⟩⟩
    refine ⟨_, rfl, _, rfl, _, rfl, x, ds, wd, dw, g, rfl, hx, h2, h4, hd, G, hw, ?_⟩
    rintro _ H1 e1 rfl
    exact q _ _ e1 rfl
def spWhatW (K : PySem.W.Frag) : Sp := spSigsW K
theorem ok_what_wrong (T : TX K mg w) (G_widths_of : FnOk P w K mg base CX0 1 T.a_widths_of T.d_widths_of p_widths_of (spWids K)) (G_is_what : FnOk P w K mg base CX0 13 T.a_is_what T.d_is_what p_is_what (spIsWhat K)) :
    FnOk P w K mg base CX0 14 T.a_what_wrong T.d_what_wrong p_what_wrong (spWhatW K) := by
  refine T.F_what_wrong.ok sc_what_wrong (fun vs H Q E h => ?_) (fun cdv A outer s H vs Q E hr h => ?_)
  · obtain ⟨a, xs, rs, rfl, _⟩ := h; rfl
  obtain ⟨a, xs, rs, rfl, ha, hd, ok, q⟩ := h
  have nd := sc_what_wrong.nd
  refine ⟨_, ((pss_cons (ps_set (i := 1) nd rfl (Or.inl rfl) (pe_call G_widths_of (hr.mono (by omega)) rfl T.m_widths_of T.k_widths_of T.b_widths_of .nil pass0 (pa_cons (pv 0) pa_nil)))
      (pss_cons (ps_for PassesOwn.never rfl (pi_list (pv 0)) (pg_name (i := 2) nd rfl (Or.inl rfl)) (pss_one (ps_if (pt_not (pt_val (pe_call G_is_what (hr.mono (by omega)) rfl T.m_is_what T.k_is_what T.b_is_what .nil pass0 (pa_cons (pv 2) (pa_cons (pv 1) pa_nil))))) (pss_one (ps_ret (pe_tup (pa_cons pe_str (pa_cons (pe_ix ix_tup (pv 2) pe_int (fun _ _ => rfl)) pa_nil))))) pss_nil)))
      (pss_one (ps_ret pe_non))))), ?_⟩
  refine ⟨_, rfl, a, xs, rs, rfl, ha, hd, ok, fun dw H1 e1 hw => ?_⟩
  refine ⟨_, rfl, a, rfl, ⟨xs, e1.seq ha⟩, ?_⟩
  refine for_it (walk_list (K := K) (a := a) (xs := xs)) (fun i σ H2 => ∃ o, σ = [some (.ref a), some (.ref dw), o] ∧ Same H1 H2) ⟨none, rfl, Same.refl _⟩ (fun i σ H2 _ z => by obtain ⟨_, _, e2⟩ := z; exact (e1.trans e2).seq ha) ?_ ?_
  · rintro i x σ _ H2 hi ⟨o, rfl, e2⟩ ⟨rfl, hx⟩
    obtain ⟨r, hri, hxd⟩ := rows_at hd hx
    have hrm := List.mem_of_getElem? hri
    have hcx : (r.name, r.width) ∈ ctx rs := List.mem_map.mpr ⟨r, hrm, rfl⟩
    refine ⟨_, rfl, _, rfl, x, r, dw, ctx rs, rfl, hxd.mono (e1.trans e2), ok.row r hrm, ok.g.lo _ _ hcx, ok.g.hi _ _ hcx, ok.g, hw.mono e2, ?_⟩
    rintro _ H3 e3 rfl
    exact ⟨_, rfl, if_f rfl ⟨_, rfl, e2.trans e3⟩⟩
  · rintro σ H2 ⟨o, rfl, e2⟩
    exact q _ _ (e1.trans e2) rfl
end
end K34
namespace K34
open PySem PySem.Spec PyProof.Rows L2
local macro_rules | `(tactic| walk_at "sm") => `(tactic| (repeat (first | exact Same.refl _ | assumption | refine Same.trans ?_ (same_new (by assumption) _) | refine Same.trans ?_ (by assumption))))
theorem inV_non : ∀ l : List Int, inV .non (l.map V.int) = false
  | [] => rfl
  | k :: l => by
    have ih := inV_non l
    unfold inV at ih ⊢
    rw [List.map_cons, List.any_cons, ih]
    rfl
theorem setw {wd : Str} (h : wd = "now" ∨ wd = "later") : decide (V.str wd = V.str "if") = false ∧ inV (V.str wd) [V.str "now", V.str "later"] = true := by
  rcases h with rfl | rfl <;> decide +kernel
section
variable {P : Program} {w : World} {K : PySem.W.Frag} {mg : Str → Option Value} {base : Heap}
def spSW (K : PySem.W.Frag) (n : Nat) : Sp := fun vs H Q _ => ∃ (v : V) (st : Stt) (dw kp : Addr) (k : Int) (g : Ctx) (kept : List Str), vs = [v, .ref dw, .ref kp, .int k] ∧ Dp K H v st.d ∧ StOk g kept n st ∧ st.weight ≤ 20 ∧ GOk g ∧ WD H dw g ∧ SqL K H kp (kept.map V.str) ∧ (n : Int) ≤ k ∧
  Ret H Q fun v _ => v = .int st.weight
def spBW (K : PySem.W.Frag) (n : Nat) : Sp := fun vs H Q _ => ∃ (v : V) (b : List Stt) (dw kp : Addr) (k : Int) (g : Ctx) (kept : List Str), vs = [v, .ref dw, .ref kp, .int k] ∧ Dp K H v (.tuple (sttsD b)) ∧ (∀ s ∈ b, StOk g kept n s) ∧ weightL b ≤ 20 ∧ GOk g ∧ WD H dw g ∧ SqL K H kp (kept.map V.str) ∧ (n : Int) ≤ k ∧
  Ret H Q fun v _ => v = .int (weightL b)
theorem ok_body_weight1 (T : TX K mg w) (n : Nat) (G_statement_weight : FnOk P w K mg base CX0 (2 * n + 10) T.a_statement_weight T.d_statement_weight p_statement_weight (spSW K n)) :
    FnOk P w K mg base CX0 (2 * n + 11) T.a_body_weight T.d_body_weight p_body_weight (spBW K n) := by
  refine T.F_body_weight.ok sc_body_weight (fun vs H Q E h => ?_) (fun cdv A outer s H vs Q E hr h => ?_)
  · obtain ⟨v, b, dw, kp, k, g, kept, rfl, _⟩ := h; rfl
  obtain ⟨v, b, dw, kp, k, g, kept, rfl, hv, hb, wb, G, hw, hk, hnk, q⟩ := h
  have nd := sc_body_weight.nd
  refine ⟨_, ((pss_cons (ps_if (pt_not (pt_val (pe_callB call_isi (by rfl) T.z_isinstance (by decide +kernel) (pa_cons (pv 0) (pa_cons (pe_bltn (v := .ty "tuple") rfl T.z_tuple (by decide +kernel) rfl) pa_nil))))) (pss_one (ps_ret pe_non)) pss_nil)
      (pss_cons (ps_setLc (i := 4) (own := [("statement", 5)]) (g := gName 5) (tt := tYes) rfl nd rfl rfl (sw_true rfl rfl rfl (by decide +kernel)) (pi_tup (pv 0)) (blkOk_by (N := n_body_weight) (sc := defScope s_body_weight) (by decide +kernel)) (fun _ _ _ _ _ => (pg_name (i := 5) nd rfl (Or.inl rfl))) (fun _ _ _ _ _ => pts_nil) (fun _ _ _ _ _ => (pe_call G_statement_weight (hr.mono (by omega)) rfl T.m_statement_weight T.k_statement_weight T.b_statement_weight .nil pass0 (pa_cons (pv 5) (pa_cons (pv 1) (pa_cons (pv 2) (pa_cons (pv 3) pa_nil)))))))
      (pss_one (ps_ret (pe_ifExp (pt_cmpR op_in_seq pe_non (pv 4) (by rfl)) pe_non (pe_callB (cr_sum rfl) (by rfl) T.z_sum (by decide +kernel) (pa_cons (pv 4) pa_nil)))))))), ?_⟩
  obtain ⟨c, ys, rfl, hc, rc⟩ := Dp.tup_inv hv
  have lys := rc.length
  rw [sttsD_map, List.length_map] at lys
  have lb := weightL_len b
  refine ⟨_, rfl, _, _, _, _, true, rfl, .ty "tuple", tyx_tup hc, kit_ty (by decide +kernel), _, rfl, if_f rfl ?_⟩
  refine ⟨_, rfl, c, rfl, ⟨ys, hc⟩, fun D hD => ?_⟩
  refine lcD (K := K) walk_tup (b.map fun s => PyData.int s.weight) (by rw [List.length_map, lys]) (by omega) (noLs_iff.mpr fun d hd => by rw [List.mem_map] at hd; obtain ⟨u, _, rfl⟩ := hd; rfl) hD (fun _ e => Evl.ex_t e hc) yat_same ?_ gm_name ?_
  · rintro i x _ H6 e hi' he e6 ⟨rfl, hx⟩ Qy hy
    rw [List.getElem?_map] at he
    obtain ⟨d, hd, hxd⟩ := rc.get hx
    rw [sttsD_map, List.getElem?_map] at hd
    cases hu : b[i]? with
    | none => rw [hu] at he; cases he
    | some u =>
      rw [hu] at he hd
      cases he; cases hd
      have hum := List.mem_of_getElem? hu
      have hwu := weightL_mem hum
      refine ⟨rfl, _, rfl, _, rfl, _, rfl, _, rfl, _, u, dw, kp, k, g, kept, rfl, hxd.mono e6, hb u hum, by omega, G, hw.mono e6, e6.seq hk, hnk, ?_⟩
      rintro _ H7 e7 rfl
      exact hy _ _ e7 (.int _)
  · intro zs H6 e6 hzs hr6
    obtain rfl : zs = (b.map Stt.weight).map V.int := (show DpAll K H6 zs ((b.map Stt.weight).map PyData.int) by rw [List.map_map]; exact hr6).ints
    refine ⟨_, rfl, D, _, rfl, .inl (SqL.of hzs), rfl, flat_ints _, _, rfl, if_f (inV_non _) ?_⟩
    refine ⟨_, rfl, D, _, rfl, SqL.of hzs, ?_⟩
    rw [← weightL_sum]
    exact q _ _ e6 rfl
theorem ok_statement_weight1 (T : TX K mg w) (n : Nat) (G_body_weight : FnOk P w K mg base CX0 (2 * n + 11) T.a_body_weight T.d_body_weight p_body_weight (spBW K n))
    (G_has_width : FnOk P w K mg base CX0 10 T.a_has_width T.d_has_width p_has_width (spHW K)) :
    FnOk P w K mg base CX0 (2 * (n + 1) + 10) T.a_statement_weight T.d_statement_weight p_statement_weight (spSW K (n + 1)) := by
  refine T.F_statement_weight.ok sc_statement_weight (fun vs H Q E h => ?_) (fun cdv A outer s H vs Q E hr h => ?_)
  · obtain ⟨v, st, dw, kp, k, g, kept, rfl, _⟩ := h; rfl
  obtain ⟨v, st, dw, kp, k, g, kept, rfl, hv, hb, wb, G, hw, hk, hnk, q⟩ := h
  have nd := sc_statement_weight.nd
  have hu := hu_of hr
  refine ⟨_, ((pss_cons (ps_if (PW.pt (pw_or (pt_cmpR op_eq (pv 3) pe_int (nomark _)) (pw_or (pt_not (pt_val (pe_callB call_isi (by rfl) T.z_isinstance (by decide +kernel) (pa_cons (pv 0) (pa_cons (pe_bltn (v := .ty "tuple") rfl T.z_tuple (by decide +kernel) rfl) pa_nil))))) (pw_or1 (pt_cmpR op_notIn_seq (pe_callB call_len_seq (by rfl) T.z_len PySem.boot_len (pa_cons (pv 0) pa_nil)) (pe_tup (pa_cons pe_int (pa_cons pe_int pa_nil))) (by rfl)))))) (pss_one (ps_ret pe_non)) pss_nil)
      (pss_cons (ps_asg (pv 0) (pg_starT (n := 3) (i := 2) rfl (pgs_cons (pg_name (i := 4) nd rfl (Or.inl rfl)) (pgs_cons (pg_name (i := 5) nd rfl (Or.inl rfl)) (pgs_star (pg_name (i := 6) nd rfl (Or.inl rfl)) pgs_nil)))))
      (pss_cons (ps_if (PW.pt (pw_and (pt_cmpR op_eq (pv 4) pe_str (nomark _)) (pw_and (pt_cmpR op_eq (pe_callB call_len_seq (by rfl) T.z_len PySem.boot_len (pa_cons (pv 6) pa_nil)) pe_int (nomark _)) (pw_and1 (pt_val (pe_call G_has_width (hr.mono (by omega)) rfl T.m_has_width T.k_has_width T.b_has_width .nil pass0 (pa_cons (pv 5) (pa_cons pe_int (pa_cons (pv 1) pa_nil))))))))) (pss_cons (ps_setLc (i := 7) (own := [("body", 9)]) (g := gName 9) (tt := tYes) rfl nd rfl rfl (sw_true rfl rfl rfl (by decide +kernel)) (pi_list (pv 6)) (blkOk_by (N := n_statement_weight) (sc := defScope s_statement_weight) (by decide +kernel)) (fun _ _ _ _ _ => (pg_name (i := 9) nd rfl (Or.inl rfl))) (fun _ _ _ _ _ => pts_nil) (fun _ _ _ _ _ => (pe_call G_body_weight (hr.mono (by omega)) rfl T.m_body_weight T.k_body_weight T.b_body_weight .nil pass0 (pa_cons (pv 9) (pa_cons (pv 1) (pa_cons (pv 2) (pa_cons (pe_op op_sub (pv 3) pe_int) pa_nil)))))))
      (pss_one (ps_ret (pe_ifExp (pt_cmpR op_in_seq pe_non (pv 7) (by rfl)) pe_non (pe_op op_add pe_int (pe_callB (cr_sum rfl) (by rfl) T.z_sum (by decide +kernel) (pa_cons (pv 7) pa_nil))))))) pss_nil)
      (pss_cons (ps_set (i := 8) nd rfl (Or.inl rfl) (pe_and (pe_cmpR op_in_seq (pv 4) (pe_tup (pa_cons pe_str (pa_cons pe_str pa_nil))) (by rfl)) (pe_and (pe_cmpR op_eq (pe_callB call_len_seq (by rfl) T.z_len PySem.boot_len (pa_cons (pv 6) pa_nil)) pe_int (nomark _)) (pe_and (pe_callB call_isi (by rfl) T.z_isinstance (by decide +kernel) (pa_cons (pv 5) (pa_cons (pe_bltn (v := .ty "str") rfl T.z_str (by decide +kernel) rfl) pa_nil))) (pe_one (pe_cmpR op_in_seq (pv 5) (pv 2) (by rfl)))))))
      (pss_one (ps_ret (pe_ifExp (PW.pt (pw_and (pt_val (pv 8)) (pw_and1 (pt_val (pe_call G_has_width (hr.mono (by omega)) rfl T.m_has_width T.k_has_width T.b_has_width .nil pass0 (pa_cons (pe_ix ix_list (pv 6) pe_int (fun _ _ => rfl)) (pa_cons (pe_dget hu (pv 1) (pv 5) (fun _ _ => rfl)) (pa_cons (pv 1) pa_nil)))))))) pe_int pe_non)))))))), ?_⟩
  have hk0 : decide (V.int k = V.int 0) = false := decide_eq_false fun z => by have := V.int.inj z; omega
  refine ⟨_, rfl, rfl, _, rfl, if_f hk0 ?_⟩
  cases st with
  | set wd nm t =>
    obtain ⟨hwd, hnk', kk, hng, ht⟩ := hb
    obtain ⟨c, ys, rfl, hc, rc⟩ := Dp.tup_inv hv
    obtain ⟨v0, _, rfl, h0, r0⟩ := DpAll.cons_inv rc
    obtain ⟨v1, _, rfl, h1, r1⟩ := DpAll.cons_inv r0
    obtain ⟨v2, _, rfl, h2, r2⟩ := DpAll.cons_inv r1
    obtain rfl := DpAll.nil_inv r2
    obtain rfl := Dp.str_inv h0
    obtain rfl := Dp.str_inv h1
    refine ⟨_, rfl, _, _, _, _, true, rfl, .ty "tuple", tyx_tup hc, kit_ty (by decide +kernel), _, rfl, if_f rfl ?_⟩
    refine ⟨_, rfl, c, _, rfl, .inr hc, by show 2 ≤ sizeLine; decide, fun p0 hp0 => ⟨p0, _, rfl, .inr (SqT.of upd_same), rfl, rfl, _, rfl, if_f rfl ?_⟩⟩
    have f0 : Same H (upd H p0 (.tup [.int 3, .int 4])) := same_new hp0 _
    generalize upd H p0 (.tup [.int 3, .int 4]) = H0 at *
    refine ⟨_, rfl, star3 (Evl.ex_t f0 hc) (by show 1 ≤ 1000; decide) fun q1 hq1 => ⟨_, _, rfl, _, _, rfl, _, _, rfl, rfl, ?_⟩⟩
    have f1 : Same H0 (upd H0 q1 (.lst [v2])) := same_new hq1 _
    have hq : upd H0 q1 (.lst [v2]) q1 = some (.lst [v2]) := upd_same
    generalize upd H0 q1 (.lst [v2]) = H1 at *
    have e1 := f0.trans f1
    obtain ⟨s1, s2⟩ := setw hwd
    refine ⟨_, rfl, rfl, _, rfl, if_f s1 (if_f rfl ?_)⟩
    refine ⟨_, rfl, by show 2 ≤ sizeLine; decide, fun p2 hp2 => ⟨p2, _, rfl, .inr (SqT.of upd_same), rfl, rfl, true, congrArg V.bl s2, if_t rfl ?_⟩⟩
    have f2 : Same H1 (upd H1 p2 (.tup [.str "now", .str "later"])) := same_new hp2 _
    have hq2 := f2 _ _ hq
    generalize upd H1 p2 (.tup [.str "now", .str "later"]) = H2 at *
    have e2 := e1.trans f2
    refine ⟨_, rfl, q1, _, rfl, .inl (SqL.of hq2), rfl, true, rfl, if_t rfl ?_⟩
    refine ⟨_, rfl, _, _, _, _, true, rfl, .ty "str", .base (.str nm), kit_ty (by decide +kernel), true, rfl, if_t rfl ?_⟩
    have hin : inV (V.str nm) (kept.map V.str) = true := by rw [inV_str]; exact decide_eq_true hnk'
    refine ⟨_, rfl, _, rfl, kp, _, rfl, .inl (e2.seq hk), rfl, flat_strs kept, ?_⟩
    refine ⟨_, rfl, true, congrArg V.bl hin, if_t rfl ?_⟩
    refine ⟨_, rfl, q1, _, _, _, rfl, rfl, SqL.of hq2, atI_0, ?_⟩
    have hg : DGet H2 dw (.str nm) (some (.int kk)) := by
      rw [← valV_ctx G.nd hng]
      exact DGet.k (k := Sum.inr nm) (hw.mono e2)
    refine ⟨_, rfl, _, rfl, dw, _, rfl, hg, ?_⟩
    refine ⟨_, rfl, v2, dw, t, g, kk, rfl, h2.mono e2, ht, G, hw.mono e2, ?_⟩
    rintro _ H3 e3 rfl
    refine ⟨_, rfl, if_t rfl ?_⟩
    exact q _ _ (e2.trans e3) rfl
  | iff t sa sb =>
    obtain ⟨ht, hsa, hsb⟩ := hb
    have wa := weightL_nn sa
    have wb' := weightL_nn sb
    simp only [Stt.weight] at wb
    obtain ⟨c, ys, rfl, hc, rc⟩ := Dp.tup_inv hv
    obtain ⟨v0, _, rfl, h0, r0⟩ := DpAll.cons_inv rc
    obtain ⟨v1, _, rfl, h1, r1⟩ := DpAll.cons_inv r0
    obtain ⟨v2, _, rfl, h2, r2⟩ := DpAll.cons_inv r1
    obtain ⟨v3, _, rfl, h3, r3⟩ := DpAll.cons_inv r2
    obtain rfl := DpAll.nil_inv r3
    obtain rfl := Dp.str_inv h0
    refine ⟨_, rfl, _, _, _, _, true, rfl, .ty "tuple", tyx_tup hc, kit_ty (by decide +kernel), _, rfl, if_f rfl ?_⟩
    refine ⟨_, rfl, c, _, rfl, .inr hc, by show 2 ≤ sizeLine; decide, fun p0 hp0 => ⟨p0, _, rfl, .inr (SqT.of upd_same), rfl, rfl, _, rfl, if_f rfl ?_⟩⟩
    have f0 : Same H (upd H p0 (.tup [.int 3, .int 4])) := same_new hp0 _
    generalize upd H p0 (.tup [.int 3, .int 4]) = H0 at *
    refine ⟨_, rfl, star3 (Evl.ex_t f0 hc) (by show 2 ≤ 1000; decide) fun q1 hq1 => ⟨_, _, rfl, _, _, rfl, _, _, rfl, rfl, ?_⟩⟩
    have f1 : Same H0 (upd H0 q1 (.lst [v2, v3])) := same_new hq1 _
    have hq : upd H0 q1 (.lst [v2, v3]) q1 = some (.lst [v2, v3]) := upd_same
    generalize upd H0 q1 (.lst [v2, v3]) = H1 at *
    have e1 := f0.trans f1
    refine ⟨_, rfl, rfl, _, rfl, if_t kw3 ?_⟩
    refine ⟨_, rfl, q1, _, rfl, .inl (SqL.of hq), rfl, _, rfl, if_t rfl ?_⟩
    refine ⟨_, rfl, _, rfl, v1, dw, t, g, 1, rfl, h1.mono e1, ht, G, hw.mono e1, ?_⟩
    rintro _ H2 e2 rfl
    refine ⟨_, rfl, if_t rfl ?_⟩
    have e12 := e1.trans e2
    have hq2 := e2 _ _ hq
    refine ⟨_, rfl, q1, rfl, ⟨_, SqL.of hq2⟩, fun D hD => ?_⟩
    refine lcD (K := K) walk_list [.int (weightL sa), .int (weightL sb)] rfl (by show 2 ≤ 1000; decide) rfl hD (fun _ e => e.seq (SqL.of hq2)) yat_same ?_ gm_name ?_
    · rintro i x _ H6 e hi' he e6 ⟨rfl, hx⟩ Qy hy
      have e16 := e12.trans e6
      match i, hx, he with
      | 0, hx, he =>
        cases hx; cases he
        refine ⟨rfl, _, rfl, _, rfl, _, rfl, _, rfl, _, _, rfl, rfl, v2, sa, dw, kp, k - 1, g, kept, rfl, h2.mono e16, hsa, by omega, G, hw.mono e16, e16.seq hk, by omega, ?_⟩
        rintro _ H7 e7 rfl
        exact hy _ _ e7 (.int _)
      | 1, hx, he =>
        cases hx; cases he
        refine ⟨rfl, _, rfl, _, rfl, _, rfl, _, rfl, _, _, rfl, rfl, v3, sb, dw, kp, k - 1, g, kept, rfl, h3.mono e16, hsb, by omega, G, hw.mono e16, e16.seq hk, by omega, ?_⟩
        rintro _ H7 e7 rfl
        exact hy _ _ e7 (.int _)
      | i + 2, hx, he => cases he
    · intro zs H6 e6 hzs hr6
      obtain rfl : zs = [weightL sa, weightL sb].map V.int := (show DpAll K H6 zs ([weightL sa, weightL sb].map PyData.int) from hr6).ints
      refine ⟨_, rfl, D, _, rfl, .inl (SqL.of hzs), rfl, flat_ints _, _, rfl, if_f (inV_non _) ?_⟩
      refine ⟨_, rfl, D, [weightL sa, weightL sb], rfl, SqL.of hzs, _, _, rfl, rfl, ?_⟩
      exact q _ _ (e12.trans e6) (by simp [Stt.weight])
theorem ok_sb (T : TX K mg w) (G_has_width : FnOk P w K mg base CX0 10 T.a_has_width T.d_has_width p_has_width (spHW K)) : ∀ n,
    FnOk P w K mg base CX0 (2 * n + 10) T.a_statement_weight T.d_statement_weight p_statement_weight (spSW K n) ∧ FnOk P w K mg base CX0 (2 * n + 11) T.a_body_weight T.d_body_weight p_body_weight (spBW K n)
  | 0 => by
    have h : FnOk P w K mg base CX0 (2 * 0 + 10) T.a_statement_weight T.d_statement_weight p_statement_weight (spSW K 0) := fn_none fun vs H Q E ⟨_, _, _, _, _, _, _, _, _, h, _⟩ => h.elim
    exact ⟨h, ok_body_weight1 T 0 h⟩
  | n + 1 => by
    have h := ok_statement_weight1 T n (ok_sb T G_has_width n).2 G_has_width
    exact ⟨h, ok_body_weight1 T (n + 1) h⟩
theorem edges_in {e : Str} (h : e = "rise" ∨ e = "fall") : inV (.str e) ((["rise", "fall"] : List String).map fun x => V.str (Str.ofString x)) = true := by rcases h with rfl | rfl <;> decide +kernel
def spBlkW (K : PySem.W.Frag) : Sp := fun vs H Q _ => ∃ (v : V) (r : Blk) (i : Int) (t a : Addr) (l : List Str) (xs : List V) (rs : List Row), vs = [v, .int i, .ref t, .ref a] ∧ Dp K H v r.d ∧ BlkOk1 rs r ∧ SqL K H t (l.map V.str) ∧ r.name ∉ l ∧
  SqL K H a xs ∧ DpAll K H xs (rs.map Row.d) ∧ SigOk rs ∧ Ret H Q fun v _ => v = .non
theorem ok_block_wrong (T : TX K mg w) (G_is_row : FnOk P w K mg base CX0 1 T.a_is_row T.d_is_row p_is_row (spIsRow K)) (G_name_wrong : FnOk P w K mg base CX0 2 T.a_name_wrong T.d_name_wrong p_name_wrong (spNameW K))
    (G_widths_of : FnOk P w K mg base CX0 1 T.a_widths_of T.d_widths_of p_widths_of (spWids K)) (G_body_weight : FnOk P w K mg base CX0 19 T.a_body_weight T.d_body_weight p_body_weight (spBW K 4)) :
    FnOk P w K mg base CX0 20 T.a_block_wrong T.d_block_wrong p_block_wrong (spBlkW K) := by
  refine T.F_block_wrong.ok sc_block_wrong (fun vs H Q E h => ?_) (fun cdv A outer s H vs Q E hr h => ?_)
  · obtain ⟨v, r, i, t, a, l, xs, rs, rfl, _⟩ := h; rfl
  obtain ⟨v, r, i, t, a, l, xs, rs, rfl, hv, rok, hl, hx, ha, hd, ok, q⟩ := h
  have nd := sc_block_wrong.nd
  have hu := hu_of hr
  refine ⟨_, ((pss_cons (ps_if (pt_not (pt_val (pe_call G_is_row (hr.mono (by omega)) rfl T.m_is_row T.k_is_row T.b_is_row .nil pass0 (pa_cons (pv 0) pa_nil)))) (pss_one (ps_ret (pe_tup (pa_cons pe_str (pa_cons (pe_callTy call_str_int (by rfl) T.z_str (by decide +kernel) (pa_cons (pv 1) pa_nil)) pa_nil))))) pss_nil)
      (pss_cons (ps_asg (pv 0) (pg_tup rfl (pgs_cons (pg_name (i := 4) nd rfl (Or.inl rfl)) (pgs_cons (pg_name (i := 5) nd rfl (Or.inl rfl)) (pgs_cons (pg_name (i := 6) nd rfl (Or.inl rfl)) (pgs_cons (pg_name (i := 7) nd rfl (Or.inl rfl)) pgs_nil))))))
      (pss_cons (ps_set (i := 8) nd rfl (Or.inl rfl) (pe_call G_name_wrong (hr.mono (by omega)) rfl T.m_name_wrong T.k_name_wrong T.b_name_wrong .nil pass0 (pa_cons (pv 4) (pa_cons (pv 1) (pa_cons (pv 2) pa_nil)))))
      (pss_cons (ps_if (pt_cmpR op_notN1 (pv 8) pe_non (nomark _)) (pss_one (ps_ret (pv 8))) pss_nil)
      (pss_cons (ps_if (pt_cmpR op_notIn_seq (pv 5) (pe_glob (v := .ref T.a_EDGES) rfl T.m_EDGES rfl) (by rfl)) (pss_one (ps_ret (pe_tup (pa_cons pe_str (pa_cons (pv 4) pa_nil))))) pss_nil)
      (pss_cons (ps_set (i := 9) nd rfl (Or.inl rfl) (pe_call G_widths_of (hr.mono (by omega)) rfl T.m_widths_of T.k_widths_of T.b_widths_of .nil pass0 (pa_cons (pv 3) pa_nil)))
      (pss_cons (ps_if (PW.pt (pw_or (pt_not (pt_val (pe_callB call_isi (by rfl) T.z_isinstance (by decide +kernel) (pa_cons (pv 6) (pa_cons (pe_bltn (v := .ty "str") rfl T.z_str (by decide +kernel) rfl) pa_nil))))) (pw_or1 (pt_cmpR op_ne (pe_dget1 hu (pv 9) (pv 6) ⟨rfl, rfl, rfl, rfl⟩) pe_int (nomark _))))) (pss_one (ps_ret (pe_tup (pa_cons pe_str (pa_cons (pv 4) pa_nil))))) pss_nil)
      (pss_cons (ps_set (i := 10) nd rfl (Or.inl rfl) (pe_call G_body_weight (hr.mono (by omega)) rfl T.m_body_weight T.k_body_weight T.b_body_weight .nil pass0 (pa_cons (pv 7) (pa_cons (pv 9) (pa_cons (pe_lc (own := [("one", 11)]) (g := gName 11) rfl nd (pi_list (pv 3)) (blkOk_by (N := n_block_wrong) (sc := defScope s_block_wrong) (by decide +kernel)) (fun _ _ _ _ _ => (pg_name (i := 11) nd rfl (Or.inl rfl))) (fun _ _ _ _ _ => pts_one (pt_cmpR op_eq (pe_ix (ix_tupK (K := K) rfl) (pv 11) pe_int (fun _ _ => rfl)) pe_str (nomark _))) (fun _ _ _ _ _ => (pe_ix (ix_tupK (K := K) rfl) (pv 11) pe_int (fun _ _ => rfl)))) (pa_cons (pe_glob (v := .int 4) rfl T.m_DEEPEST_clashes ⟨_, rfl⟩) pa_nil))))))
      (pss_cons (ps_if (PW.pt (pw_or (pt_cmpR op_isN1 (pv 10) pe_non (nomark _)) (pw_or1 (pt_cmpR op_gt (pv 10) (pe_glob (v := .int 20) rfl T.m_MOST_STATEMENTS ⟨_, rfl⟩) (nomark _))))) (pss_one (ps_ret (pe_tup (pa_cons pe_str (pa_cons (pv 4) pa_nil))))) pss_nil)
      (pss_one (ps_ret pe_non)))))))))))), ?_⟩
  have lxs := hd.length
  rw [List.length_map] at lxs
  have l11 := ok.len
  obtain ⟨c, y, rfl, hc, hy⟩ := blk_inv hv
  refine ⟨_, rfl, c, _, rfl, hc, rfl, _, rfl, if_f rfl ?_⟩
  refine ⟨_, rfl, c, _, rfl, hc, rfl, _, _, rfl, _, _, rfl, _, _, rfl, _, _, rfl, rfl, ?_⟩
  refine ⟨_, rfl, _, rfl, _, rfl, r.name, i, t, l, rfl, rok.nm, hl, hx, ?_⟩
  rintro _ H1 e1 rfl
  refine ⟨_, rfl, rfl, _, rfl, if_f rfl ?_⟩
  refine ⟨_, rfl, _, _, rfl, .inr (T.q_EDGES H1), rfl, by decide +kernel, _, rfl, if_f (by rw [edges_in rok.edge]; rfl) ?_⟩
  refine ⟨_, rfl, a, xs, rs, rfl, e1.seq ha, hd.mono e1, ok, fun dw H2 e2 hw => ?_⟩
  have e12 := e1.trans e2
  refine ⟨_, rfl, _, _, _, _, true, rfl, .ty "str", .base (.str r.trig), kit_ty (by decide +kernel), _, rfl, if_f rfl ?_⟩
  have hg : DGet H2 dw (.str r.trig) (some (.int 1)) := by
    rw [← valV_ctx ok.g.nd rok.trig]
    exact DGet.k (k := Sum.inr r.trig) hw
  refine ⟨_, rfl, dw, rfl, .inl ⟨_, .of hw⟩, _, rfl, _, hg, rfl, _, rfl, if_f rfl ?_⟩
  refine ⟨_, rfl, _, rfl, _, rfl, a, rfl, ⟨xs, e12.seq ha⟩, fun D hD => ?_⟩
  refine lcO (K := K) walk_list (rs.map fun r => if decide (r.sort = ("kept" : Str)) = true then some (PyData.str r.name) else none) (by rw [List.length_map, lxs]) (by omega) (fun d hd => by
      rw [List.mem_map] at hd
      obtain ⟨r, _, e⟩ := hd
      split at e <;> cases e
      rfl) hD (fun _ e => (e12.trans e).seq ha) yat_same ?_ ?_
  · rintro i x _ H3 e hi he e3 ⟨rfl, hx⟩ Qy Qn hy hn
    obtain ⟨r, hri, hxd⟩ := rows_at hd hx
    rw [List.getElem?_map, hri] at he
    cases he
    obtain ⟨c, y, rfl, hc, hw⟩ := row_inv (hxd.mono (e12.trans e3))
    refine ⟨rfl, _, rfl, c, _, _, _, rfl, rfl, hc, atI_0, rfl, _, rfl, ?_⟩
    by_cases hs : r.sort = ("kept" : Str)
    · refine if_t (decide_eq_true (by rw [hs])) ?_
      exact ⟨_, rfl, c, _, _, _, rfl, rfl, hc, (show atI [V.str r.sort, V.str r.name, V.int r.width, y] 1 = some (.str r.name) from rfl), hy _ (if_pos (decide_eq_true hs)) _ _ (Same.refl _) (.str _)⟩
    · refine if_f (decide_eq_false fun z => hs (V.str.inj z)) ?_
      exact hn (if_neg (fun z => hs (of_decide_eq_true z))) _ (Same.refl _)
  · intro zs H3 e3 hzs hr3
    rw [filt_map (fun r : Row => decide (r.sort = ("kept" : Str))) (fun r => PyData.str r.name)] at hr3
    obtain rfl : zs = (keptOf rs).map V.str := (show DpAll K H3 zs ((keptOf rs).map PyData.str) by unfold keptOf; rw [List.map_map]; exact hr3).strs
    have e13 := e12.trans e3
    refine ⟨y, r.body, dw, D, 4, ctx rs, keptOf rs, rfl, hy.mono e13, rok.body, rok.few, ok.g, hw.mono e3, SqL.of hzs, by decide, ?_⟩
    rintro _ H4 e4 rfl
    have hwt := rok.few
    refine ⟨_, rfl, rfl, _, rfl, if_f rfl ?_⟩
    refine ⟨_, rfl, _, _, rfl, rfl, _, rfl, if_f (decide_eq_false (by omega)) ?_⟩
    exact q _ _ (e13.trans e4) rfl
def spBlksW (K : PySem.W.Frag) : Sp := fun vs H Q _ => ∃ (a b : Addr) (xs ys : List V) (rs : List Row) (bs : List Blk), vs = [.ref a, .ref b] ∧ SqL K H a xs ∧ DpAll K H xs (rs.map Row.d) ∧ SigOk rs ∧ H b = some (.lst ys) ∧ DpAll K H ys (bs.map Blk.d) ∧ BlksOk rs bs ∧ Ret H Q fun v _ => v = .non
theorem ok_blocks_wrong (T : TX K mg w) (G_block_wrong : FnOk P w K mg base CX0 20 T.a_block_wrong T.d_block_wrong p_block_wrong (spBlkW K)) : FnOk P w K mg base CX0 21 T.a_blocks_wrong T.d_blocks_wrong p_blocks_wrong (spBlksW K) := by
  refine T.F_blocks_wrong.ok sc_blocks_wrong (fun vs H Q E h => ?_) (fun cdv A outer s H vs Q E hr h => ?_)
  · obtain ⟨a, b, xs, ys, rs, bs, rfl, _⟩ := h; rfl
  obtain ⟨a, b, xs, ys, rs, bs, rfl, ha, hd, ok, hb, hdb, okb, q⟩ := h
  have nd := sc_blocks_wrong.nd
  refine ⟨_, ((pss_cons (ps_if (PW.pt (pw_and (pt_not (pt_val (pe_callB call_isi (by rfl) T.z_isinstance (by decide +kernel) (pa_cons (pv 1) (pa_cons (pe_bltn (v := .ty "list") rfl T.z_list (by decide +kernel) rfl) pa_nil))))) (pw_and1 (PW.pt (pw_or (pt_not (pt_val (pe_callB call_isi (by rfl) T.z_isinstance (by decide +kernel) (pa_cons (pv 1) (pa_cons (pe_bltn (v := .ty "tuple") rfl T.z_tuple (by decide +kernel) rfl) pa_nil))))) (pw_or1 (pt_cmpR op_gt (pe_callB call_len_seq (by rfl) T.z_len PySem.boot_len (pa_cons (pv 1) pa_nil)) pe_int (nomark _)))))))) (pss_one (ps_ret (pe_tup (pa_cons pe_str (pa_cons pe_str pa_nil))))) pss_nil)
      (pss_cons (ps_setLc (i := 2) (own := [("row", 4)]) (g := gName 4) (tt := tYes) rfl nd rfl rfl (sw_true rfl rfl rfl (by decide +kernel)) (pi_list (pv 0)) (blkOk_by (N := n_blocks_wrong) (sc := defScope s_blocks_wrong) (by decide +kernel)) (fun _ _ _ _ _ => (pg_name (i := 4) nd rfl (Or.inl rfl))) (fun _ _ _ _ _ => pts_nil) (fun _ _ _ _ _ => (pe_ix (ix_tupK (K := K) rfl) (pv 4) pe_int (fun _ _ => rfl))))
      (pss_cons (ps_for PassesOwn.never rfl (pi_enum (by rfl) T.z_enumerate (pa_cons (pv 1) pa_nil)) (pg_tup rfl (pgs_cons (pg_name (i := 3) nd rfl (Or.inl rfl)) (pgs_cons (pg_name (i := 4) nd rfl (Or.inl rfl)) pgs_nil))) (pss_cons (ps_set (i := 5) nd rfl (Or.inl rfl) (pe_call G_block_wrong (hr.mono (by omega)) rfl T.m_block_wrong T.k_block_wrong T.b_block_wrong .nil pass0 (pa_cons (pv 4) (pa_cons (pv 3) (pa_cons (pv 2) (pa_cons (pv 0) pa_nil))))))
      (pss_cons (ps_if (pt_cmpR op_notN1 (pv 5) pe_non (nomark _)) (pss_one (ps_ret (pv 5))) pss_nil)
      (pss_one (ps_expr (pe_bm PySem.F.plainAttrs_list PySem.F.slot_list_append PySem.F.type_list_append mt_append (pv 2) (pa_cons (pe_ix ix_tup (pv 4) pe_int (fun _ _ => rfl)) pa_nil)))))))
      (pss_one (ps_ret pe_non)))))), ?_⟩
  have lxs := hd.length
  rw [List.length_map] at lxs
  have l11 := ok.len
  have lys := hdb.length
  rw [List.length_map] at lys
  have l6 := okb.len
  refine ⟨_, rfl, _, _, _, _, true, rfl, .ty "list", .base (.lst hb), kit_ty (by decide +kernel), _, rfl, if_f rfl (if_f rfl ?_)⟩
  refine ⟨_, rfl, a, rfl, ⟨xs, ha⟩, fun D hD => ?_⟩
  refine lcD (K := K) walk_list (rs.map fun r => PyData.str r.name) (by rw [List.length_map, lxs]) (by omega) (noLs_iff.mpr fun d hd => by rw [List.mem_map] at hd; obtain ⟨u, _, rfl⟩ := hd; rfl) hD (fun _ e => e.seq ha) yat_same ?_ gm_name ?_
  · rintro i x _ H3 e hi he e3 ⟨rfl, hx⟩ Qy hy
    obtain ⟨r, hri, hxd⟩ := rows_at hd hx
    rw [List.getElem?_map, hri] at he
    cases he
    obtain ⟨c, y, rfl, hc, hw⟩ := row_inv (hxd.mono e3)
    exact ⟨rfl, _, rfl, c, _, _, _, rfl, rfl, hc, (show atI [V.str r.sort, V.str r.name, V.int r.width, y] 1 = some (.str r.name) from rfl), hy _ _ (Same.refl _) (.str _)⟩
  · intro zs H1 e1 hzs hr1
    obtain rfl : zs = (rs.map Row.name).map V.str := (show DpAll K H1 zs ((rs.map Row.name).map PyData.str) by rw [List.map_map]; exact hr1).strs
    have hb1 := e1 _ _ hb
    have hDb : ∀ {c : Addr} {o : HO}, H c = some o → c ≠ D := fun h e => by rw [e, hD] at h; cases h
    refine ⟨_, rfl, b, ys, rfl, SqL.of hb1, ?_⟩
    refine for_it (walk_enum (K := K) (a := b) (xs := ys)) (fun i σ H2 => ∃ o1 o2 o3, σ = [some (.ref a), some (.ref b), some (.ref D), o1, o2, o3] ∧ Same H H2 ∧ H2 D = some (.lst ((rs.map Row.name ++ (bs.take i).map Blk.name).map V.str))) ⟨none, none, none, rfl, e1, by rw [hzs]; simp⟩ (fun i σ H2 _ z => by obtain ⟨_, _, _, _, e2, _⟩ := z; exact SqL.of (e2 _ _ hb)) ?_ ?_
    · rintro i x σ H2 H3 hi ⟨o1, o2, o3, rfl, e2, hF⟩ ⟨Tp, xi, y, rfl, hT, rfl, hxi, hx⟩
      cases hxi
      obtain ⟨r, hri, hxd⟩ := blks_at hdb hx
      have f3 : Same H2 (upd H2 Tp (.tup [.int (i : Nat), y])) := same_new hT _
      have e3 := e2.trans f3
      have hF3 := f3 _ _ hF
      refine ⟨Tp, _, rfl, SqT.of upd_same, rfl, _, _, rfl, _, _, rfl, rfl, ?_⟩
      generalize upd H2 Tp (.tup [.int (i : Nat), y]) = H3 at *
      obtain ⟨c, z, rfl, hc, hz⟩ := blk_inv (hxd.mono e3)
      have hrm := List.mem_of_getElem? hri
      have hnew : r.name ∉ rs.map Row.name ++ (bs.take i).map Blk.name := by
        have nn := okb.nd
        have h3 : (rs.map Row.name ++ bs.map Blk.name)[rs.length + i]? = some r.name := by
          rw [List.getElem?_append_right (by rw [List.length_map]; omega), List.length_map, Nat.add_sub_cancel_left, List.getElem?_map, hri]
          rfl
        intro hm
        have hsub : (rs.map Row.name ++ (bs.take i).map Blk.name) = (rs.map Row.name ++ bs.map Blk.name).take (rs.length + i) := by
          rw [List.take_append, List.length_map, Nat.add_sub_cancel_left, List.take_of_length_le (l := rs.map Row.name) (by rw [List.length_map]; omega), List.map_take]
        rw [hsub] at hm
        obtain ⟨k, hk, e⟩ := List.getElem_of_mem hm
        rw [List.length_take] at hk
        rw [List.getElem_take] at e
        have h2 : (rs.map Row.name ++ bs.map Blk.name)[k]? = some r.name := by rw [← e]; exact List.getElem?_eq_getElem _
        have := nd_ix nn h2 h3
        omega
      refine ⟨_, rfl, _, rfl, _, rfl, _, rfl, _, r, _, D, a, rs.map Row.name ++ (bs.take i).map Blk.name, xs, rs, rfl, hxd.mono e3, okb.one r hrm, SqL.of hF3, hnew, e3.seq ha, hd.mono e3, ok, ?_⟩
      rintro _ H4 e4 rfl
      have hF4 := e4 _ _ hF3
      refine ⟨_, rfl, rfl, _, rfl, if_f rfl ?_⟩
      refine ⟨_, rfl, .inl ⟨rfl, _, SqL.of hF4⟩, _, rfl, c, _, _, _, rfl, rfl, Evl.ex_t e4 hc, atI_0, D, _, _, rfl, rfl, hF4, small1000 (by simp only [List.length_map, List.length_take, List.length_append]; omega), ?_⟩
      refine ⟨_, _, _, rfl, same_lst (e3.trans e4) hD, ?_⟩
      rw [upd_same, List.take_add_one, hri]
      simp
    · rintro σ H2 ⟨o1, o2, o3, rfl, e2, hF⟩
      exact q _ _ e2 rfl
def spFirst (K : PySem.W.Frag) : Sp := fun vs H Q _ => ∃ (a b : Addr) (xs ys : List V) (rs : List Row) (bs : List Blk), vs = [.ref a, .ref b] ∧ H a = some (.lst xs) ∧ DpAll K H xs (rs.map Row.d) ∧ SigOk rs ∧ H b = some (.lst ys) ∧ DpAll K H ys (bs.map Blk.d) ∧ BlksOk rs bs ∧
  Ret H Q fun v H' => Dp K H' v (toldD (clashOf rs bs))
theorem ok_first_clash (T : TX K mg w) (G_signals_wrong : FnOk P w K mg base CX0 4 T.a_signals_wrong T.d_signals_wrong p_signals_wrong (spSigsW K)) (G_many_wrong : FnOk P w K mg base CX0 1 T.a_many_wrong T.d_many_wrong p_many_wrong (spMany K))
    (G_what_wrong : FnOk P w K mg base CX0 14 T.a_what_wrong T.d_what_wrong p_what_wrong (spWhatW K)) (G_blocks_wrong : FnOk P w K mg base CX0 21 T.a_blocks_wrong T.d_blocks_wrong p_blocks_wrong (spBlksW K))
    (G_both_wrong : FnOk P w K mg base CX0 7 T.a_both_wrong T.d_both_wrong p_both_wrong (spBoth K)) (G_ring_wrong : FnOk P w K mg base CX0 9 T.a_ring_wrong T.d_ring_wrong p_ring_wrong (spRing K)) :
    FnOk P w K mg base CX0 22 T.a_first_clash T.d_first_clash p_first_clash (spFirst K) := by
  refine T.F_first_clash.ok sc_first_clash (fun vs H Q E h => ?_) (fun cdv A outer s H vs Q E hr h => ?_)
  · obtain ⟨a, b, xs, ys, rs, bs, rfl, _⟩ := h; rfl
  obtain ⟨a, b, xs, ys, rs, bs, rfl, ha, hd, ok, hb, hdb, okb, q⟩ := h
  have nd := sc_first_clash.nd
  refine ⟨_, ((pss_cons (ps_if (pt_not (pt_val (pe_callB call_isi (by rfl) T.z_isinstance (by decide +kernel) (pa_cons (pv 0) (pa_cons (pe_bltn (v := .ty "list") rfl T.z_list (by decide +kernel) rfl) pa_nil))))) (pss_one (ps_ret (pe_tup (pa_cons pe_str (pa_cons pe_str pa_nil))))) pss_nil)
      (pss_cons (ps_set (i := 2) nd rfl (Or.inl rfl) (pe_call G_signals_wrong (hr.mono (by omega)) rfl T.m_signals_wrong T.k_signals_wrong T.b_signals_wrong .nil pass0 (pa_cons (pv 0) pa_nil)))
      (pss_cons (ps_if (pt_cmpR op_isN1 (pv 2) pe_non (nomark _)) (pss_one (ps_set (i := 2) nd rfl (Or.inl rfl) (pe_call G_many_wrong (hr.mono (by omega)) rfl T.m_many_wrong T.k_many_wrong T.b_many_wrong .nil pass0 (pa_cons (pv 0) (pa_cons (pv 1) pa_nil))))) pss_nil)
      (pss_cons (ps_if (pt_cmpR op_isN1 (pv 2) pe_non (nomark _)) (pss_one (ps_set (i := 2) nd rfl (Or.inl rfl) (pe_call G_what_wrong (hr.mono (by omega)) rfl T.m_what_wrong T.k_what_wrong T.b_what_wrong .nil pass0 (pa_cons (pv 0) pa_nil)))) pss_nil)
      (pss_cons (ps_if (pt_cmpR op_isN1 (pv 2) pe_non (nomark _)) (pss_one (ps_set (i := 2) nd rfl (Or.inl rfl) (pe_call G_blocks_wrong (hr.mono (by omega)) rfl T.m_blocks_wrong T.k_blocks_wrong T.b_blocks_wrong .nil pass0 (pa_cons (pv 0) (pa_cons (pv 1) pa_nil))))) pss_nil)
      (pss_cons (ps_if (pt_cmpR op_isN1 (pv 2) pe_non (nomark _)) (pss_one (ps_set (i := 2) nd rfl (Or.inl rfl) (pe_call G_both_wrong (hr.mono (by omega)) rfl T.m_both_wrong T.k_both_wrong T.b_both_wrong .nil pass0 (pa_cons (pv 0) (pa_cons (pv 1) pa_nil))))) pss_nil)
      (pss_cons (ps_if (pt_cmpR op_isN1 (pv 2) pe_non (nomark _)) (pss_one (ps_set (i := 2) nd rfl (Or.inl rfl) (pe_call G_ring_wrong (hr.mono (by omega)) rfl T.m_ring_wrong T.k_ring_wrong T.b_ring_wrong .nil pass0 (pa_cons (pv 0) pa_nil)))) pss_nil)
      (pss_one (ps_ret (pv 2))))))))))), ?_⟩
  have lys := hdb.length
  rw [List.length_map] at lys
  have l6 := okb.len
  refine ⟨_, rfl, _, _, _, _, true, rfl, .ty "list", .base (.lst ha), kit_ty (by decide +kernel), _, rfl, if_f rfl ?_⟩
  refine ⟨_, rfl, a, xs, rs, rfl, SqL.of ha, hd, ok, ?_⟩
  rintro _ H1 e1 rfl
  refine ⟨_, rfl, rfl, _, rfl, if_t rfl ?_⟩
  refine ⟨_, rfl, _, rfl, a, b, xs, ys, rs, rfl, SqL.of (e1 _ _ ha), hd.mono e1, ok, e1 _ _ hb, by omega, ?_⟩
  rintro _ H2 e2 rfl
  have e12 := e1.trans e2
  refine ⟨_, rfl, rfl, _, rfl, if_t rfl ?_⟩
  refine ⟨_, rfl, a, xs, rs, rfl, SqL.of (e12 _ _ ha), hd.mono e12, ok, ?_⟩
  rintro _ H3 e3 rfl
  have e13 := e12.trans e3
  refine ⟨_, rfl, rfl, _, rfl, if_t rfl ?_⟩
  refine ⟨_, rfl, _, rfl, a, b, xs, ys, rs, bs, rfl, SqL.of (e13 _ _ ha), hd.mono e13, ok, e13 _ _ hb, hdb.mono e13, okb, ?_⟩
  rintro _ H4 e4 rfl
  have e14 := e13.trans e4
  refine ⟨_, rfl, rfl, _, rfl, if_t rfl ?_⟩
  refine ⟨_, rfl, _, rfl, a, b, xs, ys, rs, bs, rfl, SqL.of (e14 _ _ ha), hd.mono e14, ok, SqL.of (e14 _ _ hb), hdb.mono e14, okb, fun v5 H5 e5 h5 => ?_⟩
  have e15 := e14.trans e5
  cases hbo : bothOf rs bs with
  | some p =>
    obtain ⟨k, x⟩ := p
    rw [hbo] at h5
    obtain ⟨c5, z5, rfl, hc5, hz5⟩ := Dp.tup_inv h5
    refine ⟨_, rfl, rfl, _, rfl, if_f rfl ?_⟩
    refine ⟨_, rfl, q _ _ e15 ?_⟩
    unfold clashOf
    rw [hbo]
    exact h5
  | none =>
    rw [hbo] at h5
    obtain rfl := Dp.non_inv h5
    refine ⟨_, rfl, rfl, _, rfl, if_t rfl ?_⟩
    refine ⟨_, rfl, a, xs, rs, rfl, SqL.of (e15 _ _ ha), hd.mono e15, ok, fun v6 H6 e6 h6 => ?_⟩
    refine ⟨_, rfl, q _ _ (e15.trans e6) ?_⟩
    unfold clashOf
    rw [hbo]
    exact h6
end
end K34
namespace K34
open PySem PySem.Spec PyProof.Rows L2
local macro_rules | `(tactic| walk_at "sm") => `(tactic| (repeat (first | exact Same.refl _ | assumption | refine Same.trans ?_ (same_new (by assumption) _) | refine Same.trans ?_ (by assumption))))
theorem TK.ins {H : Hp} {x C dx : Addr} {fs : List (Str × V)} {o : HO} (h : H x = some (.ins C dx fs)) : TK H (upd H x o) :=
  ⟨fun a zs e => by rw [upd_ne (ne_of e h (by intro z; cases z))]; exact e, fun a o u e => by rw [upd_ne (ne_of e h (by intro z; cases z))]; exact e⟩
section
variable {P : Program} {w : World} {K : PySem.W.Frag} {mg : Str → Option Value} {base : Heap}
def spClI (C : Addr) : Sp := fun vs H Q _ => ∃ (a : Addr) (k x : Str), vs = [.ref a, .str k, .str x] ∧ H a = some (exo a C none) ∧
  ∀ d H', H d = none → d ≠ a → H' a = some (exo a C (some d)) → H' d = some (exd d [("who", .str x), ("kind", .str k)]) → (∀ b, b ≠ a → b ≠ d → H' b = H b) → Q .non H'
theorem ok_ClashI (T : TX K mg w) : FnOk P w K mg base CX0 1 T.a_ClashI T.d_ClashI n_ClashI (spClI T.a_Clash) := by
  refine T.F_ClashI.ok sc_ClashI (fun vs H Q E h => ?_) (fun cdv A outer s H vs Q E hr h => ?_)
  · obtain ⟨a, k, x, rfl, _⟩ := h; rfl
  obtain ⟨a, k, x, rfl, ha, q⟩ := h
  refine ⟨_, (pss_cons (ps_expr (pe_weinit rfl T.m_WireError T.wg_WireError T.wr_WireError T.wi_WireError (pa_cons (pv 0) (pa_cons pe_str pa_nil))))
    (pss_cons (ps_ost (pv 0) (pv 1)) (pss_one (ps_ost (pv 0) (pv 2))))), ?_⟩
  refine ⟨_, rfl, a, T.a_Clash, _, rfl, by show 1 ≤ 1000; decide, T.oex_Clash, ha, ?_⟩
  refine ⟨_, rfl, _, rfl, a, T.a_Clash, rfl, T.oex_Clash, T.nk_Clash, .inl ⟨ha, fun d hd hda => ?_⟩⟩
  refine ⟨_, rfl, _, rfl, a, T.a_Clash, rfl, T.oex_Clash, T.nw_Clash, .inr ⟨d, _, upd_same, by rw [upd_ne hda]; exact upd_same, by show 1 ≤ 900; decide, ?_⟩⟩
  refine q d _ hd hda (by rw [upd_ne hda.symm]; exact upd_same) upd_same fun b hba hbd => ?_
  rw [upd_ne hbd, upd_ne hba, upd_ne hbd]
def spDesI (K : PySem.W.Frag) (CC CD : Addr) : Sp := fun vs H Q E => ∃ (x dx a b : Addr) (xs ys : List V) (rs : List Row) (bs : List Blk), vs = [.ref x, .ref a, .ref b] ∧ H x = some (.ins CD dx []) ∧ H a = some (.lst xs) ∧ DpAll K H xs (rs.map Row.d) ∧ SigOk rs ∧
  H b = some (.lst ys) ∧ DpAll K H ys (bs.map Blk.d) ∧ BlksOk rs bs ∧ (clashOf rs bs = none → ∀ H', SameX x H H' → Q .non H') ∧
  ∀ k y, clashOf rs bs = some (k, y) → ∀ d H', Same H H' → H' d = some (.xd [("who", .str y), ("kind", .str k)]) → E (.ref CC) (some d) H'
theorem ok_DesignI (T : TX K mg w) (G_ClashI : FnOk P w K mg base CX0 1 T.a_ClashI T.d_ClashI n_ClashI (spClI T.a_Clash)) (G_first_clash : FnOk P w K mg base CX0 22 T.a_first_clash T.d_first_clash p_first_clash (spFirst K))
    (G_names_beside : FnOk P w K mg base CX0 8 T.a_names_beside T.d_names_beside p_names_beside (spNB K)) :
    FnOk P w K mg base (L2.CX P w) 23 T.a_DesignI T.d_DesignI p_DesignI (spDesI K T.a_Clash T.a_Design) := by
  refine T.F_DesignI.ok sc_DesignI (fun vs H Q E h => ?_) (fun cdv A outer s H vs Q E hr h => ?_)
  · obtain ⟨x, dx, a, b, xs, ys, rs, bs, rfl, _⟩ := h; rfl
  obtain ⟨x, dx, a, b, xs, ys, rs, bs, rfl, hx, ha, hd, ok, hb, hdb, okb, q, qe⟩ := h
  have nd := sc_DesignI.nd
  refine ⟨_, ((pss_cons (ps_set (i := 3) nd rfl (Or.inl rfl) (pe_call G_first_clash (hr.mono (by omega)) rfl T.m_first_clash T.k_first_clash T.b_first_clash .nil pass0 (pa_cons (pv 1) (pa_cons (pv 2) pa_nil))))
      (pss_cons (ps_if (pt_cmpR op_notN1 (pv 3) pe_non (nomark _)) (pss_cons (ps_asg (pv 3) (pg_tup rfl (pgs_cons (pg_name (i := 4) nd rfl (Or.inl rfl)) (pgs_cons (pg_name (i := 5) nd rfl (Or.inl rfl)) pgs_nil))))
      (pss_one (ps_raise rfl (takes_of rfl rfl rfl rfl) (pmk_oex T.oex_Clash T.i_Clash T.ti_Clash G_ClashI (hr.mono (by omega)) T.b_ClashI .nil pass0 (by rfl) T.m_Clash (pa_cons (pv 4) (pa_cons (pv 5) pa_nil)))))) pss_nil)
      (pss_cons (ps_fld (pv 0) (pe_callTy call_list_of (by rfl) T.z_list (by decide +kernel) (pa_cons (pv 1) pa_nil)) rfl)
      (pss_cons (ps_fld (pv 0) (pe_callTy call_list_of (by rfl) T.z_list (by decide +kernel) (pa_cons (pv 2) pa_nil)) rfl)
      (pss_cons (ps_fld (pv 0) (pe_dc (own := [("row", 6)]) (g := gName 6) (tt := tYes) rfl nd (pi_list (pe_fld (pv 0) rfl)) (blkOk_by (N := n_DesignI) (sc := defScope s_DesignI) (by decide +kernel)) (fun _ _ _ _ _ => (pg_name (i := 6) nd rfl (Or.inl rfl))) (fun _ _ _ _ _ => pts_nil) (fun _ _ _ _ _ => (pe_ix (ix_tupK (K := K) rfl) (pv 6) pe_int (fun _ _ => rfl))) (fun _ _ _ _ _ => (pv 6))) rfl)
      (pss_one (ps_fld (pv 0) (pe_call G_names_beside (hr.mono (by omega)) rfl T.m_names_beside T.k_names_beside T.b_names_beside .nil pass0 (pa_cons (pe_fld (pv 0) rfl) pa_nil)) rfl)))))))), ?_⟩
  refine ⟨_, rfl, _, rfl, a, b, xs, ys, rs, bs, rfl, ha, hd, ok, hb, hdb, okb, fun v1 H1 e1 h1 => ?_⟩
  cases hc : clashOf rs bs with
  | some p =>
    obtain ⟨k, y⟩ := p
    rw [hc] at h1
    obtain ⟨c, zs, rfl, hcc, rc⟩ := Dp.tup_inv h1
    obtain ⟨v0, _, rfl, h0, r0⟩ := DpAll.cons_inv rc
    obtain ⟨v1, _, rfl, h1', r1⟩ := DpAll.cons_inv r0
    obtain rfl := DpAll.nil_inv r1
    obtain rfl := Dp.str_inv h0
    obtain rfl := Dp.str_inv h1'
    refine ⟨_, rfl, rfl, _, rfl, if_t rfl ?_⟩
    refine ⟨_, rfl, c, _, rfl, hcc, rfl, _, _, rfl, _, _, rfl, rfl, ?_⟩
    refine ⟨_, rfl, _, rfl, by show 2 ≤ 1000; decide, fun e he => ?_⟩
    refine ⟨e, k, y, rfl, upd_same, fun d H2 hd0 hde h2e h2d hoth => ⟨rfl, d, _, h2e, h2d, ?_, ?_⟩⟩
    · rw [upd_ne hde] at hd0
      exact hd0
    · rw [upd_ne hde] at hd0
      refine qe k y hc d _ (fun c o hco => ?_) upd_same
      have hce : c ≠ e := fun z => by rw [z] at hco; have := e1 _ _ hco; rw [he] at this; cases this
      have hcd : c ≠ d := fun z => by rw [z] at hco; have := e1 _ _ hco; rw [hd0] at this; cases this
      rw [upd_ne hcd, del_ne hce, hoth c hce hcd, upd_ne hce]
      exact e1 _ _ hco
  | none =>
    rw [hc] at h1
    obtain rfl := Dp.non_inv h1
    refine ⟨_, rfl, rfl, _, rfl, if_f rfl ?_⟩
    have hx1 := e1 _ _ hx
    have ha1 := e1 _ _ ha
    have hb1 := e1 _ _ hb
    have hd1 := hd.mono e1
    have sx1 : SameX x H H1 := fun b o _ h => e1 b o h
    refine ⟨_, rfl, a, xs, rfl, .inl (SqL.of ha1), fun l2 hl2 => ?_⟩
    have f2 : Same H1 (upd H1 l2 (.lst xs)) := same_new hl2 _
    have hl2' : upd H1 l2 (.lst xs) l2 = some (.lst xs) := upd_same
    generalize upd H1 l2 (.lst xs) = H2 at *
    refine ⟨_, rfl, x, T.a_Design, dx, [], rfl, f2 _ _ hx1, T.cl_Design, T.n1_Design, by show 0 < 1000; decide, ?_⟩
    have lx : l2 ≠ x := fun z => by rw [z, hx1] at hl2; cases hl2
    have bx : b ≠ x := fun z => by rw [z, hx] at hb; cases hb
    have hx3 : upd H2 x (.ins T.a_Design dx (putF "rows" (.ref l2) [])) x = some (.ins T.a_Design dx (putF "rows" (.ref l2) [])) := upd_same
    have hl3 : upd H2 x (.ins T.a_Design dx (putF "rows" (.ref l2) [])) l2 = some (.lst xs) := by rw [upd_ne lx]; exact hl2'
    have hb3 : upd H2 x (.ins T.a_Design dx (putF "rows" (.ref l2) [])) b = some (.lst ys) := by rw [upd_ne bx]; exact f2 _ _ hb1
    have hd3 : DpAll K (upd H2 x (.ins T.a_Design dx (putF "rows" (.ref l2) []))) xs (rs.map Row.d) := (hd1.mono f2).tk (TK.ins (f2 _ _ hx1)) (rows_noL rs)
    have sx3 : SameX x H (upd H2 x (.ins T.a_Design dx (putF "rows" (.ref l2) []))) := fun c o hc ho => by rw [upd_ne hc]; exact f2 _ _ (sx1 c o hc ho)
    generalize upd H2 x (.ins T.a_Design dx (putF "rows" (.ref l2) [])) = H3 at *
    refine ⟨_, rfl, b, ys, rfl, .inl (SqL.of hb3), fun l4 hl4 => ?_⟩
    have f4 : Same H3 (upd H3 l4 (.lst ys)) := same_new hl4 _
    generalize upd H3 l4 (.lst ys) = H4 at *
    refine ⟨_, rfl, x, T.a_Design, dx, _, rfl, f4 _ _ hx3, T.cl_Design, T.n2_Design, by show 1 < 1000; decide, ?_⟩
    have hx5 : upd H4 x (.ins T.a_Design dx (putF "parts" (.ref l4) (putF "rows" (.ref l2) []))) x = some (.ins T.a_Design dx (putF "parts" (.ref l4) (putF "rows" (.ref l2) []))) := upd_same
    have hl5 : upd H4 x (.ins T.a_Design dx (putF "parts" (.ref l4) (putF "rows" (.ref l2) []))) l2 = some (.lst xs) := by rw [upd_ne lx]; exact f4 _ _ hl3
    have hd5 : DpAll K (upd H4 x (.ins T.a_Design dx (putF "parts" (.ref l4) (putF "rows" (.ref l2) [])))) xs (rs.map Row.d) := (hd3.mono f4).tk (TK.ins (f4 _ _ hx3)) (rows_noL rs)
    have sx5 : SameX x H (upd H4 x (.ins T.a_Design dx (putF "parts" (.ref l4) (putF "rows" (.ref l2) [])))) := fun c o hc ho => by rw [upd_ne hc]; exact f4 _ _ (sx3 c o hc ho)
    generalize upd H4 x (.ins T.a_Design dx (putF "parts" (.ref l4) (putF "rows" (.ref l2) []))) = H5 at *
    have lxs := hd.length
    rw [List.length_map] at lxs
    have l11 := ok.len
    refine ⟨_, rfl, x, T.a_Design, dx, _, .ref l2, rfl, hx5, T.cl_Design, T.n1_Design, by rfl, l2, rfl, ⟨xs, SqL.of hl5⟩, fun D hD => ?_⟩
    refine dc_it (walk_list (K := K) (a := l2) (xs := xs)) (fun i H6 => Same H5 H6 ∧ ∃ kvs : List (Key × V), H6 D = some (.dK kvs) ∧ kvs.length ≤ i) ⟨same_new hD _, [], upd_same, Nat.le_refl _⟩ (fun i H6 _ z => SqL.of (z.1 _ _ hl5)) ?_ ?_
    · rintro i y _ H6 hi ⟨e6, kvs, hk, hlk⟩ ⟨rfl, hy⟩
      obtain ⟨r, hri, hyd⟩ := rows_at hd5 hy
      obtain ⟨c, z, rfl, hc', hz⟩ := row_inv (hyd.mono e6)
      refine ⟨rfl, yes_go ?_⟩
      refine ⟨_, rfl, c, _, _, _, rfl, rfl, hc', (show atI [V.str r.sort, V.str r.name, V.int r.width, z] 1 = some (.str r.name) from rfl), ?_⟩
      exact ⟨_, rfl, kvs, Sum.inr r.name, rfl, hk, small1000 (by omega), same_lst e6 hD, _, upd_same, Nat.le_trans (length_putK _ _ _) (by omega)⟩
    · rintro H6 ⟨e6, kvs, hk, hlk⟩
      refine ⟨_, rfl, x, T.a_Design, dx, _, rfl, e6 _ _ hx5, T.cl_Design, T.n3_Design, by show 2 < 1000; decide, ?_⟩
      have hx7 : upd H6 x (.ins T.a_Design dx (putF "by_names" (.ref D) (putF "parts" (.ref l4) (putF "rows" (.ref l2) [])))) x = some (.ins T.a_Design dx (putF "by_names" (.ref D) (putF "parts" (.ref l4) (putF "rows" (.ref l2) [])))) := upd_same
      have hl7 : upd H6 x (.ins T.a_Design dx (putF "by_names" (.ref D) (putF "parts" (.ref l4) (putF "rows" (.ref l2) [])))) l2 = some (.lst xs) := by rw [upd_ne lx]; exact e6 _ _ hl5
      have hd7 : DpAll K (upd H6 x (.ins T.a_Design dx (putF "by_names" (.ref D) (putF "parts" (.ref l4) (putF "rows" (.ref l2) []))))) xs (rs.map Row.d) := (hd5.mono e6).tk (TK.ins (e6 _ _ hx5)) (rows_noL rs)
      have sx7 : SameX x H (upd H6 x (.ins T.a_Design dx (putF "by_names" (.ref D) (putF "parts" (.ref l4) (putF "rows" (.ref l2) []))))) := fun c o hc ho => by rw [upd_ne hc]; exact e6 _ _ (sx5 c o hc ho)
      generalize upd H6 x (.ins T.a_Design dx (putF "by_names" (.ref D) (putF "parts" (.ref l4) (putF "rows" (.ref l2) [])))) = H7 at *
      refine ⟨_, rfl, x, T.a_Design, dx, _, .ref l2, rfl, hx7, T.cl_Design, T.n1_Design, by rfl, ?_⟩
      refine ⟨l2, xs, rs, rfl, SqL.of hl7, hd7, ok, fun p tb H8 e8 ht tok em => ?_⟩
      refine ⟨_, rfl, x, T.a_Design, dx, _, rfl, e8 _ _ hx7, T.cl_Design, T.n4_Design, by show 3 < 1000; decide, ?_⟩
      exact q hc _ fun c o hc ho => by rw [upd_ne hc]; exact e8 _ _ (sx7 c o hc ho)
def dueD (o : Option (Str × Str)) : PyData := match o with
  | none => .tuple [.str "made", .str ""]
  | some (k, x) => .tuple [.str k, .str x]
def spClash (K : PySem.W.Frag) : Sp := fun vs H Q _ => ∃ (a b : Addr) (xs ys : List V) (rs : List Row) (bs : List Blk), vs = [.ref a, .ref b] ∧ H a = some (.lst xs) ∧ DpAll K H xs (rs.map Row.d) ∧ SigOk rs ∧ H b = some (.lst ys) ∧ DpAll K H ys (bs.map Blk.d) ∧ BlksOk rs bs ∧
  Ret H Q fun v H' => Dp K H' v (dueD (clashOf rs bs))
theorem ok__law_clash (T : TX K mg w) (G_DesignI : FnOk P w K mg base (L2.CX P w) 23 T.a_DesignI T.d_DesignI p_DesignI (spDesI K T.a_Clash T.a_Design)) :
    FnOk P w K mg base CX0 25 T.a__law_clash T.d__law_clash p__law_clash (spClash K) := by
  refine T.F__law_clash.ok sc__law_clash (fun vs H Q E h => ?_) (fun cdv A outer s H vs Q E hr h => ?_)
  · obtain ⟨a, b, xs, ys, rs, bs, rfl, _⟩ := h; rfl
  obtain ⟨a, b, xs, ys, rs, bs, rfl, ha, hd, ok, hb, hdb, okb, q⟩ := h
  have nd := sc__law_clash.nd
  refine ⟨_, (pss_cons (ps_set (i := 2) nd rfl (Or.inl rfl) (pe_tup (pa_cons pe_str (pa_cons pe_str pa_nil))))
    (pss_cons (ps_try_as (i := 3) rfl rfl nd rfl rfl ⟨rfl, by decide, Or.inl T.m_Clash⟩ takes0
      (fun W pn xe tk _ => pss_one (ps_expr (pe_makeS (E := WE W) T.mk_Design G_DesignI (hr.mono (by omega)) rfl T.m_Design T.b_DesignI .nil (passAt tk) (pa_cons (pv 0) (pa_cons (pv 1) pa_nil)))))
      (fun a oe cls d pn hz hf => pss_one (ps_set (i := 2) nd rfl (Or.inl rfl) (pe_tup (pa_cons (pe_xf T.xf_Clash T.nk_Clash hz hf (pv 3)) (pa_cons (pe_xf T.xf_Clash T.nw_Clash hz hf (pv 3)) pa_nil))))))
    (pss_one (ps_ret (pv 2))))), ?_⟩
  refine ⟨by show 2 ≤ sizeLine; decide, fun p0 hp0 => ?_⟩
  have f0 : Same H (upd H p0 (.tup [.str "made", .str ""])) := same_new hp0 _
  have hp0' : upd H p0 (.tup [.str "made", .str ""]) p0 = some (.tup [.str "made", .str ""]) := upd_same
  generalize upd H p0 (.tup [.str "made", .str ""]) = H0 at *
  refine ⟨_, rfl, _, rfl, fun x dx hx hdx hne => ?_⟩
  have f1 : Same H0 (upd (upd H0 dx (.own x)) x (.ins T.a_Design dx [])) := (same_new hdx _).trans (same_new (by rw [upd_ne hne.symm]; exact hx) _)
  have hx1 : upd (upd H0 dx (.own x)) x (.ins T.a_Design dx []) x = some (.ins T.a_Design dx []) := upd_same
  generalize upd (upd H0 dx (.own x)) x (.ins T.a_Design dx []) = H1 at *
  have e1 := f0.trans f1
  have e2 : ∀ H', SameX x H1 H' → Same H0 H' := fun H' sx c o hc => sx c o (fun z => by rw [z, hx] at hc; cases hc) (f1 c o hc)
  refine ⟨x, dx, a, b, xs, ys, rs, bs, rfl, hx1, e1 _ _ ha, hd.mono e1, ok, e1 _ _ hb, hdb.mono e1, okb, fun hc H' sx => ⟨rfl, ?_⟩, fun k y hc d H' e hd' => ?_⟩
  · refine ⟨_, rfl, q _ _ (f0.trans (e2 _ sx)) ?_⟩
    rw [hc]
    exact .tup (SqT.of (e2 _ sx _ _ hp0')) (.cons (.str _) (.cons (.str _) .nil))
  · refine ⟨true, T.te_Clash, fun _ e' he' => ?_, fun z => by cases z⟩
    refine ⟨_, rfl, rfl, rfl, d, _, .str k, rfl, hd', by rfl, ?_⟩
    refine ⟨_, rfl, rfl, rfl, d, _, .str y, rfl, hd', by rfl, by show 2 ≤ sizeLine; decide, fun p2 hp2 => ?_⟩
    refine ⟨_, rfl, q _ _ (f0.trans (f1.trans (e.trans (same_new hp2 _)))) ?_⟩
    rw [hc]
    exact .tup (SqT.of upd_same) (.cons (.str _) (.cons (.str _) .nil))
end
end K34
namespace K34
open PySem PySem.Spec PyProof.Rows L2
local macro_rules | `(tactic| walk_at "sm") => `(tactic| (repeat (first | exact Same.refl _ | assumption | refine Same.trans ?_ (same_new (by assumption) _) | refine Same.trans ?_ (by assumption))))
theorem tyx_int {K : PySem.W.Frag} {H : Hp} (i : Int) : TyX K H (.int i) (.type "int") := .base (.int i)
theorem ik1 : inV (V.str "input") [V.str "input", V.str "kept"] = true := by decide +kernel
theorem ik2 : inV (V.str "kept") [V.str "input", V.str "kept"] = true := by decide +kernel
theorem ik3 : inV (V.str "wire") [V.str "input", V.str "kept"] = false := by decide +kernel
theorem ik4 : inV (V.str "filter") [V.str "input", V.str "kept"] = false := by decide +kernel
theorem ik5 : inV (V.str "bus") [V.str "input", V.str "kept"] = false := by decide +kernel
theorem nb1 : (!decide (V.str "wire" = V.str "bus")) = true := by decide +kernel
theorem nb2 : (!decide (V.str "filter" = V.str "bus")) = true := by decide +kernel
theorem nb3 : (!decide (V.str "bus" = V.str "bus")) = false := by decide +kernel
theorem cut1 (x : V) (ys : List V) : cutV (x :: ys) (some 1) none = ys := by
  unfold cutV
  rw [show HT.sIx (x :: ys).length 0 (some 1) = min 1 (x :: ys).length from HT.sIx_nat _ 0 1, HT.sIx_none, Nat.min_eq_left (by simp), List.drop_one, List.tail_cons, List.take_of_length_le (by simp)]
theorem cut1n (x : V) (ys : List V) (n : Nat) (hh : HT.sIx (x :: ys).length 0 (some 1) = 0 ∧ HT.sIx (x :: ys).length n none = n) : False := by
  have h := hh.1
  rw [show HT.sIx (x :: ys).length 0 (some 1) = min 1 (x :: ys).length from HT.sIx_nat _ 0 1, Nat.min_eq_left (by simp)] at h
  cases h
theorem seqIx {i n : Nat} (h : i < n) : seqIndex? (i : Int) n = some i := by
  unfold seqIndex?
  have h1 : ¬ ((i : Int) < 0) := by omega
  have h2 : (decide (0 ≤ (i : Int)) && decide ((i : Int) < (n : Int))) = true := by rw [Bool.and_eq_true, decide_eq_true_iff, decide_eq_true_iff]; omega
  simp only [h1, if_false]
  rw [if_pos h2, Int.toNat_natCast]
/-- the data behind the word, with the names of those that are terms -/
def Tm.rest : Tm → List (PyData × List Str)
  | .is x => [(.str x, [])]
  | .of n => [(.str n, [])]
  | .op1 _ a => [(a.d, a.names)]
  | .op2 _ a b => [(a.d, a.names), (b.d, b.names)]
  | .op3 _ a b c => [(a.d, a.names), (b.d, b.names), (c.d, c.names)]
  | .part a hi lo => [(a.d, a.names), (.int hi, []), (.int lo, [])]
theorem Tm.rest_d {g : Ctx} {n : Nat} {w : Int} {t : Tm} (h : Ok g (n + 1) w t) : ∃ o, t.d = .tuple (.str o :: t.rest.map (·.1)) ∧ ((∃ x, t = .is x) ∨ (∃ x, t = .of x) ∨ (decide (V.str o = V.str "is") = false ∧ decide (V.str o = V.str "of") = false ∧ t.names = (t.rest.map (·.2)).flatten ∧ t.rest.length ≤ 3 ∧
    ∀ p ∈ t.rest, (∃ u k, Ok g n k u ∧ p = (u.d, u.names)) ∨ ∃ i, p = (.int i, []))) := by
  cases h with
  | is => exact ⟨_, rfl, .inl ⟨_, rfl⟩⟩
  | of => exact ⟨_, rfl, .inr (.inl ⟨_, rfl⟩)⟩
  | op1 h ha => exact ⟨_, rfl, .inr (.inr ⟨ops_is h.mem, ops_of h.mem, by simp [Tm.names, Tm.rest], by simp [Tm.rest], by simp only [Tm.rest, List.mem_singleton]; rintro p rfl; exact .inl ⟨_, _, ha, rfl⟩⟩)⟩
  | op2 h ha hb => exact ⟨_, rfl, .inr (.inr ⟨ops_is h.mem, ops_of h.mem, by simp [Tm.names, Tm.rest], by simp [Tm.rest], by
      simp only [Tm.rest, List.mem_cons, List.not_mem_nil, or_false]
      rintro p (rfl | rfl)
      · exact .inl ⟨_, _, ha, rfl⟩
      · exact .inl ⟨_, _, hb, rfl⟩⟩)⟩
  | op3 h ha hb hc => exact ⟨_, rfl, .inr (.inr ⟨ops_is h.mem, ops_of h.mem, by simp [Tm.names, Tm.rest], by simp [Tm.rest], by
      simp only [Tm.rest, List.mem_cons, List.not_mem_nil, or_false]
      rintro p (rfl | rfl | rfl)
      · exact .inl ⟨_, _, ha, rfl⟩
      · exact .inl ⟨_, _, hb, rfl⟩
      · exact .inl ⟨_, _, hc, rfl⟩⟩)⟩
  | part ha => exact ⟨_, rfl, .inr (.inr ⟨by decide +kernel, by decide +kernel, by simp [Tm.names, Tm.rest], by simp [Tm.rest], by
      simp only [Tm.rest, List.mem_cons, List.not_mem_nil, or_false]
      rintro p (rfl | rfl | rfl)
      · exact .inl ⟨_, _, ha, rfl⟩
      · exact .inr ⟨_, rfl⟩
      · exact .inr ⟨_, rfl⟩⟩)⟩
section
variable {P : Program} {w : World} {K : PySem.W.Frag} {mg : Str → Option Value} {base : Heap}
def spLN (K : PySem.W.Frag) (n : Nat) : Sp := fun vs H Q _ => ∃ (v : V) (t : Tm) (g : Ctx) (wd : Int), vs = [v] ∧ Dp K H v t.d ∧ Ok g n wd t ∧ n ≤ 4 ∧ RetN H Q (t.names.map V.str)
theorem ok__law_names1 (T : TX K mg w) (n : Nat) (G__law_names : FnOk P w K mg base CX0 (n + 1) T.a__law_names T.d__law_names p__law_names (spLN K n)) :
    FnOk P w K mg base CX0 (n + 1 + 1) T.a__law_names T.d__law_names p__law_names (spLN K (n + 1)) := by
  refine T.F__law_names.ok sc__law_names (fun vs H Q E h => ?_) (fun cdv A outer s H vs Q E hr h => ?_)
  · obtain ⟨v, t, g, wd, rfl, _⟩ := h; rfl
  obtain ⟨v, t, g, wd, rfl, hv, ho, hn4, q⟩ := h
  have nd := sc__law_names.nd
  refine ⟨_, ((pss_cons (ps_if (pt_cmpR op_eq (pe_ix ix_tup (pv 0) pe_int (fun _ _ => rfl)) pe_str (nomark _)) (pss_one (ps_ret (pe_lst pa_nil))) pss_nil)
      (pss_cons (ps_if (pt_cmpR op_eq (pe_ix ix_tup (pv 0) pe_int (fun _ _ => rfl)) pe_str (nomark _)) (pss_one (ps_ret (pe_lst (pa_cons (pe_ix ix_tup (pv 0) pe_int (fun _ _ => rfl)) pa_nil)))) pss_nil)
      (pss_cons (ps_set (i := 1) nd rfl (Or.inl rfl) (pe_lst pa_nil))
      (pss_cons (ps_for PassesOwn.never rfl (pi_tup (pe_slice sl_tupA (pv 0) (po_some pe_int) po_none)) (pg_name (i := 2) nd rfl (Or.inl rfl)) (pss_one (ps_if (pt_val (pe_callB call_isi (by rfl) T.z_isinstance (by decide +kernel) (pa_cons (pv 2) (pa_cons (pe_bltn (v := .ty "tuple") rfl T.z_tuple (by decide +kernel) rfl) pa_nil)))) (pss_one (ps_set (i := 1) nd rfl (Or.inl rfl) (pe_op op_cat (pv 1) (pe_call G__law_names (hr.mono (by omega)) rfl T.m__law_names T.k__law_names T.b__law_names .nil pass0 (pa_cons (pv 2) pa_nil))))) pss_nil)))
      (pss_one (ps_ret (pv 1)))))))), ?_⟩
  obtain ⟨o, ed, hcs⟩ := Tm.rest_d ho
  have hv' := hv
  rw [ed] at hv'
  obtain ⟨p, xs, rfl, hs, r⟩ := Dp.tup_inv hv'
  obtain ⟨v0, ys, rfl, h0, r0⟩ := DpAll.cons_inv r
  obtain rfl := Dp.str_inv h0
  have lys := r0.length
  rw [List.length_map] at lys
  have h40 : t.names.length ≤ 40 := (ho.up 4 hn4).names40
  refine ⟨_, rfl, p, _, _, _, rfl, rfl, hs, atI_0, rfl, _, rfl, ?_⟩
  rcases hcs with ⟨x, rfl⟩ | ⟨x, rfl⟩ | ⟨e1, e2, en, l3, hk⟩
  · cases ed
    refine if_t (by decide +kernel) ?_
    exact ⟨by show 0 ≤ sizeLine; decide, fun q1 hq1 => q _ _ (same_new hq1 _) hq1 upd_same⟩
  · cases ed
    obtain ⟨v1, _, rfl, h1, r1⟩ := DpAll.cons_inv r0
    obtain rfl := DpAll.nil_inv r1
    obtain rfl := Dp.str_inv h1
    refine if_f (by decide +kernel) ⟨_, rfl, p, _, _, _, rfl, rfl, hs, atI_0, rfl, _, rfl, if_t (by decide +kernel) ?_⟩
    refine ⟨_, rfl, p, _, _, _, rfl, rfl, hs, (show atI [V.str "of", V.str x] 1 = some (.str x) from rfl), by show 1 ≤ sizeLine; decide, fun q1 hq1 => q _ _ (same_new hq1 _) hq1 upd_same⟩
  · refine if_f e1 ⟨_, rfl, p, _, _, _, rfl, rfl, hs, atI_0, rfl, _, rfl, if_f e2 ?_⟩
    refine ⟨by show 0 ≤ sizeLine; decide, fun pf hpf => ?_⟩
    have f1 : Same H (upd H pf (.lst [])) := same_new hpf _
    have hpf1 : upd H pf (.lst []) pf = some (.lst (([] : List Str).map V.str)) := upd_same
    generalize upd H pf (.lst []) = H1 at *
    refine ⟨_, rfl, _, rfl, p, _, rfl, Evl.ex_t f1 hs, ?_, ?_⟩
    · exact fun hh => (cut1n _ _ _ hh).elim
    · intro _ q2 hq2
      have f2 : Same H1 (upd H1 q2 (.tup (cutV (.str o :: ys) (some 1) none))) := same_new hq2 _
      have hq2' : upd H1 q2 (.tup (cutV (.str o :: ys) (some 1) none)) q2 = some (.tup ys) := by
        rw [upd_same, cut1]
      generalize upd H1 q2 (.tup (cutV (.str o :: ys) (some 1) none)) = H2 at *
      have f12 := f1.trans f2
      refine ⟨q2, rfl, ⟨_, SqT.of hq2'⟩, ?_⟩
      refine for_it (walk_tup (K := K) (a := q2) (xs := ys)) (fun i σ H3 => ∃ pf o1, σ = [some (.ref p), some (.ref pf), o1] ∧ Same H H3 ∧ H pf = none ∧ H3 q2 = some (.tup ys) ∧ H3 pf = some (.lst (((t.rest.take i).map (·.2)).flatten.map V.str))) ⟨pf, none, rfl, f12, hpf, hq2', f2 _ _ hpf1⟩ (fun i σ H3 _ z => by obtain ⟨_, _, _, _, _, h3, _⟩ := z; exact SqT.of h3) ?_ ?_
      · rintro i x σ _ H3 hi ⟨pf, o1, rfl, e3, hpf, hq3, hF⟩ ⟨rfl, hx⟩
        obtain ⟨d, hd', hxd⟩ := r0.get hx
        rw [List.getElem?_map] at hd'
        cases hri : t.rest[i]? with
        | none => rw [hri] at hd'; cases hd'
        | some pr =>
          rw [hri] at hd'
          cases hd'
          have hprm := List.mem_of_getElem? hri
          have tk1 : ((t.rest.take (i + 1)).map (·.2)).flatten = ((t.rest.take i).map (·.2)).flatten ++ pr.2 := by
            rw [List.take_add_one, hri]
            simp
          have lacc : ((t.rest.take i).map (·.2)).flatten.length + pr.2.length ≤ 40 := by
            have : t.names = ((t.rest.take (i + 1)).map (·.2)).flatten ++ ((t.rest.drop (i + 1)).map (·.2)).flatten := by
              rw [← List.flatten_append, ← List.map_append, List.take_append_drop, en]
            rw [this, List.length_append, tk1, List.length_append] at h40
            omega
          rcases hk pr hprm with ⟨u, k, hu, rfl⟩ | ⟨j, rfl⟩
          · have lacc' : ((t.rest.take i).map (·.2)).flatten.length + u.names.length ≤ 40 := lacc
            have hxd3 := hxd.mono e3
            have hty : TyX K H3 x (.type "tuple") := by
              obtain ⟨o', ds', ed'⟩ : ∃ o ds, u.d = .tuple (.str o :: ds) := by cases hu <;> exact ⟨_, _, rfl⟩
              rw [ed'] at hxd3
              obtain ⟨c, zs, rfl, hc, _⟩ := Dp.tup_inv hxd3
              exact tyx_tup hc
            refine ⟨_, rfl, _, _, _, _, true, rfl, .ty "tuple", hty, kit_ty (by decide +kernel), _, rfl, if_t rfl ?_⟩
            refine ⟨_, rfl, _, rfl, x, u, g, k, rfl, hxd3, hu, by omega, fun p4 H4 e4 hp4 hl4 => ?_⟩
            refine ⟨pf, p4, _, _, rfl, rfl, e4 _ _ hF, hl4, by rw [sizeLine_eq]; simp only [List.length_map]; omega, fun p5 hp5 => ?_⟩
            have f5 : Same H4 (upd H4 p5 (.lst ((((t.rest.take i).map (·.2)).flatten.map V.str) ++ u.names.map V.str))) := same_new hp5 _
            refine ⟨p5, _, rfl, e3.trans (e4.trans f5), (e3.trans e4).free hp5, f5 _ _ (e4 _ _ hq3), ?_⟩
            rw [upd_same, tk1, List.map_append]
          · obtain rfl := Dp.int_inv hxd
            refine ⟨_, rfl, _, _, _, _, false, rfl, .ty "tuple", .base (.int j), kit_ty (by decide +kernel), _, rfl, if_f rfl ?_⟩
            refine ⟨pf, _, rfl, e3, hpf, hq3, ?_⟩
            rw [tk1, hF]
            simp
      · rintro σ H3 ⟨pf, o1, rfl, e3, hpf, hq3, hF⟩
        rw [List.take_of_length_le (by omega), ← en] at hF
        exact ⟨_, rfl, q _ _ e3 hpf hF⟩
theorem ok__law_names (T : TX K mg w) : ∀ n, FnOk P w K mg base CX0 (n + 1) T.a__law_names T.d__law_names p__law_names (spLN K n)
  | 0 => fn_none fun vs H Q E ⟨_, _, _, _, _, _, h, _⟩ => h.none
  | n + 1 => ok__law_names1 T n (ok__law_names T n)
def spLB (K : PySem.W.Frag) : Sp := fun vs H Q _ => ∃ (v : V) (r : Row) (g : Ctx), vs = [v] ∧ Dp K H v r.d ∧ RowOk g r ∧ RetN H Q (r.what.names.map V.str)
theorem names_few {g : Ctx} {r : Row} (h : RowOk g r) : r.what.names.length ≤ 320 := by
  obtain ⟨l8, hk⟩ := What.terms_ok h
  rw [What.names_terms]
  have : ∀ l : List Tm, (∀ t ∈ l, ∃ k, Ok g 4 k t) → (l.flatMap Tm.names).length ≤ 40 * l.length := by
    intro l
    induction l with
    | nil => intro _; simp
    | cons t l ih =>
      intro h
      obtain ⟨k, hk⟩ := h t List.mem_cons_self
      have h1 := hk.names40
      have h2 := ih fun u hu => h u (List.mem_cons_of_mem _ hu)
      rw [List.flatMap_cons, List.length_append, List.length_cons]
      omega
  have := this _ hk
  omega
theorem ok__law_beside (T : TX K mg w) (G__law_names : FnOk P w K mg base CX0 5 T.a__law_names T.d__law_names p__law_names (spLN K 4)) : FnOk P w K mg base CX0 6 T.a__law_beside T.d__law_beside p__law_beside (spLB K) := by
  refine T.F__law_beside.ok sc__law_beside (fun vs H Q E h => ?_) (fun cdv A outer s H vs Q E hr h => ?_)
  · obtain ⟨v, r, g, rfl, _⟩ := h; rfl
  obtain ⟨v, r, g, rfl, hv, rok, q⟩ := h
  have nd := sc__law_beside.nd
  refine ⟨_, ((pss_cons (ps_if (pt_cmpR op_in_seq (pe_ix ix_tup (pv 0) pe_int (fun _ _ => rfl)) (pe_tup (pa_cons pe_str (pa_cons pe_str pa_nil))) (by rfl)) (pss_one (ps_ret (pe_lst pa_nil))) pss_nil)
      (pss_cons (ps_if (pt_cmpR op_ne (pe_ix ix_tup (pv 0) pe_int (fun _ _ => rfl)) pe_str (nomark _)) (pss_one (ps_ret (pe_call G__law_names (hr.mono (by omega)) rfl T.m__law_names T.k__law_names T.b__law_names .nil pass0 (pa_cons (pe_ix ix_tup (pv 0) pe_int (fun _ _ => rfl)) pa_nil)))) pss_nil)
      (pss_cons (ps_set (i := 1) nd rfl (Or.inl rfl) (pe_lst pa_nil))
      (pss_cons (ps_for PassesOwn.never rfl (pi_tup (pe_ix ix_tup (pv 0) pe_int (fun _ _ => rfl))) (pg_tup rfl (pgs_cons (pg_name (i := 2) nd rfl (Or.inl rfl)) (pgs_cons (pg_name (i := 3) nd rfl (Or.inl rfl)) pgs_nil))) (pss_one (ps_set (i := 1) nd rfl (Or.inl rfl) (pe_op op_cat (pe_op op_cat (pv 1) (pe_call G__law_names (hr.mono (by omega)) rfl T.m__law_names T.k__law_names T.b__law_names .nil pass0 (pa_cons (pv 2) pa_nil))) (pe_call G__law_names (hr.mono (by omega)) rfl T.m__law_names T.k__law_names T.b__law_names .nil pass0 (pa_cons (pv 3) pa_nil))))))
      (pss_one (ps_ret (pv 1)))))))), ?_⟩
  obtain ⟨a, x, rfl, hs, hx⟩ := row_inv hv
  have l320 := names_few rok
  refine ⟨_, rfl, a, _, _, _, rfl, rfl, hs, atI_0, by show 2 ≤ sizeLine; decide, fun p0 hp0 => ⟨p0, _, rfl, .inr (SqT.of upd_same), rfl, rfl, _, rfl, ?_⟩⟩
  have f0 : Same H (upd H p0 (.tup [.str "input", .str "kept"])) := same_new hp0 _
  generalize upd H p0 (.tup [.str "input", .str "kept"]) = H0 at *
  have hs0 := Evl.ex_t f0 hs
  have hx0 := hx.mono f0
  cases rok with
  | input n wd => exact if_t ik1 ⟨by show 0 ≤ sizeLine; decide, fun q1 hq1 => q _ _ (f0.trans (same_new hq1 _)) (f0.free hq1) upd_same⟩
  | kept n wd x hl hb => exact if_t ik2 ⟨by show 0 ≤ sizeLine; decide, fun q1 hq1 => q _ _ (f0.trans (same_new hq1 _)) (f0.free hq1) upd_same⟩
  | wire n wd t ht =>
    refine if_f ik3 ⟨_, rfl, a, _, _, _, rfl, rfl, hs0, atI_0, rfl, _, rfl, if_t nb1 ?_⟩
    refine ⟨_, rfl, a, _, _, _, rfl, rfl, hs0, (show atI [V.str "wire", V.str n, V.int wd, x] 3 = some x from rfl), x, t, g, wd, rfl, hx0, ht, by decide, fun p4 H4 e4 hp4 hl4 => q _ _ (f0.trans e4) (f0.free hp4) hl4⟩
  | filter n wd t ht =>
    refine if_f ik4 ⟨_, rfl, a, _, _, _, rfl, rfl, hs0, atI_0, rfl, _, rfl, if_t nb2 ?_⟩
    refine ⟨_, rfl, a, _, _, _, rfl, rfl, hs0, (show atI [V.str "filter", V.str n, V.int wd, x] 3 = some x from rfl), x, t, g, wd, rfl, hx0, ht, by decide, fun p4 H4 e4 hp4 hl4 => q _ _ (f0.trans e4) (f0.free hp4) hl4⟩
  | bus n wd ds h2 h4 hd =>
    refine if_f ik5 ⟨_, rfl, a, _, _, _, rfl, rfl, hs0, atI_0, rfl, _, rfl, if_f nb3 ?_⟩
    refine ⟨by show 0 ≤ sizeLine; decide, fun pf hpf => ?_⟩
    have f1 : Same H0 (upd H0 pf (.lst [])) := same_new hpf _
    have hpf1 : upd H0 pf (.lst []) pf = some (.lst (([] : List Str).map V.str)) := upd_same
    have hpfH := f0.free hpf
    generalize upd H0 pf (.lst []) = H1 at *
    have f01 := f0.trans f1
    obtain ⟨b, ys, rfl, hb, rb⟩ := Dp.tup_inv hx
    have lys := rb.length
    rw [List.length_map] at lys
    refine ⟨_, rfl, a, _, _, _, rfl, rfl, Evl.ex_t f1 hs0, (show atI [V.str "bus", V.str n, V.int wd, V.ref b] 3 = some (.ref b) from rfl), b, rfl, ⟨ys, Evl.ex_t f01 hb⟩, ?_⟩
    refine for_it (walk_tup (K := K) (a := b) (xs := ys)) (fun i σ H3 => ∃ pf o1 o2, σ = [some (.ref a), some (.ref pf), o1, o2] ∧ Same H H3 ∧ H pf = none ∧ H3 pf = some (.lst (((ds.take i).flatMap fun p => p.1.names ++ p.2.names).map V.str))) ⟨pf, none, none, rfl, f01, hpfH, hpf1⟩ (fun i σ H3 _ z => by obtain ⟨_, _, _, _, e3, _⟩ := z; exact Evl.ex_t e3 hb) ?_ ?_
    · rintro i y σ _ H3 hi ⟨pf, o1, o2, rfl, e3, hpf, hF⟩ ⟨rfl, hy⟩
      obtain ⟨d, hd', hyd⟩ := rb.get hy
      rw [List.getElem?_map] at hd'
      cases hri : ds[i]? with
      | none => rw [hri] at hd'; cases hd'
      | some pr =>
        rw [hri] at hd'
        cases hd'
        have hpr := hd pr (List.mem_of_getElem? hri)
        obtain ⟨c, zs, rfl, hc, rc⟩ := Dp.tup_inv hyd
        obtain ⟨z0, _, rfl, hz0, rz0⟩ := DpAll.cons_inv rc
        obtain ⟨z1, _, rfl, hz1, rz1⟩ := DpAll.cons_inv rz0
        obtain rfl := DpAll.nil_inv rz1
        have tk1 : ((ds.take (i + 1)).flatMap fun p => p.1.names ++ p.2.names) = ((ds.take i).flatMap fun p => p.1.names ++ p.2.names) ++ (pr.1.names ++ pr.2.names) := by
          rw [List.take_add_one, hri]
          simp
        have lacc : ((ds.take i).flatMap fun p => p.1.names ++ p.2.names).length + (pr.1.names.length + pr.2.names.length) ≤ 320 := by
          have h := l320
          have e : What.names (.bus ds) = ((ds.take (i + 1)).flatMap fun p => p.1.names ++ p.2.names) ++ ((ds.drop (i + 1)).flatMap fun p => p.1.names ++ p.2.names) := by
            rw [← List.flatMap_append, List.take_append_drop]
            rfl
          have h' : (What.names (.bus ds)).length ≤ 320 := h
          rw [e, List.length_append, tk1, List.length_append, List.length_append] at h'
          omega
        refine ⟨c, _, rfl, Evl.ex_t e3 hc, rfl, _, _, rfl, _, _, rfl, rfl, ?_⟩
        refine ⟨_, rfl, _, rfl, z0, pr.1, g, 1, rfl, hz0.mono e3, hpr.1, by decide, fun p4 H4 e4 hp4 hl4 => ?_⟩
        refine ⟨pf, p4, _, _, rfl, rfl, e4 _ _ hF, hl4, by rw [sizeLine_eq]; simp only [List.length_map]; omega, fun p5 hp5 => ?_⟩
        have f5 : Same H4 (upd H4 p5 (.lst ((((ds.take i).flatMap fun p => p.1.names ++ p.2.names).map V.str) ++ pr.1.names.map V.str))) := same_new hp5 _
        have hp5' : upd H4 p5 (.lst ((((ds.take i).flatMap fun p => p.1.names ++ p.2.names).map V.str) ++ pr.1.names.map V.str)) p5 = some (.lst ((((ds.take i).flatMap fun p => p.1.names ++ p.2.names).map V.str) ++ pr.1.names.map V.str)) := upd_same
        generalize upd H4 p5 (.lst ((((ds.take i).flatMap fun p => p.1.names ++ p.2.names).map V.str) ++ pr.1.names.map V.str)) = H5 at *
        have e35 := e3.trans (e4.trans f5)
        refine ⟨_, rfl, z1, pr.2, g, wd, rfl, hz1.mono e35, hpr.2, by decide, fun p6 H6 e6 hp6 hl6 => ?_⟩
        refine ⟨p5, p6, _, _, rfl, rfl, e6 _ _ hp5', hl6, by rw [sizeLine_eq]; simp only [List.length_map, List.length_append]; omega, fun p7 hp7 => ?_⟩
        refine ⟨p7, _, _, rfl, e35.trans (e6.trans (same_new hp7 _)), (e35.trans e6).free hp7, ?_⟩
        rw [upd_same, tk1]
        simp
    · rintro σ H3 ⟨pf, o1, o2, rfl, e3, hpf, hF⟩
      rw [List.take_of_length_le (by omega)] at hF
      exact ⟨_, rfl, q _ _ e3 hpf hF⟩
def spReach (K : PySem.W.Frag) : Sp := fun vs H Q _ => ∃ (x : Str) (p : Addr) (tb : List (Str × Addr × List Str)) (E : Str → Str → Prop), vs = [.ref p, .str x] ∧ TB H p tb ∧ TbOk E tb ∧ x ∈ tb.map (·.1) ∧ ∀ F : List Str, (∀ y, y ∈ F ↔ Rch E x y) → F.length ≤ 11 → RetN H Q (F.map V.str)
theorem ok__law_reached (T : TX K mg w) : FnOk P w K mg base CX0 1 T.a__law_reached T.d__law_reached p__law_reached (spReach K) := by
  refine T.F__law_reached.ok sc__law_reached (fun vs H Q E h => ?_) (fun cdv A outer s H vs Q E hr h => ?_)
  · obtain ⟨x, p, tb, E', rfl, _⟩ := h; rfl
  obtain ⟨n, p, tb, E', rfl, ht, o, hn, q⟩ := h
  have nd := sc__law_reached.nd
  have hu := hu_of hr
  refine ⟨_, ((pss_cons (ps_set (i := 2) nd rfl (Or.inl rfl) (pe_lst pa_nil))
      (pss_cons (ps_set (i := 3) nd rfl (Or.inl rfl) (pe_callTy call_list_of (by rfl) T.z_list (by decide +kernel) (pa_cons (pe_dget hu (pv 0) (pv 1) (fun _ _ => rfl)) pa_nil)))
      (pss_cons (ps_while PassesOwn.never (pt_cmpR (op_neD hr.units) (pv 3) (pe_lst pa_nil) (nomark _)) (pss_cons (ps_set (i := 4) nd rfl (Or.inl rfl) (pe_bm PySem.F.plainAttrs_list PySem.F.slot_list_pop PySem.F.type_list_pop mt_popAt (pv 3) (pa_cons pe_int pa_nil)))
      (pss_one (ps_if (pt_cmpR op_notIn_seq (pv 4) (pv 2) (by rfl)) (pss_cons (ps_expr (pe_bm PySem.F.plainAttrs_list PySem.F.slot_list_append PySem.F.type_list_append mt_append (pv 2) (pa_cons (pv 4) pa_nil)))
      (pss_one (ps_set (i := 3) nd rfl (Or.inl rfl) (pe_op op_cat (pv 3) (pe_dget hu (pv 0) (pv 4) (fun _ _ => rfl)))))) pss_nil))))
      (pss_one (ps_ret (pv 2))))))), ?_⟩
  rw [List.mem_map] at hn
  obtain ⟨⟨n, a0, l0⟩, he0, rfl⟩ := hn
  refine ⟨by show 0 ≤ sizeLine; decide, fun pf hpf => ?_⟩
  have f1 : Same H (upd H pf (.lst [])) := same_new hpf _
  refine ⟨_, rfl, _, rfl, p, _, rfl, (ht.mono f1).get o he0, a0, _, rfl, .inl (SqL.of (f1 _ _ (ht.lst _ he0))), fun pl hpl => ?_⟩
  have hpfl : pf ≠ pl := ne_of_none upd_same hpl
  have f2 := f1.trans (same_new hpl (.lst (l0.map V.str)))
  refine ⟨fun m σ H' => ∃ (pl : Addr) (F L : List Str) (one : Option V), σ = [some (.ref p), some (.str n), some (.ref pf), some (.ref pl), one] ∧ Same H H' ∧ H pl = none ∧ pf ≠ pl ∧ H' pf = some (.lst (F.map V.str)) ∧ H' pl = some (.lst (L.map V.str)) ∧ RInv E' n F L ∧
    (∀ x ∈ F, x ∈ tb.map (·.1)) ∧ (∀ x ∈ L, x ∈ tb.map (·.1)) ∧ L.length ≤ 400 * (F.length + 1) ∧ m = (tb.length - F.length) * 401 + L.length, ⟨_, pl, [], l0, none, rfl, f2, f1.free hpl, hpfl, by rw [upd_ne hpfl]; exact upd_same, upd_same, RInv.start (o.edge _ he0), fun x hx => absurd hx List.not_mem_nil, o.closed _ he0, by have := o.short _ he0; simpa using this, rfl⟩, ?_⟩
  clear hpl hpfl f2
  rintro m σ H' ⟨pl, F, L, one, rfl, e1, hplH, hpfl, hF, hL, ri, sF, sL, lL, rfl⟩
  have nmL : ∀ x ∈ L, IsNm x := fun x hx => by
    have := sL x hx
    rw [List.mem_map] at this
    obtain ⟨e, he, rfl⟩ := this
    exact o.nm e he
  have lF : F.length ≤ tb.length := by
    have := nodup_sub ri.nd sF
    rw [List.length_map] at this
    exact this
  have l11 := o.few
  refine ⟨_, rfl, by show 0 ≤ sizeLine; decide, fun q2 hq2 => ?_⟩
  have e2 : Same H' (upd H' q2 (.lst [])) := same_new hq2 _
  refine ⟨.list (L.map PyData.str), .list [], .lst (SqL.of (e2 _ _ hL)) (dpa_strs L), .lst (SqL.of upd_same) .nil, shaped_strs nmL, rfl, _, rfl, ?_⟩
  have hF2 := e2 _ _ hF
  have hL2 := e2 _ _ hL
  have e12 := e1.trans e2
  generalize upd H' q2 (.lst []) = H2 at *
  cases L with
  | nil =>
    refine if_f rfl ?_
    refine ⟨_, rfl, q F ri.done (by omega) pf H2 e12 hpf hF2⟩
  | cons x L' =>
    refine if_t rfl ?_
    refine ⟨fun σ' H3 => ∃ m', m' < (tb.length - F.length) * 401 + (x :: L').length ∧ ∃ (pl : Addr) (F L : List Str) (one : Option V), σ' = [some (.ref p), some (.str n), some (.ref pf), some (.ref pl), one] ∧ Same H H3 ∧ H pl = none ∧ pf ≠ pl ∧ H3 pf = some (.lst (F.map V.str)) ∧ H3 pl = some (.lst (L.map V.str)) ∧ RInv E' n F L ∧
      (∀ x ∈ F, x ∈ tb.map (·.1)) ∧ (∀ x ∈ L, x ∈ tb.map (·.1)) ∧ L.length ≤ 400 * (F.length + 1) ∧ m' = (tb.length - F.length) * 401 + L.length, fun σ' H3 z => z, ?_⟩
    refine ⟨_, rfl, .inl ⟨rfl, _, SqL.of hL2⟩, pl, _, 0, 0, .str x, rfl, rfl, hL2, by decide, by decide, seqIx (i := 0) (by simp), rfl, ?_⟩
    show gName 4 (.str x) _ (upd H2 pl (.lst (L'.map V.str))) _
    have hF3 : upd H2 pl (.lst (L'.map V.str)) pf = some (.lst (F.map V.str)) := by rw [upd_ne hpfl]; exact hF2
    have hL3 : upd H2 pl (.lst (L'.map V.str)) pl = some (.lst (L'.map V.str)) := upd_same
    have e3 : Same H (upd H2 pl (.lst (L'.map V.str))) := same_lst e12 hplH
    generalize upd H2 pl (.lst (L'.map V.str)) = H3 at *
    have hm : ∀ y, y ∈ x :: L' ↔ y = x ∨ y ∈ L' := fun y => List.mem_cons
    have lL' : L'.length + 1 ≤ 400 * (F.length + 1) := by simpa using lL
    refine ⟨_, rfl, _, rfl, pf, _, rfl, .inl (SqL.of hF3), rfl, flat_strs F, _, rfl, ?_⟩
    by_cases hx : x ∈ F
    · refine if_f (by show (!inV (V.str x) (F.map V.str)) = false; rw [inV_str, decide_eq_true hx]; rfl) ?_
      refine ⟨_, ?_, pl, F, L', _, rfl, e3, hplH, hpfl, hF3, hL3, ri.skip hx hm, sF, fun y hy => sL y (List.mem_cons_of_mem _ hy), by omega, rfl⟩
      simp only [List.length_cons]
      omega
    · refine if_t (by show (!inV (V.str x) (F.map V.str)) = true; rw [inV_str, decide_eq_false hx]; rfl) ?_
      have hxt := sL x List.mem_cons_self
      rw [List.mem_map] at hxt
      obtain ⟨⟨x, ax, lx⟩, hex, rfl⟩ := hxt
      refine ⟨_, rfl, .inl ⟨rfl, _, SqL.of hF3⟩, _, rfl, pf, _, _, rfl, rfl, hF3, small1000 (by rw [List.length_map]; omega), ?_⟩
      have e4 : Same H (upd H3 pf (.lst (F.map V.str ++ [V.str x]))) := same_lst e3 hpf
      have hF4 : upd H3 pf (.lst (F.map V.str ++ [V.str x])) pf = some (.lst ((F ++ [x]).map V.str)) := by rw [upd_same, List.map_append]; rfl
      have hL4 : upd H3 pf (.lst (F.map V.str ++ [V.str x])) pl = some (.lst (L'.map V.str)) := by rw [upd_ne hpfl.symm]; exact hL3
      generalize upd H3 pf (.lst (F.map V.str ++ [V.str x])) = H4 at *
      have sx : lx.length ≤ 400 := o.short _ hex
      have lF' : (F ++ [x]).length ≤ tb.length := by
        have := nodup_sub (F := F ++ [x]) (N := tb.map (·.1)) (List.nodup_append.mpr ⟨ri.nd, by simp, fun a ha b hb e => by
          obtain rfl : b = x := by simpa using hb
          exact hx (e ▸ ha)⟩) (fun y hy => by
          rcases List.mem_append.mp hy with hy | hy
          · exact sF y hy
          · obtain rfl : y = x := by simpa using hy
            exact List.mem_map.mpr ⟨_, hex, rfl⟩)
        rw [List.length_map] at this
        exact this
      rw [List.length_append, List.length_singleton] at lF'
      refine ⟨_, rfl, _, rfl, _, rfl, p, _, rfl, (ht.mono e4).get o hex, pl, ax, _, _, rfl, rfl, hL4, e4 _ _ (ht.lst _ hex), by rw [List.length_map, List.length_map, sizeLine_eq]; show L'.length + lx.length ≤ 16777216; omega, fun pn hpn => ?_⟩
      have hpfn : pf ≠ pn := fun z => by rw [← z, hF4] at hpn; cases hpn
      refine ⟨_, ?_, pn, F ++ [x], L' ++ lx, _, rfl, e4.trans (same_new hpn _), e4.free hpn, hpfn, by rw [upd_ne hpfn]; exact hF4, by rw [upd_same, List.map_append], ri.add hx hm (o.edge _ hex) (fun y => List.mem_append), fun y hy => ?_, fun y hy => ?_, ?_, rfl⟩
      · simp only [List.length_append, List.length_singleton, List.length_cons]
        omega
      · rcases List.mem_append.mp hy with hy | hy
        · exact sF y hy
        · obtain rfl : y = x := by simpa using hy
          exact List.mem_map.mpr ⟨_, hex, rfl⟩
      · rcases List.mem_append.mp hy with hy | hy
        · exact sL y (List.mem_cons_of_mem _ hy)
        · exact o.closed _ hex y hy
      · simp only [List.length_append, List.length_singleton]
        omega
end
end K34
namespace K34
open PySem PySem.Spec PyProof.Rows L2
local macro_rules | `(tactic| walk_at "sm") => `(tactic| (repeat (first | exact Same.refl _ | assumption | refine Same.trans ?_ (same_new (by assumption) _) | refine Same.trans ?_ (by assumption))))
theorem stts_at {K : PySem.W.Frag} {H : Hp} {xs : List V} {b : List Stt} {i : Nat} {x : V} (hd : DpAll K H xs (sttsD b)) (hx : xs[i]? = some x) : ∃ s, b[i]? = some s ∧ Dp K H x s.d := by
  obtain ⟨d, hd', hxd⟩ := hd.get hx
  rw [sttsD_map, List.getElem?_map] at hd'
  cases hri : b[i]? with
  | none => rw [hri] at hd'; cases hd'
  | some r => rw [hri] at hd'; cases hd'; exact ⟨r, rfl, hxd⟩
theorem set_inv {K : PySem.W.Frag} {H : Hp} {v : V} {w n : Str} {t : Tm} (h : Dp K H v (Stt.set w n t).d) : ∃ (a : Addr) (x : V), v = .ref a ∧ SqT K H a [.str w, .str n, x] ∧ Dp K H x t.d := by
  obtain ⟨a, xs, rfl, hs, h⟩ := Dp.tup_inv h
  obtain ⟨v0, _, rfl, h0, r0⟩ := DpAll.cons_inv h
  obtain ⟨v1, _, rfl, h1, r1⟩ := DpAll.cons_inv r0
  obtain ⟨v2, _, rfl, h2, r2⟩ := DpAll.cons_inv r1
  obtain rfl := DpAll.nil_inv r2
  obtain rfl := Dp.str_inv h0
  obtain rfl := Dp.str_inv h1
  exact ⟨a, v2, rfl, hs, h2⟩
theorem iff_inv {K : PySem.W.Frag} {H : Hp} {v : V} {t : Tm} {sa sb : List Stt} (h : Dp K H v (Stt.iff t sa sb).d) : ∃ (a : Addr) (x y z : V), v = .ref a ∧ SqT K H a [.str "if", x, y, z] ∧ Dp K H x t.d ∧ Dp K H y (.tuple (sttsD sa)) ∧ Dp K H z (.tuple (sttsD sb)) := by
  obtain ⟨a, xs, rfl, hs, h⟩ := Dp.tup_inv h
  obtain ⟨v0, _, rfl, h0, r0⟩ := DpAll.cons_inv h
  obtain ⟨v1, _, rfl, h1, r1⟩ := DpAll.cons_inv r0
  obtain ⟨v2, _, rfl, h2, r2⟩ := DpAll.cons_inv r1
  obtain ⟨v3, _, rfl, h3, r3⟩ := DpAll.cons_inv r2
  obtain rfl := DpAll.nil_inv r3
  obtain rfl := Dp.str_inv h0
  exact ⟨a, v1, v2, v3, rfl, hs, h1, h2, h3⟩
section
variable {P : Program} {w : World} {K : PySem.W.Frag} {mg : Str → Option Value} {base : Heap}
def spLS (K : PySem.W.Frag) (n : Nat) : Sp := fun vs H Q _ => ∃ (v : V) (o : Str) (b : List Stt) (g : Ctx) (kept : List Str) (m : Nat), n = m + 1 ∧ vs = [v, .str o] ∧ Dp K H v (.tuple (sttsD b)) ∧ (∀ s ∈ b, StOk g kept m s) ∧ weightL b ≤ 20 ∧ RetN H Q ((setsL o b).map V.str)
theorem ok__law_sets1 (T : TX K mg w) (n : Nat) (G__law_sets : FnOk P w K mg base CX0 (n + 1) T.a__law_sets T.d__law_sets p__law_sets (spLS K n)) :
    FnOk P w K mg base CX0 (n + 1 + 1) T.a__law_sets T.d__law_sets p__law_sets (spLS K (n + 1)) := by
  refine T.F__law_sets.ok sc__law_sets (fun vs H Q E h => ?_) (fun cdv A outer s H vs Q E hr h => ?_)
  · obtain ⟨v, o, b, g, kept, m, _, rfl, _⟩ := h; rfl
  obtain ⟨v, o, b, g, kept, m, hm, rfl, hv, hb, hw, q⟩ := h
  obtain rfl : n = m := by omega
  have nd := sc__law_sets.nd
  refine ⟨_, ((pss_cons (ps_set (i := 2) nd rfl (Or.inl rfl) (pe_lst pa_nil))
      (pss_cons (ps_for PassesOwn.never rfl (pi_tup (pv 0)) (pg_name (i := 3) nd rfl (Or.inl rfl)) (pss_one (ps_if (pt_cmpR op_eq (pe_ix ix_tup (pv 3) pe_int (fun _ _ => rfl)) pe_str (nomark _)) (pss_one (ps_set (i := 2) nd rfl (Or.inl rfl) (pe_op op_cat (pe_op op_cat (pv 2) (pe_call G__law_sets (hr.mono (by omega)) rfl T.m__law_sets T.k__law_sets T.b__law_sets .nil pass0 (pa_cons (pe_ix ix_tup (pv 3) pe_int (fun _ _ => rfl)) (pa_cons (pv 1) pa_nil)))) (pe_call G__law_sets (hr.mono (by omega)) rfl T.m__law_sets T.k__law_sets T.b__law_sets .nil pass0 (pa_cons (pe_ix ix_tup (pv 3) pe_int (fun _ _ => rfl)) (pa_cons (pv 1) pa_nil)))))) (pss_one (ps_if (pt_cmpR op_eq (pe_ix ix_tup (pv 3) pe_int (fun _ _ => rfl)) (pv 1) (nomark _)) (pss_one (ps_expr (pe_bm PySem.F.plainAttrs_list PySem.F.slot_list_append PySem.F.type_list_append mt_append (pv 2) (pa_cons (pe_ix ix_tup (pv 3) pe_int (fun _ _ => rfl)) pa_nil)))) pss_nil)))))
      (pss_one (ps_ret (pv 2)))))), ?_⟩
  obtain ⟨a, xs, rfl, ha, hd⟩ := Dp.tup_inv hv
  have lxs := hd.length
  rw [sttsD_map, List.length_map] at lxs
  have lb := weightL_len b
  refine ⟨by show 0 ≤ sizeLine; decide, fun pf hpf => ?_⟩
  have f1 : Same H (upd H pf (.lst [])) := same_new hpf _
  refine ⟨_, rfl, a, rfl, ⟨xs, Evl.ex_t f1 ha⟩, ?_⟩
  refine for_it (walk_tup (K := K) (a := a) (xs := xs)) (fun i σ H2 => ∃ pf o1, σ = [some (.ref a), some (.str o), some (.ref pf), o1] ∧ Same H H2 ∧ H pf = none ∧ H2 pf = some (.lst ((setsL o (b.take i)).map V.str))) ⟨pf, none, rfl, f1, hpf, upd_same⟩ (fun i σ H2 _ z => by obtain ⟨_, _, _, e2, _⟩ := z; exact Evl.ex_t e2 ha) ?_ ?_
  · clear hpf f1 pf
    rintro i x σ _ H2 hi ⟨pf, o1, rfl, e2, hpf, hF⟩ ⟨rfl, hx⟩
    obtain ⟨st, hs, hxd⟩ := stts_at hd hx
    have hsm : st ∈ b := List.mem_of_getElem? hs
    have sok := hb st hsm
    have tk1 : setsL o (b.take (i + 1)) = setsL o (b.take i) ++ st.sets o := by
      rw [List.take_add_one, hs, setsL_app]
      simp [setsL]
    have lacc : ((setsL o (b.take i)).length : Int) ≤ 20 := by
      have h1 := sets_len o b
      have h2 : setsL o b = setsL o (b.take i) ++ setsL o (b.drop i) := by rw [← setsL_app, List.take_append_drop]
      rw [h2, List.length_append] at h1
      omega
    cases st with
    | set wd nm t =>
      obtain ⟨c, z, rfl, hc, hz⟩ := set_inv (hxd.mono e2)
      cases n with
      | zero => exact sok.elim
      | succ k =>
        have hw' : decide (V.str wd = V.str "if") = false := (setw sok.1).1
        refine ⟨_, rfl, c, _, _, _, rfl, rfl, hc, atI_0, rfl, _, rfl, if_f hw' ?_⟩
        refine ⟨_, rfl, c, _, _, _, rfl, rfl, hc, atI_0, _, rfl, rfl, _, rfl, ?_⟩
        by_cases he : wd = o
        · refine if_t (decide_eq_true (by rw [he])) ?_
          refine ⟨_, rfl, .inl ⟨rfl, _, SqL.of hF⟩, _, rfl, c, _, _, _, rfl, rfl, hc, (show atI [V.str wd, V.str nm, z] 1 = some (.str nm) from rfl), pf, _, _, rfl, rfl, hF, small1000 (by rw [List.length_map]; omega), ?_⟩
          refine ⟨pf, _, rfl, same_lst e2 hpf, hpf, ?_⟩
          rw [upd_same, tk1, List.map_append]
          simp only [Stt.sets, he, if_true, List.map_cons, List.map_nil]
        · refine if_f (decide_eq_false fun z => he (V.str.inj z)) ?_
          refine ⟨pf, _, rfl, e2, hpf, ?_⟩
          rw [hF, tk1]
          simp only [Stt.sets, he, if_false, List.append_nil]
    | iff t sa sb =>
      obtain ⟨c, y1, y2, y3, rfl, hc, h1, h2, h3⟩ := iff_inv (hxd.mono e2)
      cases n with
      | zero => exact sok.elim
      | succ k =>
        have hwi := weightL_mem hsm
        simp only [Stt.weight] at hwi
        have wa := weightL_nn sa
        have wb := weightL_nn sb
        have la := sets_len o sa
        have lb' := sets_len o sb
        refine ⟨_, rfl, c, _, _, _, rfl, rfl, hc, atI_0, rfl, _, rfl, if_t kw3 ?_⟩
        refine ⟨_, rfl, _, rfl, c, _, _, _, rfl, rfl, hc, (show atI [V.str "if", y1, y2, y3] 2 = some y2 from rfl), ?_⟩
        refine ⟨_, rfl, y2, o, sa, g, kept, k, rfl, rfl, h2, sok.2.1, by omega, fun p4 H4 e4 hp4 hl4 => ?_⟩
        refine ⟨pf, p4, _, _, rfl, rfl, e4 _ _ hF, hl4, by rw [sizeLine_eq]; simp only [List.length_map]; omega, fun p5 hp5 => ?_⟩
        have f5 : Same H4 (upd H4 p5 (.lst (((setsL o (b.take i)).map V.str) ++ (setsL o sa).map V.str))) := same_new hp5 _
        have hp5' : upd H4 p5 (.lst (((setsL o (b.take i)).map V.str) ++ (setsL o sa).map V.str)) p5 = some (.lst (((setsL o (b.take i)).map V.str) ++ (setsL o sa).map V.str)) := upd_same
        generalize upd H4 p5 (.lst (((setsL o (b.take i)).map V.str) ++ (setsL o sa).map V.str)) = H5 at *
        have e25 := e4.trans f5
        refine ⟨_, rfl, c, _, _, _, rfl, rfl, Evl.ex_t e25 hc, (show atI [V.str "if", y1, y2, y3] 3 = some y3 from rfl), ?_⟩
        refine ⟨_, rfl, y3, o, sb, g, kept, k, rfl, rfl, h3.mono e25, sok.2.2, by omega, fun p6 H6 e6 hp6 hl6 => ?_⟩
        refine ⟨p5, p6, _, _, rfl, rfl, e6 _ _ hp5', hl6, by rw [sizeLine_eq]; simp only [List.length_map, List.length_append]; omega, fun p7 hp7 => ?_⟩
        refine ⟨p7, _, rfl, e2.trans (e25.trans (e6.trans (same_new hp7 _))), (e2.trans (e25.trans e6)).free hp7, ?_⟩
        rw [upd_same, tk1]
        simp [Stt.sets]
  · rintro σ H2 ⟨pf, o1, rfl, e2, hpf, hF⟩
    rw [List.take_of_length_le (by omega)] at hF
    exact ⟨_, rfl, q _ _ e2 hpf hF⟩
theorem ok__law_sets (T : TX K mg w) : ∀ n, FnOk P w K mg base CX0 (n + 1) T.a__law_sets T.d__law_sets p__law_sets (spLS K n)
  | 0 => fn_none fun vs H Q E ⟨_, _, _, _, _, m, h, _⟩ => by omega
  | n + 1 => ok__law_sets1 T n (ok__law_sets T n)
def spLM (K : PySem.W.Frag) (n : Nat) : Sp := fun vs H Q _ => ∃ (v : V) (b : List Stt) (g : Ctx) (kept : List Str) (m : Nat), n = m + 1 ∧ vs = [v] ∧ Dp K H v (.tuple (sttsD b)) ∧ (∀ s ∈ b, StOk g kept m s) ∧ Ret H Q fun v _ => v = .int (weightL b)
theorem ok__law_many1 (T : TX K mg w) (n : Nat) (G__law_many : FnOk P w K mg base CX0 (n + 1) T.a__law_many T.d__law_many p__law_many (spLM K n)) :
    FnOk P w K mg base CX0 (n + 1 + 1) T.a__law_many T.d__law_many p__law_many (spLM K (n + 1)) := by
  refine T.F__law_many.ok sc__law_many (fun vs H Q E h => ?_) (fun cdv A outer s H vs Q E hr h => ?_)
  · obtain ⟨v, b, g, kept, m, _, rfl, _⟩ := h; rfl
  obtain ⟨v, b, g, kept, m, hm, rfl, hv, hb, q⟩ := h
  obtain rfl : n = m := by omega
  have nd := sc__law_many.nd
  refine ⟨_, ((pss_cons (ps_set (i := 1) nd rfl (Or.inl rfl) pe_int)
      (pss_cons (ps_for PassesOwn.never rfl (pi_tup (pv 0)) (pg_name (i := 2) nd rfl (Or.inl rfl)) (pss_cons (ps_set (i := 1) nd rfl (Or.inl rfl) (pe_op op_add (pv 1) pe_int))
      (pss_one (ps_if (pt_cmpR op_eq (pe_ix ix_tup (pv 2) pe_int (fun _ _ => rfl)) pe_str (nomark _)) (pss_one (ps_set (i := 1) nd rfl (Or.inl rfl) (pe_op op_add (pe_op op_add (pv 1) (pe_call G__law_many (hr.mono (by omega)) rfl T.m__law_many T.k__law_many T.b__law_many .nil pass0 (pa_cons (pe_ix ix_tup (pv 2) pe_int (fun _ _ => rfl)) pa_nil))) (pe_call G__law_many (hr.mono (by omega)) rfl T.m__law_many T.k__law_many T.b__law_many .nil pass0 (pa_cons (pe_ix ix_tup (pv 2) pe_int (fun _ _ => rfl)) pa_nil))))) pss_nil))))
      (pss_one (ps_ret (pv 1)))))), ?_⟩
  obtain ⟨a, xs, rfl, ha, hd⟩ := Dp.tup_inv hv
  have lxs := hd.length
  rw [sttsD_map, List.length_map] at lxs
  refine ⟨_, rfl, a, rfl, ⟨xs, ha⟩, ?_⟩
  refine for_it (walk_tup (K := K) (a := a) (xs := xs)) (fun i σ H2 => ∃ o1, σ = [some (.ref a), some (.int (weightL (b.take i))), o1] ∧ Same H H2) ⟨none, rfl, Same.refl _⟩ (fun i σ H2 _ z => by obtain ⟨_, _, e2⟩ := z; exact Evl.ex_t e2 ha) ?_ ?_
  · rintro i x σ _ H2 hi ⟨o1, rfl, e2⟩ ⟨rfl, hx⟩
    obtain ⟨st, hs, hxd⟩ := stts_at hd hx
    have hsm : st ∈ b := List.mem_of_getElem? hs
    have sok := hb st hsm
    have tk1 : weightL (b.take (i + 1)) = weightL (b.take i) + st.weight := by
      rw [List.take_add_one, hs, weightL_app]
      simp [weightL]
    refine ⟨_, rfl, _, _, rfl, rfl, ?_⟩
    cases st with
    | set wd nm t =>
      obtain ⟨c, z, rfl, hc, hz⟩ := set_inv (hxd.mono e2)
      cases n with
      | zero => exact sok.elim
      | succ k =>
        have hw' : decide (V.str wd = V.str "if") = false := (setw sok.1).1
        refine ⟨_, rfl, c, _, _, _, rfl, rfl, hc, atI_0, rfl, _, rfl, if_f hw' ?_⟩
        refine ⟨some (.ref c), ?_, e2⟩
        rw [tk1]
        simp only [Stt.weight]
        rfl
    | iff t sa sb =>
      obtain ⟨c, y1, y2, y3, rfl, hc, h1, h2, h3⟩ := iff_inv (hxd.mono e2)
      cases n with
      | zero => exact sok.elim
      | succ k =>
        refine ⟨_, rfl, c, _, _, _, rfl, rfl, hc, atI_0, rfl, _, rfl, if_t kw3 ?_⟩
        refine ⟨_, rfl, _, rfl, c, _, _, _, rfl, rfl, hc, (show atI [V.str "if", y1, y2, y3] 2 = some y2 from rfl), ?_⟩
        refine ⟨y2, sa, g, kept, k, rfl, rfl, h2, sok.2.1, ?_⟩
        rintro _ H4 e4 rfl
        refine ⟨_, _, rfl, rfl, _, rfl, c, _, _, _, rfl, rfl, Evl.ex_t e4 hc, (show atI [V.str "if", y1, y2, y3] 3 = some y3 from rfl), ?_⟩
        refine ⟨y3, sb, g, kept, k, rfl, rfl, h3.mono e4, sok.2.2, ?_⟩
        rintro _ H6 e6 rfl
        refine ⟨_, _, rfl, rfl, some (.ref c), ?_, e2.trans (e4.trans e6)⟩
        rw [tk1]
        simp only [Stt.weight]
        show List.set _ 1 (some (V.int (weightL (List.take i b) + 1 + weightL sa + weightL sb))) = _
        rw [show weightL (List.take i b) + 1 + weightL sa + weightL sb = weightL (List.take i b) + (1 + (weightL sa + weightL sb)) by omega]
        rfl
  · rintro σ H2 ⟨o1, rfl, e2⟩
    rw [List.take_of_length_le (by omega)]
    exact ⟨_, rfl, q _ _ e2 rfl⟩
theorem ok__law_many (T : TX K mg w) : ∀ n, FnOk P w K mg base CX0 (n + 1) T.a__law_many T.d__law_many p__law_many (spLM K n)
  | 0 => fn_none fun vs H Q E ⟨_, _, _, _, m, h, _⟩ => by omega
  | n + 1 => ok__law_many1 T n (ok__law_many T n)
end
end K34
namespace K34
open PySem PySem.Spec PyProof.Rows L2
local macro_rules | `(tactic| walk_at "sm") => `(tactic| (repeat (first | exact Same.refl _ | assumption | refine Same.trans ?_ (same_new (by assumption) _) | refine Same.trans ?_ (by assumption))))
theorem dueD_head {l1 l2 l3 : List PyData} {o1 o2 o3 : Option (Str × Str)} (h1 : l1.head? = o1.map fun p => PyData.tuple [.str p.1, .str p.2]) (h2 : l2.head? = o2.map fun p => PyData.tuple [.str p.1, .str p.2]) (h3 : l3.head? = o3.map fun p => PyData.tuple [.str p.1, .str p.2]) :
    (l1 ++ l2 ++ l3 ++ [PyData.tuple [.str "made", .str ""]])[0]? = some (dueD ((o1.or o2).or o3)) := by
  cases l1 with
  | cons d l1 =>
    cases o1 with
    | none => cases h1
    | some p =>
      obtain ⟨k, x⟩ := p
      simp only [List.head?_cons, Option.map_some, Option.some.injEq] at h1
      subst h1
      rfl
  | nil =>
    cases o1 with
    | some p => cases h1
    | none =>
      cases l2 with
      | cons d l2 =>
        cases o2 with
        | none => cases h2
        | some p =>
          obtain ⟨k, x⟩ := p
          simp only [List.head?_cons, Option.map_some, Option.some.injEq] at h2
          subst h2
          rfl
      | nil =>
        cases o2 with
        | some p => cases h2
        | none =>
          cases l3 with
          | cons d l3 =>
            cases o3 with
            | none => cases h3
            | some p =>
              obtain ⟨k, x⟩ := p
              simp only [List.head?_cons, Option.map_some, Option.some.injEq] at h3
              subst h3
              rfl
          | nil =>
            cases o3 with
            | some p => cases h3
            | none => rfl
theorem filt_head {α : Type} (p : α → Bool) (f : α → Str × Str) (l : List α) : (((l.filter p).map fun r => PyData.tuple [.str (f r).1, .str (f r).2])).head? = ((l.find? p).map f).map fun p => PyData.tuple [.str p.1, .str p.2] := by
  rw [List.head?_map, List.head?_filter, Option.map_map]
  rfl
theorem merge_new {tb : List (Str × Addr × List Str)} (nd : (tb.map (·.1)).Nodup) : mergeK [] (tb.map fun e => ((Sum.inr e.1 : Key), V.ref e.2.1)) = tb.map fun e => ((Sum.inr e.1 : Key), V.ref e.2.1) := by
  have key : ∀ (tb acc : List (Str × Addr × List Str)), ((acc ++ tb).map (·.1)).Nodup → mergeK (acc.map fun e => ((Sum.inr e.1 : Key), V.ref e.2.1)) (tb.map fun e => ((Sum.inr e.1 : Key), V.ref e.2.1)) = (acc ++ tb).map fun e => ((Sum.inr e.1 : Key), V.ref e.2.1) := by
    intro tb
    induction tb with
    | nil => intro acc _; rw [List.append_nil]; rfl
    | cons e tb ih =>
      intro acc nd
      have hnt : e.1 ∉ acc.map (·.1) := by
        rw [List.map_append, List.map_cons] at nd
        intro hm
        exact (List.nodup_append.mp nd).2.2 _ hm _ List.mem_cons_self rfl
      have hnew : valV (acc.map fun e => ((Sum.inr e.1 : Key), V.ref e.2.1)) (Sum.inr e.1) = none := by
        clear nd ih
        induction acc with
        | nil => rfl
        | cons a acc ih =>
          rw [List.map_cons, List.mem_cons, not_or] at hnt
          rw [List.map_cons, valV_neg (fun z => hnt.1 (Sum.inr.inj z).symm)]
          exact ih hnt.2
      have h := ih (acc ++ [e]) (by rw [List.append_assoc]; exact nd)
      rw [List.append_assoc] at h
      rw [show acc ++ e :: tb = acc ++ ([e] ++ tb) from rfl, ← h]
      unfold mergeK
      rw [List.map_cons, List.foldl_cons, putK_new _ hnew, List.map_append]
      rfl
  have h := key tb [] (by simpa using nd)
  exact h
theorem rows_tb {rs : List Row} (ok : SigOk rs) {tb : List (Str × Addr × List Str)} (em : tb.map (·.1) = rs.map Row.name) (hb : ∀ e ∈ tb, ∃ r ∈ rs, r.name = e.1 ∧ e.2.2 = r.what.names) : TbOk (Edge rs) tb := by
  have ndn : (rs.map Row.name).Nodup := by rw [← ctx_names]; exact ok.g.nd
  have l11 := ok.len
  refine ⟨fun e he y => ?_, fun e he y hy => ?_, by rw [em]; exact ndn, ?_, fun e he => ?_, fun e he => ?_⟩
  · obtain ⟨r, hr1, en, hm⟩ := hb e he
    rw [hm]
    constructor
    · exact fun h => ⟨r, hr1, en, h⟩
    · rintro ⟨r', hr2, en', h⟩
      obtain rfl := nodup_name ndn hr1 hr2 (en.trans en'.symm)
      exact h
  · obtain ⟨r, hr1, en, hm⟩ := hb e he
    rw [hm, What.names_terms, List.mem_flatMap] at hy
    obtain ⟨t, ht', hy⟩ := hy
    obtain ⟨k, hk⟩ := (What.terms_ok (ok.row r hr1)).2 t ht'
    obtain ⟨j, hj⟩ := hk.names_in y hy
    rw [em, ← ctx_names]
    exact List.mem_map.mpr ⟨_, hj, rfl⟩
  · have := congrArg List.length em
    rw [List.length_map, List.length_map] at this
    omega
  · obtain ⟨r, hr1, en, hm⟩ := hb e he
    rw [hm]
    have := names_few (ok.row r hr1)
    omega
  · obtain ⟨r, hr1, en, hm⟩ := hb e he
    rw [← en]
    exact ok.g.nm _ r.width (List.mem_map.mpr ⟨r, hr1, rfl⟩)
theorem noLs_tups {α : Type} (k : Str) (f : α → Str) (l : List α) : noLs (l.map fun r => PyData.tuple [.str k, .str (f r)]) = true := noLs_iff.mpr fun d hd => by rw [List.mem_map] at hd; obtain ⟨u, _, rfl⟩ := hd; rfl
section
variable {P : Program} {w : World} {K : PySem.W.Frag} {mg : Str → Option Value} {base : Heap}
def spDue (K : PySem.W.Frag) : Sp := fun vs H Q _ => ∃ (a b : Addr) (xs ys : List V) (rs : List Row) (bs : List Blk), vs = [.ref a, .ref b] ∧ SqL K H a xs ∧ DpAll K H xs (rs.map Row.d) ∧ SigOk rs ∧
  SqL K H b ys ∧ DpAll K H ys (bs.map Blk.d) ∧ BlksOk rs bs ∧ Ret H Q fun v H' => Dp K H' v (dueD (clashOf rs bs))
open Classical in
theorem ok__law_due (T : TX K mg w) (G__law_sets : FnOk P w K mg base CX0 6 T.a__law_sets T.d__law_sets p__law_sets (spLS K 5)) (G__law_beside : FnOk P w K mg base CX0 6 T.a__law_beside T.d__law_beside p__law_beside (spLB K))
    (G__law_reached : FnOk P w K mg base CX0 1 T.a__law_reached T.d__law_reached p__law_reached (spReach K)) : FnOk P w K mg base CX0 7 T.a__law_due T.d__law_due p__law_due (spDue K) := by
  refine T.F__law_due.ok sc__law_due (fun vs H Q E h => ?_) (fun cdv A outer s H vs Q E hr h => ?_)
  · obtain ⟨a, b, xs, ys, rs, bs, rfl, _⟩ := h; rfl
  obtain ⟨a, b, xs, ys, rs, bs, rfl, ha, hd, ok, hb, hdb, okb, q⟩ := h
  have nd := sc__law_due.nd
  have hu := hu_of hr
  refine ⟨_, ((pss_cons (ps_asg (pe_tup (pa_cons (pe_lst pa_nil) (pa_cons (pe_lst pa_nil) pa_nil))) (pg_tup rfl (pgs_cons (pg_name (i := 2) nd rfl (Or.inr rfl)) (pgs_cons (pg_name (i := 3) nd rfl (Or.inr rfl)) pgs_nil))))
      (pss_cons (ps_for PassesOwn.never rfl (pi_list (pv 1)) (pg_name (i := 4) nd rfl (Or.inl rfl)) (pss_cons (ps_set (i := 2) nd rfl (Or.inr rfl) (pe_op op_cat (pv 2) (pe_call G__law_sets (hr.mono (by omega)) rfl T.m__law_sets T.k__law_sets T.b__law_sets .nil pass0 (pa_cons (pe_ix ix_tup (pv 4) pe_int (fun _ _ => rfl)) (pa_cons pe_str pa_nil)))))
      (pss_one (ps_set (i := 3) nd rfl (Or.inr rfl) (pe_op op_cat (pv 3) (pe_call G__law_sets (hr.mono (by omega)) rfl T.m__law_sets T.k__law_sets T.b__law_sets .nil pass0 (pa_cons (pe_ix ix_tup (pv 4) pe_int (fun _ _ => rfl)) (pa_cons pe_str pa_nil))))))))
      (pss_cons (ps_set (i := 5) nd rfl (Or.inr rfl) (pe_callTy (call_dictP rfl) (by rfl) T.z_dict (by decide +kernel) (pa_cons (pe_lc (own := [("_law_row", 11)]) (g := gName 11) (tt := tYes) rfl nd (pi_list (pv 0)) (blkOk_by (N := n__law_due) (sc := defScope s__law_due) (by decide +kernel)) (fun _ _ _ _ _ => (pg_name (i := 11) nd rfl (Or.inl rfl))) (fun _ _ _ _ _ => pts_nil) (fun _ _ _ _ _ => (pe_tup (pa_cons (pe_ix (ix_tupK (K := K) rfl) (pv 11) pe_int (fun _ _ => rfl)) (pa_cons (pe_call G__law_beside (hr.mono (by omega)) rfl T.m__law_beside T.k__law_beside T.b__law_beside .nil pass0 (pa_cons (pv 11) pa_nil)) pa_nil))))) pa_nil)))
      (pss_cons (ps_set (i := 6) nd rfl (Or.inr rfl) (pe_lc (own := [("_law_row", 11)]) (g := gName 11) rfl nd (pi_list (pv 0)) (blkOk_by (N := n__law_due) (sc := defScope s__law_due) (by decide +kernel)) (fun _ _ _ _ _ => (pg_name (i := 11) nd rfl (Or.inl rfl))) (fun _ _ _ _ _ => pts_one (pt_cmpR op_eq (pe_ix (ix_tupK (K := K) rfl) (pv 11) pe_int (fun _ _ => rfl)) pe_str (nomark _))) (fun _ _ _ _ _ => (pe_ix (ix_tupK (K := K) rfl) (pv 11) pe_int (fun _ _ => rfl)))))
      (pss_cons (ps_setLc (i := 7) (own := [("_law_row", 11)]) (g := gName 11) rfl nd rfl rfl (sw_true rfl rfl rfl (by decide +kernel)) (pi_list (pv 0)) (blkOk_by (N := n__law_due) (sc := defScope s__law_due) (by decide +kernel)) (fun _ _ _ _ _ => (pg_name (i := 11) nd rfl (Or.inl rfl))) (fun _ _ _ _ _ => pts_one (PW.pt (pw_and (pt_cmpR (op_in_seqK (K := K) rfl) (pe_ix (ix_tupK (K := K) rfl) (pv 11) pe_int (fun _ _ => rfl)) (pv 2) (by rfl)) (pw_and1 (pt_cmpR (op_in_seqK (K := K) rfl) (pe_ix (ix_tupK (K := K) rfl) (pv 11) pe_int (fun _ _ => rfl)) (pv 3) (by rfl)))))) (fun _ _ _ _ _ => (pe_tup (pa_cons pe_str (pa_cons (pe_ix (ix_tupK (K := K) rfl) (pv 11) pe_int (fun _ _ => rfl)) pa_nil)))))
      (pss_cons (ps_setLc (i := 8) (own := [("_law_row", 11)]) (g := gName 11) rfl nd rfl rfl (sw_true rfl rfl rfl (by decide +kernel)) (pi_list (pv 0)) (blkOk_by (N := n__law_due) (sc := defScope s__law_due) (by decide +kernel)) (fun _ _ _ _ _ => (pg_name (i := 11) nd rfl (Or.inl rfl))) (fun _ _ _ _ _ => pts_one (pt_cmpR (op_in_seqK (K := K) rfl) (pe_ix (ix_tupK (K := K) rfl) (pv 11) pe_int (fun _ _ => rfl)) (pe_call G__law_reached (hr.mono (by omega)) rfl T.m__law_reached T.k__law_reached T.b__law_reached .nil pass0 (pa_cons (pv 5) (pa_cons (pe_ix (ix_tupK (K := K) rfl) (pv 11) pe_int (fun _ _ => rfl)) pa_nil))) (by rfl))) (fun _ _ _ _ _ => (pe_tup (pa_cons pe_str (pa_cons (pe_ix (ix_tupK (K := K) rfl) (pv 11) pe_int (fun _ _ => rfl)) pa_nil)))))
      (pss_cons (ps_set (i := 9) nd rfl (Or.inl rfl) (pe_lst pa_nil))
      (pss_cons (ps_for PassesOwn.never rfl (pi_list (pv 6)) (pg_name (i := 10) nd rfl (Or.inl rfl)) (pss_one (ps_if (pt_cmpR (op_neD hr.units) (pe_lc (own := [("_law_one", 12)]) (g := gName 12) rfl nd (pi_list (pe_call G__law_reached (hr.mono (by omega)) rfl T.m__law_reached T.k__law_reached T.b__law_reached .nil pass0 (pa_cons (pv 5) (pa_cons (pv 10) pa_nil)))) (blkOk_by (N := n__law_due) (sc := defScope s__law_due) (by decide +kernel)) (fun _ _ _ _ _ => (pg_name (i := 12) nd rfl (Or.inl rfl))) (fun _ _ _ _ _ => pts_one (pt_cmpR (op_in_seqK (K := K) rfl) (pv 12) (pv 6) (by rfl))) (fun _ _ _ _ _ => (pv 12))) (pe_lst pa_nil) (nomark _)) (pss_one (ps_expr (pe_bm PySem.F.plainAttrs_list PySem.F.slot_list_append PySem.F.type_list_append mt_append (pv 9) (pa_cons (pe_tup (pa_cons pe_str (pa_cons (pv 10) pa_nil))) pa_nil)))) pss_nil)))
      (pss_one (ps_ret (pe_ix ix_list (pe_op op_cat (pe_op op_cat (pe_op op_cat (pv 7) (pv 8)) (pv 9)) (pe_lst (pa_cons (pe_tup (pa_cons pe_str (pa_cons pe_str pa_nil))) pa_nil))) pe_int (fun _ _ => rfl))))))))))))), ?_⟩
  have lxs := hd.length
  rw [List.length_map] at lxs
  have lys := hdb.length
  rw [List.length_map] at lys
  have l6 := okb.len
  have l11 := ok.len
  have ndn : (rs.map Row.name).Nodup := by rw [← ctx_names]; exact ok.g.nd
  refine ⟨by show 0 ≤ sizeLine; decide, fun p1 hp1 => ⟨by show 0 ≤ sizeLine; decide, fun p2 hp2 => ⟨by show 2 ≤ sizeLine; decide, fun p3 hp3 => ⟨p3, _, rfl, SqT.of upd_same, rfl, _, _, rfl, _, _, rfl, rfl, ?_⟩⟩⟩⟩
  have f1 : Same H (upd H p1 (.lst [])) := same_new hp1 _
  have f2 : Same (upd H p1 (.lst [])) (upd (upd H p1 (.lst [])) p2 (.lst [])) := same_new hp2 _
  have f3 : Same (upd (upd H p1 (.lst [])) p2 (.lst [])) (upd (upd (upd H p1 (.lst [])) p2 (.lst [])) p3 (.tup [.ref p1, .ref p2])) := same_new hp3 _
  have h1 := f3 _ _ (f2 _ _ upd_same)
  have h2 := f3 _ _ (show upd (upd H p1 (.lst [])) p2 (.lst []) p2 = some (.lst []) from upd_same)
  have e3 := f1.trans (f2.trans f3)
  generalize upd (upd (upd H p1 (.lst [])) p2 (.lst [])) p3 (.tup [.ref p1, .ref p2]) = H3 at *
  refine ⟨_, rfl, b, rfl, ⟨ys, e3.seq hb⟩, ?_⟩
  have few : ∀ o i, (nowsOf o (bs.take i)).length ≤ 120 := fun o i => by
    have := nows_len (o := o) (bs := bs.take i) fun r hr => (okb.one r (List.mem_of_mem_take hr)).few
    rw [List.length_take] at this
    omega
  refine for_it (walk_list (K := K) (a := b) (xs := ys)) (fun i σ H4 => ∃ pn pl o, σ = [some (.ref a), some (.ref b), some (.ref pn), some (.ref pl), o, none, none, none, none, none, none, none, none] ∧ Same H H4 ∧ H4 pn = some (.lst ((nowsOf "now" (bs.take i)).map V.str)) ∧ H4 pl = some (.lst ((nowsOf "later" (bs.take i)).map V.str))) ⟨p1, p2, none, rfl, e3, h1, h2⟩ (fun i σ H4 _ z => by obtain ⟨_, _, _, _, e4, _⟩ := z; exact e4.seq hb) ?_ ?_
  · rintro i x σ _ H4 hi ⟨pn, pl, o, rfl, e4, hn, hl⟩ ⟨rfl, hx⟩
    obtain ⟨r, hri, hxd⟩ := blks_at hdb hx
    obtain ⟨c, z, rfl, hc, hz⟩ := blk_inv (hxd.mono e4)
    have rok := okb.one r (List.mem_of_getElem? hri)
    have few1 := sets_len "now" r.body
    have few2 := sets_len "later" r.body
    have w20 := rok.few
    have tk1 : ∀ o, nowsOf o (bs.take (i + 1)) = nowsOf o (bs.take i) ++ setsL o r.body := fun o => by
      unfold nowsOf
      rw [List.take_add_one, hri]
      simp
    have at3 : atI [V.str r.name, V.str r.edge, V.str r.trig, z] 3 = some z := rfl
    refine ⟨_, rfl, _, rfl, c, _, _, _, rfl, rfl, hc, at3, ?_⟩
    refine ⟨z, _, r.body, _, _, 4, rfl, rfl, hz, rok.body, w20, fun p5 H5 e5 hp5 hl5 => ?_⟩
    have fn := few "now" i
    have fl := few "later" i
    refine ⟨pn, p5, _, _, rfl, rfl, e5 _ _ hn, hl5, by rw [sizeLine_eq]; simp only [List.length_map]; omega, fun p6 hp6 => ?_⟩
    have f6 : Same H5 (upd H5 p6 (.lst ((nowsOf "now" (bs.take i)).map V.str ++ (setsL "now" r.body).map V.str))) := same_new hp6 _
    have h6 : upd H5 p6 (.lst ((nowsOf "now" (bs.take i)).map V.str ++ (setsL "now" r.body).map V.str)) p6 = some (.lst ((nowsOf "now" (bs.take (i + 1))).map V.str)) := by rw [upd_same, tk1, List.map_append]
    generalize upd H5 p6 (.lst ((nowsOf "now" (bs.take i)).map V.str ++ (setsL "now" r.body).map V.str)) = H6 at *
    have e46 := e5.trans f6
    refine ⟨_, rfl, _, rfl, c, _, _, _, rfl, rfl, Evl.ex_t e46 hc, at3, ?_⟩
    refine ⟨z, _, r.body, _, _, 4, rfl, rfl, hz.mono e46, rok.body, w20, fun p7 H7 e7 hp7 hl7 => ?_⟩
    refine ⟨pl, p7, _, _, rfl, rfl, e7 _ _ (e46 _ _ hl), hl7, by rw [sizeLine_eq]; simp only [List.length_map]; omega, fun p8 hp8 => ?_⟩
    have f8 : Same H7 (upd H7 p8 (.lst ((nowsOf "later" (bs.take i)).map V.str ++ (setsL "later" r.body).map V.str))) := same_new hp8 _
    exact ⟨p6, p8, _, rfl, e4.trans (e46.trans (e7.trans f8)), f8 _ _ (e7 _ _ h6), by rw [upd_same, tk1, List.map_append]⟩
  · rintro σ H4 ⟨pn, pl, o, rfl, e4, hn, hl⟩
    rw [List.take_of_length_le (by omega)] at hn hl
    clear hp1 hp2 hp3 h1 h2 e3 f1 f2 f3
    refine ⟨_, rfl, a, rfl, ⟨xs, e4.seq ha⟩, fun D hD => ?_⟩
    refine lc_it (walk_list (K := K) (a := a) (xs := xs)) (fun i H5 => Same H4 H5 ∧ ∃ l : List (Addr × Str × Addr × List Str), H5 D = some (.lst (l.map fun x => V.ref x.1)) ∧ l.length = i ∧ l.map (fun x => x.2.1) = (rs.take i).map Row.name ∧
      ∀ x ∈ l, H5 x.1 = some (.tup [.str x.2.1, .ref x.2.2.1]) ∧ H5 x.2.2.1 = some (.lst (x.2.2.2.map V.str)) ∧ x.2.2.1 ≠ D ∧ ∃ r ∈ rs, r.name = x.2.1 ∧ x.2.2.2 = r.what.names) ⟨same_new hD _, [], upd_same, rfl, rfl, fun x hx => absurd hx List.not_mem_nil⟩ (fun i H5 _ z => (e4.trans z.1).seq ha) ?_ ?_
    · rintro i x _ H5 hi ⟨e5, l, hl5, ll5, em, hpr⟩ ⟨rfl, hx⟩
      obtain ⟨r, hri, hxd⟩ := rows_at hd hx
      have hrm := List.mem_of_getElem? hri
      have e05 := e4.trans e5
      obtain ⟨c, y, rfl, hc, hy⟩ := row_inv (hxd.mono e05)
      refine ⟨rfl, yes_go ?_⟩
      refine ⟨_, rfl, c, _, _, _, rfl, rfl, hc, (show atI [V.str r.sort, V.str r.name, V.int r.width, y] 1 = some (.str r.name) from rfl), ?_⟩
      refine ⟨_, rfl, _, r, ctx rs, rfl, hxd.mono e05, ok.row r hrm, fun p6 H6 e6 hp6 hl6 => ?_⟩
      refine ⟨by show 2 ≤ sizeLine; decide, fun p7 hp7 => ?_⟩
      have f7 : Same H6 (upd H6 p7 (.tup [.str r.name, .ref p6])) := same_new hp7 _
      have h7 : upd H6 p7 (.tup [.str r.name, .ref p6]) p7 = some (.tup [.str r.name, .ref p6]) := upd_same
      have h76 := f7 _ _ hl6
      generalize upd H6 p7 (.tup [.str r.name, .ref p6]) = H7 at *
      have e57 := e6.trans f7
      have hD7 := e57 _ _ hl5
      have p6D : p6 ≠ D := fun z => by rw [z, hl5] at hp6; cases hp6
      have tD : ∀ {c : Addr} {zs : List V}, H7 c = some (.tup zs) → c ≠ D := fun h => ne_of h hD7 (by intro z; cases z)
      refine ⟨_, hD7, small1000 (by rw [List.length_map]; omega), same_lst (e5.trans e57) hD, l ++ [(p7, r.name, p6, r.what.names)], by rw [upd_same, List.map_append]; rfl, by rw [List.length_append, ll5]; rfl, by rw [List.map_append, em, List.take_add_one, hri, List.map_append]; rfl, ?_⟩
      intro x hx
      rcases List.mem_append.mp hx with hx | hx
      · obtain ⟨g1, g2, g3, g4⟩ := hpr x hx
        refine ⟨?_, ?_, g3, g4⟩
        · rw [upd_ne (tD (e57 _ _ g1))]; exact e57 _ _ g1
        · rw [upd_ne g3]; exact e57 _ _ g2
      · obtain rfl : x = (p7, r.name, p6, r.what.names) := by simpa using hx
        refine ⟨?_, ?_, p6D, r, hrm, rfl, rfl⟩
        · rw [upd_ne (tD h7)]; exact h7
        · rw [upd_ne p6D]; exact h76
    · rintro H5 ⟨e5, l, hl5, ll5, em, hpr⟩
      rw [List.take_of_length_le (by omega)] at em
      have em' : (l.map (fun x => x.2)).map (fun x : Str × Addr × List Str => x.1) = rs.map Row.name := by rw [List.map_map]; exact em
      have tok : TbOk (Edge rs) (l.map (·.2)) := rows_tb ok em' fun e he => by
        rw [List.mem_map] at he
        obtain ⟨x, hx, rfl⟩ := he
        exact (hpr x hx).2.2.2
      refine ⟨D, l.map (·.1), (l.map (·.2)).map fun e => ((Sum.inr e.1 : Key), V.ref e.2.1), rfl, SqL.of (by rw [List.map_map]; exact hl5), ?_, fun p hp => ?_⟩
      · clear em em' tok ll5 hl5
        induction l with
        | nil => exact .nil
        | cons x l ih => exact .cons (SqT.of (hpr x List.mem_cons_self).1) (ih fun y hy => hpr y (List.mem_cons_of_mem _ hy))
      rw [merge_new tok.nd]
      have f6 : Same H5 (upd H5 p (.dK ((l.map (·.2)).map fun e => ((Sum.inr e.1 : Key), V.ref e.2.1)))) := same_new hp _
      have ht : TB (upd H5 p (.dK ((l.map (·.2)).map fun e => ((Sum.inr e.1 : Key), V.ref e.2.1)))) p (l.map (·.2)) := ⟨upd_same, fun e he => by
        rw [List.mem_map] at he
        obtain ⟨x, hx, rfl⟩ := he
        exact f6 _ _ (hpr x hx).2.1⟩
      generalize upd H5 p (.dK ((l.map (·.2)).map fun e => ((Sum.inr e.1 : Key), V.ref e.2.1))) = H6 at *
      generalize l.map (·.2) = tb at *
      have hn6 := f6 _ _ (e5 _ _ hn)
      have hl6 := f6 _ _ (e5 _ _ hl)
      have e06 := e4.trans (e5.trans f6)
      have mem : ∀ {r : Row}, r ∈ rs → r.name ∈ tb.map (·.1) := fun hr => by rw [em']; exact List.mem_map.mpr ⟨_, hr, rfl⟩
      clear e5 hl5 hpr f6 hn hl em ll5 e4 hp hD
      refine ⟨_, rfl, a, rfl, ⟨xs, e06.seq ha⟩, fun D hD => ?_⟩
      refine lcO (K := K) walk_list (rs.map fun r => if r.sort = (Str.ofString "filter") then some (PyData.str r.name) else none) (by rw [List.length_map, lxs]) (by omega) (fun d hd => by
          rw [List.mem_map] at hd
          obtain ⟨r, _, e⟩ := hd
          split at e <;> cases e
          rfl) hD (fun _ e => (e06.trans e).seq ha) yat_same ?_ ?_
      · rintro i x _ H3 e hi he e3 ⟨rfl, hx⟩ Qy Qn hy hn
        obtain ⟨r, hri, hxd⟩ := rows_at hd hx
        rw [List.getElem?_map, hri] at he
        cases he
        obtain ⟨c, y, rfl, hc, hw⟩ := row_inv (hxd.mono (e06.trans e3))
        refine ⟨rfl, _, rfl, c, _, _, _, rfl, rfl, hc, atI_0, rfl, _, rfl, ?_⟩
        by_cases hs : r.sort = Str.ofString "filter"
        · refine if_t (decide_eq_true (by rw [hs])) ?_
          exact ⟨_, rfl, c, _, _, _, rfl, rfl, hc, (show atI [V.str r.sort, V.str r.name, V.int r.width, y] 1 = some (.str r.name) from rfl), hy _ (if_pos hs) _ _ (Same.refl _) (.str _)⟩
        · refine if_f (decide_eq_false fun z => hs (V.str.inj z)) ?_
          exact hn (if_neg hs) _ (Same.refl _)
      intro ys' H7 e7 hys hr3
      rw [filters_map] at hr3
      obtain rfl := hr3.strs
      have lfs : (filtersOf rs).length ≤ 11 := by
        unfold filtersOf
        rw [List.length_map]
        exact Nat.le_trans (List.length_filter_le _ _) l11
      have ht7 := ht.mono e7
      have hn7 := e7 _ _ hn6
      have hl7 := e7 _ _ hl6
      have e07 := e06.trans e7
      clear hn6 hl6 e06 ht e7 hr3 hD
      -- clashing
      refine ⟨_, rfl, a, rfl, ⟨xs, e07.seq ha⟩, fun D8 hD8 => ?_⟩
      refine lcO (K := K) walk_list (rs.map fun r => if decide (r.name ∈ nowsOf "now" bs ∧ r.name ∈ nowsOf "later" bs) = true then some (PyData.tuple [.str "both", .str r.name]) else none) (by rw [List.length_map, lxs]) (by omega) (fun d hd => by
          rw [List.mem_map] at hd
          obtain ⟨r, _, e⟩ := hd
          split at e <;> cases e
          rfl) hD8 (fun _ e => (e07.trans e).seq ha) yat_same ?_ ?_
      · rintro i x _ H3 e hi he e3 ⟨rfl, hx⟩ Qy Qn hy hn
        obtain ⟨r, hri, hxd⟩ := rows_at hd hx
        rw [List.getElem?_map, hri] at he
        cases he
        obtain ⟨c, y, rfl, hc, hw⟩ := row_inv (hxd.mono (e07.trans e3))
        have at1 : atI [V.str r.sort, V.str r.name, V.int r.width, y] 1 = some (.str r.name) := rfl
        refine ⟨rfl, _, rfl, c, _, _, _, rfl, rfl, hc, at1, _, rfl, pn, _, rfl, .inl (SqL.of (e3 _ _ hn7)), rfl, flat_strs _, _, rfl, ?_⟩
        by_cases g1 : r.name ∈ nowsOf "now" bs
        · refine if_t (by show inV (V.str r.name) ((nowsOf "now" bs).map V.str) = true; rw [inV_str]; exact decide_eq_true g1) ?_
          refine ⟨_, rfl, c, _, _, _, rfl, rfl, hc, at1, _, rfl, pl, _, rfl, .inl (SqL.of (e3 _ _ hl7)), rfl, flat_strs _, _, rfl, ?_⟩
          by_cases g2 : r.name ∈ nowsOf "later" bs
          · refine if_t (by show inV (V.str r.name) ((nowsOf "later" bs).map V.str) = true; rw [inV_str]; exact decide_eq_true g2) ?_
            exact ⟨_, rfl, c, _, _, _, rfl, rfl, hc, at1, by show 2 ≤ sizeLine; decide, fun p4 hp4 => hy _ (if_pos (decide_eq_true ⟨g1, g2⟩)) _ _ (same_new hp4 _) (.tup (SqT.of upd_same) (.cons (.str _) (.cons (.str _) .nil)))⟩
          · refine if_f (by show inV (V.str r.name) ((nowsOf "later" bs).map V.str) = false; rw [inV_str]; exact decide_eq_false g2) ?_
            exact hn (if_neg (fun z => g2 (of_decide_eq_true z).2)) _ (Same.refl _)
        · refine if_f (by show inV (V.str r.name) ((nowsOf "now" bs).map V.str) = false; rw [inV_str]; exact decide_eq_false g1) ?_
          exact hn (if_neg (fun z => g1 (of_decide_eq_true z).1)) _ (Same.refl _)
      intro zs1 H8 e8 hzs1 hr8
      rw [filt_map (fun r : Row => decide (r.name ∈ nowsOf "now" bs ∧ r.name ∈ nowsOf "later" bs)) (fun r => PyData.tuple [.str "both", .str r.name])] at hr8
      have ht8 := ht7.mono e8
      have hys8 := e8 _ _ hys
      have e08 := e07.trans e8
      clear ht7 e07 hn7 hl7 hys e8 hD8
      -- rings
      refine ⟨_, rfl, a, rfl, ⟨xs, e08.seq ha⟩, fun D9 hD9 => ?_⟩
      refine lcO (K := K) walk_list (rs.map fun r => if decide (Rch (Edge rs) r.name r.name) = true then some (PyData.tuple [.str "ring", .str r.name]) else none) (by rw [List.length_map, lxs]) (by omega) (fun d hd => by
          rw [List.mem_map] at hd
          obtain ⟨r, _, e⟩ := hd
          split at e <;> cases e
          rfl) hD9 (fun _ e => (e08.trans e).seq ha) yat_same ?_ ?_
      · rintro i x _ H3 e hi he e3 ⟨rfl, hx⟩ Qy Qn hy hn
        obtain ⟨r, hri, hxd⟩ := rows_at hd hx
        rw [List.getElem?_map, hri] at he
        cases he
        obtain ⟨c, y, rfl, hc, hw⟩ := row_inv (hxd.mono (e08.trans e3))
        have at1 : atI [V.str r.sort, V.str r.name, V.int r.width, y] 1 = some (.str r.name) := rfl
        refine ⟨rfl, _, rfl, c, _, _, _, rfl, rfl, hc, at1, _, rfl, _, rfl, c, _, _, _, rfl, rfl, hc, at1, ?_⟩
        refine ⟨r.name, p, tb, Edge rs, rfl, ht8.mono e3, tok, mem (List.mem_of_getElem? hri), fun F hF lF p5 H5 e5 hp5 hl5 => ?_⟩
        refine ⟨p5, _, rfl, .inl (SqL.of hl5), rfl, flat_strs F, _, rfl, ?_⟩
        by_cases hrc : Rch (Edge rs) r.name r.name
        · refine if_t (by show inV (V.str r.name) (F.map V.str) = true; rw [inV_str]; exact decide_eq_true ((hF _).mpr hrc)) ?_
          exact ⟨_, rfl, c, _, _, _, rfl, rfl, Evl.ex_t e5 hc, at1, by show 2 ≤ sizeLine; decide, fun p4 hp4 => hy _ (if_pos (decide_eq_true hrc)) _ _ (e5.trans (same_new hp4 _)) (.tup (SqT.of upd_same) (.cons (.str _) (.cons (.str _) .nil)))⟩
        · refine if_f (by show inV (V.str r.name) (F.map V.str) = false; rw [inV_str]; exact decide_eq_false fun z => hrc ((hF _).mp z)) ?_
          exact hn (if_neg (fun z => hrc (of_decide_eq_true z))) _ e5
      intro zs2 H9 e9 hzs2 hr9
      rw [filt_map (fun r : Row => decide (Rch (Edge rs) r.name r.name)) (fun r => PyData.tuple [.str "ring", .str r.name])] at hr9
      have ht9 := ht8.mono e9
      have hys9 := e9 _ _ hys8
      have e09 := e08.trans e9
      have hr8' := hr8.mono e9
      have hzs1' := e9 _ _ hzs1
      clear ht8 e08 hys8 hr8 hzs1 e9 hD9
      -- hung
      refine ⟨by show 0 ≤ sizeLine; decide, fun ph hph => ?_⟩
      have f10 : Same H9 (upd H9 ph (.lst [])) := same_new hph _
      refine ⟨_, rfl, D, rfl, ⟨_, SqL.of (f10 _ _ hys9)⟩, ?_⟩
      refine for_it (walk_list (K := K) (a := D) (xs := (filtersOf rs).map V.str)) (fun i σ H10 => ∃ (o' : Option V) (vs : List V), σ = [some (.ref a), some (.ref b), some (.ref pn), some (.ref pl), o, some (.ref p), some (.ref D), some (.ref D8), some (.ref D9), some (.ref ph), o', none, none] ∧ Same H9 H10 ∧ H10 ph = some (.lst vs) ∧
        DpAll K H10 vs ((((filtersOf rs).take i).filter fun n => decide (∃ y ∈ filtersOf rs, Rch (Edge rs) n y)).map fun n => PyData.tuple [.str "filter", .str n])) ⟨none, [], rfl, f10, upd_same, .nil⟩ (fun i σ H10 _ z => by obtain ⟨_, _, _, e10, _⟩ := z; exact SqL.of (e10 _ _ hys9)) ?_ ?_
      · rintro i x σ _ H10 hi ⟨o', vs, rfl, e10, hvs, hdv⟩ ⟨rfl, hx⟩
        rw [List.getElem?_map] at hx
        cases hnn : (filtersOf rs)[i]? with
        | none => rw [hnn] at hx; cases hx
        | some n =>
          rw [hnn] at hx
          cases hx
          have hnm : n ∈ tb.map (·.1) := by
            have := List.mem_of_getElem? hnn
            unfold filtersOf at this
            rw [List.mem_map] at this
            obtain ⟨r, hr', rfl⟩ := this
            exact mem (List.mem_filter.mp hr').1
          refine ⟨_, rfl, _, rfl, n, p, tb, Edge rs, rfl, ht9.mono e10, tok, hnm, fun F hF lF p5 H5 e5 hp5 hl5 => ?_⟩
          refine ⟨p5, rfl, ⟨_, SqL.of hl5⟩, fun D6 hD6 => ?_⟩
          refine lcO (K := K) walk_list (F.map fun y => if decide (y ∈ filtersOf rs) = true then some (PyData.str y) else none) (by simp) (by rw [List.length_map]; omega) (fun d hd => by
            rw [List.mem_map] at hd
            obtain ⟨r, _, e⟩ := hd
            split at e <;> cases e
            rfl) hD6 (fun _ e => SqL.of (e _ _ hl5)) yat_same ?_ ?_
          · rintro j x6 _ H6' e hj he e6 ⟨rfl, hx6⟩ Qy Qn hy hn
            rw [List.getElem?_map] at he hx6
            cases hF6 : F[j]? with
            | none => rw [hF6] at he; cases he
            | some y6 =>
              rw [hF6] at he hx6
              cases he; cases hx6
              refine ⟨rfl, _, rfl, _, rfl, D, _, rfl, .inl (SqL.of (e6 _ _ (e5 _ _ (e10 _ _ hys9)))), rfl, flat_strs _, _, rfl, ?_⟩
              by_cases hy6 : y6 ∈ filtersOf rs
              · refine if_t (by show inV (V.str y6) ((filtersOf rs).map V.str) = true; rw [inV_str]; exact decide_eq_true hy6) ?_
                exact ⟨_, rfl, hy _ (if_pos (decide_eq_true hy6)) _ _ (Same.refl _) (.str _)⟩
              · refine if_f (by show inV (V.str y6) ((filtersOf rs).map V.str) = false; rw [inV_str]; exact decide_eq_false hy6) ?_
                exact hn (if_neg (fun z => hy6 (of_decide_eq_true z))) _ (Same.refl _)
          · intro ys6 H6' e6 hys6 hr6
            rw [filt_map (fun y : Str => decide (y ∈ filtersOf rs)) (fun y => PyData.str y)] at hr6
            obtain rfl := hr6.strs
            refine ⟨by show 0 ≤ sizeLine; decide, fun q7 hq7 => ?_⟩
            have e7 : Same H6' (upd H6' q7 (.lst [])) := same_new hq7 _
            have nmF : ∀ x ∈ F.filter (fun y => decide (y ∈ filtersOf rs)), IsNm x := fun x hx => by
              have := of_decide_eq_true (List.mem_filter.mp hx).2
              unfold filtersOf at this
              rw [List.mem_map] at this
              obtain ⟨r, hr', rfl⟩ := this
              exact ok.g.nm _ r.width (List.mem_map.mpr ⟨r, (List.mem_filter.mp hr').1, rfl⟩)
            refine ⟨.list ((F.filter fun y => decide (y ∈ filtersOf rs)).map PyData.str), .list [], .lst (SqL.of (e7 _ _ hys6)) (dpa_strs _), .lst (SqL.of upd_same) .nil, shaped_strs nmF, rfl, _, rfl, ?_⟩
            have hvs7 := e7 _ _ (e6 _ _ (e5 _ _ hvs))
            have e57 := e5.trans (e6.trans e7)
            have hdv7 := hdv.mono e57
            generalize upd H6' q7 (.lst []) = H7' at *
            have tk1 : ((((filtersOf rs).take (i + 1)).filter fun n => decide (∃ y ∈ filtersOf rs, Rch (Edge rs) n y))) = ((((filtersOf rs).take i).filter fun n => decide (∃ y ∈ filtersOf rs, Rch (Edge rs) n y))) ++ if decide (∃ y ∈ filtersOf rs, Rch (Edge rs) n y) = true then [n] else [] := by
              rw [List.take_add_one, hnn, List.filter_append]
              simp only [Option.toList, List.filter_cons, List.filter_nil]
            by_cases hh : ∃ y ∈ filtersOf rs, Rch (Edge rs) n y
            · obtain ⟨y0, hy0, hr0⟩ := hh
              have hne : F.filter (fun y => decide (y ∈ filtersOf rs)) ≠ [] := fun z => by
                have : y0 ∈ F.filter (fun y => decide (y ∈ filtersOf rs)) := List.mem_filter.mpr ⟨(hF y0).mpr hr0, decide_eq_true hy0⟩
                rw [z] at this
                cases this
              refine if_t (by cases hz : F.filter (fun y => decide (y ∈ filtersOf rs)) with | nil => exact absurd hz hne | cons u v => rfl) ?_
              refine ⟨_, rfl, .inl ⟨rfl, _, SqL.of hvs7⟩, _, rfl, by show 2 ≤ sizeLine; decide, fun p8 hp8 => ?_⟩
              have f8 : Same H7' (upd H7' p8 (.tup [.str "filter", .str n])) := same_new hp8 _
              have h8 : upd H7' p8 (.tup [.str "filter", .str n]) p8 = some (.tup [.str "filter", .str n]) := upd_same
              generalize upd H7' p8 (.tup [.str "filter", .str n]) = H8' at *
              have hvs8 := f8 _ _ hvs7
              have lvs := hdv7.length
              rw [List.length_map] at lvs
              have lvs' : vs.length ≤ 11 := by
                rw [lvs]
                refine Nat.le_trans (List.length_filter_le _ _) ?_
                rw [List.length_take]
                omega
              refine ⟨ph, _, _, rfl, rfl, hvs8, small1000 (by omega), ?_⟩
              have t1 : TK H8' (upd H8' ph (.lst (vs ++ [.ref p8]))) := TK.lst hvs8
              refine ⟨_, _, rfl, same_lst (e10.trans (e57.trans f8)) hph, upd_same, ?_⟩
              rw [tk1, if_pos (decide_eq_true ⟨y0, hy0, hr0⟩), List.map_append]
              refine ((hdv7.mono f8).tk t1 (noLs_tups _ _ _)).app (.cons (Dp.tk t1 (.tup (SqT.of h8) (.cons (.str _) (.cons (.str _) .nil))) rfl) .nil)
            · have he0 : F.filter (fun y => decide (y ∈ filtersOf rs)) = [] := by
                rw [List.filter_eq_nil_iff]
                intro y hy hd
                exact hh ⟨y, of_decide_eq_true hd, (hF y).mp hy⟩
              rw [he0]
              refine if_f rfl ?_
              refine ⟨_, _, rfl, e10.trans e57, hvs7, ?_⟩
              rw [tk1, if_neg (fun z => hh (of_decide_eq_true z)), List.append_nil]
              exact hdv7
      · rintro σ H10 ⟨o', vs, rfl, e10, hvs, hdv⟩
        rw [List.take_of_length_le (by simp)] at hdv
        have hz1 := e10 _ _ hzs1'
        have hz2 := e10 _ _ hzs2
        have d1 := hr8'.mono e10
        have d2 := hr9.mono e10
        have l1 : zs1.length ≤ 11 := by
          rw [d1.length, List.length_map]
          exact Nat.le_trans (List.length_filter_le _ _) l11
        have l2 : zs2.length ≤ 11 := by
          rw [d2.length, List.length_map]
          exact Nat.le_trans (List.length_filter_le _ _) l11
        have l3 : vs.length ≤ 11 := by
          rw [hdv.length, List.length_map]
          exact Nat.le_trans (List.length_filter_le _ _) lfs
        refine ⟨_, rfl, _, rfl, D8, D9, _, _, rfl, rfl, hz1, hz2, by rw [sizeLine_eq]; omega, fun c1 hc1 => ?_⟩
        have f11 : Same H10 (upd H10 c1 (.lst (zs1 ++ zs2))) := same_new hc1 _
        have h11 : upd H10 c1 (.lst (zs1 ++ zs2)) c1 = some (.lst (zs1 ++ zs2)) := upd_same
        generalize upd H10 c1 (.lst (zs1 ++ zs2)) = H11 at *
        refine ⟨_, rfl, c1, ph, _, _, rfl, rfl, h11, f11 _ _ hvs, by rw [sizeLine_eq, List.length_append]; omega, fun c2 hc2 => ?_⟩
        have f12 : Same H11 (upd H11 c2 (.lst (zs1 ++ zs2 ++ vs))) := same_new hc2 _
        have h12 : upd H11 c2 (.lst (zs1 ++ zs2 ++ vs)) c2 = some (.lst (zs1 ++ zs2 ++ vs)) := upd_same
        generalize upd H11 c2 (.lst (zs1 ++ zs2 ++ vs)) = H12 at *
        refine ⟨by show 2 ≤ sizeLine; decide, fun c3 hc3 => ⟨by show 1 ≤ sizeLine; decide, fun c4 hc4 => ?_⟩⟩
        have f13 : Same H12 (upd H12 c3 (.tup [.str "made", .str ""])) := same_new hc3 _
        have h13 : upd H12 c3 (.tup [.str "made", .str ""]) c3 = some (.tup [.str "made", .str ""]) := upd_same
        generalize upd H12 c3 (.tup [.str "made", .str ""]) = H13 at *
        have f14 : Same H13 (upd H13 c4 (.lst [.ref c3])) := same_new hc4 _
        have h14 : upd H13 c4 (.lst [.ref c3]) c4 = some (.lst [.ref c3]) := upd_same
        generalize upd H13 c4 (.lst [.ref c3]) = H14 at *
        refine ⟨c2, c4, _, _, rfl, rfl, f14 _ _ (f13 _ _ h12), h14, by rw [sizeLine_eq, List.length_append, List.length_append]; simp only [List.length_singleton]; omega, fun c5 hc5 => ?_⟩
        have f15 : Same H14 (upd H14 c5 (.lst (zs1 ++ zs2 ++ vs ++ [.ref c3]))) := same_new hc5 _
        have h15 : upd H14 c5 (.lst (zs1 ++ zs2 ++ vs ++ [.ref c3])) c5 = some (.lst (zs1 ++ zs2 ++ vs ++ [.ref c3])) := upd_same
        generalize upd H14 c5 (.lst (zs1 ++ zs2 ++ vs ++ [.ref c3])) = H15 at *
        have g10 : Same H10 H15 := f11.trans (f12.trans (f13.trans (f14.trans f15)))
        have dall := (((d1.mono g10).app (d2.mono g10)).app (hdv.mono g10)).app (.cons (.tup (SqT.of (f15 _ _ (f14 _ _ h13))) (.cons (.str "made") (.cons (.str "") .nil))) .nil)
        obtain ⟨v0, hv0, hdv0⟩ := dall.at (dueD_head (o1 := bothOf rs bs) (o2 := ringOf rs) (o3 := filtOf rs) (filt_head _ (fun r : Row => ((Str.ofString "both"), r.name)) rs) (filt_head _ (fun r : Row => ((Str.ofString "ring"), r.name)) rs) (filt_head _ (fun n : Str => ((Str.ofString "filter"), n)) (filtersOf rs)))
        refine ⟨_, _, _, _, rfl, rfl, SqL.of h15, atI_nat (j := 0) hv0, q _ _ (e09.trans (e10.trans g10)) hdv0⟩
end
end K34
/-! the pot and its digits; what a generator keeps -/
namespace K34
open PySem PySem.Spec PyProof.Rows L2
local macro_rules | `(tactic| walk_at "sm") => `(tactic| (repeat (first | exact Same.refl _ | assumption | refine Same.trans ?_ (same_new (by assumption) _) | refine Same.trans ?_ (by assumption))))
/-- all but the lists at S is as it was; the tuples too; nothing is lost -/
structure KP (S : List Addr) (H H' : Hp) : Prop where
  keep : ∀ b o, b ∉ S → H b = some o → H' b = some o
  tk : TK H H'
  free : ∀ b, H' b = none → H b = none
theorem KP.refl (S : List Addr) (H : Hp) : KP S H H := ⟨fun _ _ _ h => h, TK.refl H, fun _ h => h⟩
theorem KP.trans {S : List Addr} {H H1 H2 : Hp} (a : KP S H H1) (b : KP S H1 H2) : KP S H H2 := ⟨fun c o hc h => b.keep c o hc (a.keep c o hc h), a.tk.trans b.tk, fun c h => a.free c (b.free c h)⟩
theorem KP.of {S : List Addr} {H H' : Hp} (e : Same H H') : KP S H H' := ⟨fun b o _ h => e b o h, TK.of e, fun b h => e.free h⟩
theorem KP.same {H H' : Hp} (k : KP [] H H') : Same H H' := fun b o h => k.keep b o List.not_mem_nil h
theorem KP.sub {S S' : List Addr} {H H' : Hp} (k : KP S H H') (h : ∀ b ∈ S, b ∈ S') : KP S' H H' := ⟨fun b o hb => k.keep b o fun z => hb (h b z), k.tk, k.free⟩
theorem KP.set {S : List Addr} {H : Hp} {p : Addr} {xs ys : List V} (hp : p ∈ S) (h : H p = some (.lst xs)) : KP S H (upd H p (.lst ys)) :=
  ⟨fun b o hb q => by rw [upd_ne (fun z => hb (by rw [z]; exact hp))]; exact q, TK.lst h, fun b q => by
    by_cases e : b = p
    · subst e; rw [upd_same] at q; cases q
    · rw [upd_ne e] at q; exact q⟩
/-- a list that is new since H -/
theorem KP.new {S : List Addr} {H H' : Hp} {p : Addr} {xs ys : List V} (k : KP S H H') (hp : H p = none) (h : H' p = some (.lst xs)) : KP S H (upd H' p (.lst ys)) :=
  ⟨fun b o hb q => by rw [upd_ne (fun z => by rw [z, hp] at q; cases q)]; exact k.keep b o hb q, k.tk.trans (TK.lst h), fun b q => by
    by_cases e : b = p
    · subst e; exact hp
    · rw [upd_ne e] at q; exact k.free b q⟩
/-- the pot; at most N draws -/
def Pot (H : Hp) (p : Addr) (N : Int) : Prop := ∃ a b c : Int, H p = some (.lst [.int a, .int b, .int c]) ∧ 0 ≤ a ∧ 0 ≤ b ∧ b < 2147483648 ∧ 0 ≤ c ∧ c ≤ N
theorem Pot.up {H : Hp} {p : Addr} {N M : Int} (h : Pot H p N) (hN : N ≤ M) : Pot H p M := by
  obtain ⟨a, b, c, e, h1, h2, h3, h4, h5⟩ := h
  exact ⟨a, b, c, e, h1, h2, h3, h4, by omega⟩
theorem Pot.keep {S : List Addr} {H H' : Hp} {p : Addr} {N : Int} (k : KP S H H') (hp : p ∉ S) (h : Pot H p N) : Pot H' p N := by
  obtain ⟨a, b, c, e, h⟩ := h
  exact ⟨a, b, c, k.keep _ _ hp e, h⟩
theorem Pot.same {H H' : Hp} {p : Addr} {N : Int} (k : Same H H') (h : Pot H p N) : Pot H' p N := by
  obtain ⟨a, b, c, e, h⟩ := h
  exact ⟨a, b, c, k _ _ e, h⟩
theorem Pot.ne {H : Hp} {p q : Addr} {N : Int} (h : Pot H p N) (hq : H q = none) : p ≠ q := fun z => by
  obtain ⟨a, b, c, e, h⟩ := h
  rw [z, hq] at e
  cases e
theorem Pot.some {H : Hp} {p : Addr} {N : Int} (h : Pot H p N) : H p ≠ none := fun z => by
  obtain ⟨a, b, c, e, h⟩ := h
  rw [z] at e
  cases e
section
variable {P : Program} {w : World} {K : PySem.W.Frag} {mg : Str → Option Value} {base : Heap}
/-- what comes back from a generator: the pot drawn from at most k times more -/
def RetG (H : Hp) (Q : VK) (S : List Addr) (p : Addr) (N : Int) (P : V → Hp → Prop) : Prop := ∀ v H', KP S H H' → Pot H' p N → P v H' → Q v H'
def spDig : Sp := fun vs H Q _ => ∃ (p : Addr) (m N : Int), vs = [.ref p, .int m] ∧ 1 ≤ m ∧ m < 1073741824 ∧ N < 4611686018427387904 ∧ Pot H p N ∧ RetG H Q [p] p (N + 1) fun v _ => ∃ d : Int, v = .int d ∧ 0 ≤ d ∧ d < m
theorem ok__law_digit (T : TX K mg w) : FnOk P w K mg base CX0 1 T.a__law_digit T.d__law_digit p__law_digit spDig := by
  refine T.F__law_digit.ok sc__law_digit (fun vs H Q E h => ?_) (fun cdv A outer s H vs Q E hr h => ?_)
  · obtain ⟨p, m, N, rfl, _⟩ := h; rfl
  obtain ⟨p, m, N, rfl, m1, m2, hN, ⟨a, b, c, hp, ha, hb, hb2, hc, hcN⟩, q⟩ := h
  have nd := sc__law_digit.nd
  refine ⟨_, ((pss_cons (ps_if (pt_cmpR op_gt (pe_ix ix_list (pv 0) pe_int (fun _ _ => rfl)) pe_int (nomark _)) (pss_cons (ps_set (i := 2) nd rfl (Or.inl rfl) (pe_op op_mod (pe_ix ix_list (pv 0) pe_int (fun _ _ => rfl)) (pv 1)))
      (pss_cons (ps_asg (pe_op op_fdiv (pe_ix ix_list (pv 0) pe_int (fun _ _ => rfl)) (pv 1)) (pg_sub (pv 0) pe_int set_list))
      (pss_one (ps_ret (pv 2))))) pss_nil)
      (pss_cons (ps_asg (pe_op op_add (pe_ix ix_list (pv 0) pe_int (fun _ _ => rfl)) pe_int) (pg_sub (pv 0) pe_int set_list))
      (pss_cons (ps_asg (pe_op op_mod (pe_op op_add (pe_op op_add (pe_op op_mul (pe_ix ix_list (pv 0) pe_int (fun _ _ => rfl)) pe_int) (pe_op op_mul (pe_op op_mul (pe_ix ix_list (pv 0) pe_int (fun _ _ => rfl)) (pe_ix ix_list (pv 0) pe_int (fun _ _ => rfl))) pe_int)) pe_int) pe_int) (pg_sub (pv 0) pe_int set_list))
      (pss_cons (ps_set (i := 3) nd rfl (Or.inl rfl) (pe_op op_mod (pe_op op_mul (pe_ix ix_list (pv 0) pe_int (fun _ _ => rfl)) (pe_ix ix_list (pv 0) pe_int (fun _ _ => rfl))) pe_int))
      (pss_one (ps_ret (pe_op op_mod (pe_op op_fdiv (pe_op op_mod (pe_op op_mul (pv 3) (pe_op op_add (pe_op op_mod (pv 3) pe_int) pe_int)) pe_int) pe_int) (pv 1))))))))), ?_⟩
  refine ⟨_, rfl, p, _, _, _, rfl, rfl, SqL.of hp, atI_0, _, _, rfl, rfl, _, rfl, ?_⟩
  by_cases ha0 : 0 < a
  · refine if_t (decide_eq_true ha0) ?_
    refine ⟨_, rfl, p, _, _, _, rfl, rfl, SqL.of hp, atI_0, _, rfl, _, _, rfl, rfl, by omega, ?_⟩
    refine ⟨_, rfl, p, _, _, _, rfl, rfl, SqL.of hp, atI_0, _, rfl, _, _, rfl, rfl, ⟨by omega, m2⟩, ?_⟩
    refine ⟨_, rfl, p, _, 0, 0, rfl, rfl, hp, rfl, ?_⟩
    refine ⟨_, rfl, q _ _ (KP.set (by simp) hp) ⟨a / m, b, c, by rw [upd_same]; rfl, Int.ediv_nonneg ha (by omega), hb, hb2, hc, by omega⟩ ⟨a % m, rfl, Int.emod_nonneg _ (by omega), Int.emod_lt_of_pos _ (by omega)⟩⟩
  · refine if_f (decide_eq_false ha0) ?_
    refine ⟨_, rfl, p, _, _, _, rfl, rfl, SqL.of hp, (show atI [V.int a, V.int b, V.int c] 2 = some (.int c) from rfl), _, _, rfl, rfl, ?_⟩
    refine ⟨_, rfl, p, _, 2, 2, rfl, rfl, hp, rfl, ?_⟩
    have h1 : upd H p (.lst ([V.int a, V.int b, V.int c].set 2 (V.int (c + 1)))) p = some (.lst [.int a, .int b, .int (c + 1)]) := upd_same
    have k1 : KP [p] H (upd H p (.lst ([V.int a, V.int b, V.int c].set 2 (V.int (c + 1))))) := KP.set (by simp) hp
    generalize upd H p (.lst ([V.int a, V.int b, V.int c].set 2 (V.int (c + 1)))) = H1 at *
    have at1 : ∀ z : Int, atI [V.int a, V.int z, V.int (c + 1)] 1 = some (.int z) := fun z => rfl
    have at2 : atI [V.int a, V.int b, V.int (c + 1)] 2 = some (.int (c + 1)) := rfl
    refine ⟨_, rfl, p, _, _, _, rfl, rfl, SqL.of h1, at1 b, _, _, rfl, rfl, .inl ⟨by omega, by omega⟩, ?_⟩
    refine ⟨_, rfl, p, _, _, _, rfl, rfl, SqL.of h1, at2, _, rfl, p, _, _, _, rfl, rfl, SqL.of h1, at2, _, _, rfl, rfl, .inl ⟨by omega, by omega⟩, ?_⟩
    refine ⟨_, _, rfl, rfl, .inr ⟨by omega, by omega⟩, _, _, rfl, rfl, _, _, rfl, rfl, _, _, rfl, rfl, by omega, ?_⟩
    dsimp only
    generalize hz : (b * 39373 + (c + 1) * (c + 1) * 104729 + 7) % 2147483647 = z
    have hz0 : 0 ≤ z := by rw [← hz]; exact Int.emod_nonneg _ (by omega)
    have hz1 : z < 2147483647 := by rw [← hz]; exact Int.emod_lt_of_pos _ (by omega)
    refine ⟨_, rfl, p, _, 1, 1, rfl, rfl, h1, rfl, ?_⟩
    have h2 : upd H1 p (.lst ([V.int a, V.int b, V.int (c + 1)].set 1 (V.int z))) p = some (.lst [.int a, .int z, .int (c + 1)]) := upd_same
    have k2 : KP [p] H (upd H1 p (.lst ([V.int a, V.int b, V.int (c + 1)].set 1 (V.int z)))) := k1.trans (KP.set (by simp) h1)
    generalize upd H1 p (.lst ([V.int a, V.int b, V.int (c + 1)].set 1 (V.int z))) = H2 at *
    refine ⟨_, rfl, p, _, _, _, rfl, rfl, SqL.of h2, at1 z, _, rfl, p, _, _, _, rfl, rfl, SqL.of h2, at1 z, _, _, rfl, rfl, .inl ⟨by omega, by omega⟩, _, _, rfl, rfl, by omega, ?_⟩
    dsimp only
    generalize hy : z * z % 2147483629 = y
    have hy0 : 0 ≤ y := by rw [← hy]; exact Int.emod_nonneg _ (by omega)
    have hy1 : y < 2147483629 := by rw [← hy]; exact Int.emod_lt_of_pos _ (by omega)
    refine ⟨_, rfl, _, rfl, _, _, rfl, rfl, by omega, _, _, rfl, rfl, _, _, rfl, rfl, .inl ⟨by omega, by omega⟩, _, _, rfl, rfl, by omega, _, _, rfl, rfl, ⟨by decide, by decide⟩, _, rfl, _, _, rfl, rfl, by omega, ?_⟩
    exact q _ _ k2 ⟨a, z, c + 1, h2, ha, hz0, by omega, by omega, by omega⟩ ⟨_, rfl, Int.emod_nonneg _ (by omega), Int.emod_lt_of_pos _ (by omega)⟩
def spPot (K : PySem.W.Frag) : Sp := fun vs H Q _ => ∃ (a : Addr) (k : Int) (l : List Int), vs = [.ref a, .int k] ∧ SqL K H a (l.map V.int) ∧ 0 ≤ k ∧ k < 8 ∧ ∀ p H', Same H H' → H p = none → Pot H' p 0 → Q (.ref p) H'
theorem ok__law_pot (T : TX K mg w) : FnOk P w K mg base CX0 1 T.a__law_pot T.d__law_pot p__law_pot (spPot K) := by
  refine T.F__law_pot.ok sc__law_pot (fun vs H Q E h => ?_) (fun cdv A outer s H vs Q E hr h => ?_)
  · obtain ⟨p, m, l, rfl, _⟩ := h; rfl
  obtain ⟨a, k, l, rfl, ha, k0, k8, q⟩ := h
  have nd := sc__law_pot.nd
  refine ⟨_, ((pss_cons (ps_set (i := 2) nd rfl (Or.inl rfl) pe_int)
      (pss_cons (ps_if (pt_cmpR op_lt (pv 1) (pe_callB call_len_seq (by rfl) T.z_len PySem.boot_len (pa_cons (pv 0) pa_nil)) (nomark _)) (pss_one (ps_set (i := 2) nd rfl (Or.inl rfl) (pe_ix ix_list (pv 0) (pv 1) (fun _ _ => rfl)))) pss_nil)
      (pss_cons (ps_set (i := 3) nd rfl (Or.inl rfl) (pe_op op_mod (pe_op op_add (pe_op op_add (pe_op op_mul (pe_op op_mod (pv 2) pe_int) pe_int) (pe_op op_mul (pe_op op_mul pe_int (pv 1)) (pv 1))) pe_int) pe_int))
      (pss_one (ps_ret (pe_lst (pa_cons (pe_callB (call_max2 rfl) (by rfl) T.z_max (by decide +kernel) (pa_cons pe_int (pa_cons (pe_op op_sub (pv 2) (pe_op op_pow pe_int pe_int)) pa_nil))) (pa_cons (pv 3) (pa_cons pe_int pa_nil)))))))))), ?_⟩
  refine ⟨_, rfl, _, rfl, a, _, rfl, .inl ha, _, _, rfl, rfl, _, rfl, ?_⟩
  by_cases hk : k < (l.map V.int).length
  · refine if_t (decide_eq_true hk) ?_
    obtain ⟨j, rfl⟩ : ∃ j : Nat, k = j := ⟨k.toNat, by omega⟩
    have hj : j < l.length := by rw [List.length_map] at hk; omega
    refine ⟨_, rfl, _, rfl, a, _, _, _, rfl, rfl, ha, atI_nat (j := j) (v := .int l[j]) (by rw [List.getElem?_map, List.getElem?_eq_getElem hj]; rfl), ?_⟩
    generalize l[j] = cell
    refine ⟨_, rfl, _, _, rfl, rfl, by omega, _, _, rfl, rfl, .inr ⟨by omega, by omega⟩, ?_⟩
    refine ⟨_, rfl, _, _, rfl, rfl, .inl ⟨by omega, by omega⟩, _, rfl, _, _, rfl, rfl, .inr ⟨by omega, by omega⟩, _, _, rfl, rfl, _, _, rfl, rfl, _, _, rfl, rfl, by omega, ?_⟩
    refine ⟨_, rfl, _, _, rfl, rfl, ⟨by omega, by omega, by decide⟩, ?_⟩
    refine ⟨_, _, rfl, rfl, _, _, rfl, _, rfl, by show 3 ≤ sizeLine; decide, fun p hp => q _ _ (same_new hp _) hp ⟨_, _, _, upd_same, ?_, Int.emod_nonneg _ (by omega), ?_, by omega, by omega⟩⟩
    · show (0 : Int) ≤ if _ > (0 : Int) then _ else 0
      split <;> omega
    · exact Int.lt_of_lt_of_le (Int.emod_lt_of_pos _ (by omega)) (by omega)
  · refine if_f (decide_eq_false hk) ?_
    refine ⟨_, rfl, _, _, rfl, rfl, by omega, _, _, rfl, rfl, .inr ⟨by omega, by omega⟩, ?_⟩
    refine ⟨_, rfl, _, _, rfl, rfl, .inl ⟨by omega, by omega⟩, _, rfl, _, _, rfl, rfl, .inr ⟨by omega, by omega⟩, _, _, rfl, rfl, _, _, rfl, rfl, _, _, rfl, rfl, by omega, ?_⟩
    refine ⟨_, rfl, _, _, rfl, rfl, ⟨by omega, by omega, by decide⟩, ?_⟩
    refine ⟨_, _, rfl, rfl, _, _, rfl, _, rfl, by show 3 ≤ sizeLine; decide, fun p hp => q _ _ (same_new hp _) hp ⟨_, _, _, upd_same, ?_, Int.emod_nonneg _ (by omega), ?_, by omega, by omega⟩⟩
    · show (0 : Int) ≤ if _ > (0 : Int) then _ else 0
      split <;> omega
    · exact Int.lt_of_lt_of_le (Int.emod_lt_of_pos _ (by omega)) (by omega)
end
end K34
namespace K34
open PySem PySem.Spec PyProof.Rows L2
local macro_rules | `(tactic| walk_at "sm") => `(tactic| (repeat (first | exact Same.refl _ | assumption | refine Same.trans ?_ (same_new (by assumption) _) | refine Same.trans ?_ (by assumption))))
theorem join_chars (l : List Nat) : (Txt.join (Str.ofString "") (l.map fun c => (⟨#[c]⟩ : Str))).cps.toList = l := by
  have e0 : Str.ofString "" = (⟨#[]⟩ : Str) := by decide +kernel
  rw [e0]
  unfold Txt.join
  rw [PySem.StrLaws.glued_eq_join]
  induction l with
  | nil => rfl
  | cons c l ih =>
    cases l with
    | nil => rfl
    | cons d l =>
      rw [List.map_cons, List.map_cons] at *
      show (((#[c] : Array Nat) ++ (#[] : Array Nat)) ++ (Str.join ⟨#[]⟩ (⟨#[d]⟩ :: List.map (fun c => (⟨#[c]⟩ : Str)) l)).cps).toList = c :: d :: l
      rw [Array.toList_append, ih]
      rfl
theorem chars_sum (l : List Nat) : ((l.map fun c => (⟨#[c]⟩ : Str)).map (·.length)).sum = l.length := by
  induction l with
  | nil => rfl
  | cons c l ih =>
    rw [List.map_cons, List.map_cons, List.sum_cons, ih, List.length_cons]
    show 1 + l.length = l.length + 1
    omega
theorem e_len : (Str.ofString "").length = 0 := by decide +kernel
section
variable {P : Program} {w : World} {K : PySem.W.Frag} {mg : Str → Option Value} {base : Heap}
def spVal : Sp := fun vs H Q _ => ∃ (p : Addr) (k : Nat) (z : Str) (N : Int), vs = [.ref p, .int k, .str z] ∧ 1 ≤ z.length ∧ z.length ≤ 1000 ∧ k ≤ 8 ∧ N + 8 < 4611686018427387904 ∧ Pot H p N ∧
  RetG H Q [p] p (N + 8) fun v _ => ∃ x : Str, v = .str x ∧ x.length = k ∧ ∀ c ∈ x.cps.toList, c ∈ z.cps.toList
theorem ok__law_value (T : TX K mg w) (G__law_digit : FnOk P w K mg base CX0 1 T.a__law_digit T.d__law_digit p__law_digit spDig) : FnOk P w K mg base CX0 2 T.a__law_value T.d__law_value p__law_value spVal := by
  refine T.F__law_value.ok sc__law_value (fun vs H Q E h => ?_) (fun cdv A outer s H vs Q E hr h => ?_)
  · obtain ⟨p, k, z, N, rfl, _⟩ := h; rfl
  obtain ⟨p, k, z, N, rfl, z1, z2, k8, hN, hp, q⟩ := h
  have nd := sc__law_value.nd
  refine ⟨_, ((pss_one (ps_ret (pe_join pe_str (pe_lc (own := [("_law_k", 3)]) (g := gName 3) (tt := tYes) rfl nd (pi_range1 rfl T.z_range (pa_cons (pv 1) pa_nil)) (blkOk_by (N := n__law_value) (sc := defScope s__law_value) (by decide +kernel)) (fun _ _ _ _ _ => (pg_name (i := 3) nd rfl (Or.inl rfl))) (fun _ _ _ _ _ => pts_nil) (fun _ _ _ _ _ => (pe_ix ix_str (pv 2) (pe_call G__law_digit (hr.mono (by omega)) rfl T.m__law_digit T.k__law_digit T.b__law_digit .nil pass0 (pa_cons (pv 0) (pa_cons (pe_callB call_len_str (by rfl) T.z_len PySem.boot_len (pa_cons (pv 2) pa_nil)) pa_nil))) (fun _ _ => rfl)))))))), ?_⟩
  refine ⟨⟨_, rfl⟩, _, rfl, (k : Int), rfl, by omega, by omega, fun D hD => ?_⟩
  have hpD : p ≠ D := hp.ne hD
  refine lc_it (walk_range (lo := 0) (n := (k : Int).toNat)) (fun i H2 => KP [p] H H2 ∧ Pot H2 p (N + i) ∧ ∃ l : List Nat, H2 D = some (.lst ((l.map fun c => (⟨#[c]⟩ : Str)).map V.str)) ∧ l.length = i ∧ ∀ c ∈ l, c ∈ z.cps.toList)
    ⟨KP.of (same_new hD _), (hp.up (by simp)).same (same_new hD _), [], upd_same, rfl, fun c hc => absurd hc List.not_mem_nil⟩ (fun i H2 _ _ => True.intro) ?_ ?_
  · rintro i x _ H2 hi ⟨k2, hp2, l, hl, ll, hz⟩ ⟨rfl, rfl⟩
    have hi8 : i < 8 := by have : (k : Int).toNat = k := Int.toNat_natCast k; omega
    refine ⟨rfl, yes_go ?_⟩
    refine ⟨_, rfl, _, rfl, _, rfl, z, rfl, sz z2, ?_⟩
    refine ⟨p, (z.length : Nat), N + i, rfl, by omega, by omega, by omega, hp2, ?_⟩
    rintro _ H3 k3 hp3 ⟨d, rfl, d0, dm⟩
    obtain ⟨j, rfl⟩ : ∃ j : Nat, d = j := ⟨d.toNat, by omega⟩
    have hj : j < z.cps.toList.length := by show j < z.cps.toList.length; rw [Array.length_toList]; show j < z.length; omega
    have hl3 := k3.keep D _ (by simpa using hpD.symm) hl
    refine ⟨z, j, z.cps.toList[j], rfl, rfl, sz z2, atI_nat (j := j) (List.getElem?_eq_getElem hj), _, hl3, small1000 (by rw [List.length_map, List.length_map]; omega), (k2.trans k3).new hD hl3, ?_, l ++ [z.cps.toList[j]], by rw [upd_same]; simp, by simp [ll], fun c hc => ?_⟩
    · have : Pot H3 p (N + ((i + 1 : Nat) : Int)) := hp3.up (by omega)
      obtain ⟨a, b, c, e, h⟩ := this
      exact ⟨a, b, c, by rw [upd_ne hpD]; exact e, h⟩
    · rcases List.mem_append.mp hc with hc | hc
      · exact hz c hc
      · rw [List.mem_singleton.mp hc]
        exact List.getElem_mem _
  · rintro H2 ⟨k2, hp2, l, hl, ll, hz⟩
    refine ⟨_, D, l.map fun c => (⟨#[c]⟩ : Str), rfl, rfl, .inl (SqL.of hl), by rw [chars_sum, e_len, List.length_map, ll]; simp; omega, ?_⟩
    refine q _ _ k2 (hp2.up (by have : (k : Int).toNat = k := Int.toNat_natCast k; omega)) ⟨_, rfl, ?_, fun c hc => hz c (by rwa [join_chars] at hc)⟩
    show (Txt.join (Str.ofString "") (l.map fun c => (⟨#[c]⟩ : Str))).cps.size = k
    rw [← Array.length_toList, join_chars, ll]
    exact Int.toNat_natCast k
def spWid : Sp := fun vs H Q _ => ∃ (p : Addr) (N : Int), vs = [.ref p] ∧ N + 2 < 4611686018427387904 ∧ Pot H p N ∧ RetG H Q [p] p (N + 2) fun v _ => ∃ d : Nat, v = .int d ∧ 1 ≤ d ∧ d ≤ 8
theorem ok__law_width (T : TX K mg w) (G__law_digit : FnOk P w K mg base CX0 1 T.a__law_digit T.d__law_digit p__law_digit spDig) : FnOk P w K mg base CX0 2 T.a__law_width T.d__law_width p__law_width spWid := by
  refine T.F__law_width.ok sc__law_width (fun vs H Q E h => ?_) (fun cdv A outer s H vs Q E hr h => ?_)
  · obtain ⟨p, N, rfl, _⟩ := h; rfl
  obtain ⟨p, N, rfl, hN, hp, q⟩ := h
  have nd := sc__law_width.nd
  refine ⟨_, ((pss_one (ps_ret (pe_ix ix_list (pe_lst (pa_cons pe_int (pa_cons (pe_op op_add pe_int (pe_call G__law_digit (hr.mono (by omega)) rfl T.m__law_digit T.k__law_digit T.b__law_digit .nil pass0 (pa_cons (pv 0) (pa_cons pe_int pa_nil)))) pa_nil))) (pe_call G__law_digit (hr.mono (by omega)) rfl T.m__law_digit T.k__law_digit T.b__law_digit .nil pass0 (pa_cons (pv 0) (pa_cons pe_int pa_nil))) (fun _ _ => rfl))))), ?_⟩
  refine ⟨_, rfl, p, 8, N, rfl, by decide, by decide, by omega, hp, ?_⟩
  rintro _ H1 k1 hp1 ⟨d, rfl, d0, dm⟩
  refine ⟨_, _, rfl, rfl, by show 2 ≤ sizeLine; decide, fun D hD => ?_⟩
  have f1 : Same H1 (upd H1 D (.lst [.int 1, .int (1 + d)])) := same_new hD _
  have hDl : upd H1 D (.lst [.int 1, .int (1 + d)]) D = some (.lst [.int 1, .int (1 + d)]) := upd_same
  refine ⟨_, rfl, p, 2, N + 1, rfl, by decide, by decide, by omega, hp1.same f1, ?_⟩
  rintro _ H2 k2 hp2 ⟨e, rfl, e0, em⟩
  have hD2 := k2.keep D _ (by simpa using (hp1.ne hD).symm) hDl
  have hc : e = 0 ∨ e = 1 := by omega
  have kk : KP [p] H H2 := k1.trans ((KP.of f1).trans k2)
  have hp2' : Pot H2 p (N + 2) := hp2.up (by omega)
  rcases hc with rfl | rfl
  · exact ⟨D, _, _, _, rfl, rfl, SqL.of hD2, atI_0, q _ _ kk hp2' ⟨1, rfl, by decide, by decide⟩⟩
  · exact ⟨D, _, _, _, rfl, rfl, SqL.of hD2, (show atI [V.int 1, V.int (1 + d)] 1 = some (.int (1 + d)) from rfl), q _ _ kk hp2' ⟨(1 + d).toNat, congrArg V.int (by omega), by omega, by omega⟩⟩
end
end K34
namespace K34
open PySem PySem.Spec PyProof.Rows L2
local macro_rules | `(tactic| walk_at "sm") => `(tactic| (repeat (first | exact Same.refl _ | assumption | refine Same.trans ?_ (same_new (by assumption) _) | refine Same.trans ?_ (by assumption))))
/-- the signs of a name -/
structure Sh (x : Str) : Prop where
  pos : 1 ≤ x.length
  le : x.length ≤ 8
  hd : ∃ c, x.cps[0]? = some c ∧ c ∈ lowers
  all : ∀ c ∈ x.cps.toList, c ∈ lowers ∨ c ∈ digits
theorem Sh.nm {x : Str} (h : Sh x) (h1 : x ∉ wordsL) (h2 : x ∉ othersL) : IsNm x := ⟨h.pos, h.le, h.hd, h.all, h1, h2⟩
theorem IsNm.sh {x : Str} (h : IsNm x) : Sh x := ⟨h.pos, h.le, h.hd, h.all⟩
def shB (x : Str) : Bool := decide (1 ≤ x.length) && decide (x.length ≤ 8) && (match x.cps.toList with | [] => false | c :: _ => decide (c ∈ lowers)) && x.cps.toList.all fun c => decide (c ∈ lowers) || decide (c ∈ digits)
theorem shB_ok {x : Str} (h : shB x = true) : Sh x := by
  unfold shB at h
  simp only [Bool.and_eq_true, decide_eq_true_eq, List.all_eq_true, Bool.or_eq_true] at h
  obtain ⟨⟨⟨h1, h2⟩, h3⟩, h4⟩ := h
  refine ⟨h1, h2, ?_, h4⟩
  rw [← Array.getElem?_toList]
  split at h3
  · cases h3
  · rename_i c _ e
    exact ⟨c, by rw [e]; rfl, of_decide_eq_true h3⟩
theorem sh_of {c : Nat} {l : List Nat} {x : Str} (e : x.cps.toList = c :: l) (hc : c ∈ lowers) (hl : l.length ≤ 7) (ha : ∀ d ∈ l, d ∈ lowers ∨ d ∈ digits) : Sh x := by
  have el : x.length = l.length + 1 := by
    show x.cps.size = _
    rw [← Array.length_toList, e, List.length_cons]
  refine ⟨by omega, by omega, ⟨c, by rw [← Array.getElem?_toList, e]; rfl, hc⟩, fun d hd => ?_⟩
  rw [e] at hd
  rcases List.mem_cons.mp hd with rfl | hd
  · exact .inl hc
  · exact ha d hd
theorem Sh.split {x : Str} (h : Sh x) : ∃ c l, x.cps.toList = c :: l ∧ c ∈ lowers ∧ l.length ≤ 7 ∧ ∀ d ∈ l, d ∈ lowers ∨ d ∈ digits := by
  obtain ⟨c, hc, hl⟩ := h.hd
  rw [← Array.getElem?_toList] at hc
  have hlen : x.cps.toList.length ≤ 8 := by rw [Array.length_toList]; exact h.le
  cases e : x.cps.toList with
  | nil => rw [e] at hc; cases hc
  | cons d l =>
    rw [e] at hc hlen
    cases hc
    refine ⟨c, l, rfl, hl, by rw [List.length_cons] at hlen; omega, fun d hd => h.all d ?_⟩
    rw [e]
    exact List.mem_cons_of_mem _ hd
def signs36 : Str := Str.ofString "abcdefghijklmnopqrstuvwxyz0123456789"
theorem s36_in : ∀ c ∈ signs36.cps.toList, c ∈ lowers ∨ c ∈ digits := by
  have : (signs36.cps.toList.all fun c => decide (c ∈ lowers) || decide (c ∈ digits)) = true := by decide +kernel
  intro c hc
  have := List.all_eq_true.mp this c hc
  simpa using this
theorem s36_len : signs36.cps.toList.length = 36 := by decide +kernel
theorem s36_low {j c : Nat} (hj : j < 26) (h : signs36.cps.toList[j]? = some c) : c ∈ lowers := by
  have : ((signs36.cps.toList.take 26).all fun c => decide (c ∈ lowers)) = true := by decide +kernel
  have hm : c ∈ signs36.cps.toList.take 26 := by
    refine List.mem_of_getElem? (i := j) ?_
    rw [List.getElem?_take, if_pos hj]
    exact h
  exact of_decide_eq_true (List.all_eq_true.mp this c hm)
theorem s36_size : signs36.length ≤ sizeLine := by
  have : signs36.length = 36 := by
    show signs36.cps.size = 36
    rw [← Array.length_toList]
    exact s36_len
  exact sz (by omega)
/-- 'q0', 'q1', .. -/
def qs (h : Str) (k : Nat) : Str := h ++ Str.ofString (toString ((k : Nat) : Int))
def barredL : List Str := ["not", "and", "or", "xor", "plus", "same", "less", "any", "all", "pick", "join", "part", "is", "of", "at"]
def someL : List Str := ["now", "if", "else", "block", "input", "wire", "bus", "kept", "filter", "rise", "fall", "x", "z", "x1"]
theorem some_sh : ∀ x ∈ someL, Sh x := by
  have : (someL.all shB) = true := by decide +kernel
  exact fun x hx => shB_ok (List.all_eq_true.mp this x hx)
theorem barred_all {x : Str} (h : x ∉ barredL ++ [("filters" : Str), ("later" : Str)]) : x ∉ wordsL ∧ x ∉ othersL := by
  have h1 : (wordsL.all fun y => decide (y ∈ barredL ++ [("filters" : Str), ("later" : Str)])) = true := by decide +kernel
  have h2 : (othersL.all fun y => decide (y ∈ barredL ++ [("filters" : Str), ("later" : Str)])) = true := by decide +kernel
  exact ⟨fun hx => h (of_decide_eq_true (List.all_eq_true.mp h1 x hx)), fun hx => h (of_decide_eq_true (List.all_eq_true.mp h2 x hx))⟩
theorem qs_nm : ∀ k < 70, IsNm (qs "q" k) ∧ IsNm (qs "u" k) ∧ (Str.ofString (toString ((k : Nat) : Int))).length ≤ 2 := by
  have : ((List.range 70).all fun k => shB (qs "q" k) && shB (qs "u" k) && decide (qs "q" k ∉ wordsL) && decide (qs "q" k ∉ othersL) && decide (qs "u" k ∉ wordsL) && decide (qs "u" k ∉ othersL) && decide ((Str.ofString (toString ((k : Nat) : Int))).length ≤ 2)) = true := by decide +kernel
  intro k hk
  have := List.all_eq_true.mp this k (List.mem_range.mpr hk)
  simp only [Bool.and_eq_true, decide_eq_true_eq] at this
  obtain ⟨⟨⟨⟨⟨⟨h1, h2⟩, h3⟩, h4⟩, h5⟩, h6⟩, h7⟩ := this
  exact ⟨(shB_ok h1).nm h3 h4, (shB_ok h2).nm h5 h6, h7⟩
theorem qs_nd : ((List.range 70).map (qs "q")).Nodup ∧ ((List.range 70).map (qs "u")).Nodup := by decide +kernel
theorem qs_free {h : Str} {n : Nat} (nd : ((List.range 70).map (qs h)).Nodup) (hn : n ≤ 70) {l : List Str} (hl : l.length < n) : ((List.range n).map (qs h)).filter (fun x => decide (x ∉ l)) ≠ [] := by
  intro e
  rw [List.filter_eq_nil_iff] at e
  have sub : ∀ x ∈ (List.range n).map (qs h), x ∈ l := fun x hx => by
    have := e x hx
    simpa using this
  have nd' : ((List.range n).map (qs h)).Nodup := by
    have : (List.range n).map (qs h) = ((List.range 70).map (qs h)).take n := by
      rw [← List.map_take, List.take_range, Nat.min_eq_left hn]
    rw [this]
    exact nd.sublist (List.take_sublist _ _)
  have := nodup_sub nd' sub
  rw [List.length_map, List.length_range] at this
  omega
theorem cut8 {y : Str} {c : Nat} (h : Sh y) (hc : c ∈ lowers ∨ c ∈ digits) : Sh (cutS (y ++ ⟨#[c]⟩) none (some 8)) := by
  obtain ⟨a, l, e, ha, hl, hall⟩ := h.split
  have el : (y ++ (⟨#[c]⟩ : Str)).cps.toList = a :: (l ++ [c]) := by
    show (y.cps ++ (#[c] : Array Nat)).toList = _
    rw [Array.toList_append, e]
    rfl
  refine sh_of (c := a) (l := ((l ++ [c]).take 7)) ?_ ha (by rw [List.length_take]; omega) fun d hd => ?_
  · unfold cutS
    have hlen : (y ++ (⟨#[c]⟩ : Str)).length = l.length + 2 := by
      show (y ++ (⟨#[c]⟩ : Str)).cps.size = _
      rw [← Array.length_toList, el]
      simp
    rw [el, hlen, HT.sIx_none, show HT.sIx (l.length + 2) (l.length + 2) (some 8) = min 8 (l.length + 2) from HT.sIx_nat _ _ 8]
    show List.take (min 8 (l.length + 2) - 0) (List.drop 0 (a :: (l ++ [c]))) = _
    rw [List.drop_zero, Nat.sub_zero]
    have : min 8 (l.length + 2) = min 7 (l.length + 1) + 1 := by omega
    rw [this, List.take_succ_cons]
    have e2 : List.take (min 7 (l.length + 1)) (l ++ [c]) = List.take 7 (l ++ [c]) := by
      rw [← List.take_take (i := 7) (j := l.length + 1), List.take_of_length_le (i := l.length + 1) (by simp)]
    rw [e2]
  · rcases List.mem_append.mp (List.mem_of_mem_take hd) with hd | hd
    · exact hall d hd
    · rw [List.mem_singleton.mp hd]; exact hc
end K34
namespace K34
open PySem PySem.Spec PyProof.Rows L2
local macro_rules | `(tactic| walk_at "sm") => `(tactic| (repeat (first | exact Same.refl _ | assumption | refine Same.trans ?_ (same_new (by assumption) _) | refine Same.trans ?_ (by assumption))))
section
variable {P : Program} {w : World} {K : PySem.W.Frag} {mg : Str → Option Value} {base : Heap}
def spName : Sp := fun vs H Q _ => ∃ (p t : Addr) (l : List Str) (N : Int), vs = [.ref p, .ref t] ∧ p ≠ t ∧ H t = some (.lst (l.map V.str)) ∧ (∀ x ∈ l, IsNm x) ∧ l.length ≤ 50 ∧ N + 20 < 4611686018427387904 ∧ Pot H p N ∧
  RetG H Q [p, t] p (N + 20) fun v H' => ∃ x : Str, v = .str x ∧ IsNm x ∧ x ∉ l ∧ H' t = some (.lst ((l ++ [x]).map V.str))
theorem ok__law_name (T : TX K mg w) (G__law_digit : FnOk P w K mg base CX0 1 T.a__law_digit T.d__law_digit p__law_digit spDig) : FnOk P w K mg base CX0 2 T.a__law_name T.d__law_name p__law_name spName := by
  refine T.F__law_name.ok sc__law_name (fun vs H Q E h => ?_) (fun cdv A outer s H vs Q E hr h => ?_)
  · obtain ⟨p, t, l, N, rfl, _⟩ := h; rfl
  obtain ⟨p, t, l, N, rfl, hpt, ht, hnm, l50, hN, hp, q⟩ := h
  have nd := sc__law_name.nd
  have tail : ∃ u, PSs (cxOf CX0 P w K mg base n__law_name (Str.ofString "_law_name") (defScope s__law_name) T.a__law_name cdv A outer s H E).nox ((defBody s__law_name).drop 8) u ∧
      ∀ (x : Str) (wy : V) (Db Ds : Addr) (H' : Hp), Sh x → KP [p] H H' → Pot H' p (N + 20) → H' Db = some (.lst (barredL.map V.str)) →
        u { nx := fun _ H' => Q .non H', rt := Q } [some (.ref p), some (.ref t), some (.str signs36), some (.ref Db), some (.ref Ds), some wy, some (.str x), none, none] H' := by
    refine ⟨_, ((pss_cons (ps_if (pt_cmpR op_in_seq (pv 6) (pe_op op_cat (pe_op op_cat (pv 1) (pv 3)) (pe_lst (pa_cons pe_str (pa_cons pe_str pa_nil)))) (by rfl)) (pss_one (ps_set (i := 6) nd rfl (Or.inl rfl) (pe_ix ix_list (pe_lc (own := [("_law_one", 8)]) (g := gName 8) rfl nd (pi_list (pe_lc (own := [("_law_k", 7)]) (g := gName 7) (tt := tYes) rfl nd (pi_range1 rfl T.z_range (pa_cons pe_int pa_nil)) (blkOk_by (N := n__law_name) (sc := defScope s__law_name) (by decide +kernel)) (fun _ _ _ _ _ => (pg_name (i := 7) nd rfl (Or.inl rfl))) (fun _ _ _ _ _ => pts_nil) (fun _ _ _ _ _ => (pe_op op_add_str pe_str (pe_callTy call_str_int (by rfl) T.z_str (by decide +kernel) (pa_cons (pv 7) pa_nil)))))) (blkOk_by (N := n__law_name) (sc := defScope s__law_name) (by decide +kernel)) (fun _ _ _ _ _ => (pg_name (i := 8) nd rfl (Or.inl rfl))) (fun _ _ _ _ _ => pts_one (pt_cmpR (op_notIn_seqK (K := K) rfl) (pv 8) (pv 1) (by rfl))) (fun _ _ _ _ _ => (pv 8))) pe_int (fun _ _ => rfl)))) pss_nil)
      (pss_cons (ps_expr (pe_bm PySem.F.plainAttrs_list PySem.F.slot_list_append PySem.F.type_list_append mt_append (pv 1) (pa_cons (pv 6) pa_nil)))
      (pss_one (ps_ret (pv 6)))))), ?_⟩
    intro x wy Db Ds H1 hx k1 hp1 hDb
    have ht1 : H1 t = some (.lst (l.map V.str)) := k1.keep _ _ (by simpa using hpt.symm) ht
    -- the end: append, return
    have fin : ∀ (x : Str) (H2 : Hp), IsNm x → x ∉ l → KP [p] H H2 → Pot H2 p (N + 20) → H2 t = some (.lst (l.map V.str)) → Q (.str x) (upd H2 t (.lst ((l.map V.str) ++ [.str x]))) := by
      intro x H2 nx xl k2 hp2 ht2
      refine q _ _ ((k2.sub (by simp)).trans (KP.set (by simp) ht2)) ?_ ⟨x, rfl, nx, xl, by rw [upd_same]; simp⟩
      obtain ⟨a, b, c, e, h⟩ := hp2
      exact ⟨a, b, c, by rw [upd_ne hpt]; exact e, h⟩
    refine ⟨_, rfl, _, rfl, _, rfl, t, Db, _, _, rfl, rfl, ht1, hDb, by rw [sizeLine_eq]; simp only [List.length_map]; show l.length + 15 ≤ 16777216; omega, fun D1 hD1 => ?_⟩
    have f1 : Same H1 (upd H1 D1 (.lst (l.map V.str ++ barredL.map V.str))) := same_new hD1 _
    have h1 : upd H1 D1 (.lst (l.map V.str ++ barredL.map V.str)) D1 = some (.lst (l.map V.str ++ barredL.map V.str)) := upd_same
    generalize upd H1 D1 (.lst (l.map V.str ++ barredL.map V.str)) = H2 at *
    refine ⟨by show 2 ≤ sizeLine; decide, fun D2 hD2 => ?_⟩
    have f2 : Same H2 (upd H2 D2 (.lst [.str "filters", .str "later"])) := same_new hD2 _
    have h2 : upd H2 D2 (.lst [.str "filters", .str "later"]) D2 = some (.lst [.str "filters", .str "later"]) := upd_same
    generalize upd H2 D2 (.lst [.str "filters", .str "later"]) = H3 at *
    refine ⟨D1, D2, _, _, rfl, rfl, f2 _ _ h1, h2, by rw [sizeLine_eq]; simp only [List.length_map, List.length_append]; show l.length + 15 + 2 ≤ 16777216; omega, fun D3 hD3 => ?_⟩
    have f3 : Same H3 (upd H3 D3 (.lst (l.map V.str ++ barredL.map V.str ++ [.str "filters", .str "later"]))) := same_new hD3 _
    have h3 : upd H3 D3 (.lst (l.map V.str ++ barredL.map V.str ++ [.str "filters", .str "later"])) D3 = some (.lst ((l ++ (barredL ++ [("filters" : Str), ("later" : Str)])).map V.str)) := by rw [upd_same]; simp
    generalize upd H3 D3 (.lst (l.map V.str ++ barredL.map V.str ++ [.str "filters", .str "later"])) = H4 at *
    have f14 := f1.trans (f2.trans f3)
    have k4 : KP [p] H H4 := k1.trans (KP.of f14)
    have hp4 := hp1.same f14
    have ht4 := f14 _ _ ht1
    refine ⟨D3, _, rfl, .inl (SqL.of h3), rfl, flat_strs _, _, rfl, ?_⟩
    by_cases hin : x ∈ l ++ (barredL ++ [("filters" : Str), ("later" : Str)])
    · refine if_t (by show inV (V.str x) ((l ++ (barredL ++ [("filters" : Str), ("later" : Str)])).map V.str) = true; rw [inV_str]; exact decide_eq_true hin) ?_
      refine ⟨60, rfl, by decide, by decide, fun D5 hD5 => ?_⟩
      refine lcD (K := K) (walk_range (lo := 0) (n := (60 : Int).toNat)) ((List.range 60).map fun k => PyData.str (qs "q" k)) (by simp) (by decide) (noLs_iff.mpr fun d hd => by rw [List.mem_map] at hd; obtain ⟨u, _, rfl⟩ := hd; rfl) hD5 (fun _ _ => True.intro) (fun _ _ _ _ y => by rw [y.1]; exact Same.refl _) ?_ gm_name ?_
      · rintro i y _ H5 e hi he e5 ⟨rfl, rfl⟩ Qy hy
        have hi60 : i < 60 := hi
        rw [List.getElem?_map, List.getElem?_range hi60] at he
        cases he
        refine ⟨rfl, _, rfl, _, rfl, ?_⟩
        have l2 := (qs_nm i (by omega)).2.2
        refine ⟨by show Nat.log2 ((0 : Int) + (i : Int)).natAbs < 1920; exact Nat.lt_of_le_of_lt (Nat.log2_le_self _) (by omega), _, _, rfl, rfl, ?_, ?_⟩
        · rw [show (0 : Int) + (i : Int) = ((i : Nat) : Int) by omega]
          have : (Str.ofString "q").length = 1 := by decide +kernel
          rw [sizeLine_eq]
          omega
        · rw [show (0 : Int) + (i : Int) = ((i : Nat) : Int) by omega]
          exact hy _ _ (Same.refl _) (.str _)
      · intro ys H5 e5 hys hr5
        obtain rfl : ys = ((List.range 60).map (qs "q")).map V.str := (show DpAll K H5 ys (((List.range 60).map (qs "q")).map PyData.str) by rw [List.map_map]; exact hr5).strs
        refine ⟨D5, rfl, ⟨_, SqL.of hys⟩, fun D6 hD6 => ?_⟩
        have ht5 := e5 _ _ ht4
        refine lcO (K := K) walk_list (((List.range 60).map (qs "q")).map fun x => if decide (x ∉ l) = true then some (PyData.str x) else none) (by simp) (by simp) (fun d hd => by
            rw [List.mem_map] at hd
            obtain ⟨r, _, e⟩ := hd
            split at e <;> cases e
            rfl) hD6 (fun _ e => SqL.of (e _ _ hys)) yat_same ?_ ?_
        · rintro i y _ H6 e hi he e6 ⟨rfl, hy⟩ Qy Qn hyy hnn
          rw [List.getElem?_map] at he hy
          cases hqi : ((List.range 60).map (qs "q"))[i]? with
          | none => rw [hqi] at he; cases he
          | some z =>
            rw [hqi] at he hy
            cases he; cases hy
            refine ⟨rfl, _, rfl, _, rfl, t, _, rfl, .inl (SqL.of (e6 _ _ ht5)), rfl, flat_strs l, _, rfl, ?_⟩
            by_cases hz : z ∈ l
            · refine if_f (by show (!inV (V.str z) (l.map V.str)) = false; rw [inV_str, decide_eq_true hz]; rfl) ?_
              exact hnn (if_neg (fun e => (of_decide_eq_true e) hz)) _ (Same.refl _)
            · refine if_t (by show (!inV (V.str z) (l.map V.str)) = true; rw [inV_str, decide_eq_false hz]; rfl) ?_
              exact ⟨_, rfl, hyy _ (if_pos (decide_eq_true hz)) _ _ (Same.refl _) (.str _)⟩
        · intro zs H6 e6 hzs hr6
          rw [filt_map (fun x : Str => decide (x ∉ l)) (fun x => PyData.str x)] at hr6
          obtain rfl := hr6.strs
          have hne := qs_free (h := "q") (n := 60) qs_nd.1 (by decide) (l := l) (by omega)
          cases hq : ((List.range 60).map (qs "q")).filter (fun x => decide (x ∉ l)) with
          | nil => exact absurd hq hne
          | cons z zl =>
            rw [hq] at hzs
            have hz : z ∈ ((List.range 60).map (qs "q")).filter (fun x => decide (x ∉ l)) := by rw [hq]; exact List.mem_cons_self
            obtain ⟨hz1, hz2⟩ := List.mem_filter.mp hz
            rw [List.mem_map] at hz1
            obtain ⟨k, hk, rfl⟩ := hz1
            have hk60 := List.mem_range.mp hk
            refine ⟨D6, _, _, _, rfl, rfl, SqL.of hzs, atI_0, ?_⟩
            have ht6 := e6 _ _ (e5 _ _ ht4)
            have e46 := e5.trans e6
            refine ⟨_, rfl, .inl ⟨rfl, _, SqL.of ht6⟩, _, rfl, t, _, _, rfl, rfl, ht6, small1000 (by rw [List.length_map]; omega), ?_⟩
            exact ⟨_, rfl, fin _ _ (qs_nm k (by omega)).1 (of_decide_eq_true hz2) (k4.trans (KP.of e46)) (hp4.same e46) ht6⟩
    · refine if_f (by show inV (V.str x) ((l ++ (barredL ++ [("filters" : Str), ("later" : Str)])).map V.str) = false; rw [inV_str]; exact decide_eq_false hin) ?_
      rw [List.mem_append, not_or] at hin
      obtain ⟨b1, b2⟩ := barred_all hin.2
      refine ⟨_, rfl, .inl ⟨rfl, _, SqL.of ht4⟩, _, rfl, t, _, _, rfl, rfl, ht4, small1000 (by rw [List.length_map]; omega), ?_⟩
      exact ⟨_, rfl, fin _ _ (hx.nm b1 b2) hin.1 k4 hp4 ht4⟩
  obtain ⟨u, hu2, tl⟩ := tail
  refine ⟨_, (pss_cons (ps_set (i := 2) nd rfl (Or.inr rfl) pe_str)
      (pss_cons (ps_set (i := 3) nd rfl (Or.inl rfl) (pe_lst (pa_cons pe_str (pa_cons pe_str (pa_cons pe_str (pa_cons pe_str (pa_cons pe_str (pa_cons pe_str (pa_cons pe_str (pa_cons pe_str (pa_cons pe_str (pa_cons pe_str (pa_cons pe_str (pa_cons pe_str (pa_cons pe_str (pa_cons pe_str (pa_cons pe_str pa_nil)))))))))))))))))
      (pss_cons (ps_set (i := 4) nd rfl (Or.inl rfl) (pe_lst (pa_cons pe_str (pa_cons pe_str (pa_cons pe_str (pa_cons pe_str (pa_cons pe_str (pa_cons pe_str (pa_cons pe_str (pa_cons pe_str (pa_cons pe_str (pa_cons pe_str (pa_cons pe_str (pa_cons pe_str (pa_cons pe_str (pa_cons pe_str pa_nil))))))))))))))))
      (pss_cons (ps_set (i := 5) nd rfl (Or.inl rfl) (pe_call G__law_digit (hr.mono (by omega)) rfl T.m__law_digit T.k__law_digit T.b__law_digit .nil pass0 (pa_cons (pv 0) (pa_cons pe_int pa_nil))))
      (pss_cons (ps_set (i := 6) nd rfl (Or.inl rfl) (pe_ix ix_str (pv 2) (pe_call G__law_digit (hr.mono (by omega)) rfl T.m__law_digit T.k__law_digit T.b__law_digit .nil pass0 (pa_cons (pv 0) (pa_cons pe_int pa_nil))) (fun _ _ => rfl)))
      (pss_cons (ps_if (pt_cmpR op_eq (pv 5) pe_int (nomark _)) (pss_one (ps_set (i := 6) nd rfl (Or.inl rfl) (pe_op op_add_str (pv 6) (pe_join pe_str (pe_lc (own := [("_law_k", 7)]) (g := gName 7) (tt := tYes) rfl nd (pi_range1 rfl T.z_range (pa_cons (pe_call G__law_digit (hr.mono (by omega)) rfl T.m__law_digit T.k__law_digit T.b__law_digit .nil pass0 (pa_cons (pv 0) (pa_cons pe_int pa_nil))) pa_nil)) (blkOk_by (N := n__law_name) (sc := defScope s__law_name) (by decide +kernel)) (fun _ _ _ _ _ => (pg_name (i := 7) nd rfl (Or.inl rfl))) (fun _ _ _ _ _ => pts_nil) (fun _ _ _ _ _ => (pe_ix ix_str (pv 2) (pe_call G__law_digit (hr.mono (by omega)) rfl T.m__law_digit T.k__law_digit T.b__law_digit .nil pass0 (pa_cons (pv 0) (pa_cons pe_int pa_nil))) (fun _ _ => rfl)))))))) pss_nil)
      (pss_cons (ps_if (PW.pt (pw_and (pt_cmpR op_eq (pv 5) pe_int (nomark _)) (pw_and1 (pt_cmpR (op_neD hr.units) (pv 1) (pe_lst pa_nil) (nomark _))))) (pss_one (ps_set (i := 6) nd rfl (Or.inl rfl) (pe_slice sl_str (pe_op op_add_str (pe_ix ix_list (pv 1) (pe_call G__law_digit (hr.mono (by omega)) rfl T.m__law_digit T.k__law_digit T.b__law_digit .nil pass0 (pa_cons (pv 0) (pa_cons (pe_callB call_len_seq (by rfl) T.z_len PySem.boot_len (pa_cons (pv 1) pa_nil)) pa_nil))) (fun _ _ => rfl)) (pe_ix ix_str (pv 2) (pe_call G__law_digit (hr.mono (by omega)) rfl T.m__law_digit T.k__law_digit T.b__law_digit .nil pass0 (pa_cons (pv 0) (pa_cons pe_int pa_nil))) (fun _ _ => rfl))) po_none (po_some pe_int)))) pss_nil)
      (pss_cons (ps_if (pt_cmpR op_eq (pv 5) pe_int (nomark _)) (pss_one (ps_set (i := 6) nd rfl (Or.inl rfl) (pe_ix ix_list (pv 4) (pe_call G__law_digit (hr.mono (by omega)) rfl T.m__law_digit T.k__law_digit T.b__law_digit .nil pass0 (pa_cons (pv 0) (pa_cons (pe_callB call_len_seq (by rfl) T.z_len PySem.boot_len (pa_cons (pv 4) pa_nil)) pa_nil))) (fun _ _ => rfl)))) pss_nil)
      hu2)))))))), ?_⟩
  refine ⟨by show 15 ≤ sizeLine; decide, fun Db hDb => ⟨by show 14 ≤ sizeLine; decide, fun Ds hDs => ?_⟩⟩
  have f1 : Same H (upd H Db (.lst (barredL.map V.str))) := same_new hDb _
  have h1 : upd H Db (.lst (barredL.map V.str)) Db = some (.lst (barredL.map V.str)) := upd_same
  have f2 : Same (upd H Db (.lst (barredL.map V.str))) (upd (upd H Db (.lst (barredL.map V.str))) Ds (.lst (someL.map V.str))) := same_new hDs _
  have h2 : upd (upd H Db (.lst (barredL.map V.str))) Ds (.lst (someL.map V.str)) Ds = some (.lst (someL.map V.str)) := upd_same
  have h12 := f2 _ _ h1
  have f12 := f1.trans f2

  have hp2 := hp.same f12
  refine ⟨_, rfl, p, 4, N, rfl, by decide, by decide, by omega, hp2, ?_⟩
  rintro _ H3 k3 hp3 ⟨d, rfl, d0, dm⟩
  refine ⟨_, rfl, _, rfl, p, 26, N + 1, rfl, by decide, by decide, by omega, hp3, ?_⟩
  rintro _ H4 k4 hp4 ⟨e, rfl, e0, em⟩
  obtain ⟨j, rfl⟩ : ∃ j : Nat, e = j := ⟨e.toNat, by omega⟩
  have hj : j < signs36.cps.toList.length := by rw [s36_len]; omega
  have gj : signs36.cps.toList[j]? = some signs36.cps.toList[j] := List.getElem?_eq_getElem hj
  have low := s36_low (by omega) gj
  generalize signs36.cps.toList[j] = c0 at *
  refine ⟨signs36, j, c0, rfl, rfl, s36_size, atI_nat (j := j) gj, ?_⟩
  have sh0 : Sh (⟨#[c0]⟩ : Str) := sh_of (c := c0) (l := []) rfl low (by decide) (fun d hd => absurd hd List.not_mem_nil)
  have kk : KP [p] H H4 := (KP.of f12).trans (k3.trans k4)
  have hDb4 : H4 Db = some (.lst (barredL.map V.str)) := k4.keep _ _ (by simpa using (hp.ne hDb).symm) (k3.keep _ _ (by simpa using (hp.ne hDb).symm) h12)
  have hDsp : Ds ≠ p := fun z => by rw [z] at hDs; exact (hp.same f1).some hDs
  have hDs4 : H4 Ds = some (.lst (someL.map V.str)) := k4.keep _ _ (by simpa using hDsp) (k3.keep _ _ (by simpa using hDsp) h2)
  have ht4 : H4 t = some (.lst (l.map V.str)) := kk.keep _ _ (by simpa using hpt.symm) ht
  refine ⟨_, rfl, rfl, _, rfl, ?_⟩
  have hc : d = 0 ∨ d = 1 ∨ d = 2 ∨ d = 3 := by omega
  rcases hc with rfl | rfl | rfl | rfl
  · refine if_t rfl ?_
    refine ⟨_, rfl, ⟨_, rfl⟩, ?_⟩
    refine ⟨_, rfl, p, 8, N + 2, rfl, by decide, by decide, by omega, hp4.up (by omega), ?_⟩
    rintro _ H5 k5 hp5 ⟨m, rfl, m0, mm⟩
    obtain ⟨k, rfl⟩ : ∃ k : Nat, m = k := ⟨m.toNat, by omega⟩
    refine ⟨(k : Int), rfl, by omega, by omega, fun D hD => ?_⟩
    have hpD : p ≠ D := hp5.ne hD
    have tok : ((k : Int)).toNat = k := Int.toNat_natCast k
    refine lc_it (walk_range (lo := 0) (n := (k : Int).toNat)) (fun i H6 => KP [p] H5 H6 ∧ Pot H6 p (N + 3 + i) ∧ ∃ cs : List Nat, H6 D = some (.lst ((cs.map fun c => (⟨#[c]⟩ : Str)).map V.str)) ∧ cs.length = i ∧ ∀ c ∈ cs, c ∈ signs36.cps.toList)
      ⟨KP.of (same_new hD _), (hp5.up (by omega)).same (same_new hD _), [], upd_same, rfl, fun c hc => absurd hc List.not_mem_nil⟩ (fun i H2 _ _ => True.intro) ?_ ?_
    · rintro i x _ H6 hi ⟨k6, hp6, cs, hl, ll, hz⟩ ⟨rfl, rfl⟩
      have hi8 : i < 8 := by omega
      refine ⟨rfl, yes_go ?_⟩
      refine ⟨_, rfl, _, rfl, p, 36, N + 3 + i, rfl, by decide, by decide, by omega, hp6, ?_⟩
      rintro _ H7 k7 hp7 ⟨d, rfl, d0, dm⟩
      obtain ⟨j, rfl⟩ : ∃ j : Nat, d = j := ⟨d.toNat, by omega⟩
      have hj : j < signs36.cps.toList.length := by rw [s36_len]; omega
      have hl7 := k7.keep D _ (by simpa using hpD.symm) hl
      refine ⟨signs36, j, signs36.cps.toList[j], rfl, rfl, s36_size, atI_nat (j := j) (List.getElem?_eq_getElem hj), _, hl7, small1000 (by rw [List.length_map, List.length_map]; omega), (k6.trans k7).new hD hl7, ?_, cs ++ [signs36.cps.toList[j]], by rw [upd_same]; simp, by simp [ll], fun c hc => ?_⟩
      · have : Pot H7 p (N + 3 + ((i + 1 : Nat) : Int)) := hp7.up (by omega)
        obtain ⟨a, b, c, e, h⟩ := this
        exact ⟨a, b, c, by rw [upd_ne hpD]; exact e, h⟩
      · rcases List.mem_append.mp hc with hc | hc
        · exact hz c hc
        · rw [List.mem_singleton.mp hc]
          exact List.getElem_mem _
    · rintro H6 ⟨k6, hp6, cs, hl, ll, hz⟩
      refine ⟨_, D, cs.map fun c => (⟨#[c]⟩ : Str), rfl, rfl, .inl (SqL.of hl), by rw [chars_sum, e_len, List.length_map, ll]; simp; omega, ?_⟩
      have jl := join_chars cs
      generalize Txt.join (Str.ofString "") (cs.map fun c => (⟨#[c]⟩ : Str)) = js at *
      have jlen : js.length = cs.length := by
        show js.cps.size = _
        rw [← Array.length_toList, jl]
      refine ⟨_, _, rfl, rfl, by rw [sizeLine_eq, jlen]; show 1 + cs.length ≤ 16777216; omega, ?_⟩
      have sh1 : Sh ((⟨#[c0]⟩ : Str) ++ js) := sh_of (c := c0) (l := cs) (by
        show ((#[c0] : Array Nat) ++ js.cps).toList = _
        rw [Array.toList_append, jl]
        rfl) low (by omega) (fun d hd => s36_in d (hz d hd))
      refine ⟨_, rfl, rfl, _, rfl, if_f rfl (if_f rfl ?_)⟩
      refine ⟨_, rfl, rfl, _, rfl, if_f rfl ?_⟩
      have k56 := k5.trans k6
      exact tl _ _ Db Ds H6 sh1 (kk.trans k56) (hp6.up (by omega)) (k56.keep _ _ (by simpa using (hp.ne hDb).symm) hDb4)
  · refine if_f rfl ?_
    refine ⟨_, rfl, rfl, _, rfl, if_t rfl ?_⟩
    refine ⟨_, rfl, by show 0 ≤ sizeLine; decide, fun D5 hD5 => ?_⟩
    have f5 : Same H4 (upd H4 D5 (.lst [])) := same_new hD5 _
    refine ⟨.list (l.map PyData.str), .list [], .lst (SqL.of (f5 _ _ ht4)) (dpa_strs l), .lst (SqL.of upd_same) .nil, shaped_strs hnm, rfl, _, rfl, ?_⟩
    have ht5 := f5 _ _ ht4
    have hDb5 := f5 _ _ hDb4
    have hp5 := hp4.same f5
    generalize upd H4 D5 (.lst []) = H5 at *
    cases l with
    | nil =>
      refine if_f rfl ?_
      refine ⟨_, rfl, rfl, _, rfl, if_f rfl ?_⟩
      exact tl _ _ Db Ds H5 sh0 (kk.trans (KP.of f5)) (hp5.up (by omega)) hDb5
    | cons y0 l' =>
      refine if_t rfl ?_
      have ll : (List.map V.str (y0 :: l')).length = (y0 :: l').length := List.length_map _
      have lpos : 1 ≤ (y0 :: l').length := by simp
      refine ⟨_, rfl, _, rfl, _, rfl, t, _, rfl, .inl (SqL.of ht5), ?_⟩
      refine ⟨p, _, N + 2, rfl, by rw [ll]; omega, by rw [ll]; omega, by omega, hp5.up (by omega), ?_⟩
      rintro _ H6 k6 hp6 ⟨d, rfl, d0, dm⟩
      obtain ⟨i, rfl⟩ : ∃ i : Nat, d = i := ⟨d.toNat, by omega⟩
      have hi : i < (y0 :: l').length := by rw [ll] at dm; omega
      have ht6 := k6.keep _ _ (by simpa using hpt.symm) ht5
      have gi : (List.map V.str (y0 :: l'))[i]? = some (.str (y0 :: l')[i]) := by rw [List.getElem?_map, List.getElem?_eq_getElem hi]; rfl
      have nmy := hnm _ (List.getElem_mem hi)
      generalize (y0 :: l')[i] = y at *
      refine ⟨t, _, _, _, rfl, rfl, SqL.of ht6, atI_nat (j := i) gi, ?_⟩
      refine ⟨_, rfl, _, rfl, p, 36, N + 3, rfl, by decide, by decide, by omega, hp6.up (by omega), ?_⟩
      rintro _ H7 k7 hp7 ⟨d, rfl, d0, dm⟩
      obtain ⟨j, rfl⟩ : ∃ j : Nat, d = j := ⟨d.toNat, by omega⟩
      have hj : j < signs36.cps.toList.length := by rw [s36_len]; omega
      refine ⟨signs36, j, signs36.cps.toList[j], rfl, rfl, s36_size, atI_nat (j := j) (List.getElem?_eq_getElem hj), ?_⟩
      refine ⟨_, _, rfl, rfl, by have := nmy.le; rw [sizeLine_eq]; show y.length + 1 ≤ 16777216; omega, ?_⟩
      have csz : (y ++ (⟨#[signs36.cps.toList[j]]⟩ : Str)).length ≤ sizeLine := by
        have := nmy.le
        have e : (y ++ (⟨#[signs36.cps.toList[j]]⟩ : Str)).length = y.length + 1 := by
          show (y.cps ++ (#[signs36.cps.toList[j]] : Array Nat)).size = y.cps.size + 1
          rw [Array.size_append]
          rfl
        rw [e]
        exact sz (by omega)
      refine ⟨_, rfl, _, rfl, csz, ?_⟩
      have sh1 := cut8 nmy.sh (s36_in _ (List.getElem_mem hj))
      refine ⟨_, rfl, rfl, _, rfl, if_f rfl ?_⟩
      have k67 := k6.trans k7
      exact tl _ _ Db Ds H7 sh1 (kk.trans ((KP.of f5).trans k67)) (hp7.up (by omega)) (k67.keep _ _ (by simpa using (hp.ne hDb).symm) hDb5)
  · refine if_f rfl ?_
    refine ⟨_, rfl, rfl, _, rfl, if_f rfl (if_f rfl ?_)⟩
    refine ⟨_, rfl, rfl, _, rfl, if_t rfl ?_⟩
    refine ⟨_, rfl, _, rfl, _, rfl, Ds, _, rfl, .inl (SqL.of hDs4), ?_⟩
    have l14 : ((List.map V.str someL).length : Int) = 14 := by decide +kernel
    refine ⟨p, _, N + 2, rfl, by rw [l14]; decide, by rw [l14]; decide, by omega, hp4.up (by omega), ?_⟩
    rintro _ H5 k5 hp5 ⟨d, rfl, d0, dm⟩
    obtain ⟨i, rfl⟩ : ∃ i : Nat, d = i := ⟨d.toNat, by omega⟩
    have hi : i < someL.length := by have : someL.length = 14 := by decide +kernel
                                     omega
    have gi : (List.map V.str someL)[i]? = some (.str someL[i]) := by rw [List.getElem?_map, List.getElem?_eq_getElem hi]; rfl
    have shy := some_sh _ (List.getElem_mem hi)
    refine ⟨Ds, _, _, _, rfl, rfl, SqL.of (k5.keep _ _ (by simpa using hDsp) hDs4), atI_nat (j := i) gi, ?_⟩
    exact tl _ _ Db Ds H5 shy (kk.trans k5) (hp5.up (by omega)) (k5.keep _ _ (by simpa using (hp.ne hDb).symm) hDb4)
  · refine if_f rfl ?_
    refine ⟨_, rfl, rfl, _, rfl, if_f rfl (if_f rfl ?_)⟩
    refine ⟨_, rfl, rfl, _, rfl, if_f rfl ?_⟩
    exact tl _ _ Db Ds H4 sh0 kk (hp4.up (by omega)) hDb4
end
end K34
namespace K34
open PySem PySem.Spec PyProof.Rows L2
local macro_rules | `(tactic| walk_at "sm") => `(tactic| (repeat (first | exact Same.refl _ | assumption | refine Same.trans ?_ (same_new (by assumption) _) | refine Same.trans ?_ (by assumption))))
def nameD (p : Str × Int) : PyData := .tuple [.str p.1, .int p.2]
theorem names_noL (g : Ctx) : noLs (g.map nameD) = true := noLs_iff.mpr fun d hd => by rw [List.mem_map] at hd; obtain ⟨u, _, rfl⟩ := hd; rfl
/-- a list of names with their widths -/
structure NL (K : PySem.W.Frag) (H : Hp) (a : Addr) (g : Ctx) : Prop where
  ex : ∃ xs, H a = some (.lst xs) ∧ DpAll K H xs (g.map nameD)
theorem NL.same {K : PySem.W.Frag} {H H' : Hp} {a : Addr} {g : Ctx} (e : Same H H') (h : NL K H a g) : NL K H' a g := by
  obtain ⟨xs, h1, h2⟩ := h.ex
  exact ⟨xs, e _ _ h1, h2.mono e⟩
theorem NL.keep {K : PySem.W.Frag} {S : List Addr} {H H' : Hp} {a : Addr} {g : Ctx} (k : KP S H H') (ha : a ∉ S) (h : NL K H a g) : NL K H' a g := by
  obtain ⟨xs, h1, h2⟩ := h.ex
  exact ⟨xs, k.keep _ _ ha h1, h2.tk k.tk (names_noL g)⟩
theorem name_inv {K : PySem.W.Frag} {H : Hp} {v : V} {q : Str × Int} (h : Dp K H v (nameD q)) : ∃ a : Addr, v = .ref a ∧ SqT K H a [.str q.1, .int q.2] := by
  obtain ⟨a, xs, rfl, hs, h⟩ := Dp.tup_inv h
  obtain ⟨v0, _, rfl, h0, r0⟩ := DpAll.cons_inv h
  obtain ⟨v1, _, rfl, h1, r1⟩ := DpAll.cons_inv r0
  obtain rfl := DpAll.nil_inv r1
  obtain rfl := Dp.str_inv h0
  obtain rfl := Dp.int_inv h1
  exact ⟨a, rfl, hs⟩
theorem names_at {K : PySem.W.Frag} {H : Hp} {xs : List V} {g : Ctx} {i : Nat} {x : V} (hd : DpAll K H xs (g.map nameD)) (hx : xs[i]? = some x) : ∃ q, g[i]? = some q ∧ ∃ a : Addr, x = .ref a ∧ SqT K H a [.str q.1, .int q.2] := by
  obtain ⟨d, hd', hxd⟩ := hd.get hx
  rw [List.getElem?_map] at hd'
  cases hri : g[i]? with
  | none => rw [hri] at hd'; cases hd'
  | some r => rw [hri] at hd'; cases hd'; exact ⟨r, rfl, name_inv hxd⟩
theorem sqt_mono {K : PySem.W.Frag} {H H' : Hp} {a : Addr} {xs : List V} (e : Same H H') (h : SqT K H a xs) : SqT K H' a xs := Evl.ex_t e h
theorem bits01x {x : Str} (h : ∀ c ∈ x.cps.toList, c ∈ (Str.ofString "01x").cps.toList) : Bits x := fun c hc => by
  have h1 := h c hc
  have : ((Str.ofString "01x").cps.toList.all fun c => decide (c = 48 ∨ c = 49 ∨ c = 120)) = true := by decide +kernel
  exact of_decide_eq_true (List.all_eq_true.mp this c h1)
theorem l01x : (Str.ofString "01x").length = 3 := by decide +kernel
section
variable {P : Program} {w : World} {K : PySem.W.Frag} {mg : Str → Option Value} {base : Heap}
def spLeaf (K : PySem.W.Frag) : Sp := fun vs H Q _ => ∃ (p nm : Addr) (g : Ctx) (wd N : Int), vs = [.ref p, .ref nm, .int wd] ∧ p ≠ nm ∧ NL K H nm g ∧ (∀ x k, (x, k) ∈ g → IsNm x) ∧ g.length ≤ 1000 ∧ 1 ≤ wd ∧ wd ≤ 8 ∧ N + 10 < 4611686018427387904 ∧ Pot H p N ∧
  RetG H Q [p] p (N + 10) fun v H' => ∃ t : Tm, Ok g 1 wd t ∧ Dp K H' v t.d
theorem ok__law_leaf (T : TX K mg w) (G__law_digit : FnOk P w K mg base CX0 1 T.a__law_digit T.d__law_digit p__law_digit spDig) (G__law_value : FnOk P w K mg base CX0 2 T.a__law_value T.d__law_value p__law_value spVal) :
    FnOk P w K mg base CX0 3 T.a__law_leaf T.d__law_leaf p__law_leaf (spLeaf K) := by
  refine T.F__law_leaf.ok sc__law_leaf (fun vs H Q E h => ?_) (fun cdv A outer s H vs Q E hr h => ?_)
  · obtain ⟨p, nm, g, wd, N, rfl, _⟩ := h; rfl
  obtain ⟨p, nm, g, wd, N, rfl, hpn, ⟨xs, hx, hd⟩, hnm, g1000, w1, w8, hN, hp, q⟩ := h
  have nd := sc__law_leaf.nd
  refine ⟨_, ((pss_cons (ps_setLc (i := 3) (own := [("_law_name_here", 4), ("_law_wide", 5)]) (g := gTup K 2 (gCons (gName 4) (gCons (gName 5) gNil))) rfl nd rfl rfl (sw_true rfl rfl rfl (by decide +kernel)) (pi_list (pv 1)) (blkOk_by (N := n__law_leaf) (sc := defScope s__law_leaf) (by decide +kernel)) (fun _ _ _ _ _ => (pg_tup rfl (pgs_cons (pg_name (i := 4) nd rfl (Or.inl rfl)) (pgs_cons (pg_name (i := 5) nd rfl (Or.inl rfl)) pgs_nil)))) (fun _ _ _ _ _ => pts_one (pt_cmpR op_eq (pv 5) (pv 2) (nomark _))) (fun _ _ _ _ _ => (pv 4)))
      (pss_cons (ps_if (PW.pt (pw_and (pt_cmpR (op_neD hr.units) (pv 3) (pe_lst pa_nil) (nomark _)) (pw_and1 (pt_cmpR op_gt (pe_call G__law_digit (hr.mono (by omega)) rfl T.m__law_digit T.k__law_digit T.b__law_digit .nil pass0 (pa_cons (pv 0) (pa_cons pe_int pa_nil))) pe_int (nomark _))))) (pss_one (ps_ret (pe_tup (pa_cons pe_str (pa_cons (pe_ix ix_list (pv 3) (pe_call G__law_digit (hr.mono (by omega)) rfl T.m__law_digit T.k__law_digit T.b__law_digit .nil pass0 (pa_cons (pv 0) (pa_cons (pe_callB call_len_seq (by rfl) T.z_len PySem.boot_len (pa_cons (pv 3) pa_nil)) pa_nil))) (fun _ _ => rfl)) pa_nil))))) pss_nil)
      (pss_one (ps_ret (pe_tup (pa_cons pe_str (pa_cons (pe_call G__law_value (hr.mono (by omega)) rfl T.m__law_value T.k__law_value T.b__law_value .nil pass0 (pa_cons (pv 0) (pa_cons (pv 2) (pa_cons pe_str pa_nil)))) pa_nil)))))))), ?_⟩
  have lxs := hd.length
  rw [List.length_map] at lxs
  refine ⟨_, rfl, nm, rfl, ⟨xs, SqL.of hx⟩, fun D hD => ?_⟩
  refine lcO (K := K) walk_list (g.map fun r => if decide (r.2 = wd) = true then some (PyData.str r.1) else none) (by rw [List.length_map, lxs]) (by omega) (fun d hd => by
      rw [List.mem_map] at hd
      obtain ⟨r, _, e⟩ := hd
      split at e <;> cases e
      rfl) hD (fun _ e => SqL.of (e _ _ hx)) yat_same ?_ ?_
  · rintro i y _ H3 e hi he e3 ⟨rfl, hy⟩ Qy Qn hyy hnn
    obtain ⟨r, hri, c, rfl, hc⟩ := names_at hd hy
    rw [List.getElem?_map, hri] at he
    cases he
    refine ⟨c, _, rfl, sqt_mono e3 hc, rfl, _, _, rfl, _, _, rfl, rfl, ?_⟩
    refine ⟨rfl, _, rfl, _, rfl, rfl, _, rfl, ?_⟩
    by_cases hs : r.2 = wd
    · refine if_t (decide_eq_true (by rw [hs])) ?_
      exact ⟨_, rfl, hyy _ (if_pos (decide_eq_true hs)) _ _ (Same.refl _) (.str _)⟩
    · refine if_f (decide_eq_false fun z => hs (V.int.inj z)) ?_
      exact hnn (if_neg (fun z => hs (of_decide_eq_true z))) _ (Same.refl _)
  · intro ys H1 e1 hys hr1
    rw [filt_map (fun r : Str × Int => decide (r.2 = wd)) (fun r => PyData.str r.1)] at hr1
    obtain rfl : ys = ((g.filter fun r => decide (r.2 = wd)).map (·.1)).map V.str := (show DpAll K H1 ys (((g.filter fun r => decide (r.2 = wd)).map (·.1)).map PyData.str) by rw [List.map_map]; exact hr1).strs
    have hsome : ∀ x ∈ (g.filter fun r => decide (r.2 = wd)).map (·.1), (x, wd) ∈ g := fun x hx => by
      rw [List.mem_map] at hx
      obtain ⟨r, hr', rfl⟩ := hx
      obtain ⟨h1, h2⟩ := List.mem_filter.mp hr'
      have := of_decide_eq_true h2
      rw [← this]
      exact h1
    have lsome : ((g.filter fun r => decide (r.2 = wd)).map (·.1)).length ≤ 1000 := by
      rw [List.length_map]
      exact Nat.le_trans (List.length_filter_le _ _) g1000
    generalize (g.filter fun r => decide (r.2 = wd)).map (·.1) = so at *
    have hp1 := hp.same e1
    refine ⟨_, rfl, by show 0 ≤ sizeLine; decide, fun D5 hD5 => ?_⟩
    have f5 : Same H1 (upd H1 D5 (.lst [])) := same_new hD5 _
    refine ⟨.list (so.map PyData.str), .list [], .lst (SqL.of (f5 _ _ hys)) (dpa_strs so), .lst (SqL.of upd_same) .nil, shaped_strs fun x hx => hnm _ _ (hsome x hx), rfl, _, rfl, ?_⟩
    have hys5 := f5 _ _ hys
    have hp5 := hp1.same f5
    have e5 := e1.trans f5
    generalize upd H1 D5 (.lst []) = H5 at *
    have pD : D ≠ p := fun z => by rw [z] at hD; exact hp.some hD
    -- the value
    have val : ∀ (H6 : Hp), KP [p] H H6 → Pot H6 p (N + 1) → ∀ (Q' : VK), (∀ v H', KP [p] H6 H' → Pot H' p (N + 10) → (∃ x : Str, v = .str x ∧ (x.length : Int) = wd ∧ Bits x) → Q' v H') → spVal [.ref p, .int wd, .str "01x"] H6 Q' E0 := by
      intro H6 k6 hp6 Q' hq'
      obtain ⟨k, rfl⟩ : ∃ k : Nat, wd = k := ⟨wd.toNat, by omega⟩
      refine ⟨p, k, "01x", N + 1, rfl, by rw [l01x]; decide, by rw [l01x]; decide, by omega, by omega, hp6, ?_⟩
      rintro v H7 k7 hp7 ⟨x, rfl, hl, hz⟩
      exact hq' _ _ k7 (hp7.up (by omega)) ⟨x, rfl, by rw [hl], bits01x hz⟩
    have last : ∀ (H6 : Hp), KP [p] H H6 → Pot H6 p (N + 1) → ∀ (x : Str) (H7 : Hp), KP [p] H6 H7 → Pot H7 p (N + 10) → (x.length : Int) = wd → Bits x → ∀ D7, H7 D7 = none → Q (.ref D7) (upd H7 D7 (.tup [.str "is", .str x])) := by
      intro H6 k6 hp6 x H7 k7 hp7 hl hb D7 hD7
      exact q _ _ (k6.trans (k7.trans (KP.of (same_new hD7 _)))) (hp7.same (same_new hD7 _)) ⟨.is x, .is hl w1 w8 hb, .tup (SqT.of upd_same) (.cons (.str _) (.cons (.str _) .nil))⟩
    cases so with
    | nil =>
      refine if_f rfl (if_f rfl ?_)
      refine ⟨_, rfl, _, rfl, val H5 (KP.of e5) (hp5.up (by omega)) _ ?_⟩
      rintro _ H7 k7 hp7 ⟨x, rfl, hl, hb⟩
      exact ⟨by show 2 ≤ sizeLine; decide, fun D7 hD7 => last H5 (KP.of e5) (hp5.up (by omega)) x H7 k7 hp7 hl hb D7 hD7⟩
    | cons s0 so' =>
      refine if_t rfl ?_
      refine ⟨_, rfl, p, 4, N, rfl, by decide, by decide, by omega, hp5, ?_⟩
      rintro _ H6 k6 hp6 ⟨d, rfl, d0, dm⟩
      have k06 : KP [p] H H6 := (KP.of e5).trans k6
      refine ⟨_, _, rfl, rfl, _, rfl, ?_⟩
      by_cases hd0 : 0 < d
      · refine if_t (decide_eq_true hd0) ?_
        have hys6 := k6.keep _ _ (by simpa using pD) hys5
        have ll : (List.map V.str (s0 :: so')).length = (s0 :: so').length := List.length_map _
        have lpos : 1 ≤ (s0 :: so').length := by simp
        refine ⟨_, rfl, _, rfl, _, rfl, D, _, rfl, .inl (SqL.of hys6), ?_⟩
        refine ⟨p, _, N + 1, rfl, by rw [ll]; omega, by rw [ll]; omega, by omega, hp6, ?_⟩
        rintro _ H7 k7 hp7 ⟨d, rfl, d0, dm⟩
        obtain ⟨i, rfl⟩ : ∃ i : Nat, d = i := ⟨d.toNat, by omega⟩
        have hi : i < (s0 :: so').length := by rw [ll] at dm; omega
        have hys7 := k7.keep _ _ (by simpa using pD) hys6
        have gi : (List.map V.str (s0 :: so'))[i]? = some (.str (s0 :: so')[i]) := by rw [List.getElem?_map, List.getElem?_eq_getElem hi]; rfl
        have gm := hsome _ (List.getElem_mem hi)
        refine ⟨D, _, _, _, rfl, rfl, SqL.of hys7, atI_nat (j := i) gi, by show 2 ≤ sizeLine; decide, fun D8 hD8 => ?_⟩
        exact q _ _ (k06.trans (k7.trans (KP.of (same_new hD8 _)))) ((hp7.up (by omega)).same (same_new hD8 _)) ⟨.of _, .of gm, .tup (SqT.of upd_same) (.cons (.str _) (.cons (.str _) .nil))⟩
      · refine if_f (decide_eq_false hd0) ?_
        refine ⟨_, rfl, _, rfl, val H6 k06 hp6 _ ?_⟩
        rintro _ H7 k7 hp7 ⟨x, rfl, hl, hb⟩
        exact ⟨by show 2 ≤ sizeLine; decide, fun D7 hD7 => last H6 k06 hp6 x H7 k7 hp7 hl hb D7 hD7⟩
end
end K34
namespace K34
open PySem PySem.Spec PyProof.Rows L2
local macro_rules | `(tactic| walk_at "sm") => `(tactic| (repeat (first | exact Same.refl _ | assumption | refine Same.trans ?_ (same_new (by assumption) _) | refine Same.trans ?_ (by assumption))))
def word4 : List Str := ["and", "or", "xor", "plus"]
def wordL : List Str := ["same", "less", "any", "all"]
theorem word4_at {i : Nat} (h : i < 4) (w : Int) : ∃ o, word4[i]? = some o ∧ O2 o w w w := by
  match i, h with
  | 0, _ => exact ⟨_, rfl, .and w⟩
  | 1, _ => exact ⟨_, rfl, .or w⟩
  | 2, _ => exact ⟨_, rfl, .xor w⟩
  | 3, _ => exact ⟨_, rfl, .plus w⟩
theorem wordL_at {i : Nat} (h : i < 4) (w : Int) : ∃ o, wordL[i]? = some o ∧ ((inV (.str o) [.str "any", .str "all"] = true ∧ O1 o w 1) ∨ (inV (.str o) [.str "any", .str "all"] = false ∧ O2 o w w 1)) := by
  match i, h with
  | 0, _ => exact ⟨_, rfl, .inr ⟨by decide +kernel, .same w⟩⟩
  | 1, _ => exact ⟨_, rfl, .inr ⟨by decide +kernel, .less w⟩⟩
  | 2, _ => exact ⟨_, rfl, .inl ⟨by decide +kernel, .any w⟩⟩
  | 3, _ => exact ⟨_, rfl, .inl ⟨by decide +kernel, .all w⟩⟩
section
variable {P : Program} {w : World} {K : PySem.W.Frag} {mg : Str → Option Value} {base : Heap}
def spTerm (K : PySem.W.Frag) (m : Nat) (c : Int) : Sp := fun vs H Q _ => ∃ (p nm : Addr) (g : Ctx) (wd N : Int) (deep : Nat), vs = [.ref p, .ref nm, .int wd, .int deep] ∧ m = deep + 1 ∧ p ≠ nm ∧ NL K H nm g ∧ (∀ x k, (x, k) ∈ g → IsNm x) ∧ g.length ≤ 1000 ∧ 1 ≤ wd ∧ wd ≤ 8 ∧ N + c < 4611686018427387904 ∧ Pot H p N ∧
  RetG H Q [p] p (N + c) fun v H' => ∃ t : Tm, Ok g m wd t ∧ Dp K H' v t.d
theorem ok__law_term1 (T : TX K mg w) (n : Nat) (c : Int) (hc : 20 ≤ c) (G__law_digit : FnOk P w K mg base CX0 1 T.a__law_digit T.d__law_digit p__law_digit spDig) (G__law_leaf : FnOk P w K mg base CX0 3 T.a__law_leaf T.d__law_leaf p__law_leaf (spLeaf K))
    (G__law_term : FnOk P w K mg base CX0 (n + 3) T.a__law_term T.d__law_term p__law_term (spTerm K n c)) : FnOk P w K mg base CX0 (n + 1 + 3) T.a__law_term T.d__law_term p__law_term (spTerm K (n + 1) (4 * c)) := by
  refine T.F__law_term.ok sc__law_term (fun vs H Q E h => ?_) (fun cdv A outer s H vs Q E hr h => ?_)
  · obtain ⟨p, nm, g, wd, N, deep, rfl, _⟩ := h; rfl
  obtain ⟨p, nm, g, wd, N, deep, rfl, hm, hpn, hnl, hnm, g1000, w1, w8, hN, hp, q⟩ := h
  obtain rfl : n = deep := by omega
  have nd := sc__law_term.nd
  refine ⟨_, ((pss_cons (ps_set (i := 4) nd rfl (Or.inl rfl) (pe_call G__law_digit (hr.mono (by omega)) rfl T.m__law_digit T.k__law_digit T.b__law_digit .nil pass0 (pa_cons (pv 0) (pa_cons pe_int pa_nil))))
      (pss_cons (ps_set (i := 5) nd rfl (Or.inl rfl) (pe_op op_add (pv 2) (pe_call G__law_digit (hr.mono (by omega)) rfl T.m__law_digit T.k__law_digit T.b__law_digit .nil pass0 (pa_cons (pv 0) (pa_cons (pe_op op_sub pe_int (pv 2)) pa_nil)))))
      (pss_cons (ps_if (PW.pt (pw_or (pt_cmpR op_eq (pv 3) pe_int (nomark _)) (pw_or1 (pt_cmpR op_lt (pv 4) pe_int (nomark _))))) (pss_one (ps_ret (pe_call G__law_leaf (hr.mono (by omega)) rfl T.m__law_leaf T.k__law_leaf T.b__law_leaf .nil pass0 (pa_cons (pv 0) (pa_cons (pv 1) (pa_cons (pv 2) pa_nil)))))) pss_nil)
      (pss_cons (ps_if (pt_cmpR op_eq (pv 4) pe_int (nomark _)) (pss_one (ps_ret (pe_tup (pa_cons pe_str (pa_cons (pe_call G__law_term (hr.mono (by omega)) rfl T.m__law_term T.k__law_term T.b__law_term .nil pass0 (pa_cons (pv 0) (pa_cons (pv 1) (pa_cons (pv 2) (pa_cons (pe_op op_sub (pv 3) pe_int) pa_nil))))) pa_nil))))) pss_nil)
      (pss_cons (ps_if (pt_cmpR op_lt (pv 4) pe_int (nomark _)) (pss_cons (ps_set (i := 6) nd rfl (Or.inl rfl) (pe_ix ix_list (pe_lst (pa_cons pe_str (pa_cons pe_str (pa_cons pe_str (pa_cons pe_str pa_nil))))) (pe_call G__law_digit (hr.mono (by omega)) rfl T.m__law_digit T.k__law_digit T.b__law_digit .nil pass0 (pa_cons (pv 0) (pa_cons pe_int pa_nil))) (fun _ _ => rfl)))
      (pss_one (ps_ret (pe_tup (pa_cons (pv 6) (pa_cons (pe_call G__law_term (hr.mono (by omega)) rfl T.m__law_term T.k__law_term T.b__law_term .nil pass0 (pa_cons (pv 0) (pa_cons (pv 1) (pa_cons (pv 2) (pa_cons (pe_op op_sub (pv 3) pe_int) pa_nil))))) (pa_cons (pe_call G__law_term (hr.mono (by omega)) rfl T.m__law_term T.k__law_term T.b__law_term .nil pass0 (pa_cons (pv 0) (pa_cons (pv 1) (pa_cons (pv 2) (pa_cons (pe_op op_sub (pv 3) pe_int) pa_nil))))) pa_nil))))))) pss_nil)
      (pss_cons (ps_if (pt_cmpR op_eq (pv 4) pe_int (nomark _)) (pss_cons (ps_set (i := 7) nd rfl (Or.inl rfl) (pe_call G__law_term (hr.mono (by omega)) rfl T.m__law_term T.k__law_term T.b__law_term .nil pass0 (pa_cons (pv 0) (pa_cons (pv 1) (pa_cons pe_int (pa_cons (pe_op op_sub (pv 3) pe_int) pa_nil))))))
      (pss_one (ps_ret (pe_tup (pa_cons pe_str (pa_cons (pv 7) (pa_cons (pe_call G__law_term (hr.mono (by omega)) rfl T.m__law_term T.k__law_term T.b__law_term .nil pass0 (pa_cons (pv 0) (pa_cons (pv 1) (pa_cons (pv 2) (pa_cons (pe_op op_sub (pv 3) pe_int) pa_nil))))) (pa_cons (pe_call G__law_term (hr.mono (by omega)) rfl T.m__law_term T.k__law_term T.b__law_term .nil pass0 (pa_cons (pv 0) (pa_cons (pv 1) (pa_cons (pv 2) (pa_cons (pe_op op_sub (pv 3) pe_int) pa_nil))))) pa_nil)))))))) pss_nil)
      (pss_cons (ps_if (PW.pt (pw_and (pt_cmpR op_eq (pv 4) pe_int (nomark _)) (pw_and1 (pt_cmpR op_gt (pv 2) pe_int (nomark _))))) (pss_cons (ps_set (i := 8) nd rfl (Or.inl rfl) (pe_op op_add pe_int (pe_call G__law_digit (hr.mono (by omega)) rfl T.m__law_digit T.k__law_digit T.b__law_digit .nil pass0 (pa_cons (pv 0) (pa_cons (pe_op op_sub (pv 2) pe_int) pa_nil)))))
      (pss_one (ps_ret (pe_tup (pa_cons pe_str (pa_cons (pe_call G__law_term (hr.mono (by omega)) rfl T.m__law_term T.k__law_term T.b__law_term .nil pass0 (pa_cons (pv 0) (pa_cons (pv 1) (pa_cons (pv 8) (pa_cons (pe_op op_sub (pv 3) pe_int) pa_nil))))) (pa_cons (pe_call G__law_term (hr.mono (by omega)) rfl T.m__law_term T.k__law_term T.b__law_term .nil pass0 (pa_cons (pv 0) (pa_cons (pv 1) (pa_cons (pe_op op_sub (pv 2) (pv 8)) (pa_cons (pe_op op_sub (pv 3) pe_int) pa_nil))))) pa_nil))))))) pss_nil)
      (pss_cons (ps_if (PW.pt (pw_or (pt_cmpR op_eq (pv 4) pe_int (nomark _)) (pw_or1 (pt_cmpR op_gt (pv 2) pe_int (nomark _))))) (pss_cons (ps_set (i := 9) nd rfl (Or.inl rfl) (pe_call G__law_digit (hr.mono (by omega)) rfl T.m__law_digit T.k__law_digit T.b__law_digit .nil pass0 (pa_cons (pv 0) (pa_cons (pe_op op_add (pe_op op_sub (pv 5) (pv 2)) pe_int) pa_nil))))
      (pss_one (ps_ret (pe_tup (pa_cons pe_str (pa_cons (pe_call G__law_term (hr.mono (by omega)) rfl T.m__law_term T.k__law_term T.b__law_term .nil pass0 (pa_cons (pv 0) (pa_cons (pv 1) (pa_cons (pv 5) (pa_cons (pe_op op_sub (pv 3) pe_int) pa_nil))))) (pa_cons (pe_op op_sub (pe_op op_add (pv 9) (pv 2)) pe_int) (pa_cons (pv 9) pa_nil)))))))) pss_nil)
      (pss_cons (ps_set (i := 6) nd rfl (Or.inl rfl) (pe_ix ix_list (pe_lst (pa_cons pe_str (pa_cons pe_str (pa_cons pe_str (pa_cons pe_str pa_nil))))) (pe_call G__law_digit (hr.mono (by omega)) rfl T.m__law_digit T.k__law_digit T.b__law_digit .nil pass0 (pa_cons (pv 0) (pa_cons pe_int pa_nil))) (fun _ _ => rfl)))
      (pss_cons (ps_if (pt_cmpR op_in_seq (pv 6) (pe_tup (pa_cons pe_str (pa_cons pe_str pa_nil))) (by rfl)) (pss_one (ps_ret (pe_tup (pa_cons (pv 6) (pa_cons (pe_call G__law_term (hr.mono (by omega)) rfl T.m__law_term T.k__law_term T.b__law_term .nil pass0 (pa_cons (pv 0) (pa_cons (pv 1) (pa_cons (pv 5) (pa_cons (pe_op op_sub (pv 3) pe_int) pa_nil))))) pa_nil))))) pss_nil)
      (pss_one (ps_ret (pe_tup (pa_cons (pv 6) (pa_cons (pe_call G__law_term (hr.mono (by omega)) rfl T.m__law_term T.k__law_term T.b__law_term .nil pass0 (pa_cons (pv 0) (pa_cons (pv 1) (pa_cons (pv 5) (pa_cons (pe_op op_sub (pv 3) pe_int) pa_nil))))) (pa_cons (pe_call G__law_term (hr.mono (by omega)) rfl T.m__law_term T.k__law_term T.b__law_term .nil pass0 (pa_cons (pv 0) (pa_cons (pv 1) (pa_cons (pv 5) (pa_cons (pe_op op_sub (pv 3) pe_int) pa_nil))))) pa_nil))))))))))))))))), ?_⟩
  refine ⟨_, rfl, p, 10, N, rfl, by decide, by decide, by omega, hp, ?_⟩
  rintro _ H1 k1 hp1 ⟨d, rfl, d0, dm⟩
  refine ⟨_, rfl, _, rfl, _, rfl, _, _, rfl, rfl, p, _, N + 1, rfl, by omega, by omega, by omega, hp1, ?_⟩
  rintro _ H2 k2 hp2 ⟨e, rfl, e0, em⟩
  refine ⟨_, _, rfl, rfl, ?_⟩
  have ho1 : 1 ≤ wd + e := by omega
  have ho8 : wd + e ≤ 8 := by omega
  dsimp only
  generalize hoth : wd + e = oth at *
  have k12 := k1.trans k2
  have leaf : spLeaf K [.ref p, .ref nm, .int wd] H2 Q E0 := by
    refine ⟨p, nm, g, wd, N + 2, rfl, hpn, hnl.keep k12 (by simpa using hpn.symm), hnm, g1000, w1, w8, by omega, hp2.up (by omega), ?_⟩
    rintro v H3 k3 hp3 ⟨t, ho, hd⟩
    exact q _ _ (k12.trans k3) (hp3.up (by omega)) ⟨t, ho.up _ (by omega), hd⟩
  by_cases hn : n = 0
  · subst hn
    refine ⟨_, rfl, rfl, _, rfl, if_t rfl (if_t rfl ?_)⟩
    exact ⟨_, rfl, _, rfl, _, rfl, leaf⟩
  have hn0 : decide (V.int (n : Int) = V.int 0) = false := decide_eq_false fun z => hn (by have := V.int.inj z; omega)
  refine ⟨_, rfl, rfl, _, rfl, if_f hn0 ⟨_, rfl, _, _, rfl, rfl, _, rfl, ?_⟩⟩
  by_cases hd3 : d < 3
  · exact if_t (decide_eq_true hd3) ⟨_, rfl, _, rfl, _, rfl, leaf⟩
  refine if_f (decide_eq_false hd3) ?_
  obtain ⟨dk, rfl⟩ : ∃ k, n = k + 1 := ⟨n - 1, by omega⟩
  have rec_ : ∀ (wd' : Int) (H6 : Hp) (M : Int), 1 ≤ wd' → wd' ≤ 8 → KP [p] H H6 → Pot H6 p M → M + c < 4611686018427387904 → ∀ (Q' : VK), (∀ v H', KP [p] H6 H' → Pot H' p (M + c) → ∀ t, Ok g (dk + 1) wd' t → Dp K H' v t.d → Q' v H') →
      spTerm K (dk + 1) c [.ref p, .ref nm, .int wd', .int (((dk + 1 : Nat) : Int) - 1)] H6 Q' E0 := by
    intro wd' H6 M h1 h8 k6 hp6 hM Q' hq'
    refine ⟨p, nm, g, wd', M, dk, by rw [show (((dk + 1 : Nat) : Int) - 1) = (dk : Int) by omega], rfl, hpn, hnl.keep k6 (by simpa using hpn.symm), hnm, g1000, h1, h8, hM, hp6, ?_⟩
    rintro v H7 k7 hp7 ⟨t, ho, hd⟩
    exact hq' v H7 k7 hp7 t ho hd
  have keep : ∀ {H6 H7 : Hp} {v : V} {t : Tm}, KP [p] H6 H7 → Dp K H6 v t.d → Dp K H7 v t.d := fun k h => h.tk k.tk (Tm.noL _)
  have hp2' : Pot H2 p (N + 2) := hp2.up (by omega)
  -- way 3
  refine ⟨_, rfl, rfl, _, rfl, ?_⟩
  by_cases hw3 : d = 3
  · subst hw3
    refine if_t rfl ?_
    refine ⟨_, rfl, _, rfl, _, rfl, _, rfl, _, _, rfl, rfl, rec_ wd H2 (N + 2) w1 w8 k12 hp2' (by omega) _ fun v3 H3 k3 hp3 t ho hd => ?_⟩
    exact ⟨by show 2 ≤ sizeLine; decide, fun D hD => q _ _ (k12.trans (k3.trans (KP.of (same_new hD _)))) ((hp3.up (by omega)).same (same_new hD _)) ⟨.op1 "not" t, .op1 (.not wd) ho, .tup (SqT.of upd_same) (.cons (.str _) (.cons (hd.mono (same_new hD _)) .nil))⟩⟩
  refine if_f (decide_eq_false fun z => hw3 (V.int.inj z)) ?_
  -- way 4, 5
  refine ⟨_, rfl, _, _, rfl, rfl, _, rfl, ?_⟩
  by_cases hw6 : d < 6
  · refine if_t (decide_eq_true hw6) ?_
    refine ⟨by show 4 ≤ sizeLine; decide, fun D hD => ?_⟩
    have f3 : Same H2 (upd H2 D (.lst (word4.map V.str))) := same_new hD _
    have h3 : upd H2 D (.lst (word4.map V.str)) D = some (.lst (word4.map V.str)) := upd_same
    have hpD : D ≠ p := fun z => by rw [z] at hD; exact hp2.some hD
    refine ⟨_, rfl, p, 4, N + 2, rfl, by decide, by decide, by omega, hp2'.same f3, ?_⟩
    rintro _ H4 k4 hp4 ⟨i, rfl, i0, im⟩
    obtain ⟨i, rfl⟩ : ∃ j : Nat, i = j := ⟨i.toNat, by omega⟩
    obtain ⟨o, go, ho2⟩ := word4_at (i := i) (by omega) wd
    refine ⟨D, _, _, _, rfl, rfl, SqL.of (k4.keep D _ (by simpa using hpD) h3), atI_nat (j := i) (v := .str o) (by rw [List.getElem?_map, go]; rfl), ?_⟩
    have k04 : KP [p] H H4 := k12.trans ((KP.of f3).trans k4)
    refine ⟨_, rfl, _, rfl, _, rfl, _, rfl, _, rfl, _, _, rfl, rfl, rec_ wd H4 (N + 3) w1 w8 k04 (hp4.up (by omega)) (by omega) _ fun v5 H5 k5 hp5 t ht hdt => ?_⟩
    have k05 := k04.trans k5
    refine ⟨_, rfl, _, rfl, _, rfl, _, rfl, _, _, rfl, rfl, rec_ wd H5 (N + 3 + c) w1 w8 k05 hp5 (by omega) _ fun v6 H6 k6 hp6 t' ht' hdt' => ?_⟩
    exact ⟨by show 3 ≤ sizeLine; decide, fun D hD => q _ _ (k05.trans (k6.trans (KP.of (same_new hD _)))) ((hp6.up (by omega)).same (same_new hD _)) ⟨.op2 o t t', .op2 ho2 ht ht', .tup (SqT.of upd_same) (.cons (.str _) (.cons ((keep k6 hdt).mono (same_new hD _)) (.cons (hdt'.mono (same_new hD _)) .nil)))⟩⟩
  refine if_f (decide_eq_false hw6) ?_
  -- way 6
  refine ⟨_, rfl, rfl, _, rfl, ?_⟩
  by_cases hw : d = 6
  · subst hw
    refine if_t rfl ?_
    refine ⟨_, rfl, _, rfl, _, rfl, _, _, rfl, rfl, rec_ 1 H2 (N + 2) (by decide) (by decide) k12 hp2' (by omega) _ fun v3 H3 k3 hp3 t1 h1 d1 => ?_⟩
    have k03 := k12.trans k3
    refine ⟨_, rfl, _, rfl, _, rfl, _, rfl, _, rfl, _, _, rfl, rfl, rec_ wd H3 (N + 2 + c) w1 w8 k03 hp3 (by omega) _ fun v4 H4 k4 hp4 t2 h2 d2 => ?_⟩
    have k04 := k03.trans k4
    refine ⟨_, rfl, _, rfl, _, rfl, _, rfl, _, _, rfl, rfl, rec_ wd H4 (N + 2 + c + c) w1 w8 k04 hp4 (by omega) _ fun v5 H5 k5 hp5 t3 h3 d3 => ?_⟩
    exact ⟨by show 4 ≤ sizeLine; decide, fun D hD => q _ _ (k04.trans (k5.trans (KP.of (same_new hD _)))) ((hp5.up (by omega)).same (same_new hD _)) ⟨.op3 "pick" t1 t2 t3, .op3 (.pick wd) h1 h2 h3, .tup (SqT.of upd_same) (.cons (.str _) (.cons ((keep k5 (keep k4 d1)).mono (same_new hD _)) (.cons ((keep k5 d2).mono (same_new hD _)) (.cons (d3.mono (same_new hD _)) .nil))))⟩⟩
  refine if_f (decide_eq_false fun z => hw (V.int.inj z)) ?_
  -- way 7
  refine ⟨_, rfl, rfl, _, rfl, ?_⟩
  by_cases hw7 : d = 7
  · subst hw7
    refine if_t rfl ⟨_, rfl, _, _, rfl, rfl, _, rfl, ?_⟩
    by_cases hwd : 1 < wd
    · refine if_t (decide_eq_true hwd) ?_
      refine ⟨_, rfl, _, rfl, _, _, rfl, rfl, p, _, N + 2, rfl, by omega, by omega, by omega, hp2', ?_⟩
      rintro _ H3 k3 hp3 ⟨ct, rfl, ct0, ctm⟩
      refine ⟨_, _, rfl, rfl, ?_⟩
      dsimp only
      have c1 : 1 ≤ 1 + ct := by omega
      have c2 : 1 + ct ≤ wd - 1 := by omega
      generalize 1 + ct = cut at *
      have k03 := k12.trans k3
      refine ⟨_, rfl, _, rfl, _, rfl, _, rfl, _, _, rfl, rfl, rec_ cut H3 (N + 3) c1 (by omega) k03 (hp3.up (by omega)) (by omega) _ fun v4 H4 k4 hp4 t ht hdt => ?_⟩
      have k04 := k03.trans k4
      refine ⟨_, rfl, _, rfl, _, rfl, _, rfl, _, _, rfl, rfl, _, rfl, _, _, rfl, rfl, rec_ (wd - cut) H4 (N + 3 + c) (by omega) (by omega) k04 hp4 (by omega) _ fun v5 H5 k5 hp5 t' ht' hdt' => ?_⟩
      have hj : O2 "join" cut (wd - cut) wd := by
        have := O2.join cut (wd - cut) (by omega)
        rwa [show cut + (wd - cut) = wd by omega] at this
      exact ⟨by show 3 ≤ sizeLine; decide, fun D hD => q _ _ (k04.trans (k5.trans (KP.of (same_new hD _)))) ((hp5.up (by omega)).same (same_new hD _)) ⟨.op2 "join" t t', .op2 hj ht ht', .tup (SqT.of upd_same) (.cons (.str _) (.cons ((keep k5 hdt).mono (same_new hD _)) (.cons (hdt'.mono (same_new hD _)) .nil)))⟩⟩
    · refine if_f (decide_eq_false hwd) ?_
      refine ⟨_, rfl, rfl, _, rfl, if_f rfl ⟨_, rfl, _, _, rfl, rfl, _, rfl, if_f (decide_eq_false hwd) ?_⟩⟩
      obtain rfl : wd = 1 := by omega
      refine ⟨by show 4 ≤ sizeLine; decide, fun D hD => ?_⟩
      have f3 : Same H2 (upd H2 D (.lst (wordL.map V.str))) := same_new hD _
      have h3 : upd H2 D (.lst (wordL.map V.str)) D = some (.lst (wordL.map V.str)) := upd_same
      have hpD : D ≠ p := fun z => by rw [z] at hD; exact hp2.some hD
      refine ⟨_, rfl, p, 4, N + 2, rfl, by decide, by decide, by omega, hp2'.same f3, ?_⟩
      rintro _ H4 k4 hp4 ⟨i, rfl, i0, im⟩
      obtain ⟨i, rfl⟩ : ∃ j : Nat, i = j := ⟨i.toNat, by omega⟩
      obtain ⟨o, go, ho⟩ := wordL_at (i := i) (by omega) oth
      refine ⟨D, _, _, _, rfl, rfl, SqL.of (k4.keep D _ (by simpa using hpD) h3), atI_nat (j := i) (v := .str o) (by rw [List.getElem?_map, go]; rfl), ?_⟩
      have k04 : KP [p] H H4 := k12.trans ((KP.of f3).trans k4)
      refine ⟨_, rfl, by show 2 ≤ sizeLine; decide, fun D5 hD5 => ⟨D5, _, rfl, .inr (SqT.of upd_same), rfl, rfl, _, rfl, ?_⟩⟩
      have f5 : Same H4 (upd H4 D5 (.tup [.str "any", .str "all"])) := same_new hD5 _
      have hp5 : Pot (upd H4 D5 (.tup [.str "any", .str "all"])) p (N + 3) := (hp4.up (by omega)).same f5
      have k05 : KP [p] H (upd H4 D5 (.tup [.str "any", .str "all"])) := k04.trans (KP.of f5)
      generalize upd H4 D5 (.tup [.str "any", .str "all"]) = H5 at *
      rcases ho with ⟨hin, ho⟩ | ⟨hin, ho⟩
      · refine if_t hin ?_
        refine ⟨_, rfl, _, rfl, _, rfl, _, rfl, _, rfl, _, _, rfl, rfl, rec_ oth H5 (N + 3) ho1 ho8 k05 hp5 (by omega) _ fun v6 H6 k6 hp6 t ht hdt => ?_⟩
        exact ⟨by show 2 ≤ sizeLine; decide, fun D hD => q _ _ (k05.trans (k6.trans (KP.of (same_new hD _)))) ((hp6.up (by omega)).same (same_new hD _)) ⟨.op1 o t, .op1 ho ht, .tup (SqT.of upd_same) (.cons (.str _) (.cons (hdt.mono (same_new hD _)) .nil))⟩⟩
      · refine if_f hin ?_
        refine ⟨_, rfl, _, rfl, _, rfl, _, rfl, _, rfl, _, _, rfl, rfl, rec_ oth H5 (N + 3) ho1 ho8 k05 hp5 (by omega) _ fun v6 H6 k6 hp6 t ht hdt => ?_⟩
        have k06 := k05.trans k6
        refine ⟨_, rfl, _, rfl, _, rfl, _, rfl, _, _, rfl, rfl, rec_ oth H6 (N + 3 + c) ho1 ho8 k06 hp6 (by omega) _ fun v7 H7 k7 hp7 t' ht' hdt' => ?_⟩
        exact ⟨by show 3 ≤ sizeLine; decide, fun D hD => q _ _ (k06.trans (k7.trans (KP.of (same_new hD _)))) ((hp7.up (by omega)).same (same_new hD _)) ⟨.op2 o t t', .op2 ho ht ht', .tup (SqT.of upd_same) (.cons (.str _) (.cons ((keep k7 hdt).mono (same_new hD _)) (.cons (hdt'.mono (same_new hD _)) .nil)))⟩⟩
  refine if_f (decide_eq_false fun z => hw7 (V.int.inj z)) (if_f rfl ?_)
  refine ⟨_, rfl, rfl, _, rfl, ?_⟩
  by_cases hw8 : d = 8
  · subst hw8
    refine if_t rfl (if_t rfl ?_)
    refine ⟨_, rfl, _, rfl, _, rfl, _, _, rfl, rfl, _, _, rfl, rfl, p, _, N + 2, rfl, by omega, by omega, by omega, hp2', ?_⟩
    rintro _ H3 k3 hp3 ⟨lw, rfl, lw0, lwm⟩
    have k03 := k12.trans k3
    refine ⟨_, rfl, _, rfl, _, rfl, _, rfl, _, _, rfl, rfl, rec_ oth H3 (N + 3) ho1 ho8 k03 (hp3.up (by omega)) (by omega) _ fun v4 H4 k4 hp4 t ht hdt => ?_⟩
    refine ⟨_, rfl, _, rfl, _, _, rfl, rfl, _, _, rfl, rfl, _, rfl, by show 4 ≤ sizeLine; decide, fun D hD => ?_⟩
    exact q _ _ (k03.trans (k4.trans (KP.of (same_new hD _)))) ((hp4.up (by omega)).same (same_new hD _)) ⟨.part t (lw + wd - 1) lw, .part ht lw0 (by omega) (by omega) (by omega), .tup (SqT.of upd_same) (.cons (.str _) (.cons (hdt.mono (same_new hD _)) (.cons (.int _) (.cons (.int _) .nil))))⟩
  refine if_f (decide_eq_false fun z => hw8 (V.int.inj z)) ⟨_, rfl, _, _, rfl, rfl, _, rfl, ?_⟩
  by_cases hwd : 1 < wd
  · refine if_t (decide_eq_true hwd) ?_
    refine ⟨_, rfl, _, rfl, _, rfl, _, _, rfl, rfl, _, _, rfl, rfl, p, _, N + 2, rfl, by omega, by omega, by omega, hp2', ?_⟩
    rintro _ H3 k3 hp3 ⟨lw, rfl, lw0, lwm⟩
    have k03 := k12.trans k3
    refine ⟨_, rfl, _, rfl, _, rfl, _, rfl, _, _, rfl, rfl, rec_ oth H3 (N + 3) ho1 ho8 k03 (hp3.up (by omega)) (by omega) _ fun v4 H4 k4 hp4 t ht hdt => ?_⟩
    refine ⟨_, rfl, _, rfl, _, _, rfl, rfl, _, _, rfl, rfl, _, rfl, by show 4 ≤ sizeLine; decide, fun D hD => ?_⟩
    exact q _ _ (k03.trans (k4.trans (KP.of (same_new hD _)))) ((hp4.up (by omega)).same (same_new hD _)) ⟨.part t (lw + wd - 1) lw, .part ht lw0 (by omega) (by omega) (by omega), .tup (SqT.of upd_same) (.cons (.str _) (.cons (hdt.mono (same_new hD _)) (.cons (.int _) (.cons (.int _) .nil))))⟩
  · refine if_f (decide_eq_false hwd) ?_
    obtain rfl : wd = 1 := by omega
    refine ⟨by show 4 ≤ sizeLine; decide, fun D hD => ?_⟩
    have f3 : Same H2 (upd H2 D (.lst (wordL.map V.str))) := same_new hD _
    have h3 : upd H2 D (.lst (wordL.map V.str)) D = some (.lst (wordL.map V.str)) := upd_same
    have hpD : D ≠ p := fun z => by rw [z] at hD; exact hp2.some hD
    refine ⟨_, rfl, p, 4, N + 2, rfl, by decide, by decide, by omega, hp2'.same f3, ?_⟩
    rintro _ H4 k4 hp4 ⟨i, rfl, i0, im⟩
    obtain ⟨i, rfl⟩ : ∃ j : Nat, i = j := ⟨i.toNat, by omega⟩
    obtain ⟨o, go, ho⟩ := wordL_at (i := i) (by omega) oth
    refine ⟨D, _, _, _, rfl, rfl, SqL.of (k4.keep D _ (by simpa using hpD) h3), atI_nat (j := i) (v := .str o) (by rw [List.getElem?_map, go]; rfl), ?_⟩
    have k04 : KP [p] H H4 := k12.trans ((KP.of f3).trans k4)
    refine ⟨_, rfl, by show 2 ≤ sizeLine; decide, fun D5 hD5 => ⟨D5, _, rfl, .inr (SqT.of upd_same), rfl, rfl, _, rfl, ?_⟩⟩
    have f5 : Same H4 (upd H4 D5 (.tup [.str "any", .str "all"])) := same_new hD5 _
    have hp5 : Pot (upd H4 D5 (.tup [.str "any", .str "all"])) p (N + 3) := (hp4.up (by omega)).same f5
    have k05 : KP [p] H (upd H4 D5 (.tup [.str "any", .str "all"])) := k04.trans (KP.of f5)
    generalize upd H4 D5 (.tup [.str "any", .str "all"]) = H5 at *
    rcases ho with ⟨hin, ho⟩ | ⟨hin, ho⟩
    · refine if_t hin ?_
      refine ⟨_, rfl, _, rfl, _, rfl, _, rfl, _, rfl, _, _, rfl, rfl, rec_ oth H5 (N + 3) ho1 ho8 k05 hp5 (by omega) _ fun v6 H6 k6 hp6 t ht hdt => ?_⟩
      exact ⟨by show 2 ≤ sizeLine; decide, fun D hD => q _ _ (k05.trans (k6.trans (KP.of (same_new hD _)))) ((hp6.up (by omega)).same (same_new hD _)) ⟨.op1 o t, .op1 ho ht, .tup (SqT.of upd_same) (.cons (.str _) (.cons (hdt.mono (same_new hD _)) .nil))⟩⟩
    · refine if_f hin ?_
      refine ⟨_, rfl, _, rfl, _, rfl, _, rfl, _, rfl, _, _, rfl, rfl, rec_ oth H5 (N + 3) ho1 ho8 k05 hp5 (by omega) _ fun v6 H6 k6 hp6 t ht hdt => ?_⟩
      have k06 := k05.trans k6
      refine ⟨_, rfl, _, rfl, _, rfl, _, rfl, _, _, rfl, rfl, rec_ oth H6 (N + 3 + c) ho1 ho8 k06 hp6 (by omega) _ fun v7 H7 k7 hp7 t' ht' hdt' => ?_⟩
      exact ⟨by show 3 ≤ sizeLine; decide, fun D hD => q _ _ (k06.trans (k7.trans (KP.of (same_new hD _)))) ((hp7.up (by omega)).same (same_new hD _)) ⟨.op2 o t t', .op2 ho ht ht', .tup (SqT.of upd_same) (.cons (.str _) (.cons ((keep k7 hdt).mono (same_new hD _)) (.cons (hdt'.mono (same_new hD _)) .nil)))⟩⟩
end
end K34
namespace K34
open PySem PySem.Spec PyProof.Rows L2
local macro_rules | `(tactic| walk_at "sm") => `(tactic| (repeat (first | exact Same.refl _ | assumption | refine Same.trans ?_ (same_new (by assumption) _) | refine Same.trans ?_ (by assumption))))
/-- what the sources are -/
structure SrcOk (rs : List Row) : Prop where
  row : ∀ r ∈ rs, (∃ n w, r = ⟨"input", n, w, .non⟩) ∨ ∃ n w x, r = ⟨"kept", n, w, .val x⟩ ∧ (x.length : Int) = w ∧ Bits x
  nm : ∀ r ∈ rs, IsNm r.name
  w : ∀ r ∈ rs, 1 ≤ r.width ∧ r.width ≤ 8
  nd : (rs.map Row.name).Nodup
theorem SrcOk.snoc {rs : List Row} {r : Row} (h : SrcOk rs) (h1 : (∃ n w, r = ⟨"input", n, w, .non⟩) ∨ ∃ n w x, r = ⟨"kept", n, w, .val x⟩ ∧ (x.length : Int) = w ∧ Bits x) (h2 : IsNm r.name) (h3 : 1 ≤ r.width ∧ r.width ≤ 8) (h4 : r.name ∉ rs.map Row.name) : SrcOk (rs ++ [r]) := by
  refine ⟨fun x hx => ?_, fun x hx => ?_, fun x hx => ?_, ?_⟩
  · rcases List.mem_append.mp hx with hx | hx
    · exact h.row x hx
    · rw [List.mem_singleton.mp hx]; exact h1
  · rcases List.mem_append.mp hx with hx | hx
    · exact h.nm x hx
    · rw [List.mem_singleton.mp hx]; exact h2
  · rcases List.mem_append.mp hx with hx | hx
    · exact h.w x hx
    · rw [List.mem_singleton.mp hx]; exact h3
  · rw [List.map_append, List.nodup_append]
    refine ⟨h.nd, by simp, fun a ha b hb e => ?_⟩
    obtain rfl : b = r.name := by simpa using hb
    exact h4 (e ▸ ha)
theorem fn_ex {P : Program} {w : World} {K : PySem.W.Frag} {mg : Str → Option Value} {base : Heap} {CX : CXT} {k : Nat} {f : Addr} {fd : FuncData} {ps : List Str} {ι : Type} {C : ι → Prop} {sp : ι → Sp} (F : ∀ i, C i → FnOk P w K mg base CX k f fd ps (sp i)) :
    FnOk P w K mg base CX k f fd ps (fun vs H Q E => ∃ i, C i ∧ sp i vs H Q E) :=
  ⟨fun vs H Q E ⟨i, hi, q⟩ => (F i hi).len vs H Q E q, fun A outer s H args us vs Q E hr he hb hv ⟨i, hi, hs⟩ => (F i hi).run A outer s H args us vs Q E hr he hb hv hs⟩
section
variable {P : Program} {w : World} {K : PySem.W.Frag} {mg : Str → Option Value} {base : Heap}
def costT : Nat → Int
  | 0 => 20
  | n + 1 => 4 * costT n
theorem costT_20 : ∀ n, 20 ≤ costT n
  | 0 => by decide
  | n + 1 => by have := costT_20 n; show 20 ≤ 4 * costT n; omega
theorem ok__law_term0 (T : TX K mg w) (G__law_digit : FnOk P w K mg base CX0 1 T.a__law_digit T.d__law_digit p__law_digit spDig) (G__law_leaf : FnOk P w K mg base CX0 3 T.a__law_leaf T.d__law_leaf p__law_leaf (spLeaf K)) :
    ∀ n, FnOk P w K mg base CX0 (n + 3) T.a__law_term T.d__law_term p__law_term (spTerm K n (costT n))
  | 0 => fn_none fun vs H Q E ⟨_, _, _, _, _, _, _, h, _⟩ => by omega
  | n + 1 => ok__law_term1 T n (costT n) (costT_20 n) G__law_digit G__law_leaf (ok__law_term0 T G__law_digit G__law_leaf n)
/-- a term, at most three within -/
def spT (K : PySem.W.Frag) : Sp := fun vs H Q _ => ∃ (p nm : Addr) (g : Ctx) (wd N deep : Int), vs = [.ref p, .ref nm, .int wd, .int deep] ∧ 0 ≤ deep ∧ deep ≤ 3 ∧ p ≠ nm ∧ NL K H nm g ∧ (∀ x k, (x, k) ∈ g → IsNm x) ∧ g.length ≤ 1000 ∧ 1 ≤ wd ∧ wd ≤ 8 ∧ N + 5120 < 4611686018427387904 ∧ Pot H p N ∧
  RetG H Q [p] p (N + 5120) fun v H' => ∃ t : Tm, Ok g 4 wd t ∧ Dp K H' v t.d
theorem ok__law_term (T : TX K mg w) (G__law_digit : FnOk P w K mg base CX0 1 T.a__law_digit T.d__law_digit p__law_digit spDig) (G__law_leaf : FnOk P w K mg base CX0 3 T.a__law_leaf T.d__law_leaf p__law_leaf (spLeaf K)) :
    FnOk P w K mg base CX0 7 T.a__law_term T.d__law_term p__law_term (spT K) := by
  have F := fn_ex (C := fun n : Nat => n ≤ 4) fun n hn => (ok__law_term0 (P := P) (base := base) T G__law_digit G__law_leaf n).mono (show n + 3 ≤ 7 by omega)
  refine F.imp fun vs H Q E h => ?_
  obtain ⟨p, nm, g, wd, N, deep, rfl, d0, d3, hpn, hnl, hnm, g1, w1, w8, hN, hp, q⟩ := h
  obtain ⟨d, rfl⟩ : ∃ d : Nat, deep = d := ⟨deep.toNat, by omega⟩
  have hc : costT (d + 1) ≤ 5120 := by
    have : d = 0 ∨ d = 1 ∨ d = 2 ∨ d = 3 := by omega
    rcases this with rfl | rfl | rfl | rfl <;> decide
  refine ⟨d + 1, by omega, p, nm, g, wd, N, d, rfl, rfl, hpn, hnl, hnm, g1, w1, w8, by omega, hp, ?_⟩
  rintro v H' k hp' ⟨t, ho, hd⟩
  exact q v H' k (hp'.up (by omega)) ⟨t, ho.up 4 (by omega), hd⟩
def spSrc (K : PySem.W.Frag) : Sp := fun vs H Q _ => ∃ (p t : Addr) (N : Int), vs = [.ref p, .ref t] ∧ p ≠ t ∧ H t = some (.lst []) ∧ N + 300 < 4611686018427387904 ∧ Pot H p N ∧
  RetG H Q [p, t] p (N + 300) fun v H' => ∃ (a : Addr) (xs : List V) (rs : List Row), v = .ref a ∧ H a = none ∧ H' a = some (.lst xs) ∧ DpAll K H' xs (rs.map Row.d) ∧ H' t = some (.lst ((rs.map Row.name).map V.str)) ∧ SrcOk rs ∧ rs.length ≤ 6
theorem ok__law_sources (T : TX K mg w) (G__law_digit : FnOk P w K mg base CX0 1 T.a__law_digit T.d__law_digit p__law_digit spDig) (G__law_name : FnOk P w K mg base CX0 2 T.a__law_name T.d__law_name p__law_name spName)
    (G__law_width : FnOk P w K mg base CX0 2 T.a__law_width T.d__law_width p__law_width spWid) (G__law_value : FnOk P w K mg base CX0 2 T.a__law_value T.d__law_value p__law_value spVal) :
    FnOk P w K mg base CX0 3 T.a__law_sources T.d__law_sources p__law_sources (spSrc K) := by
  refine T.F__law_sources.ok sc__law_sources (fun vs H Q E h => ?_) (fun cdv A outer s H vs Q E hr h => ?_)
  · obtain ⟨p, t, N, rfl, _⟩ := h; rfl
  obtain ⟨p, t, N, rfl, hpt, ht, hN, hp, q⟩ := h
  have nd := sc__law_sources.nd
  refine ⟨_, ((pss_cons (ps_set (i := 2) nd rfl (Or.inl rfl) (pe_lst pa_nil))
      (pss_cons (ps_for PassesOwn.never rfl (pi_range1 rfl T.z_range (pa_cons (pe_op op_add pe_int (pe_call G__law_digit (hr.mono (by omega)) rfl T.m__law_digit T.k__law_digit T.b__law_digit .nil pass0 (pa_cons (pv 0) (pa_cons pe_int pa_nil)))) pa_nil)) (pg_name (i := 3) nd rfl (Or.inl rfl)) (pss_one (ps_expr (pe_bm PySem.F.plainAttrs_list PySem.F.slot_list_append PySem.F.type_list_append mt_append (pv 2) (pa_cons (pe_tup (pa_cons pe_str (pa_cons (pe_call G__law_name (hr.mono (by omega)) rfl T.m__law_name T.k__law_name T.b__law_name .nil pass0 (pa_cons (pv 0) (pa_cons (pv 1) pa_nil))) (pa_cons (pe_call G__law_width (hr.mono (by omega)) rfl T.m__law_width T.k__law_width T.b__law_width .nil pass0 (pa_cons (pv 0) pa_nil)) (pa_cons pe_non pa_nil))))) pa_nil)))))
      (pss_cons (ps_for PassesOwn.never rfl (pi_range1 rfl T.z_range (pa_cons (pe_call G__law_digit (hr.mono (by omega)) rfl T.m__law_digit T.k__law_digit T.b__law_digit .nil pass0 (pa_cons (pv 0) (pa_cons pe_int pa_nil))) pa_nil)) (pg_name (i := 3) nd rfl (Or.inl rfl)) (pss_cons (ps_set (i := 4) nd rfl (Or.inl rfl) (pe_call G__law_width (hr.mono (by omega)) rfl T.m__law_width T.k__law_width T.b__law_width .nil pass0 (pa_cons (pv 0) pa_nil)))
      (pss_one (ps_expr (pe_bm PySem.F.plainAttrs_list PySem.F.slot_list_append PySem.F.type_list_append mt_append (pv 2) (pa_cons (pe_tup (pa_cons pe_str (pa_cons (pe_call G__law_name (hr.mono (by omega)) rfl T.m__law_name T.k__law_name T.b__law_name .nil pass0 (pa_cons (pv 0) (pa_cons (pv 1) pa_nil))) (pa_cons (pv 4) (pa_cons (pe_call G__law_value (hr.mono (by omega)) rfl T.m__law_value T.k__law_value T.b__law_value .nil pass0 (pa_cons (pv 0) (pa_cons (pv 4) (pa_cons pe_str pa_nil)))) pa_nil))))) pa_nil))))))
      (pss_one (ps_ret (pv 2))))))), ?_⟩
  refine ⟨by show 0 ≤ sizeLine; decide, fun pf hpf => ?_⟩
  have f1 : Same H (upd H pf (.lst [])) := same_new hpf _
  have h1 : upd H pf (.lst []) pf = some (.lst []) := upd_same
  have pne : p ≠ pf := hp.ne hpf
  have tne : t ≠ pf := fun z => by rw [z, hpf] at ht; cases ht
  have hp1 := hp.same f1
  have ht1 := f1 _ _ ht
  generalize upd H pf (.lst []) = H1 at *
  refine ⟨_, rfl, p, 3, N, rfl, by decide, by decide, by omega, hp1, ?_⟩
  rintro _ H2 k2 hp2 ⟨d, rfl, d0, dm⟩
  refine ⟨_, _, rfl, rfl, 1 + d, rfl, by omega, by omega, ?_⟩
  -- the state: found, taken
  have app : ∀ {H6 : Hp} {rs : List Row} {xs : List V} {r : Row} {v : V}, KP [p, t] H H6 → H6 pf = some (.lst xs) → DpAll K H6 xs (rs.map Row.d) → Dp K H6 v r.d →
      KP [p, t] H (upd H6 pf (.lst (xs ++ [v]))) ∧ upd H6 pf (.lst (xs ++ [v])) pf = some (.lst (xs ++ [v])) ∧ DpAll K (upd H6 pf (.lst (xs ++ [v]))) (xs ++ [v]) ((rs ++ [r]).map Row.d) := by
    intro H6 rs xs r v k6 h6 hd hv
    have t1 : TK H6 (upd H6 pf (.lst (xs ++ [v]))) := TK.lst h6
    refine ⟨k6.new hpf h6, upd_same, ?_⟩
    rw [List.map_append]
    exact (hd.tk t1 (rows_noL rs)).app (.cons (hv.tk t1 r.noL) .nil)
  refine for_it (walk_range (lo := 0) (n := (1 + d).toNat)) (fun i σ H3 => ∃ o1 xs rs, σ = [some (.ref p), some (.ref t), some (.ref pf), o1, none] ∧ KP [p, t] H H3 ∧ Pot H3 p (N + 1 + 22 * i) ∧ H3 pf = some (.lst xs) ∧ DpAll K H3 xs (rs.map Row.d) ∧ H3 t = some (.lst ((rs.map Row.name).map V.str)) ∧ SrcOk rs ∧ rs.length = i)
    ⟨none, [], [], rfl, (KP.of f1).trans (k2.sub (by simp)), hp2.up (by omega), k2.keep _ _ (by simpa using pne.symm) h1, .nil, k2.keep _ _ (by simpa using hpt.symm) ht1, ⟨fun r hr => absurd hr List.not_mem_nil, fun r hr => absurd hr List.not_mem_nil, fun r hr => absurd hr List.not_mem_nil, List.nodup_nil⟩, rfl⟩ (fun i σ H2 _ _ => True.intro) ?_ ?_
  · rintro i x σ _ H3 hi ⟨o1, xs, rs, rfl, k3, hp3, hF, hd, ht3, so, lr⟩ ⟨rfl, rfl⟩
    have hi3 : i < 3 := by omega
    refine ⟨_, rfl, .inl ⟨rfl, _, SqL.of hF⟩, ?_⟩
    refine ⟨_, rfl, _, rfl, p, t, rs.map Row.name, N + 1 + 22 * i, rfl, hpt, ht3, fun x hx => by rw [List.mem_map] at hx; obtain ⟨r, hr, rfl⟩ := hx; exact so.nm r hr, by rw [List.length_map]; omega, by omega, hp3, ?_⟩
    rintro _ H4 k4 hp4 ⟨x, rfl, nx, fx, ht4⟩
    refine ⟨_, rfl, p, _, rfl, by omega, hp4, ?_⟩
    rintro _ H5 k5 hp5 ⟨wd, rfl, w1, w8⟩
    refine ⟨by show 4 ≤ sizeLine; decide, fun D hD => ?_⟩
    have f6 : Same H5 (upd H5 D (.tup [.str "input", .str x, .int wd, .non])) := same_new hD _
    have h6 : upd H5 D (.tup [.str "input", .str x, .int wd, .non]) D = some (.tup [.str "input", .str x, .int wd, .non]) := upd_same
    have pt0 : pf ∉ [p, t] := by simp only [List.mem_cons, List.not_mem_nil, or_false, not_or]; exact ⟨pne.symm, tne.symm⟩
    have k45 := k4.trans ((k5.sub (by simp)).trans (KP.of f6))
    have hF6 := k45.keep _ _ pt0 hF
    have hd6 := hd.tk k45.tk (rows_noL rs)
    have ht6 := f6 _ _ (k5.keep _ _ (by simpa using hpt.symm) ht4)
    have hp6 := hp5.same f6
    generalize upd H5 D (.tup [.str "input", .str x, .int wd, .non]) = H6 at *
    obtain ⟨a1, a2, a3⟩ := app (r := ⟨"input", x, wd, .non⟩) (k3.trans k45) hF6 hd6 (.tup (SqT.of h6) (.cons (.str _) (.cons (.str _) (.cons (.int _) (.cons .non .nil)))))
    have lxs := hd.length
    rw [List.length_map] at lxs
    refine ⟨pf, _, _, rfl, rfl, hF6, small1000 (by omega), _, _, rs ++ [⟨"input", x, wd, .non⟩], rfl, a1, ?_, a2, a3, ?_, so.snoc (.inl ⟨x, wd, rfl⟩) nx ⟨by show (1 : Int) ≤ (wd : Int); omega, by show (wd : Int) ≤ 8; omega⟩ fx, by simp [lr]⟩
    · obtain ⟨a, b, c, e, h⟩ := hp6
      exact ⟨a, b, c, by rw [upd_ne pne]; exact e, h.1, h.2.1, h.2.2.1, h.2.2.2.1, by omega⟩
    · rw [upd_ne tne, ht6]
      simp
  · rintro σ H3 ⟨o1, xs, rs, rfl, k3, hp3, hF, hd, ht3, so, lr⟩
    refine ⟨_, rfl, p, 4, N + 67, rfl, by decide, by decide, by omega, hp3.up (by omega), ?_⟩
    rintro _ H4 k4 hp4 ⟨d', rfl, d0', dm'⟩
    refine ⟨_, rfl, by omega, by omega, ?_⟩
    have lr3 : rs.length ≤ 3 := by omega
    clear lr
    refine for_it (walk_range (lo := 0) (n := d'.toNat)) (fun i σ H5 => ∃ o1 o2 xs rs, σ = [some (.ref p), some (.ref t), some (.ref pf), o1, o2] ∧ KP [p, t] H H5 ∧ Pot H5 p (N + 68 + 30 * i) ∧ H5 pf = some (.lst xs) ∧ DpAll K H5 xs (rs.map Row.d) ∧ H5 t = some (.lst ((rs.map Row.name).map V.str)) ∧ SrcOk rs ∧ rs.length ≤ 3 + i)
      ⟨o1, none, xs, rs, rfl, k3.trans (k4.sub (by simp)), hp4.up (by omega), k4.keep _ _ (by simpa using pne.symm) hF, hd.tk k4.tk (rows_noL rs), k4.keep _ _ (by simpa using hpt.symm) ht3, so, by omega⟩ (fun i σ H2 _ _ => True.intro) ?_ ?_
    · clear k3 hp3 hF hd ht3 so lr3 k4 hp4
      rintro i x σ _ H3 hi ⟨o1, o2, xs, rs, rfl, k3, hp3, hF, hd, ht3, so, lr⟩ ⟨rfl, rfl⟩
      have hi3 : i < 3 := by omega
      refine ⟨_, rfl, p, _, rfl, by omega, hp3, ?_⟩
      rintro _ H4 k4 hp4 ⟨wd, rfl, w1, w8⟩
      have pt0 : pf ∉ [p, t] := by simp only [List.mem_cons, List.not_mem_nil, or_false, not_or]; exact ⟨pne.symm, tne.symm⟩
      have hF4 := k4.keep _ _ (by simpa using pne.symm) hF
      refine ⟨_, rfl, .inl ⟨rfl, _, SqL.of hF4⟩, ?_⟩
      refine ⟨_, rfl, _, rfl, p, t, rs.map Row.name, N + 70 + 30 * i, rfl, hpt, k4.keep _ _ (by simpa using hpt.symm) ht3, fun x hx => by rw [List.mem_map] at hx; obtain ⟨r, hr, rfl⟩ := hx; exact so.nm r hr, by rw [List.length_map]; omega, by omega, hp4.up (by omega), ?_⟩
      rintro _ H5 k5 hp5 ⟨x, rfl, nx, fx, ht5⟩
      refine ⟨_, rfl, _, rfl, _, rfl, p, wd, "01x", N + 90 + 30 * i, rfl, by rw [l01x]; decide, by rw [l01x]; decide, w8, by omega, hp5.up (by omega), ?_⟩
      rintro _ H6 k6 hp6 ⟨z, rfl, lz, hz⟩
      refine ⟨by show 4 ≤ sizeLine; decide, fun D hD => ?_⟩
      have f7 : Same H6 (upd H6 D (.tup [.str "kept", .str x, .int wd, .str z])) := same_new hD _
      have h7 : upd H6 D (.tup [.str "kept", .str x, .int wd, .str z]) D = some (.tup [.str "kept", .str x, .int wd, .str z]) := upd_same
      have k47 := (k4.sub (show ∀ b ∈ [p], b ∈ [p, t] by simp)).trans (k5.trans ((k6.sub (by simp)).trans (KP.of f7)))
      have hF7 := k47.keep _ _ pt0 hF
      have hd7 := hd.tk k47.tk (rows_noL rs)
      have ht7 := f7 _ _ (k6.keep _ _ (by simpa using hpt.symm) ht5)
      have hp7 := hp6.same f7
      generalize upd H6 D (.tup [.str "kept", .str x, .int wd, .str z]) = H7 at *
      obtain ⟨a1, a2, a3⟩ := app (r := ⟨"kept", x, wd, .val z⟩) (k3.trans k47) hF7 hd7 (.tup (SqT.of h7) (.cons (.str _) (.cons (.str _) (.cons (.int _) (.cons (.str _) .nil)))))
      have lxs := hd.length
      rw [List.length_map] at lxs
      refine ⟨pf, _, _, rfl, rfl, hF7, small1000 (by omega), _, _, _, rs ++ [⟨"kept", x, wd, .val z⟩], rfl, a1, ?_, a2, a3, ?_, so.snoc (.inr ⟨x, wd, z, rfl, by rw [lz], bits01x hz⟩) nx ⟨by show (1 : Int) ≤ (wd : Int); omega, by show (wd : Int) ≤ 8; omega⟩ fx, by rw [List.length_append, List.length_singleton]; omega⟩
      · obtain ⟨a, b, c, e, h⟩ := hp7
        exact ⟨a, b, c, by rw [upd_ne pne]; exact e, h.1, h.2.1, h.2.2.1, h.2.2.2.1, by omega⟩
      · rw [upd_ne tne, ht7]
        simp
    · rintro σ H5 ⟨o1, o2, xs, rs, rfl, k5, hp5, hF, hd, ht5, so, lr⟩
      exact ⟨_, rfl, q _ _ k5 (hp5.up (by omega)) ⟨pf, xs, rs, rfl, hpf, hF, hd, ht5, so, by omega⟩⟩
end
end K34
namespace K34
open PySem PySem.Spec PyProof.Rows L2
local macro_rules | `(tactic| walk_at "sm") => `(tactic| (repeat (first | exact Same.refl _ | assumption | refine Same.trans ?_ (same_new (by assumption) _) | refine Same.trans ?_ (by assumption))))
theorem names_eqv : ∀ {g1 g2 : Ctx}, PyData.eqvAll (g1.map nameD) (g2.map nameD) = true → g1 = g2
  | [], [], _ => rfl
  | [], _ :: _, h => by cases h
  | _ :: _, [], h => by cases h
  | (x, k) :: g1, (y, j) :: g2, h => by
    simp only [List.map_cons, PyData.eqvAll, Bool.and_eq_true] at h
    obtain ⟨h1, h2⟩ := h
    have e := names_eqv h2
    simp only [nameD, PyData.eqv, PyData.eqvAll, Bool.and_eq_true, Bool.and_true] at h1
    have e1 : x = y := by simpa using h1.1
    have e2 : k = j := by simpa using h1.2
    rw [e1, e2, e]
theorem shaped_names {g : Ctx} (h : ∀ x k, (x, k) ∈ g → IsNm x) : SeqAt.shaped (.list (g.map nameD)) = true := by
  have h1 : PyData.canLayAll0 (g.map nameD) = true := by
    induction g with
    | nil => rfl
    | cons q l ih => simp [nameD, PyData.canLayAll0, PyData.canLay0, strOk_nm (h q.1 q.2 List.mem_cons_self), ih fun x k hx => h x k (List.mem_cons_of_mem _ hx)]
  have h2 : PyData.depthAll (g.map nameD) ≤ 1 := by
    clear h h1
    induction g with
    | nil => simp [PyData.depthAll]
    | cons q l ih => simp [nameD, PyData.depthAll, PyData.depth] at *; omega
  unfold SeqAt.shaped
  simp only [PyData.canLay0, PyData.depth, h1, Bool.true_and]
  exact decide_eq_true (by omega)
theorem NL.app {K : PySem.W.Frag} {H : Hp} {a : Addr} {g : Ctx} {xs : List V} {v : V} {q : Str × Int} (h1 : H a = some (.lst xs)) (h2 : DpAll K H xs (g.map nameD)) (hv : Dp K H v (nameD q)) : NL K (upd H a (.lst (xs ++ [v]))) a (g ++ [q]) := by
  have t1 : TK H (upd H a (.lst (xs ++ [v]))) := TK.lst h1
  refine ⟨xs ++ [v], upd_same, ?_⟩
  rw [List.map_append]
  exact (h2.tk t1 (names_noL g)).app (.cons (hv.tk t1 rfl) .nil)
structure LedOk (gp ge : Ctx) (l : List Str) (r : Row) (gp' : Ctx) : Prop where
  nm : IsNm r.name
  fresh : r.name ∉ l
  w : 1 ≤ r.width ∧ r.width ≤ 8
  row : RowOk gp r ∨ RowOk ge r
  fil : r.sort = ("filter" : Str) → RowOk gp r
  pl : gp' = gp ∨ (gp' = gp ++ [(r.name, r.width)] ∧ r.sort ≠ ("filter" : Str) ∧ (RowOk gp r))
  srt : r.sort ≠ ("kept" : Str)
section
variable {P : Program} {w : World} {K : PySem.W.Frag} {mg : Str → Option Value} {base : Heap}
def spLed (K : PySem.W.Frag) : Sp := fun vs H Q _ => ∃ (p pl ev tk : Addr) (deep N : Int) (gp ge : Ctx) (l : List Str), vs = [.ref p, .ref pl, .ref ev, .ref tk, .int deep] ∧ 1 ≤ deep ∧ deep ≤ 3 ∧ (p ≠ pl ∧ p ≠ ev ∧ p ≠ tk ∧ pl ≠ ev ∧ pl ≠ tk ∧ ev ≠ tk) ∧
  NL K H pl gp ∧ NL K H ev ge ∧ (∀ q ∈ gp, q ∈ ge) ∧ (∀ x k, (x, k) ∈ ge → IsNm x) ∧ gp.length ≤ 900 ∧ ge.length ≤ 900 ∧ gp.length ≤ ge.length ∧ H tk = some (.lst (l.map V.str)) ∧ (∀ x ∈ l, IsNm x) ∧ l.length ≤ 50 ∧ N + 50000 < 4611686018427387904 ∧ Pot H p N ∧
  RetG H Q [p, pl, ev, tk] p (N + 50000) fun v H' => ∃ (r : Row) (gp' : Ctx), Dp K H' v r.d ∧ LedOk gp ge l r gp' ∧ NL K H' pl gp' ∧ NL K H' ev (ge ++ [(r.name, r.width)]) ∧ H' tk = some (.lst ((l ++ [r.name]).map V.str))
theorem mades {made : Str} (h : made = ("wire" : Str) ∨ made = ("bus" : Str) ∨ made = ("filter" : Str)) : made ≠ ("kept" : Str) := by
  rcases h with rfl | rfl | rfl <;> decide +kernel
theorem ok__law_led (T : TX K mg w) (G__law_digit : FnOk P w K mg base CX0 1 T.a__law_digit T.d__law_digit p__law_digit spDig) (G__law_name : FnOk P w K mg base CX0 2 T.a__law_name T.d__law_name p__law_name spName)
    (G__law_width : FnOk P w K mg base CX0 2 T.a__law_width T.d__law_width p__law_width spWid) (G__law_term : FnOk P w K mg base CX0 7 T.a__law_term T.d__law_term p__law_term (spT K)) :
    FnOk P w K mg base CX0 8 T.a__law_led T.d__law_led p__law_led (spLed K) := by
  refine T.F__law_led.ok sc__law_led (fun vs H Q E h => ?_) (fun cdv A outer s H vs Q E hr h => ?_)
  · obtain ⟨p, pl, ev, tk, deep, N, gp, ge, l, rfl, _⟩ := h; rfl
  obtain ⟨p, pl, ev, tk, deep, N, gp, ge, l, rfl, d1, d3, ⟨n1, n2, n3, n4, n5, n6⟩, hpl, hev, sub, hnm, gp9, ge9, gle, htk, hlnm, l50, hN, hp, q⟩ := h
  have nd := sc__law_led.nd
  have tail : ∃ u, PSs (cxOf CX0 P w K mg base n__law_led (Str.ofString "_law_led") (defScope s__law_led) T.a__law_led cdv A outer s H E).nox ((defBody s__law_led).drop 5) u ∧
      ∀ (made : Str) (ov : Addr) (wd : Int) (v : V) (x : What) (o9 o10 : Option V) (H' : Hp), (made = ("wire" : Str) ∨ made = ("bus" : Str) ∨ made = ("filter" : Str)) → ((ov = pl ∧ ∀ n, RowOk gp ⟨made, n, wd, x⟩) ∨ (ov = ev ∧ made ≠ ("filter" : Str) ∧ ∀ n, RowOk ge ⟨made, n, wd, x⟩)) → 1 ≤ wd → wd ≤ 8 → Dp K H' v x.d → KP [p] H H' → Pot H' p (N + 49900) →
        u { nx := fun _ H' => Q .non H', rt := Q } [some (.ref p), some (.ref pl), some (.ref ev), some (.ref tk), some (.int deep), some (.str made), some (.ref ov), some (.int wd), some v, o9, o10, none] H' := by
    refine ⟨_, ((pss_cons (ps_set (i := 11) nd rfl (Or.inl rfl) (pe_call G__law_name (hr.mono (by omega)) rfl T.m__law_name T.k__law_name T.b__law_name .nil pass0 (pa_cons (pv 0) (pa_cons (pv 3) pa_nil))))
      (pss_cons (ps_expr (pe_bm PySem.F.plainAttrs_list PySem.F.slot_list_append PySem.F.type_list_append mt_append (pv 2) (pa_cons (pe_tup (pa_cons (pv 11) (pa_cons (pv 7) pa_nil))) pa_nil)))
      (pss_cons (ps_if (PW.pt (pw_and (pt_cmpR op_ne (pv 5) pe_str (nomark _)) (pw_and1 (pt_cmpR (op_eqD hr.units) (pv 6) (pv 1) (nomark _))))) (pss_one (ps_expr (pe_bm PySem.F.plainAttrs_list PySem.F.slot_list_append PySem.F.type_list_append mt_append (pv 1) (pa_cons (pe_tup (pa_cons (pv 11) (pa_cons (pv 7) pa_nil))) pa_nil)))) pss_nil)
      (pss_one (ps_ret (pe_tup (pa_cons (pv 5) (pa_cons (pv 11) (pa_cons (pv 7) (pa_cons (pv 8) pa_nil))))))))))), ?_⟩
    intro made ov wd v x o9 o10 H1 hmade hov w1 w8 hv k1 hp1
    have htk1 := k1.keep _ _ (by simpa using n3.symm) htk
    have hpl1 := hpl.keep k1 (by simpa using n1.symm)
    have hev1 := hev.keep k1 (by simpa using n2.symm)
    refine ⟨_, rfl, _, rfl, p, tk, l, N + 49900, rfl, n3, htk1, hlnm, l50, by omega, hp1, ?_⟩
    rintro _ H2 k2 hp2 ⟨nm, rfl, nnm, nfr, htk2⟩
    have hpl2 := hpl1.keep k2 (by simp only [List.mem_cons, List.not_mem_nil, or_false, not_or]; exact ⟨n1.symm, n5⟩)
    obtain ⟨xe, hxe, hde⟩ := (hev1.keep k2 (by simp only [List.mem_cons, List.not_mem_nil, or_false, not_or]; exact ⟨n2.symm, n6⟩)).ex
    have hv2 := hv.tk k2.tk x.noL
    refine ⟨_, rfl, .inl ⟨rfl, _, SqL.of hxe⟩, _, rfl, _, rfl, by show 2 ≤ sizeLine; decide, fun D hD => ?_⟩
    have f3 : Same H2 (upd H2 D (.tup [.str nm, .int wd])) := same_new hD _
    have h3 : upd H2 D (.tup [.str nm, .int wd]) D = some (.tup [.str nm, .int wd]) := upd_same
    have k3 : KP [p, tk] H1 (upd H2 D (.tup [.str nm, .int wd])) := k2.trans (KP.of f3)
    have hp3 := hp2.same f3
    have hxe3 := f3 _ _ hxe
    have hde3 := hde.mono f3
    have hpl3 := hpl2.same f3
    have hv3 := hv2.mono f3
    have htk3 := f3 _ _ htk2
    generalize upd H2 D (.tup [.str nm, .int wd]) = H3 at *
    have lxe := hde.length
    rw [List.length_map] at lxe
    refine ⟨ev, _, _, rfl, rfl, hxe3, small1000 (by omega), ?_⟩
    have hnl4 := NL.app (q := (nm, wd)) hxe3 hde3 (.tup (SqT.of h3) (.cons (.str _) (.cons (.int _) .nil)))
    have k4' : KP [ev] H3 (upd H3 ev (.lst (xe ++ [.ref D]))) := KP.set (by simp) hxe3
    have hp4 := hp3.keep k4' (by simpa using n2)
    have hpl4 := hpl3.keep k4' (by simpa using n4)
    have hv4 := hv3.tk k4'.tk x.noL
    have htk4 := k4'.keep _ _ (by simpa using n6.symm) htk3
    generalize upd H3 ev (.lst (xe ++ [.ref D])) = H4 at *
    have k4 : KP [p, pl, ev, tk] H H4 := (k1.sub (by simp)).trans ((k3.sub (by simp)).trans (k4'.sub (by simp)))
    have fin : ∀ (H5 : Hp) (gp' : Ctx), KP [p, pl, ev, tk] H H5 → Pot H5 p (N + 50000) → Dp K H5 v x.d → NL K H5 pl gp' → NL K H5 ev (ge ++ [(nm, wd)]) → H5 tk = some (.lst ((l ++ [nm]).map V.str)) → (gp' = gp ∨ (gp' = gp ++ [(nm, wd)] ∧ made ≠ ("filter" : Str) ∧ ∀ n, RowOk gp ⟨made, n, wd, x⟩)) →
        ∀ D5, H5 D5 = none → Q (.ref D5) (upd H5 D5 (.tup [.str made, .str nm, .int wd, v])) := by
      intro H5 gp' k5 hp5 hv5 hpl5 hev5 htk5 hgp D5 hD5
      have f6 : Same H5 (upd H5 D5 (.tup [.str made, .str nm, .int wd, v])) := same_new hD5 _
      refine q _ _ (k5.trans (KP.of f6)) (hp5.same f6) ⟨⟨made, nm, wd, x⟩, gp', .tup (SqT.of upd_same) (.cons (.str _) (.cons (.str _) (.cons (.int _) (.cons (hv5.mono f6) .nil)))), ?_, hpl5.same f6, hev5.same f6, f6 _ _ htk5⟩
      refine ⟨nnm, nfr, ⟨w1, w8⟩, ?_, ?_, ?_, mades hmade⟩
      · rcases hov with ⟨_, h⟩ | ⟨_, _, h⟩
        · exact .inl (h nm)
        · exact .inr (h nm)
      · intro e
        rcases hov with ⟨_, h⟩ | ⟨_, hn, _⟩
        · exact h nm
        · exact absurd e hn
      · rcases hgp with h | ⟨h1, h2, h3⟩
        · exact .inl h
        · exact .inr ⟨h1, h2, h3 nm⟩
    refine ⟨_, rfl, rfl, _, rfl, ?_⟩
    by_cases hf : made = ("filter" : Str)
    · refine if_f (by show (!decide (V.str made = V.str (Str.ofString "filter"))) = false; rw [hf]; rfl) (if_f rfl ?_)
      exact ⟨_, rfl, _, rfl, _, rfl, _, rfl, by show 4 ≤ sizeLine; decide, fun D5 hD5 => fin H4 gp k4 (hp4.up (by omega)) hv4 hpl4 hnl4 htk4 (.inl rfl) D5 hD5⟩
    · refine if_t (by show (!decide (V.str made = V.str (Str.ofString "filter"))) = true; rw [decide_eq_false fun z => hf (V.str.inj z)]; rfl) ?_
      have hovd : ∃ go : Ctx, NL K H4 ov go ∧ (∀ x k, (x, k) ∈ go → IsNm x) ∧ (go = gp → ∀ n, RowOk gp ⟨made, n, wd, x⟩) := by
        rcases hov with ⟨rfl, h⟩ | ⟨rfl, _, h⟩
        · exact ⟨gp, hpl4, fun x k hx => hnm x k (sub _ hx), fun _ => h⟩
        · refine ⟨_, hnl4, fun x k hx => ?_, fun e n => ?_⟩
          · rcases List.mem_append.mp hx with hx | hx
            · exact hnm x k hx
            · obtain ⟨rfl, rfl⟩ : x = nm ∧ k = wd := by simpa using hx
              exact nnm
          · have := congrArg List.length e
            rw [List.length_append, List.length_singleton] at this
            omega
      obtain ⟨go, hgo, hgnm, hgr⟩ := hovd
      obtain ⟨xo, hxo, hdo⟩ := hgo.ex
      obtain ⟨xp, hxp, hdp⟩ := hpl4.ex
      refine ⟨_, rfl, _, rfl, .list (go.map nameD), .list (gp.map nameD), .lst (SqL.of hxo) hdo, .lst (SqL.of hxp) hdp, shaped_names hgnm, shaped_names (fun x k hx => hnm x k (sub _ hx)), _, rfl, ?_⟩
      by_cases he : PyData.eqv (.list (go.map nameD)) (.list (gp.map nameD)) = true
      · refine if_t he ?_
        have ego : go = gp := names_eqv (by simpa [PyData.eqv] using he)
        refine ⟨_, rfl, .inl ⟨rfl, _, SqL.of hxp⟩, _, rfl, _, rfl, by show 2 ≤ sizeLine; decide, fun D6 hD6 => ?_⟩
        have f5 : Same H4 (upd H4 D6 (.tup [.str nm, .int wd])) := same_new hD6 _
        have h5 : upd H4 D6 (.tup [.str nm, .int wd]) D6 = some (.tup [.str nm, .int wd]) := upd_same
        have k5 := k4.trans (KP.of f5)
        have hp5 := hp4.same f5
        have hxp5 := f5 _ _ hxp
        have hdp5 := hdp.mono f5
        have hnl5 := hnl4.same f5
        have hv5 := hv4.mono f5
        have htk5 := f5 _ _ htk4
        generalize upd H4 D6 (.tup [.str nm, .int wd]) = H5 at *
        have lxp := hdp.length
        rw [List.length_map] at lxp
        refine ⟨pl, _, _, rfl, rfl, hxp5, small1000 (by omega), ?_⟩
        have hnl6 := NL.app (q := (nm, wd)) hxp5 hdp5 (.tup (SqT.of h5) (.cons (.str _) (.cons (.int _) .nil)))
        have k6' : KP [pl] H5 (upd H5 pl (.lst (xp ++ [.ref D6]))) := KP.set (by simp) hxp5
        exact ⟨_, rfl, _, rfl, _, rfl, _, rfl, by show 4 ≤ sizeLine; decide, fun D7 hD7 => fin _ (gp ++ [(nm, wd)]) (k5.trans (k6'.sub (by simp))) ((hp5.keep k6' (by simpa using n1)).up (by omega)) (hv5.tk k6'.tk x.noL) hnl6 (hnl5.keep k6' (by simpa using n4.symm)) (k6'.keep _ _ (by simpa using n5.symm) htk5) (.inr ⟨rfl, hf, hgr ego⟩) D7 hD7⟩
      · refine if_f (by simpa using he) ?_
        exact ⟨_, rfl, _, rfl, _, rfl, _, rfl, by show 4 ≤ sizeLine; decide, fun D5 hD5 => fin H4 gp k4 (hp4.up (by omega)) hv4 hpl4 hnl4 htk4 (.inl rfl) D5 hD5⟩
  obtain ⟨u5, hu5, tl5⟩ := tail
  have tail2 : ∃ u, PSs (cxOf CX0 P w K mg base n__law_led (Str.ofString "_law_led") (defScope s__law_led) T.a__law_led cdv A outer s H E).nox ((defBody s__law_led).drop 2) u ∧
      ∀ (made : Str) (ov : Addr) (go : Ctx) (H' : Hp), (made = ("wire" : Str) ∨ made = ("bus" : Str) ∨ made = ("filter" : Str)) → ((ov = pl ∧ go = gp) ∨ (ov = ev ∧ go = ge ∧ made ≠ ("filter" : Str))) → KP [p] H H' → Pot H' p (N + 2) →
        u { nx := fun _ H' => Q .non H', rt := Q } [some (.ref p), some (.ref pl), some (.ref ev), some (.ref tk), some (.int deep), some (.str made), some (.ref ov), none, none, none, none, none] H' := by
    refine ⟨_, (pss_cons (ps_set (i := 7) nd rfl (Or.inl rfl) (pe_call G__law_width (hr.mono (by omega)) rfl T.m__law_width T.k__law_width T.b__law_width .nil pass0 (pa_cons (pv 0) pa_nil)))
      (pss_cons (ps_set (i := 8) nd rfl (Or.inl rfl) (pe_call G__law_term (hr.mono (by omega)) rfl T.m__law_term T.k__law_term T.b__law_term .nil pass0 (pa_cons (pv 0) (pa_cons (pv 6) (pa_cons (pv 7) (pa_cons (pv 4) pa_nil))))))
      (pss_cons (ps_if (pt_cmpR op_eq (pv 5) pe_str (nomark _)) (pss_cons (ps_set (i := 9) nd rfl (Or.inl rfl) (pe_lst pa_nil))
      (pss_cons (ps_for PassesOwn.never rfl (pi_range1 rfl T.z_range (pa_cons (pe_op op_add pe_int (pe_call G__law_digit (hr.mono (by omega)) rfl T.m__law_digit T.k__law_digit T.b__law_digit .nil pass0 (pa_cons (pv 0) (pa_cons pe_int pa_nil)))) pa_nil)) (pg_name (i := 10) nd rfl (Or.inl rfl)) (pss_one (ps_expr (pe_bm PySem.F.plainAttrs_list PySem.F.slot_list_append PySem.F.type_list_append mt_append (pv 9) (pa_cons (pe_tup (pa_cons (pe_call G__law_term (hr.mono (by omega)) rfl T.m__law_term T.k__law_term T.b__law_term .nil pass0 (pa_cons (pv 0) (pa_cons (pv 6) (pa_cons pe_int (pa_cons (pe_op op_sub (pv 4) pe_int) pa_nil))))) (pa_cons (pe_call G__law_term (hr.mono (by omega)) rfl T.m__law_term T.k__law_term T.b__law_term .nil pass0 (pa_cons (pv 0) (pa_cons (pv 6) (pa_cons (pv 7) (pa_cons (pe_op op_sub (pv 4) pe_int) pa_nil))))) pa_nil))) pa_nil)))))
      (pss_one (ps_set (i := 8) nd rfl (Or.inl rfl) (pe_callTy call_tuple_of (by rfl) T.z_tuple (by decide +kernel) (pa_cons (pv 9) pa_nil)))))) pss_nil)
      hu5))), ?_⟩
    intro made ov go H1 hmade hov k1 hp1
    have pov : p ≠ ov := by rcases hov with ⟨rfl, _⟩ | ⟨rfl, _⟩; exact n1; exact n2
    have hgo : NL K H ov go := by rcases hov with ⟨rfl, rfl⟩ | ⟨rfl, rfl, _⟩; exact hpl; exact hev
    have gnm : ∀ x k, (x, k) ∈ go → IsNm x := by
      rcases hov with ⟨_, rfl⟩ | ⟨_, rfl, _⟩
      · exact fun x k hx => hnm x k (sub _ hx)
      · exact hnm
    have g9 : go.length ≤ 900 := by rcases hov with ⟨_, rfl⟩ | ⟨_, rfl, _⟩; exact gp9; exact ge9
    refine ⟨_, rfl, p, N + 2, rfl, by omega, hp1, ?_⟩
    rintro _ H2 k2 hp2 ⟨wd, rfl, w1, w8⟩
    have k02 := k1.trans k2
    refine ⟨_, rfl, _, rfl, _, rfl, _, rfl, p, ov, go, wd, N + 4, deep, rfl, by omega, d3, pov, hgo.keep k02 (by simpa using pov.symm), gnm, by omega, by omega, by omega, by omega, hp2.up (by omega), ?_⟩
    rintro v3 H3 k3 hp3 ⟨t, ht, hdt⟩
    have k03 := k02.trans k3
    have row5 : ∀ (x : What), (∀ n, RowOk go ⟨made, n, wd, x⟩) → ((ov = pl ∧ ∀ n, RowOk gp ⟨made, n, wd, x⟩) ∨ (ov = ev ∧ made ≠ ("filter" : Str) ∧ ∀ n, RowOk ge ⟨made, n, wd, x⟩)) := by
      intro x hx
      rcases hov with ⟨h1, rfl⟩ | ⟨h1, rfl, h3⟩
      · exact .inl ⟨h1, hx⟩
      · exact .inr ⟨h1, h3, hx⟩
    refine ⟨_, rfl, rfl, _, rfl, ?_⟩
    rcases hmade with rfl | rfl | rfl
    · refine if_f so3 ?_
      exact tl5 "wire" ov wd v3 (.term t) none none H3 (.inl rfl) (row5 _ fun n => .wire n wd t ht) (by omega) (by omega) hdt k03 (hp3.up (by omega))
    · refine if_t so5 ?_
      refine ⟨by show 0 ≤ sizeLine; decide, fun dr hdr => ?_⟩
      have f4 : Same H3 (upd H3 dr (.lst [])) := same_new hdr _
      have h4 : upd H3 dr (.lst []) dr = some (.lst []) := upd_same
      have pdr : p ≠ dr := hp3.ne hdr
      have hp4 := hp3.same f4
      have k34 : KP [p] H3 (upd H3 dr (.lst [])) := KP.of f4
      generalize upd H3 dr (.lst []) = H4 at *
      refine ⟨_, rfl, p, 3, N + 4 + 5120, rfl, by decide, by decide, by omega, hp4, ?_⟩
      rintro _ H5 k5 hp5 ⟨d, rfl, d0, dm⟩
      refine ⟨_, _, rfl, rfl, 2 + d, rfl, by omega, by omega, ?_⟩
      have k35 := k34.trans k5
      refine for_it (walk_range (lo := 0) (n := (2 + d).toNat)) (fun i σ H6 => ∃ o10 ds vs, σ = [some (.ref p), some (.ref pl), some (.ref ev), some (.ref tk), some (.int deep), some (.str "bus"), some (.ref ov), some (.int wd), some v3, some (.ref dr), o10, none] ∧ KP [p] H3 H6 ∧ Pot H6 p (N + 5125 + 10240 * i) ∧ H6 dr = some (.lst vs) ∧ DpAll K H6 vs (ds.map fun q : Tm × Tm => PyData.tuple [q.1.d, q.2.d]) ∧ ds.length = i ∧ ∀ q ∈ ds, Ok go 4 1 q.1 ∧ Ok go 4 wd q.2)
        ⟨none, [], [], rfl, k35, hp5.up (by omega), k5.keep _ _ (by simpa using pdr.symm) h4, .nil, rfl, fun q hq => absurd hq List.not_mem_nil⟩ (fun i σ H2 _ _ => True.intro) ?_ ?_
      · rintro i x σ _ H6 hi ⟨o10, ds, vs, rfl, k6, hp6, hvs, hds, lds, hok⟩ ⟨rfl, rfl⟩
        have hi4 : i < 4 := by omega
        have lvs := hds.length
        rw [List.length_map] at lvs
        refine ⟨_, rfl, .inl ⟨rfl, _, SqL.of hvs⟩, ?_⟩
        have k06 := k03.trans k6
        refine ⟨_, rfl, _, rfl, _, rfl, _, _, rfl, rfl, p, ov, go, 1, N + 5125 + 10240 * i, deep - 1, rfl, by omega, by omega, pov, hgo.keep k06 (by simpa using pov.symm), gnm, by omega, by decide, by decide, by omega, hp6, ?_⟩
        rintro v7 H7 k7 hp7 ⟨t1, ht1, hd1⟩
        have k07 := k06.trans k7
        refine ⟨_, rfl, _, rfl, _, rfl, _, rfl, _, _, rfl, rfl, p, ov, go, wd, N + 5125 + 10240 * i + 5120, deep - 1, rfl, by omega, by omega, pov, hgo.keep k07 (by simpa using pov.symm), gnm, by omega, by omega, by omega, by omega, hp7, ?_⟩
        rintro v8 H8 k8 hp8 ⟨t2, ht2, hd2⟩
        refine ⟨by show 2 ≤ sizeLine; decide, fun D hD => ?_⟩
        have f9 : Same H8 (upd H8 D (.tup [v7, v8])) := same_new hD _
        have h9 : upd H8 D (.tup [v7, v8]) D = some (.tup [v7, v8]) := upd_same
        have k69 := k7.trans (k8.trans (KP.of f9))
        have hp9 := hp8.same f9
        have hvs9 := k69.keep dr _ (by simpa using pdr.symm) hvs
        have nlb : noLs (ds.map fun q : Tm × Tm => PyData.tuple [q.1.d, q.2.d]) = true := (What.noL (.bus ds))
        have hds9 := hds.tk k69.tk nlb
        have hd9 : Dp K (upd H8 D (.tup [v7, v8])) (.ref D) (.tuple [t1.d, t2.d]) := .tup (SqT.of h9) (.cons ((hd1.tk k8.tk t1.noL).mono f9) (.cons (hd2.mono f9) .nil))
        generalize upd H8 D (.tup [v7, v8]) = H9 at *
        have t10 : TK H9 (upd H9 dr (.lst (vs ++ [.ref D]))) := TK.lst hvs9
        refine ⟨dr, _, _, rfl, rfl, hvs9, small1000 (by omega), _, ds ++ [(t1, t2)], _, rfl, (k6.trans k69).new hdr hvs9, ?_, upd_same, ?_, by simp [lds], fun q hq => ?_⟩
        · obtain ⟨a, b, c, e, h⟩ := hp9
          exact ⟨a, b, c, by rw [upd_ne pdr]; exact e, h.1, h.2.1, h.2.2.1, h.2.2.2.1, by omega⟩
        · rw [List.map_append]
          exact (hds9.tk t10 nlb).app (.cons (hd9.tk t10 (by simp [noL, noLs, t1.noL, t2.noL])) .nil)
        · rcases List.mem_append.mp hq with hq | hq
          · exact hok q hq
          · rw [List.mem_singleton.mp hq]
            exact ⟨ht1, ht2⟩
      · rintro σ H6 ⟨o10, ds, vs, rfl, k6, hp6, hvs, hds, lds, hok⟩
        refine ⟨_, rfl, dr, vs, rfl, .inl ⟨SqL.of hvs, fun D hD => ?_⟩⟩
        have f7 : Same H6 (upd H6 D (.tup vs)) := same_new hD _
        have hbus : Dp K (upd H6 D (.tup vs)) (.ref D) (What.d (.bus ds)) := .tup (SqT.of upd_same) (hds.mono f7)
        exact tl5 "bus" ov wd (.ref D) (.bus ds) _ _ _ (.inr (.inl rfl)) (row5 _ fun n => .bus n wd ds (by omega) (by omega) hok) (by omega) (by omega) hbus (k03.trans (k6.trans (KP.of f7))) ((hp6.up (by omega)).same f7)
    · refine if_f so4 ?_
      exact tl5 "filter" ov wd v3 (.term t) none none H3 (.inr (.inr rfl)) (row5 _ fun n => .filter n wd t ht) (by omega) (by omega) hdt k03 (hp3.up (by omega))
  obtain ⟨u2, hu2, tl2⟩ := tail2
  refine ⟨_, (pss_cons (ps_set (i := 5) nd rfl (Or.inl rfl) (pe_ix ix_list (pe_lst (pa_cons pe_str (pa_cons pe_str (pa_cons pe_str pa_nil)))) (pe_call G__law_digit (hr.mono (by omega)) rfl T.m__law_digit T.k__law_digit T.b__law_digit .nil pass0 (pa_cons (pv 0) (pa_cons pe_int pa_nil))) (fun _ _ => rfl)))
      (pss_cons (ps_set (i := 6) nd rfl (Or.inl rfl) (pe_ix ix_list (pe_lst (pa_cons (pv 1) (pa_cons (pv 2) pa_nil))) (pe_callTy call_int1 (by rfl) T.z_int (by decide +kernel) (pa_cons (pe_and (pe_cmpR op_ne (pv 5) pe_str (nomark _)) (pe_one (pe_cmpR op_eq (pe_call G__law_digit (hr.mono (by omega)) rfl T.m__law_digit T.k__law_digit T.b__law_digit .nil pass0 (pa_cons (pv 0) (pa_cons pe_int pa_nil))) pe_int (nomark _)))) pa_nil)) (fun _ _ => rfl)))
      hu2)), ?_⟩
  refine ⟨by show 3 ≤ sizeLine; decide, fun D hD => ?_⟩
  have f1 : Same H (upd H D (.lst [.str "wire", .str "bus", .str "filter"])) := same_new hD _
  have h1 : upd H D (.lst [.str "wire", .str "bus", .str "filter"]) D = some (.lst [.str "wire", .str "bus", .str "filter"]) := upd_same
  have pD := hp.ne hD
  have hp1 := hp.same f1
  generalize upd H D (.lst [.str "wire", .str "bus", .str "filter"]) = H1 at *
  refine ⟨_, rfl, p, 3, N, rfl, by decide, by decide, by omega, hp1, ?_⟩
  rintro _ H2 k2 hp2 ⟨d, rfl, d0, dm⟩
  have h2 := k2.keep D _ (by simpa using pD.symm) h1
  have k02 : KP [p] H H2 := (KP.of f1).trans k2
  have hc : d = 0 ∨ d = 1 ∨ d = 2 := by omega
  obtain ⟨made, hat, hmade, hfil⟩ : ∃ made : Str, atI [V.str "wire", V.str "bus", V.str "filter"] d = some (.str made) ∧ (made = ("wire" : Str) ∨ made = ("bus" : Str) ∨ made = ("filter" : Str)) ∧ True := by
    rcases hc with rfl | rfl | rfl
    · exact ⟨_, rfl, .inl rfl, trivial⟩
    · exact ⟨_, rfl, .inr (.inl rfl), trivial⟩
    · exact ⟨_, rfl, .inr (.inr rfl), trivial⟩
  refine ⟨D, _, _, _, rfl, rfl, SqL.of h2, hat, ?_⟩
  refine ⟨_, rfl, _, rfl, by show 2 ≤ sizeLine; decide, fun D3 hD3 => ?_⟩
  have f3 : Same H2 (upd H2 D3 (.lst [.ref pl, .ref ev])) := same_new hD3 _
  have h3 : upd H2 D3 (.lst [.ref pl, .ref ev]) D3 = some (.lst [.ref pl, .ref ev]) := upd_same
  have pD3 := hp2.ne hD3
  have hp3 := hp2.same f3
  have k03 := k02.trans (KP.of f3)
  generalize upd H2 D3 (.lst [.ref pl, .ref ev]) = H3 at *
  refine ⟨_, rfl, rfl, ?_⟩
  by_cases hf : made = ("filter" : Str)
  · subst hf
    refine ⟨false, rfl, if_f rfl (.inr ⟨_, rfl, D3, _, _, _, rfl, rfl, SqL.of h3, atI_0, ?_⟩)⟩
    exact tl2 "filter" pl gp H3 (.inr (.inr rfl)) (.inl ⟨rfl, rfl⟩) k03 (hp3.up (by omega))
  · refine ⟨true, by show V.bl (!decide (V.str made = V.str (Str.ofString "filter"))) = V.bl true; rw [decide_eq_false fun z => hf (V.str.inj z)]; rfl, if_t rfl ?_⟩
    refine ⟨_, rfl, p, 2, N + 1, rfl, by decide, by decide, by omega, hp3, ?_⟩
    rintro _ H4 k4 hp4 ⟨e, rfl, e0, em⟩
    have h4 := k4.keep D3 _ (by simpa using pD3.symm) h3
    have k04 := k03.trans k4
    have hce : e = 0 ∨ e = 1 := by omega
    rcases hce with rfl | rfl
    · refine ⟨rfl, .inr ⟨_, rfl, D3, _, _, _, rfl, rfl, SqL.of h4, atI_0, ?_⟩⟩
      exact tl2 made pl gp H4 hmade (.inl ⟨rfl, rfl⟩) k04 (hp4.up (by omega))
    · refine ⟨rfl, .inr ⟨_, rfl, D3, _, _, _, rfl, rfl, SqL.of h4, (show atI [V.ref pl, V.ref ev] 1 = some (.ref ev) from rfl), ?_⟩⟩
      exact tl2 made ev ge H4 hmade (.inr ⟨rfl, rfl, hf⟩) k04 (hp4.up (by omega))
end
end K34
namespace K34
open PySem PySem.Spec PyProof.Rows L2
local macro_rules | `(tactic| walk_at "sm") => `(tactic| (repeat (first | exact Same.refl _ | assumption | refine Same.trans ?_ (same_new (by assumption) _) | refine Same.trans ?_ (by assumption))))
theorem cut' {α β : Prop} (h : α → β) (a : α) : β := h a
abbrev KT := List (Str × Str × Int)
def keptD (q : Str × Str × Int) : PyData := .tuple [.str q.1, .str q.2.1, .int q.2.2]
theorem kepts_noL (g : KT) : noLs (g.map keptD) = true := noLs_iff.mpr fun d hd => by rw [List.mem_map] at hd; obtain ⟨u, _, rfl⟩ := hd; rfl
structure KL (K : PySem.W.Frag) (H : Hp) (a : Addr) (g : KT) : Prop where
  ex : ∃ xs, H a = some (.lst xs) ∧ DpAll K H xs (g.map keptD)
theorem KL.same {K : PySem.W.Frag} {H H' : Hp} {a : Addr} {g : KT} (e : Same H H') (h : KL K H a g) : KL K H' a g := by
  obtain ⟨xs, h1, h2⟩ := h.ex
  exact ⟨xs, e _ _ h1, h2.mono e⟩
theorem KL.keep {K : PySem.W.Frag} {S : List Addr} {H H' : Hp} {a : Addr} {g : KT} (k : KP S H H') (ha : a ∉ S) (h : KL K H a g) : KL K H' a g := by
  obtain ⟨xs, h1, h2⟩ := h.ex
  exact ⟨xs, k.keep _ _ ha h1, h2.tk k.tk (kepts_noL g)⟩
theorem kept_inv {K : PySem.W.Frag} {H : Hp} {v : V} {q : Str × Str × Int} (h : Dp K H v (keptD q)) : ∃ a : Addr, v = .ref a ∧ SqT K H a [.str q.1, .str q.2.1, .int q.2.2] := by
  obtain ⟨a, xs, rfl, hs, h⟩ := Dp.tup_inv h
  obtain ⟨v0, _, rfl, h0, r0⟩ := DpAll.cons_inv h
  obtain ⟨v1, _, rfl, h1, r1⟩ := DpAll.cons_inv r0
  obtain ⟨v2, _, rfl, h2, r2⟩ := DpAll.cons_inv r1
  obtain rfl := DpAll.nil_inv r2
  obtain rfl := Dp.str_inv h0
  obtain rfl := Dp.str_inv h1
  obtain rfl := Dp.int_inv h2
  exact ⟨a, rfl, hs⟩
theorem kept_at {K : PySem.W.Frag} {H : Hp} {xs : List V} {g : KT} {i : Nat} {q : Str × Str × Int} (hd : DpAll K H xs (g.map keptD)) (hx : g[i]? = some q) : ∃ a : Addr, xs[i]? = some (.ref a) ∧ SqT K H a [.str q.1, .str q.2.1, .int q.2.2] := by
  obtain ⟨v, hv, hd'⟩ := hd.at (i := i) (d := keptD q) (by rw [List.getElem?_map, hx]; rfl)
  obtain ⟨a, rfl, hs⟩ := kept_inv hd'
  exact ⟨a, hv, hs⟩
structure KOk (g : Ctx) (kept : List Str) (kl : KT) : Prop where
  wd : ∀ q ∈ kl, q.1 = ("now" : Str) ∨ q.1 = ("later" : Str)
  kp : ∀ q ∈ kl, q.2.1 ∈ kept
  g : ∀ q ∈ kl, (q.2.1, q.2.2) ∈ g
  w : ∀ q ∈ kl, 1 ≤ q.2.2 ∧ q.2.2 ≤ 8
  few : kl.length ≤ 900
theorem strOk_now {o : Str} (h : o = ("now" : Str) ∨ o = ("later" : Str)) : PyData.strOk o = true := by rcases h with rfl | rfl <;> decide +kernel
theorem shaped_kepts {g : Ctx} {kept : List Str} {kl : KT} (hg : ∀ x k, (x, k) ∈ g → IsNm x) (h : KOk g kept kl) : SeqAt.shaped (.list (kl.map keptD)) = true := by
  have h1 : PyData.canLayAll0 (kl.map keptD) = true := by
    have h1 := h.wd
    have h2 := h.g
    clear h
    induction kl with
    | nil => rfl
    | cons q l ih => simp [keptD, PyData.canLayAll0, PyData.canLay0, strOk_now (h1 q List.mem_cons_self), strOk_nm (hg _ _ (h2 q List.mem_cons_self)), ih (fun x hx => h1 x (List.mem_cons_of_mem _ hx)) (fun x hx => h2 x (List.mem_cons_of_mem _ hx))]
  have h2 : PyData.depthAll (kl.map keptD) ≤ 1 := by
    clear h h1
    induction kl with
    | nil => simp [PyData.depthAll]
    | cons q l ih => simp [keptD, PyData.depthAll, PyData.depth] at *; omega
  unfold SeqAt.shaped
  simp only [PyData.canLay0, PyData.depth, h1, Bool.true_and]
  exact decide_eq_true (by omega)
/-- what it sets is in the list -/
def FromK (kl : KT) (s : Stt) : Prop := ∀ o x, x ∈ s.sets o → ∃ k, (o, x, k) ∈ kl
theorem fromK_list {kl : KT} {b : List Stt} (h : ∀ s ∈ b, FromK kl s) {o x : Str} (hx : x ∈ setsL o b) : ∃ k, (o, x, k) ∈ kl := by
  rw [setsL_flat, List.mem_flatMap] at hx
  obtain ⟨s, hs, hx⟩ := hx
  exact h s hs o x hx
section
variable {P : Program} {w : World} {K : PySem.W.Frag} {mg : Str → Option Value} {base : Heap}
def spBody (K : PySem.W.Frag) (m : Nat) (c : Int) : Sp := fun vs H Q _ => ∃ (p kp ev rm : Addr) (N r : Int) (g : Ctx) (kept : List Str) (kl : KT), vs = [.ref p, .ref kp, .ref ev, .int m, .ref rm] ∧ 1 ≤ m ∧ m ≤ 4 ∧ (p ≠ kp ∧ p ≠ ev ∧ p ≠ rm ∧ kp ≠ rm ∧ ev ≠ rm) ∧ KL K H kp kl ∧ KOk g kept kl ∧ NL K H ev g ∧ (∀ x k, (x, k) ∈ g → IsNm x) ∧ g.length ≤ 1000 ∧
  H rm = some (.lst [.int r]) ∧ r ≤ 20 ∧ N + c < 4611686018427387904 ∧ Pot H p N ∧
  RetG H Q [p, rm] p (N + c) fun v H' => ∃ (b : List Stt) (r' : Int), Dp K H' v (.tuple (sttsD b)) ∧ (∀ s ∈ b, StOk g kept m s ∧ FromK kl s) ∧ weightL b + max r' 0 ≤ max r 0 ∧ H' rm = some (.lst [.int r'])
theorem ok__law_body1 (T : TX K mg w) (m : Nat) (c : Int) (hc : 0 ≤ c) (G__law_digit : FnOk P w K mg base CX0 1 T.a__law_digit T.d__law_digit p__law_digit spDig) (G__law_term : FnOk P w K mg base CX0 7 T.a__law_term T.d__law_term p__law_term (spT K))
    (G__law_body : FnOk P w K mg base CX0 (m + 8) T.a__law_body T.d__law_body p__law_body (spBody K m c)) : FnOk P w K mg base CX0 (m + 1 + 8) T.a__law_body T.d__law_body p__law_body (spBody K (m + 1) (40000 + 6 * c)) := by
  refine T.F__law_body.ok sc__law_body (fun vs H Q E h => ?_) (fun cdv A outer s H vs Q E hr h => ?_)
  · obtain ⟨p, kp, ev, rm, N, r, g, kept, kl, rfl, _⟩ := h; rfl
  obtain ⟨p, kp, ev, rm, N, r, g, kept, kl, rfl, m1, m4, ⟨n1, n2, n3, n4, n5⟩, hkl, kok, hnl, hnm, g1, hrm, r20, hN, hp, q⟩ := h
  have nd := sc__law_body.nd
  refine ⟨_, ((pss_cons (ps_set (i := 5) nd rfl (Or.inl rfl) (pe_lst pa_nil))
      (pss_cons (ps_for PassesOwn.never rfl (pi_range1 rfl T.z_range (pa_cons (pe_call G__law_digit (hr.mono (by omega)) rfl T.m__law_digit T.k__law_digit T.b__law_digit .nil pass0 (pa_cons (pv 0) (pa_cons pe_int pa_nil))) pa_nil)) (pg_name (i := 6) nd rfl (Or.inl rfl)) (pss_cons (ps_asg (pe_op op_sub (pe_ix ix_list (pv 4) pe_int (fun _ _ => rfl)) pe_int) (pg_sub (pv 4) pe_int set_list))
      (pss_cons (ps_set (i := 7) nd rfl (Or.inl rfl) (pe_call G__law_digit (hr.mono (by omega)) rfl T.m__law_digit T.k__law_digit T.b__law_digit .nil pass0 (pa_cons (pv 0) (pa_cons pe_int pa_nil))))
      (pss_one (ps_if (PW.pt (pw_and (pt_cmpR op_ge (pe_ix ix_list (pv 4) pe_int (fun _ _ => rfl)) pe_int (nomark _)) (pw_and (pt_cmpR op_eq (pv 7) pe_int (nomark _)) (pw_and1 (pt_cmpR op_gt (pv 3) pe_int (nomark _)))))) (pss_cons (ps_set (i := 8) nd rfl (Or.inl rfl) (pe_call G__law_term (hr.mono (by omega)) rfl T.m__law_term T.k__law_term T.b__law_term .nil pass0 (pa_cons (pv 0) (pa_cons (pv 2) (pa_cons pe_int (pa_cons pe_int pa_nil))))))
      (pss_cons (ps_set (i := 9) nd rfl (Or.inl rfl) (pe_call G__law_body (hr.mono (by omega)) rfl T.m__law_body T.k__law_body T.b__law_body .nil pass0 (pa_cons (pv 0) (pa_cons (pv 1) (pa_cons (pv 2) (pa_cons (pe_op op_sub (pv 3) pe_int) (pa_cons (pv 4) pa_nil)))))))
      (pss_one (ps_expr (pe_bm PySem.F.plainAttrs_list PySem.F.slot_list_append PySem.F.type_list_append mt_append (pv 5) (pa_cons (pe_tup (pa_cons pe_str (pa_cons (pv 8) (pa_cons (pv 9) (pa_cons (pe_call G__law_body (hr.mono (by omega)) rfl T.m__law_body T.k__law_body T.b__law_body .nil pass0 (pa_cons (pv 0) (pa_cons (pv 1) (pa_cons (pv 2) (pa_cons (pe_op op_sub (pv 3) pe_int) (pa_cons (pv 4) pa_nil)))))) pa_nil))))) pa_nil)))))) (pss_one (ps_if (PW.pt (pw_and (pt_cmpR op_ge (pe_ix ix_list (pv 4) pe_int (fun _ _ => rfl)) pe_int (nomark _)) (pw_and1 (pt_cmpR (op_neD hr.units) (pv 1) (pe_lst pa_nil) (nomark _))))) (pss_cons (ps_asg (pe_ix ix_list (pv 1) (pe_call G__law_digit (hr.mono (by omega)) rfl T.m__law_digit T.k__law_digit T.b__law_digit .nil pass0 (pa_cons (pv 0) (pa_cons (pe_callB call_len_seq (by rfl) T.z_len PySem.boot_len (pa_cons (pv 1) pa_nil)) pa_nil))) (fun _ _ => rfl)) (pg_tup rfl (pgs_cons (pg_name (i := 10) nd rfl (Or.inl rfl)) (pgs_cons (pg_name (i := 11) nd rfl (Or.inl rfl)) (pgs_cons (pg_name (i := 12) nd rfl (Or.inl rfl)) pgs_nil)))))
      (pss_one (ps_expr (pe_bm PySem.F.plainAttrs_list PySem.F.slot_list_append PySem.F.type_list_append mt_append (pv 5) (pa_cons (pe_tup (pa_cons (pv 10) (pa_cons (pv 11) (pa_cons (pe_call G__law_term (hr.mono (by omega)) rfl T.m__law_term T.k__law_term T.b__law_term .nil pass0 (pa_cons (pv 0) (pa_cons (pv 2) (pa_cons (pv 12) (pa_cons pe_int pa_nil))))) pa_nil)))) pa_nil))))) pss_nil)))))))
      (pss_one (ps_ret (pe_callTy call_tuple_of (by rfl) T.z_tuple (by decide +kernel) (pa_cons (pv 5) pa_nil))))))), ?_⟩
  refine ⟨by show 0 ≤ sizeLine; decide, fun pf hpf => ?_⟩
  have f1 : Same H (upd H pf (.lst [])) := same_new hpf _
  have h1 : upd H pf (.lst []) pf = some (.lst []) := upd_same
  have pne : p ≠ pf := hp.ne hpf
  have rne : rm ≠ pf := fun z => by rw [z, hpf] at hrm; cases hrm
  have hp1 := hp.same f1
  have hrm1 := f1 _ _ hrm
  generalize upd H pf (.lst []) = H1 at *
  refine ⟨_, rfl, p, 4, N, rfl, by decide, by decide, by omega, hp1, ?_⟩
  rintro _ H2 k2 hp2 ⟨nn, rfl, nn0, nnm⟩
  refine ⟨nn, rfl, by omega, by omega, ?_⟩
  have he : 0 ≤ 11000 + 2 * c := by omega
  have hcost : N + 1 + 3 * (11000 + 2 * c) ≤ N + (40000 + 6 * c) := by omega
  generalize hec : 11000 + 2 * c = ec at *
  have pt0 : pf ∉ [p, rm] := by simp only [List.mem_cons, List.not_mem_nil, or_false, not_or]; exact ⟨pne.symm, rne.symm⟩
  refine for_it (walk_range (lo := 0) (n := nn.toNat)) (fun i σ H3 => ∃ o6 o7 o8 o9 o10 o11 o12 vs b r', σ = [some (.ref p), some (.ref kp), some (.ref ev), some (.int ((m + 1 : Nat) : Int)), some (.ref rm), some (.ref pf), o6, o7, o8, o9, o10, o11, o12] ∧ KP [p, rm] H H3 ∧ Pot H3 p (N + 1 + i * ec) ∧ H3 pf = some (.lst vs) ∧ DpAll K H3 vs (sttsD b) ∧ b.length ≤ i ∧
      (∀ s ∈ b, StOk g kept (m + 1) s ∧ FromK kl s) ∧ weightL b + max r' 0 ≤ max r 0 ∧ H3 rm = some (.lst [.int r']))
    ⟨none, none, none, none, none, none, none, [], [], r, rfl, (KP.of f1).trans (k2.sub (by simp)), hp2.up (by rw [show ((0 : Nat) : Int) * ec = 0 from Int.zero_mul _]; omega), k2.keep _ _ (by simpa using pne.symm) h1, .nil, Nat.le_refl _, fun s hs => absurd hs List.not_mem_nil, by simp [weightL], k2.keep _ _ (by simpa using n3.symm) hrm1⟩ (fun i σ H2 _ _ => True.intro) ?_ ?_
  · rintro i x σ _ H3 hi ⟨o6, o7, o8, o9, o10, o11, o12, vs, b, r', rfl, k3, hp3, hF, hd, lb, hb, hwt, hrm3⟩ ⟨rfl, rfl⟩
    have hi3 : i < 3 := by omega
    have hie : ((i + 1 : Nat) : Int) * ec = i * ec + ec := by rw [Int.natCast_add, Int.add_mul, show ((1 : Nat) : Int) = 1 from rfl, Int.one_mul]
    have hib : (i : Int) * ec + ec ≤ 3 * ec := by
      have : i = 0 ∨ i = 1 ∨ i = 2 := by omega
      rcases this with rfl | rfl | rfl <;> simp <;> omega
    generalize (i : Int) * ec = ie at *
    have hr20 : r' ≤ 20 := by have := weightL_nn b; omega
    refine ⟨_, rfl, rm, _, _, _, rfl, rfl, SqL.of hrm3, atI_0, _, _, rfl, rfl, _, rfl, rm, _, 0, 0, rfl, rfl, hrm3, rfl, ?_⟩
    have k4' : KP [rm] H3 (upd H3 rm (.lst ([V.int r'].set 0 (.int (r' - 1))))) := KP.set (by simp) hrm3
    have hrm4 : upd H3 rm (.lst ([V.int r'].set 0 (.int (r' - 1)))) rm = some (.lst [.int (r' - 1)]) := upd_same
    have hp4 := hp3.keep k4' (by simpa using n3)
    have hF4 := k4'.keep _ _ (by simpa using rne.symm) hF
    have hd4 := hd.tk k4'.tk (Stt.noLs b)
    have k4 := k3.trans (k4'.sub (by simp))
    generalize upd H3 rm (.lst ([V.int r'].set 0 (.int (r' - 1)))) = H4 at *
    refine ⟨_, rfl, p, 3, _, rfl, by decide, by decide, by omega, hp4, ?_⟩
    rintro _ H5 k5' hp5 ⟨d, rfl, d0, dm⟩
    have hrm5 := k5'.keep _ _ (by simpa using n3.symm) hrm4
    have hF5 := k5'.keep _ _ (by simpa using pne.symm) hF4
    have hd5 := hd4.tk k5'.tk (Stt.noLs b)
    have k5 := k4.trans (k5'.sub (by simp))
    have hnl5 := hnl.keep k5 (by simp only [List.mem_cons, List.not_mem_nil, or_false, not_or]; exact ⟨n2.symm, n5⟩)
    have hkl5 := hkl.keep k5 (by simp only [List.mem_cons, List.not_mem_nil, or_false, not_or]; exact ⟨n1.symm, n4⟩)
    have lvs := hd.length
    rw [sttsD_map, List.length_map] at lvs
    have app : ∀ (H6 : Hp) (st : Stt) (v : V) (r6 : Int), KP [p, rm] H H6 → Pot H6 p (N + 1 + (ie + ec)) → H6 pf = some (.lst vs) → DpAll K H6 vs (sttsD b) → Dp K H6 v st.d → StOk g kept (m + 1) st → FromK kl st → st.weight + max r6 0 ≤ max r' 0 → H6 rm = some (.lst [.int r6]) →
        KP [p, rm] H (upd H6 pf (.lst (vs ++ [v]))) ∧ Pot (upd H6 pf (.lst (vs ++ [v]))) p (N + 1 + ((i + 1 : Nat) : Int) * ec) ∧ upd H6 pf (.lst (vs ++ [v])) pf = some (.lst (vs ++ [v])) ∧ DpAll K (upd H6 pf (.lst (vs ++ [v]))) (vs ++ [v]) (sttsD (b ++ [st])) ∧ (b ++ [st]).length ≤ i + 1 ∧
        (∀ s ∈ b ++ [st], StOk g kept (m + 1) s ∧ FromK kl s) ∧ weightL (b ++ [st]) + max r6 0 ≤ max r 0 ∧ upd H6 pf (.lst (vs ++ [v])) rm = some (.lst [.int r6]) := by
      intro H6 st v r6 k6 hp6 hF6 hd6 hv6 ok6 fk6 w6 hrm6
      have t1 : TK H6 (upd H6 pf (.lst (vs ++ [v]))) := TK.lst hF6
      refine ⟨k6.new hpf hF6, ?_, upd_same, ?_, by rw [List.length_append, List.length_singleton]; omega, fun s hs => ?_, ?_, by rw [upd_ne rne]; exact hrm6⟩
      · obtain ⟨a, b, c, e, h⟩ := hp6
        rw [hie]
        exact ⟨a, b, c, by rw [upd_ne pne]; exact e, h⟩
      · have e : sttsD (b ++ [st]) = sttsD b ++ [st.d] := by rw [sttsD_map, sttsD_map, List.map_append]; rfl
        rw [e]
        exact (hd6.tk t1 (Stt.noLs b)).app (.cons (hv6.tk t1 st.noL) .nil)
      · rcases List.mem_append.mp hs with hs | hs
        · exact hb s hs
        · rw [List.mem_singleton.mp hs]
          exact ⟨ok6, fk6⟩
      · rw [weightL_app]
        have : weightL [st] = st.weight := by simp [weightL]
        omega
    apply cut'
    · intro els
      refine ⟨_, rfl, rm, _, _, _, rfl, rfl, SqL.of hrm5, atI_0, _, _, rfl, rfl, _, rfl, ?_⟩
      by_cases c1 : 0 ≤ r' - 1
      · refine if_t (decide_eq_true c1) ⟨_, rfl, rfl, _, rfl, ?_⟩
        by_cases c2 : d = 0
        · refine if_t (decide_eq_true (by rw [c2])) ⟨_, rfl, _, _, rfl, rfl, _, rfl, ?_⟩
          by_cases c3 : 1 < ((m + 1 : Nat) : Int)
          · refine if_t (decide_eq_true c3) ?_
            clear els
            refine ⟨_, rfl, _, rfl, p, ev, g, 1, N + 1 + ie + 1, 1, rfl, by decide, by decide, n2, hnl5, hnm, g1, by decide, by decide, by omega, hp5.up (by omega), ?_⟩
            rintro v6 H6 k6' hp6 ⟨t, ht, hdt⟩
            have k6 := k5.trans (k6'.sub (by simp))
            have hrm6 := k6'.keep _ _ (by simpa using n3.symm) hrm5
            have hF6 := k6'.keep _ _ (by simpa using pne.symm) hF5
            have hd6 := hd5.tk k6'.tk (Stt.noLs b)
            have hnl6 := hnl5.keep k6' (by simpa using n2.symm)
            have hkl6 := hkl5.keep k6' (by simpa using n1.symm)
            refine ⟨_, rfl, _, rfl, _, rfl, _, rfl, _, _, rfl, rfl, _, rfl, p, kp, ev, rm, N + 1 + ie + 1 + 5120, r' - 1, g, kept, kl, by show [V.ref p, V.ref kp, V.ref ev, V.int (((m + 1 : Nat) : Int) - 1), V.ref rm] = _; rw [show ((m + 1 : Nat) : Int) - 1 = (m : Int) by omega], by omega, by omega, ⟨n1, n2, n3, n4, n5⟩, hkl6, kok, hnl6, hnm, g1, hrm6, by omega, by omega, hp6, ?_⟩
            rintro v7 H7 k7' hp7 ⟨ba, r7, hba, hbaok, hbaw, hrm7⟩
            have k7 := k6.trans k7'
            have hF7 := k7'.keep _ _ pt0 hF6
            have hd7 := hd6.tk k7'.tk (Stt.noLs b)
            have hdt7 := hdt.tk k7'.tk t.noL
            have hnl7 := hnl6.keep k7' (by simp only [List.mem_cons, List.not_mem_nil, or_false, not_or]; exact ⟨n2.symm, n5⟩)
            have hkl7 := hkl6.keep k7' (by simp only [List.mem_cons, List.not_mem_nil, or_false, not_or]; exact ⟨n1.symm, n4⟩)
            refine ⟨_, rfl, .inl ⟨rfl, _, SqL.of hF7⟩, ?_⟩
            have wba := weightL_nn ba
            refine ⟨_, rfl, _, rfl, _, rfl, _, rfl, _, rfl, _, rfl, _, _, rfl, rfl, _, rfl, p, kp, ev, rm, N + 1 + ie + 1 + 5120 + c, r7, g, kept, kl, by show [V.ref p, V.ref kp, V.ref ev, V.int (((m + 1 : Nat) : Int) - 1), V.ref rm] = _; rw [show ((m + 1 : Nat) : Int) - 1 = (m : Int) by omega], by omega, by omega, ⟨n1, n2, n3, n4, n5⟩, hkl7, kok, hnl7, hnm, g1, hrm7, by omega, by omega, hp7, ?_⟩
            rintro v8 H8 k8' hp8 ⟨bb, r8, hbb, hbbok, hbbw, hrm8⟩
            refine ⟨by show 4 ≤ sizeLine; decide, fun D hD => ?_⟩
            have f9 : Same H8 (upd H8 D (.tup [.str "if", v6, v7, v8])) := same_new hD _
            have h9 : upd H8 D (.tup [.str "if", v6, v7, v8]) D = some (.tup [.str "if", v6, v7, v8]) := upd_same
            have k9 := k7.trans (k8'.trans (KP.of f9))
            have hp9 := hp8.same f9
            have hF9 := f9 _ _ (k8'.keep _ _ pt0 hF7)
            have hd9 := (hd7.tk k8'.tk (Stt.noLs b)).mono f9
            have hv9 : Dp K (upd H8 D (.tup [.str "if", v6, v7, v8])) (.ref D) (Stt.iff t ba bb).d := .tup (SqT.of h9) (.cons (.str _) (.cons ((hdt7.tk k8'.tk t.noL).mono f9) (.cons ((hba.tk k8'.tk (by simpa [noL] using Stt.noLs ba)).mono f9) (.cons (hbb.mono f9) .nil))))
            have hrm9 := f9 _ _ hrm8
            generalize upd H8 D (.tup [.str "if", v6, v7, v8]) = H9 at *
            have wbb := weightL_nn bb
            obtain ⟨a1, a2, a3, a4, a5, a6, a7, a8⟩ := app H9 (.iff t ba bb) (.ref D) r8 k9 (hp9.up (by omega)) hF9 hd9 hv9 ⟨ht, fun s hs => (hbaok s hs).1, fun s hs => (hbbok s hs).1⟩ (fun o x hx => by
              simp only [Stt.sets, List.mem_append] at hx
              rcases hx with hx | hx
              · exact fromK_list (fun s hs => (hbaok s hs).2) hx
              · exact fromK_list (fun s hs => (hbbok s hs).2) hx) (by simp only [Stt.weight]; omega) hrm9
            exact ⟨pf, _, _, rfl, rfl, hF9, small1000 (by omega), _, _, _, _, _, _, _, _, _, _, rfl, a1, a2, a3, a4, a5, a6, a7, a8⟩
          · exact if_f (decide_eq_false c3) els
        · exact if_f (decide_eq_false fun z => c2 (V.int.inj z)) (if_f rfl els)
      · exact if_f (decide_eq_false c1) (if_f rfl els)
    · refine ⟨_, rfl, rm, _, _, _, rfl, rfl, SqL.of hrm5, atI_0, _, _, rfl, rfl, _, rfl, ?_⟩
      have none_ : ∀ (H6 : Hp), KP [p, rm] H H6 → Pot H6 p (N + 1 + (ie + ec)) → H6 pf = some (.lst vs) → DpAll K H6 vs (sttsD b) → H6 rm = some (.lst [.int (r' - 1)]) → KP [p, rm] H H6 ∧ Pot H6 p (N + 1 + ((i + 1 : Nat) : Int) * ec) ∧ H6 pf = some (.lst vs) ∧ DpAll K H6 vs (sttsD b) ∧ b.length ≤ i + 1 ∧ (∀ s ∈ b, StOk g kept (m + 1) s ∧ FromK kl s) ∧ weightL b + max (r' - 1) 0 ≤ max r 0 ∧ H6 rm = some (.lst [.int (r' - 1)]) :=
        fun H6 k6 hp6 hF6 hd6 hrm6 => ⟨k6, by rw [hie]; exact hp6, hF6, hd6, by omega, hb, by omega, hrm6⟩
      by_cases c1 : 0 ≤ r' - 1
      · refine if_t (decide_eq_true c1) ?_
        obtain ⟨xk, hxk, hdk⟩ := hkl5.ex
        refine ⟨_, rfl, by show 0 ≤ sizeLine; decide, fun D6 hD6 => ?_⟩
        have f6 : Same H5 (upd H5 D6 (.lst [])) := same_new hD6 _
        refine ⟨.list (kl.map keptD), .list [], .lst (SqL.of (f6 _ _ hxk)) (hdk.mono f6), .lst (SqL.of upd_same) .nil, shaped_kepts hnm kok, rfl, _, rfl, ?_⟩
        have hp6 := hp5.same f6
        have hrm6 := f6 _ _ hrm5
        have hF6 := f6 _ _ hF5
        have hd6 := hd5.mono f6
        have hxk6 := f6 _ _ hxk
        have hdk6 := hdk.mono f6
        have hnl6 := hnl5.same f6
        have k6 := k5.trans (KP.of f6)
        generalize upd H5 D6 (.lst []) = H6 at *
        have hwd := kok.wd
        have hkp := kok.kp
        have hkg := kok.g
        have hkw := kok.w
        have few := kok.few
        cases hkll : kl with
        | nil =>
          subst hkll
          refine if_f rfl ?_
          obtain ⟨a1, a2, a3, a4, a5, a6, a7, a8⟩ := none_ H6 k6 (hp6.up (by omega)) hF6 hd6 hrm6
          exact ⟨_, _, _, _, _, _, _, _, _, _, rfl, a1, a2, a3, a4, a5, a6, a7, a8⟩
        | cons q0 kl' =>
          refine if_t rfl ?_
          rw [← hkll]
          have lxk := hdk.length
          rw [List.length_map] at lxk
          have kpos : 1 ≤ kl.length := by rw [hkll]; simp
          refine ⟨_, rfl, _, rfl, _, rfl, kp, xk, rfl, .inl (SqL.of hxk6), ?_⟩
          refine ⟨p, _, N + 1 + ie + 1, rfl, by omega, by omega, by omega, hp6.up (by omega), ?_⟩
          rintro _ H7 k7' hp7 ⟨dk, rfl, dk0, dkm⟩
          obtain ⟨j, rfl⟩ : ∃ j : Nat, dk = j := ⟨dk.toNat, by omega⟩
          have hj : j < kl.length := by omega
          have hxk7 := k7'.keep _ _ (by simpa using n1.symm) hxk6
          have hdk7 := hdk6.tk k7'.tk (kepts_noL kl)
          obtain ⟨ca, hca, hcs⟩ := kept_at hdk7 (List.getElem?_eq_getElem hj)
          have hqm := List.getElem_mem hj
          generalize kl[j] = qk at *
          refine ⟨kp, _, _, _, rfl, rfl, SqL.of hxk7, atI_nat (j := j) hca, ca, _, rfl, hcs, rfl, _, _, rfl, _, _, rfl, _, _, rfl, rfl, ?_⟩
          have k7 := k6.trans (k7'.sub (by simp))
          have hF7 := k7'.keep _ _ (by simpa using pne.symm) hF6
          have hd7 := hd6.tk k7'.tk (Stt.noLs b)
          have hrm7 := k7'.keep _ _ (by simpa using n3.symm) hrm6
          have hnl7 := hnl6.keep k7' (by simpa using n2.symm)
          refine ⟨_, rfl, .inl ⟨rfl, _, SqL.of hF7⟩, ?_⟩
          refine ⟨_, rfl, _, rfl, _, rfl, _, rfl, _, rfl, p, ev, g, qk.2.2, N + 1 + ie + 1 + 1, 2, rfl, by decide, by decide, n2, hnl7, hnm, g1, (hkw qk hqm).1, (hkw qk hqm).2, by omega, hp7, ?_⟩
          rintro v8 H8 k8' hp8 ⟨t, ht, hdt⟩
          refine ⟨by show 3 ≤ sizeLine; decide, fun D hD => ?_⟩
          have f9 : Same H8 (upd H8 D (.tup [.str qk.1, .str qk.2.1, v8])) := same_new hD _
          have h9 : upd H8 D (.tup [.str qk.1, .str qk.2.1, v8]) D = some (.tup [.str qk.1, .str qk.2.1, v8]) := upd_same
          have k9 := k7.trans ((k8'.sub (by simp)).trans (KP.of f9))
          have hp9 := hp8.same f9
          have hF9 := f9 _ _ (k8'.keep _ _ (by simpa using pne.symm) hF7)
          have hd9 := (hd7.tk k8'.tk (Stt.noLs b)).mono f9
          have hv9 : Dp K (upd H8 D (.tup [.str qk.1, .str qk.2.1, v8])) (.ref D) (Stt.set qk.1 qk.2.1 t).d := .tup (SqT.of h9) (.cons (.str _) (.cons (.str _) (.cons (hdt.mono f9) .nil)))
          have hrm9 := f9 _ _ (k8'.keep _ _ (by simpa using n3.symm) hrm7)
          generalize upd H8 D (.tup [.str qk.1, .str qk.2.1, v8]) = H9 at *
          obtain ⟨a1, a2, a3, a4, a5, a6, a7, a8⟩ := app H9 (.set qk.1 qk.2.1 t) (.ref D) (r' - 1) k9 (hp9.up (by omega)) hF9 hd9 hv9 ⟨hwd qk hqm, hkp qk hqm, qk.2.2, hkg qk hqm, ht⟩ (fun o x hx => by
            simp only [Stt.sets] at hx
            split at hx
            · rename_i e
              rw [List.mem_singleton.mp hx, ← e]
              exact ⟨qk.2.2, hqm⟩
            · cases hx) (by simp only [Stt.weight]; omega) hrm9
          exact ⟨pf, _, _, rfl, rfl, hF9, small1000 (by omega), _, _, _, _, _, _, _, _, _, _, rfl, a1, a2, a3, a4, a5, a6, a7, a8⟩
      · refine if_f (decide_eq_false c1) (if_f rfl ?_)
        obtain ⟨a1, a2, a3, a4, a5, a6, a7, a8⟩ := none_ H5 k5 (hp5.up (by omega)) hF5 hd5 hrm5
        exact ⟨_, _, _, _, _, _, _, _, _, _, rfl, a1, a2, a3, a4, a5, a6, a7, a8⟩
  · rintro σ H3 ⟨o6, o7, o8, o9, o10, o11, o12, vs, b, r', rfl, k3, hp3, hF, hd, lb, hb, hwt, hrm3⟩
    have hie : (nn.toNat : Int) * ec ≤ 3 * ec := by
      have : nn.toNat = 0 ∨ nn.toNat = 1 ∨ nn.toNat = 2 ∨ nn.toNat = 3 := by omega
      rcases this with h | h | h | h <;> rw [h] <;> simp <;> omega
    refine ⟨_, rfl, pf, vs, rfl, .inl ⟨SqL.of hF, fun D hD => ?_⟩⟩
    have f4 : Same H3 (upd H3 D (.tup vs)) := same_new hD _
    exact q _ _ (k3.trans (KP.of f4)) ((hp3.up (by omega)).same f4) ⟨b, r', .tup (SqT.of upd_same) (hd.mono f4), hb, hwt, f4 _ _ hrm3⟩
end
end K34
namespace K34
open PySem PySem.Spec PyProof.Rows L2
local macro_rules | `(tactic| walk_at "sm") => `(tactic| (repeat (first | exact Same.refl _ | assumption | refine Same.trans ?_ (same_new (by assumption) _) | refine Same.trans ?_ (by assumption))))
theorem KP.then {S S' : List Addr} {H0 H1 H2 : Hp} (k1 : KP S H0 H1) (k2 : KP S' H1 H2) (h : ∀ b ∈ S', b ∈ S ∨ H0 b = none) : KP S H0 H2 :=
  ⟨fun b o hb e => k2.keep b o (fun hm => (h b hm).elim hb fun z => by rw [z] at e; cases e) (k1.keep b o hb e), k1.tk.trans k2.tk, fun b e => k1.free b (k2.free b e)⟩
theorem edge_at {d : Int} (h0 : 0 ≤ d) (h2 : d < 2) : ∃ e : Str, (e = ("rise" : Str) ∨ e = ("fall" : Str)) ∧ atI [V.str "rise", V.str "fall"] d = some (.str e) := by
  have : d = 0 ∨ d = 1 := by omega
  rcases this with rfl | rfl
  · exact ⟨_, .inl rfl, rfl⟩
  · exact ⟨_, .inr rfl, rfl⟩
theorem cut13 (a b c d : V) : cutV [a, b, c, d] (some 1) (some 3) = [b, c] := rfl
theorem row_slice {K : PySem.W.Frag} {H : Hp} {r : Row} {x : V} {c : Addr} {Q : VK} (hc : SqT K H c [.str r.sort, .str r.name, .int r.width, x]) (q : ∀ p, H p = none → Q (.ref p) (upd H p (.tup [.str r.name, .int r.width]))) : rSlA K (.ref c) (some 1) (some 3) H Q := by
  refine ⟨c, _, rfl, hc, fun h => ?_, fun _ p hp => ?_⟩
  · have h1 := h.1
    cases h1
  · rw [cut13]
    exact q p hp
theorem both_none {rs : List Row} {bs : List Blk} {kl : KT} (nd : (kl.map fun q => q.2.1).Nodup) (h : ∀ b ∈ bs, ∀ s ∈ b.body, FromK kl s) : bothOf rs bs = none := by
  unfold bothOf
  rw [Option.map_eq_none_iff, List.find?_eq_none]
  intro r hr hd
  obtain ⟨h1, h2⟩ := of_decide_eq_true hd
  unfold nowsOf at h1 h2
  rw [List.mem_flatMap] at h1 h2
  obtain ⟨b1, hb1, h1⟩ := h1
  obtain ⟨b2, hb2, h2⟩ := h2
  obtain ⟨k1, h1⟩ := fromK_list (h b1 hb1) h1
  obtain ⟨k2, h2⟩ := fromK_list (h b2 hb2) h2
  obtain ⟨i, hi, e1⟩ := List.getElem_of_mem h1
  obtain ⟨j, hj, e2⟩ := List.getElem_of_mem h2
  have g1 : (kl.map fun q => q.2.1)[i]? = some r.name := by rw [List.getElem?_map, List.getElem?_eq_getElem hi, e1]; rfl
  have g2 : (kl.map fun q => q.2.1)[j]? = some r.name := by rw [List.getElem?_map, List.getElem?_eq_getElem hj, e2]; rfl
  have := nd_ix nd g1 g2
  subst this
  rw [e1] at e2
  have e3 := congrArg (·.1) e2
  exact absurd (show Str.ofString "now" = Str.ofString "later" from e3) (by decide +kernel)
section
variable {P : Program} {w : World} {K : PySem.W.Frag} {mg : Str → Option Value} {base : Heap}
def costB : Nat → Int
  | 0 => 0
  | n + 1 => 40000 + 6 * costB n
theorem costB_0 : ∀ n, 0 ≤ costB n
  | 0 => by decide
  | n + 1 => by have := costB_0 n; show 0 ≤ 40000 + 6 * costB n; omega
theorem ok__law_body0 (T : TX K mg w) (G__law_digit : FnOk P w K mg base CX0 1 T.a__law_digit T.d__law_digit p__law_digit spDig) (G__law_term : FnOk P w K mg base CX0 7 T.a__law_term T.d__law_term p__law_term (spT K)) :
    ∀ n, FnOk P w K mg base CX0 (n + 8) T.a__law_body T.d__law_body p__law_body (spBody K n (costB n))
  | 0 => fn_none fun vs H Q E ⟨_, _, _, _, _, _, _, _, _, _, h, _⟩ => by omega
  | n + 1 => ok__law_body1 T n (costB n) (costB_0 n) G__law_digit G__law_term (ok__law_body0 T G__law_digit G__law_term n)
def spB (K : PySem.W.Frag) : Sp := fun vs H Q _ => ∃ (p kp ev rm : Addr) (N deep : Int) (g : Ctx) (kept : List Str) (kl : KT), vs = [.ref p, .ref kp, .ref ev, .int deep, .ref rm] ∧ 1 ≤ deep ∧ deep ≤ 4 ∧ (p ≠ kp ∧ p ≠ ev ∧ p ≠ rm ∧ kp ≠ rm ∧ ev ≠ rm) ∧ KL K H kp kl ∧ KOk g kept kl ∧ NL K H ev g ∧ (∀ x k, (x, k) ∈ g → IsNm x) ∧ g.length ≤ 1000 ∧
  H rm = some (.lst [.int 20]) ∧ N + 11000000 < 4611686018427387904 ∧ Pot H p N ∧
  RetG H Q [p, rm] p (N + 11000000) fun v H' => ∃ b : List Stt, Dp K H' v (.tuple (sttsD b)) ∧ (∀ s ∈ b, StOk g kept 4 s ∧ FromK kl s) ∧ weightL b ≤ 20
theorem ok__law_body (T : TX K mg w) (G__law_digit : FnOk P w K mg base CX0 1 T.a__law_digit T.d__law_digit p__law_digit spDig) (G__law_term : FnOk P w K mg base CX0 7 T.a__law_term T.d__law_term p__law_term (spT K)) :
    FnOk P w K mg base CX0 12 T.a__law_body T.d__law_body p__law_body (spB K) := by
  have F := fn_ex (C := fun n : Nat => n ≤ 4) fun n hn => (ok__law_body0 (P := P) (base := base) T G__law_digit G__law_term n).mono (show n + 8 ≤ 12 by omega)
  refine F.imp fun vs H Q E h => ?_
  obtain ⟨p, kp, ev, rm, N, deep, g, kept, kl, rfl, d1, d4, hne, hkl, kok, hnl, hnm, g1, hrm, hN, hp, q⟩ := h
  obtain ⟨d, rfl⟩ : ∃ d : Nat, deep = d := ⟨deep.toNat, by omega⟩
  have hc : costB d ≤ 11000000 := by
    have : d = 1 ∨ d = 2 ∨ d = 3 ∨ d = 4 := by omega
    rcases this with rfl | rfl | rfl | rfl <;> decide
  refine ⟨d, by omega, p, kp, ev, rm, N, 20, g, kept, kl, rfl, by omega, by omega, hne, hkl, kok, hnl, hnm, g1, hrm, by decide, by omega, hp, ?_⟩
  rintro v H' k hp' ⟨b, r', hd, hb, hw, _⟩
  exact q v H' k (hp'.up (by omega)) ⟨b, hd, fun s hs => ⟨(hb s hs).1.up (by omega), (hb s hs).2⟩, by omega⟩
def spBlocks (K : PySem.W.Frag) : Sp := fun vs H Q _ => ∃ (p sg tk : Addr) (N : Int) (xs : List V) (rs : List Row) (l : List Str), vs = [.ref p, .ref sg, .ref tk] ∧ (p ≠ sg ∧ p ≠ tk ∧ sg ≠ tk) ∧ H sg = some (.lst xs) ∧ DpAll K H xs (rs.map Row.d) ∧ SigOk rs ∧ H tk = some (.lst (l.map V.str)) ∧ (∀ x ∈ l, IsNm x) ∧ l.length ≤ 20 ∧ (∀ r ∈ rs, r.name ∈ l) ∧ N + 40000000 < 4611686018427387904 ∧ Pot H p N ∧
  RetG H Q [p, tk] p (N + 40000000) fun v H' => ∃ (bp : Addr) (ys : List V) (bs : List Blk), v = .ref bp ∧ H bp = none ∧ H' bp = some (.lst ys) ∧ DpAll K H' ys (bs.map Blk.d) ∧ BlksOk rs bs ∧ bothOf rs bs = none
theorem ok__law_blocks (T : TX K mg w) (G__law_digit : FnOk P w K mg base CX0 1 T.a__law_digit T.d__law_digit p__law_digit spDig) (G__law_name : FnOk P w K mg base CX0 2 T.a__law_name T.d__law_name p__law_name spName) (G__law_body : FnOk P w K mg base CX0 12 T.a__law_body T.d__law_body p__law_body (spB K)) :
    FnOk P w K mg base CX0 13 T.a__law_blocks T.d__law_blocks p__law_blocks (spBlocks K) := by
  refine T.F__law_blocks.ok sc__law_blocks (fun vs H Q E h => ?_) (fun cdv A outer s H vs Q E hr h => ?_)
  · obtain ⟨p, sg, tk, N, xs, rs, l, rfl, _⟩ := h; rfl
  obtain ⟨p, sg, tk, N, xs, rs, l, rfl, ⟨n1, n2, n3⟩, hsg, hd, ok, htk, hlnm, l20, hsub, hN, hp, q⟩ := h
  have nd := sc__law_blocks.nd
  refine ⟨_, ((pss_cons (ps_setLc (i := 3) (own := [("_law_row", 6)]) (g := gName 6) (tt := tYes) rfl nd rfl rfl (sw_true rfl rfl rfl (by decide +kernel)) (pi_list (pv 1)) (blkOk_by (N := n__law_blocks) (sc := defScope s__law_blocks) (by decide +kernel)) (fun _ _ _ _ _ => (pg_name (i := 6) nd rfl (Or.inl rfl))) (fun _ _ _ _ _ => pts_nil) (fun _ _ _ _ _ => (pe_slice (sl_tupAK (K := K) rfl) (pv 6) (po_some pe_int) (po_some pe_int))))
      (pss_cons (ps_setLc (i := 4) (own := [("_law_name_here", 12), ("_law_width_here", 13)]) (g := gTup K 2 (gCons (gName 12) (gCons (gName 13) gNil))) rfl nd rfl rfl (sw_true rfl rfl rfl (by decide +kernel)) (pi_list (pv 3)) (blkOk_by (N := n__law_blocks) (sc := defScope s__law_blocks) (by decide +kernel)) (fun _ _ _ _ _ => (pg_tup rfl (pgs_cons (pg_name (i := 12) nd rfl (Or.inl rfl)) (pgs_cons (pg_name (i := 13) nd rfl (Or.inl rfl)) pgs_nil)))) (fun _ _ _ _ _ => pts_one (pt_cmpR op_eq (pv 13) pe_int (nomark _))) (fun _ _ _ _ _ => (pv 12)))
      (pss_cons (ps_set (i := 5) nd rfl (Or.inl rfl) (pe_lst pa_nil))
      (pss_cons (ps_for PassesOwn.never rfl (pi_list (pv 1)) (pg_name (i := 6) nd rfl (Or.inl rfl)) (pss_one (ps_if (pt_cmpR op_eq (pe_ix ix_tup (pv 6) pe_int (fun _ _ => rfl)) pe_str (nomark _)) (pss_one (ps_expr (pe_bm PySem.F.plainAttrs_list PySem.F.slot_list_append PySem.F.type_list_append mt_append (pv 5) (pa_cons (pe_tup (pa_cons (pe_ix ix_list (pe_lst (pa_cons pe_str (pa_cons pe_str pa_nil))) (pe_call G__law_digit (hr.mono (by omega)) rfl T.m__law_digit T.k__law_digit T.b__law_digit .nil pass0 (pa_cons (pv 0) (pa_cons pe_int pa_nil))) (fun _ _ => rfl)) (pa_cons (pe_ix ix_tup (pv 6) pe_int (fun _ _ => rfl)) (pa_cons (pe_ix ix_tup (pv 6) pe_int (fun _ _ => rfl)) pa_nil)))) pa_nil)))) pss_nil)))
      (pss_cons (ps_set (i := 7) nd rfl (Or.inl rfl) (pe_lst pa_nil))
      (pss_cons (ps_for PassesOwn.never rfl (pi_range1 rfl T.z_range (pa_cons (pe_op op_mul (pe_call G__law_digit (hr.mono (by omega)) rfl T.m__law_digit T.k__law_digit T.b__law_digit .nil pass0 (pa_cons (pv 0) (pa_cons pe_int pa_nil))) (pe_callTy call_int1 (by rfl) T.z_int (by decide +kernel) (pa_cons (pe_cmpR (op_neD hr.units) (pv 4) (pe_lst pa_nil) (nomark _)) pa_nil))) pa_nil)) (pg_name (i := 8) nd rfl (Or.inl rfl)) (pss_cons (ps_set (i := 9) nd rfl (Or.inl rfl) (pe_ix ix_list (pe_lst (pa_cons pe_str (pa_cons pe_str pa_nil))) (pe_call G__law_digit (hr.mono (by omega)) rfl T.m__law_digit T.k__law_digit T.b__law_digit .nil pass0 (pa_cons (pv 0) (pa_cons pe_int pa_nil))) (fun _ _ => rfl)))
      (pss_cons (ps_set (i := 10) nd rfl (Or.inl rfl) (pe_ix ix_list (pv 4) (pe_call G__law_digit (hr.mono (by omega)) rfl T.m__law_digit T.k__law_digit T.b__law_digit .nil pass0 (pa_cons (pv 0) (pa_cons (pe_callB call_len_seq (by rfl) T.z_len PySem.boot_len (pa_cons (pv 4) pa_nil)) pa_nil))) (fun _ _ => rfl)))
      (pss_cons (ps_set (i := 11) nd rfl (Or.inl rfl) (pe_call G__law_body (hr.mono (by omega)) rfl T.m__law_body T.k__law_body T.b__law_body .nil pass0 (pa_cons (pv 0) (pa_cons (pv 5) (pa_cons (pv 3) (pa_cons (pe_op op_add pe_int (pe_call G__law_digit (hr.mono (by omega)) rfl T.m__law_digit T.k__law_digit T.b__law_digit .nil pass0 (pa_cons (pv 0) (pa_cons pe_int pa_nil)))) (pa_cons (pe_lst (pa_cons pe_int pa_nil)) pa_nil)))))))
      (pss_one (ps_expr (pe_bm PySem.F.plainAttrs_list PySem.F.slot_list_append PySem.F.type_list_append mt_append (pv 7) (pa_cons (pe_tup (pa_cons (pe_call G__law_name (hr.mono (by omega)) rfl T.m__law_name T.k__law_name T.b__law_name .nil pass0 (pa_cons (pv 0) (pa_cons (pv 2) pa_nil))) (pa_cons (pv 9) (pa_cons (pv 10) (pa_cons (pv 11) pa_nil))))) pa_nil))))))))
      (pss_one (ps_ret (pv 7)))))))))), ?_⟩
  have lxs := hd.length
  rw [List.length_map] at lxs
  have l11 := ok.len
  have ndn : (rs.map Row.name).Nodup := by rw [← ctx_names]; exact ok.g.nd
  refine ⟨_, rfl, sg, rfl, ⟨xs, SqL.of hsg⟩, fun De hDe => ?_⟩
  refine lcD (K := K) walk_list ((ctx rs).map nameD) (by rw [List.length_map]; unfold ctx; rw [List.length_map, lxs]) (by omega) (names_noL _) hDe (fun _ e => SqL.of (e _ _ hsg)) yat_same ?_ gm_name ?_
  · rintro i x _ H3 e hi he e3 ⟨rfl, hx⟩ Qy hy
    obtain ⟨r, hri, hxd⟩ := rows_at hd hx
    unfold ctx at he
    rw [List.getElem?_map, List.getElem?_map, hri] at he
    cases he
    obtain ⟨c, z, rfl, hc, hz⟩ := row_inv (hxd.mono e3)
    refine ⟨rfl, _, rfl, _, rfl, _, rfl, row_slice hc fun p4 hp4 => hy _ _ (same_new hp4 _) (.tup (SqT.of upd_same) (.cons (.str _) (.cons (.int _) .nil)))⟩
  intro ze H1 e1 hze hre
  have hnl1 : NL K H1 De (ctx rs) := ⟨ze, hze, hre⟩
  have lctx : (ctx rs).length = rs.length := by unfold ctx; rw [List.length_map]
  have lze := hre.length
  rw [List.length_map, lctx] at lze
  -- triggers
  refine ⟨_, rfl, De, rfl, ⟨ze, SqL.of hze⟩, fun Dt hDt => ?_⟩
  refine lcO (K := K) walk_list ((ctx rs).map fun r => if decide (r.2 = 1) = true then some (PyData.str r.1) else none) (by rw [List.length_map, lctx, lze]) (by omega) (fun d hd => by
      rw [List.mem_map] at hd
      obtain ⟨r, _, e⟩ := hd
      split at e <;> cases e
      rfl) hDt (fun _ e => SqL.of (e _ _ hze)) yat_same ?_ ?_
  · rintro i y _ H3 e hi he e3 ⟨rfl, hy⟩ Qy Qn hyy hnn
    obtain ⟨r, hri, c, rfl, hc⟩ := names_at hre hy
    rw [List.getElem?_map, hri] at he
    cases he
    refine ⟨c, _, rfl, sqt_mono e3 hc, rfl, _, _, rfl, _, _, rfl, rfl, ?_⟩
    refine ⟨rfl, _, rfl, rfl, _, rfl, ?_⟩
    by_cases hs : r.2 = 1
    · refine if_t (decide_eq_true (by rw [hs])) ?_
      exact ⟨_, rfl, hyy _ (if_pos (decide_eq_true hs)) _ _ (Same.refl _) (.str _)⟩
    · refine if_f (decide_eq_false fun z => hs (V.int.inj z)) ?_
      exact hnn (if_neg (fun z => hs (of_decide_eq_true z))) _ (Same.refl _)
  intro zt H2 e2 hzt hrt
  rw [filt_map (fun r : Str × Int => decide (r.2 = 1)) (fun r => PyData.str r.1)] at hrt
  obtain rfl : zt = (((ctx rs).filter fun r => decide (r.2 = 1)).map (·.1)).map V.str := (show DpAll K H2 zt ((((ctx rs).filter fun r => decide (r.2 = 1)).map (·.1)).map PyData.str) by rw [List.map_map]; exact hrt).strs
  have htr : ∀ x ∈ ((ctx rs).filter fun r => decide (r.2 = 1)).map (·.1), (x, 1) ∈ ctx rs := fun x hx => by
    rw [List.mem_map] at hx
    obtain ⟨r, hr', rfl⟩ := hx
    obtain ⟨h1, h2⟩ := List.mem_filter.mp hr'
    have := of_decide_eq_true h2
    rw [← this]
    exact h1
  have ltr : (((ctx rs).filter fun r => decide (r.2 = 1)).map (·.1)).length ≤ 11 := by
    rw [List.length_map]
    exact Nat.le_trans (List.length_filter_le _ _) (by omega)
  clear hrt
  generalize ((ctx rs).filter fun r => decide (r.2 = 1)).map (·.1) = tr at *
  have e02 := e1.trans e2
  -- kept
  refine ⟨by show 0 ≤ sizeLine; decide, fun kp hkp => ?_⟩
  have f3 : Same H2 (upd H2 kp (.lst [])) := same_new hkp _
  have h3 : upd H2 kp (.lst []) kp = some (.lst []) := upd_same
  have hzt3 := f3 _ _ hzt
  have e03 := e02.trans f3
  have hnl3 := hnl1.same (e2.trans f3)
  have hkpH := e02.free hkp
  have pDe : p ≠ De := hp.ne hDe
  have pDt : p ≠ Dt := (hp.same e1).ne hDt
  have pkp : p ≠ kp := (hp.same e02).ne hkp
  have tDe : tk ≠ De := fun z => by rw [z, hDe] at htk; cases htk
  have tDt : tk ≠ Dt := fun z => by have := e1 _ _ htk; rw [z, hDt] at this; cases this
  have tkp : tk ≠ kp := fun z => by have := e02 _ _ htk; rw [z, hkp] at this; cases this
  have Dekp : De ≠ kp := fun z => by have := e2 _ _ hze; rw [z, hkp] at this; cases this
  have Dtkp : Dt ≠ kp := fun z => by rw [z, hkp] at hzt; cases hzt
  have sgkp : sg ≠ kp := fun z => by have := e02 _ _ hsg; rw [z, hkp] at this; cases this
  have hp3 := hp.same e03
  have hsg3 := e03 _ _ hsg
  have hd3 := hd.mono e03
  have htk3 := e03 _ _ htk
  have k3 : KP [p, tk] H (upd H2 kp (.lst [])) := KP.of e03
  generalize upd H2 kp (.lst []) = H3 at *
  refine ⟨_, rfl, sg, rfl, ⟨xs, SqL.of hsg3⟩, ?_⟩
  refine for_it (walk_list (K := K) (a := sg) (xs := xs)) (fun i σ H4 => ∃ o6 vs kl, σ = [some (.ref p), some (.ref sg), some (.ref tk), some (.ref De), some (.ref Dt), some (.ref kp), o6, none, none, none, none, none, none, none] ∧ KP [p, kp] H3 H4 ∧ Pot H4 p (N + i) ∧ H4 kp = some (.lst vs) ∧ DpAll K H4 vs (kl.map keptD) ∧
      (kl.map fun q => q.2.1) = keptOf (rs.take i) ∧ ∀ q ∈ kl, (q.1 = ("now" : Str) ∨ q.1 = ("later" : Str)) ∧ (q.2.1, q.2.2) ∈ ctx rs)
    ⟨none, [], [], rfl, KP.refl _ _, hp3.up (by omega), h3, .nil, rfl, fun q hq => absurd hq List.not_mem_nil⟩ (fun i σ H4 _ z => by obtain ⟨_, _, _, _, k4, _⟩ := z; exact SqL.of (k4.keep _ _ (by simp only [List.mem_cons, List.not_mem_nil, or_false, not_or]; exact ⟨n1.symm, sgkp⟩) hsg3)) ?_ ?_
  · rintro i x σ _ H4 hi ⟨o6, vs, kl, rfl, k4, hp4, hvs, hdk, ek, hk⟩ ⟨rfl, hx⟩
    obtain ⟨r, hri, hxd⟩ := rows_at hd3 hx
    have hrm := List.mem_of_getElem? hri
    obtain ⟨c, z, rfl, hc, hz⟩ := row_inv (hxd.tk k4.tk r.noL)
    have tk1 : keptOf (rs.take (i + 1)) = keptOf (rs.take i) ++ if decide (r.sort = ("kept" : Str)) = true then [r.name] else [] := by
      unfold keptOf
      rw [List.take_add_one, hri, List.filter_append, List.map_append]
      simp only [Option.toList, List.filter_cons, List.filter_nil]
      split <;> rfl
    refine ⟨_, rfl, c, _, _, _, rfl, rfl, hc, atI_0, rfl, _, rfl, ?_⟩
    by_cases hs : r.sort = ("kept" : Str)
    · refine if_t (decide_eq_true (by rw [hs])) ?_
      refine ⟨_, rfl, .inl ⟨rfl, _, SqL.of hvs⟩, ?_⟩
      refine ⟨by show 2 ≤ sizeLine; decide, fun D5 hD5 => ?_⟩
      have f5 : Same H4 (upd H4 D5 (.lst [.str "now", .str "later"])) := same_new hD5 _
      have h5 : upd H4 D5 (.lst [.str "now", .str "later"]) D5 = some (.lst [.str "now", .str "later"]) := upd_same
      have pD5 := hp4.ne hD5
      refine ⟨_, rfl, p, 2, N + i, rfl, by decide, by decide, by omega, hp4.same f5, ?_⟩
      rintro _ H6 k6 hp6 ⟨d, rfl, d0, dm⟩
      obtain ⟨wd, hwd, hat⟩ : ∃ wd : Str, (wd = ("now" : Str) ∨ wd = ("later" : Str)) ∧ atI [V.str "now", V.str "later"] d = some (.str wd) := by
        have : d = 0 ∨ d = 1 := by omega
        rcases this with rfl | rfl
        · exact ⟨_, .inl rfl, rfl⟩
        · exact ⟨_, .inr rfl, rfl⟩
      have k46 : KP [p, kp] H4 H6 := (KP.of f5).trans (k6.sub (by simp))
      have hc6 := k46.tk.sqt hc
      have kpp : kp ∉ [p] := by simpa using pkp.symm
      have hvs6 := k6.keep _ _ kpp (f5 _ _ hvs)
      have hdk6 := hdk.tk k46.tk (kepts_noL kl)
      refine ⟨D5, _, _, _, rfl, rfl, SqL.of (k6.keep _ _ (by simpa using pD5.symm) h5), hat, ?_⟩
      refine ⟨_, rfl, c, _, _, _, rfl, rfl, hc6, (show atI [V.str r.sort, V.str r.name, V.int r.width, z] 1 = some (.str r.name) from rfl), ?_⟩
      refine ⟨_, rfl, c, _, _, _, rfl, rfl, hc6, (show atI [V.str r.sort, V.str r.name, V.int r.width, z] 2 = some (.int r.width) from rfl), by show 3 ≤ sizeLine; decide, fun D7 hD7 => ?_⟩
      have f7 : Same H6 (upd H6 D7 (.tup [.str wd, .str r.name, .int r.width])) := same_new hD7 _
      have h7 : upd H6 D7 (.tup [.str wd, .str r.name, .int r.width]) D7 = some (.tup [.str wd, .str r.name, .int r.width]) := upd_same
      have hvs7 := f7 _ _ hvs6
      have hdk7 := hdk6.mono f7
      have hp7 := hp6.same f7
      have k7 := k4.trans (k46.trans (KP.of f7))
      generalize upd H6 D7 (.tup [.str wd, .str r.name, .int r.width]) = H7 at *
      have lvs := hdk.length
      rw [List.length_map] at lvs
      have lkl : kl.length ≤ 11 := by
        have := congrArg List.length ek
        rw [List.length_map] at this
        rw [this]
        unfold keptOf
        rw [List.length_map]
        refine Nat.le_trans (List.length_filter_le _ _) ?_
        rw [List.length_take]
        omega
      have t8 : TK H7 (upd H7 kp (.lst (vs ++ [.ref D7]))) := TK.lst hvs7
      refine ⟨kp, _, _, rfl, rfl, hvs7, small1000 (by omega), _, _, kl ++ [(wd, r.name, r.width)], rfl, k7.trans (KP.set (by simp) hvs7), ?_, upd_same, ?_, ?_, fun q hq => ?_⟩
      · obtain ⟨a, b, c, e, h⟩ := hp7
        exact ⟨a, b, c, by rw [upd_ne pkp]; exact e, h.1, h.2.1, h.2.2.1, h.2.2.2.1, by omega⟩
      · rw [List.map_append]
        exact (hdk7.tk t8 (kepts_noL kl)).app (.cons (Dp.tk t8 (.tup (SqT.of h7) (.cons (.str _) (.cons (.str _) (.cons (.int _) .nil)))) rfl) .nil)
      · rw [List.map_append, ek, tk1, if_pos (decide_eq_true hs)]
        rfl
      · rcases List.mem_append.mp hq with hq | hq
        · exact hk q hq
        · rw [List.mem_singleton.mp hq]
          exact ⟨hwd, List.mem_map.mpr ⟨r, hrm, rfl⟩⟩
    · refine if_f (decide_eq_false fun z => hs (V.str.inj z)) ?_
      exact ⟨_, vs, kl, rfl, k4, hp4.up (by omega), hvs, hdk, by rw [ek, tk1, if_neg (fun z => hs (of_decide_eq_true z)), List.append_nil], hk⟩
  rintro σ H4 ⟨o6, vs, kl, rfl, k4, hp4, hvs, hdk, ek, hk⟩
  rw [List.take_of_length_le (by omega)] at ek
  have hp4' : Pot H4 p (N + 11) := hp4.up (by omega)
  clear hp4
  have nkp : ∀ {b : Addr}, b ≠ p → b ≠ kp → b ∉ [p, kp] := fun h1 h2 => by simp only [List.mem_cons, List.not_mem_nil, or_false, not_or]; exact ⟨h1, h2⟩
  have hkl4 : KL K H4 kp kl := ⟨vs, hvs, hdk⟩
  have hnl4 := hnl3.keep k4 (nkp pDe.symm Dekp)
  have hzt4 := k4.keep _ _ (nkp pDt.symm Dtkp) hzt3
  have htk4 := k4.keep _ _ (nkp n2.symm tkp) htk3
  have k04 : KP [p, tk] H H4 := ⟨fun b o hb h => k4.keep _ _ (by
      intro hm
      simp only [List.mem_cons, List.not_mem_nil, or_false] at hm
      rcases hm with rfl | rfl
      · exact hb (by simp)
      · rw [hkpH] at h; cases h) (k3.keep b o hb h), k3.tk.trans k4.tk, fun b h => k3.free b (k4.free b h)⟩
  have lkl : kl.length ≤ 11 := by
    have := congrArg List.length ek
    rw [List.length_map] at this
    rw [this]
    unfold keptOf
    rw [List.length_map]
    exact Nat.le_trans (List.length_filter_le _ _) l11
  have kok : KOk (ctx rs) (keptOf rs) kl := ⟨fun q hq => (hk q hq).1, fun q hq => by rw [← ek]; exact List.mem_map.mpr ⟨q, hq, rfl⟩, fun q hq => (hk q hq).2, fun q hq => ⟨ok.g.lo _ _ (hk q hq).2, ok.g.hi _ _ (hk q hq).2⟩, by omega⟩
  have klnd : (kl.map fun q => q.2.1).Nodup := by
    rw [ek]
    unfold keptOf
    exact ndn.sublist (List.Sublist.map _ List.filter_sublist)
  clear k4 hvs hdk hk h3 hzt3 htk3 hnl3 k3 hp3 hsg3 hd3
  refine ⟨by show 0 ≤ sizeLine; decide, fun pf hpf => ?_⟩
  have f5 : Same H4 (upd H4 pf (.lst [])) := same_new hpf _
  have h5 : upd H4 pf (.lst []) pf = some (.lst []) := upd_same
  have ppf : p ≠ pf := hp4'.ne hpf
  have tpf : tk ≠ pf := fun z => by rw [z, hpf] at htk4; cases htk4
  have hpfH := k04.free _ hpf
  have hp5 := hp4'.same f5
  have hkl5 := hkl4.same f5
  have hnl5 := hnl4.same f5
  have hzt5 := f5 _ _ hzt4
  have htk5 := f5 _ _ htk4
  have k05 := k04.trans (KP.of f5)
  have Depf : De ≠ pf := fun z => by obtain ⟨xs, h, _⟩ := hnl4.ex; rw [z, hpf] at h; cases h
  have kppf : kp ≠ pf := fun z => by obtain ⟨xs, h, _⟩ := hkl4.ex; rw [z, hpf] at h; cases h
  have Dtpf : Dt ≠ pf := fun z => by rw [z, hpf] at hzt4; cases hzt4
  generalize upd H4 pf (.lst []) = H5 at *
  refine ⟨_, rfl, p, 4, N + 11, rfl, by decide, by decide, by omega, hp5, ?_⟩
  rintro _ H6 k6 hp6 ⟨d, rfl, d0, dm⟩
  have hzt6 := k6.keep _ _ (by simpa using pDt.symm) hzt5
  refine ⟨_, rfl, by show 0 ≤ sizeLine; decide, fun D7 hD7 => ?_⟩
  have f7 : Same H6 (upd H6 D7 (.lst [])) := same_new hD7 _
  refine ⟨.list (tr.map PyData.str), .list [], .lst (SqL.of (f7 _ _ hzt6)) (dpa_strs tr), .lst (SqL.of upd_same) .nil, shaped_strs (fun x hx => ok.g.nm _ _ (htr x hx)), rfl, ?_⟩
  have k57 : KP [p] H5 (upd H6 D7 (.lst [])) := k6.trans (KP.of f7)
  have hp7 := hp6.same f7
  generalize upd H6 D7 (.lst []) = H7 at *
  refine .inr ⟨_, rfl, _, _, rfl, rfl, .inl ⟨by omega, by omega⟩, ?_⟩
  have hj : ∃ j : Int, (d * if (!PyData.eqv (.list (tr.map PyData.str)) (.list [])) = true then (1 : Int) else 0) = j ∧ 0 ≤ j ∧ j < 4 ∧ (0 < j → tr ≠ []) := by
    cases tr with
    | nil => exact ⟨0, by show d * 0 = 0; omega, by decide, by decide, fun h => absurd h (by decide)⟩
    | cons y tr => exact ⟨d, by show d * 1 = d; omega, d0, dm, fun _ h => by cases h⟩
  obtain ⟨j, ej, j0, j4, jt⟩ := hj
  refine ⟨j, congrArg (fun x => [V.int x]) ej, by omega, by omega, ?_⟩
  have hkl7 := hkl5.keep k57 (by simpa using pkp.symm)
  have hnl7 := hnl5.keep k57 (by simpa using pDe.symm)
  have hzt7 := k57.keep _ _ (by simpa using pDt.symm) hzt5
  have htk7 := k57.keep _ _ (by simpa using n2.symm) htk5
  have h7 := k57.keep _ _ (by simpa using ppf.symm) h5
  have k07 : KP [p, tk] H H7 := k05.trans (k57.sub (by simp))
  have nt : ∀ {b : Addr}, b ≠ p → b ≠ tk → b ∉ [p, tk] := fun h1 h2 => by simp only [List.mem_cons, List.not_mem_nil, or_false, not_or]; exact ⟨h1, h2⟩
  clear k57 hp6 hzt6 f7 hD7 k6 hkl5 hnl5 hzt5 htk5 h5 hp5 f5 hkl4 hnl4 hzt4 htk4 k04 hp4' k05 hpf
  refine for_it (walk_range (lo := 0) (n := j.toNat)) (fun i σ H8 => ∃ o8 o9 o10 o11 ys bs, σ = [some (.ref p), some (.ref sg), some (.ref tk), some (.ref De), some (.ref Dt), some (.ref kp), o6, some (.ref pf), o8, o9, o10, o11, none, none] ∧ KP [p, tk] H H8 ∧ Pot H8 p (N + 12 + i * 11000030) ∧ H8 pf = some (.lst ys) ∧ DpAll K H8 ys (bs.map Blk.d) ∧ bs.length = i ∧
      H8 tk = some (.lst ((l ++ bs.map Blk.name).map V.str)) ∧ KL K H8 kp kl ∧ NL K H8 De (ctx rs) ∧ H8 Dt = some (.lst (tr.map V.str)) ∧ (∀ b ∈ bs, BlkOk1 rs b ∧ b.name ∉ l ∧ ∀ s ∈ b.body, FromK kl s) ∧ (bs.map Blk.name).Nodup)
    ⟨none, none, none, none, [], [], rfl, k07, hp7.up (by omega), h7, .nil, rfl, by rw [htk7]; simp, hkl7, hnl7, hzt7, fun b hb => absurd hb List.not_mem_nil, List.nodup_nil⟩ (fun i σ H2 _ _ => True.intro) ?_ ?_
  · rintro i x σ _ H8 hi ⟨o8, o9, o10, o11, ys, bs, rfl, k8, hp8, hF, hdb, lbs, htk8, hkl8, hnl8, hzt8, hb, bnd⟩ ⟨rfl, rfl⟩
    have hi3 : i < 3 := by omega
    have htrne := jt (by omega)
    have lys := hdb.length
    rw [List.length_map] at lys
    -- edge
    refine ⟨by show 2 ≤ sizeLine; decide, fun D9 hD9 => ?_⟩
    have f9 : Same H8 (upd H8 D9 (.lst [.str "rise", .str "fall"])) := same_new hD9 _
    have h9 : upd H8 D9 (.lst [.str "rise", .str "fall"]) D9 = some (.lst [.str "rise", .str "fall"]) := upd_same
    have pD9 := hp8.ne hD9
    refine ⟨_, rfl, p, 2, _, rfl, by decide, by decide, by omega, hp8.same f9, ?_⟩
    rintro _ H10 k10' hp10 ⟨d, rfl, d0, dm⟩
    obtain ⟨edge, hedge, hat⟩ := edge_at d0 dm
    have k10 : KP [p] H8 H10 := (KP.of f9).trans k10'
    refine ⟨D9, _, _, _, rfl, rfl, SqL.of (k10'.keep _ _ (by simpa using pD9.symm) h9), hat, ?_⟩
    -- trigger
    have hzt10 := k10.keep _ _ (by simpa using pDt.symm) hzt8
    refine ⟨_, rfl, _, rfl, _, rfl, Dt, _, rfl, .inl (SqL.of hzt10), ?_⟩
    have ltm : (List.map V.str tr).length = tr.length := List.length_map _
    have tpos : 1 ≤ tr.length := by
      cases tr with
      | nil => exact absurd rfl htrne
      | cons => simp
    refine ⟨p, _, _, rfl, by rw [ltm]; omega, by rw [ltm]; omega, by omega, hp10, ?_⟩
    rintro _ H11 k11' hp11 ⟨e, rfl, e0, em⟩
    obtain ⟨t, rfl⟩ : ∃ t : Nat, e = t := ⟨e.toNat, by omega⟩
    have ht : t < tr.length := by rw [ltm] at em; omega
    have k11 := k10.trans k11'
    have gt : (List.map V.str tr)[t]? = some (.str tr[t]) := by rw [List.getElem?_map, List.getElem?_eq_getElem ht]; rfl
    have htrig := htr _ (List.getElem_mem ht)
    generalize tr[t] = trg at *
    refine ⟨Dt, _, _, _, rfl, rfl, SqL.of (k11'.keep _ _ (by simpa using pDt.symm) hzt10), atI_nat (j := t) gt, ?_⟩
    -- body
    refine ⟨_, rfl, _, rfl, _, rfl, _, rfl, p, 4, _, rfl, by decide, by decide, by omega, hp11, ?_⟩
    rintro _ H12 k12' hp12 ⟨f, rfl, f0, fm⟩
    have k12 := k11.trans k12'
    refine ⟨_, _, rfl, rfl, by show 1 ≤ sizeLine; decide, fun rm hrm => ?_⟩
    have f13 : Same H12 (upd H12 rm (.lst [.int 20])) := same_new hrm _
    have h13 : upd H12 rm (.lst [.int 20]) rm = some (.lst [.int 20]) := upd_same
    have prm := hp12.ne hrm
    have hp13 := hp12.same f13
    have k13 := k12.trans (KP.of f13)
    have hrm8 := k12.free _ hrm
    have kprm : kp ≠ rm := fun z => by obtain ⟨xs, h, _⟩ := hkl8.ex; rw [z, hrm8] at h; cases h
    have Derm : De ≠ rm := fun z => by obtain ⟨xs, h, _⟩ := hnl8.ex; rw [z, hrm8] at h; cases h
    have hkl13 := hkl8.keep k13 (by simpa using pkp.symm)
    have hnl13 := hnl8.keep k13 (by simpa using pDe.symm)
    generalize upd H12 rm (.lst [.int 20]) = H13 at *
    refine ⟨p, kp, De, rm, _, 1 + f, ctx rs, keptOf rs, kl, rfl, by omega, by omega, ⟨pkp, pDe, prm, kprm, Derm⟩, hkl13, kok, hnl13, fun x k hx => ok.g.nm _ _ hx, by omega, h13, by omega, hp13, ?_⟩
    rintro v14 H14 k14' hp14 ⟨bd, hbd, hbok, hbw⟩
    have k14 : KP [p] H8 H14 := k13.then k14' (fun b hb => by
      simp only [List.mem_cons, List.not_mem_nil, or_false] at hb
      rcases hb with rfl | rfl
      · exact .inl (by simp)
      · exact .inr hrm8)
    have hF14 := k14.keep _ _ (by simpa using ppf.symm) hF
    refine ⟨_, rfl, .inl ⟨rfl, _, SqL.of hF14⟩, ?_⟩
    have htk14 := k14.keep _ _ (by simpa using n2.symm) htk8
    refine ⟨_, rfl, _, rfl, p, tk, l ++ bs.map Blk.name, _, rfl, n2, htk14, fun x hx => by
      rcases List.mem_append.mp hx with hx | hx
      · exact hlnm x hx
      · rw [List.mem_map] at hx
        obtain ⟨b, hb', rfl⟩ := hx
        exact (hb b hb').1.nm, by rw [List.length_append, List.length_map]; omega, by omega, hp14, ?_⟩
    rintro _ H15 k15' hp15 ⟨nm, rfl, nnm, nfr, htk15⟩
    have k15 : KP [p, tk] H8 H15 := (k14.sub (by simp)).trans k15'
    refine ⟨_, rfl, _, rfl, _, rfl, by show 4 ≤ sizeLine; decide, fun D hD => ?_⟩
    have f16 : Same H15 (upd H15 D (.tup [.str nm, .str edge, .str trg, v14])) := same_new hD _
    have h16 : upd H15 D (.tup [.str nm, .str edge, .str trg, v14]) D = some (.tup [.str nm, .str edge, .str trg, v14]) := upd_same
    have k16 := k15.trans (KP.of f16)
    have hp16 := hp15.same f16
    have hv16 : Dp K (upd H15 D (.tup [.str nm, .str edge, .str trg, v14])) (.ref D) (Blk.d ⟨nm, edge, trg, bd⟩) := .tup (SqT.of h16) (.cons (.str _) (.cons (.str _) (.cons (.str _) (.cons ((hbd.tk k15'.tk (by simpa [noL] using Stt.noLs bd)).mono f16) .nil))))
    have htk16 := f16 _ _ htk15
    generalize upd H15 D (.tup [.str nm, .str edge, .str trg, v14]) = H16 at *
    have hF16 := k16.keep _ _ (nt ppf.symm tpf.symm) hF
    have hdb16 := hdb.tk k16.tk (blks_noL bs)
    have t17 : TK H16 (upd H16 pf (.lst (ys ++ [.ref D]))) := TK.lst hF16
    have k17 : KP [pf] H16 (upd H16 pf (.lst (ys ++ [.ref D]))) := KP.set (by simp) hF16
    rw [List.mem_append, not_or] at nfr
    refine ⟨pf, _, _, rfl, rfl, hF16, small1000 (by omega), _, _, _, _, _, bs ++ [⟨nm, edge, trg, bd⟩], rfl, (k8.trans k16).new hpfH hF16, ?_, upd_same, ?_, by simp [lbs], ?_, (hkl8.keep k16 (nt pkp.symm tkp.symm)).keep k17 (by simpa using kppf), (hnl8.keep k16 (nt pDe.symm tDe.symm)).keep k17 (by simpa using Depf), ?_, fun b hb' => ?_, ?_⟩
    · have : Pot H16 p (N + 12 + ((i + 1 : Nat) : Int) * 11000030) := hp16.up (by omega)
      exact this.keep k17 (by simpa using ppf)
    · rw [List.map_append]
      exact (hdb16.tk t17 (blks_noL bs)).app (.cons (hv16.tk t17 (Blk.noL _)) .nil)
    · rw [upd_ne tpf, htk16]
      simp
    · exact k17.keep _ _ (by simpa using Dtpf) (k16.keep _ _ (nt pDt.symm tDt.symm) hzt8)
    · rcases List.mem_append.mp hb' with hb' | hb'
      · exact hb b hb'
      · rw [List.mem_singleton.mp hb']
        exact ⟨⟨nnm, hedge, htrig, fun s hs => (hbok s hs).1, hbw⟩, nfr.1, fun s hs => (hbok s hs).2⟩
    · rw [List.map_append, List.nodup_append]
      refine ⟨bnd, by simp, fun a ha b hb' e => ?_⟩
      obtain rfl : b = nm := by simpa using hb'
      exact nfr.2 (e ▸ ha)
  · rintro σ H8 ⟨o8, o9, o10, o11, ys, bs, rfl, k8, hp8, hF, hdb, lbs, htk8, hkl8, hnl8, hzt8, hb, bnd⟩
    refine ⟨_, rfl, q _ _ k8 (hp8.up (by omega)) ⟨pf, ys, bs, rfl, hpfH, hF, hdb, ⟨fun b hb' => (hb b hb').1, by omega, ?_⟩, both_none klnd fun b hb' => (hb b hb').2.2⟩⟩
    rw [List.nodup_append]
    refine ⟨ndn, bnd, fun a ha b hb' e => ?_⟩
    rw [List.mem_map] at ha hb'
    obtain ⟨r, hr', rfl⟩ := ha
    obtain ⟨bb, hbb, rfl⟩ := hb'
    exact (hb bb hbb).2.1 (e ▸ hsub r hr')
end
end K34
namespace K34
open PySem PySem.Spec PyProof.Rows L2
theorem RowOk.ctx' {g g' : Ctx} {r : Row} (h : RowOk g r) (hg : ∀ p ∈ g, p ∈ g') : RowOk g' r := by
  cases h with
  | input => exact .input _ _
  | kept _ _ _ hl hb => exact .kept _ _ _ hl hb
  | wire _ _ _ h => exact .wire _ _ _ (h.ctx hg)
  | filter _ _ _ h => exact .filter _ _ _ (h.ctx hg)
  | bus _ _ _ h2 h4 h => exact .bus _ _ _ h2 h4 fun p hp => ⟨(h p hp).1.ctx hg, (h p hp).2.ctx hg⟩
theorem RowOk.names_in {g : Ctx} {r : Row} (h : RowOk g r) {y : Str} (hy : y ∈ r.what.names) : ∃ k, (y, k) ∈ g := by
  rw [What.names_terms, List.mem_flatMap] at hy
  obtain ⟨t, ht, hy⟩ := hy
  obtain ⟨k, hk⟩ := (What.terms_ok h).2 t ht
  exact hk.names_in y hy
theorem mem_fst {g : Ctx} {y : Str} (h : ∃ k, (y, k) ∈ g) : y ∈ g.map (·.1) := by
  obtain ⟨k, hk⟩ := h
  exact List.mem_map.mpr ⟨_, hk, rfl⟩
def wbB (r : Row) : Bool := decide (r.sort = ("wire" : Str) ∨ r.sort = ("bus" : Str))
structure DInv (rs : List Row) (gp : Ctx) (n : Nat) : Prop where
  row : ∀ r ∈ rs, RowOk (ctx rs) r
  nm : ∀ r ∈ rs, IsNm r.name
  w : ∀ r ∈ rs, 1 ≤ r.width ∧ r.width ≤ 8
  nd : (rs.map Row.name).Nodup
  sub : ∀ q ∈ gp, q ∈ ctx rs
  glen : gp.length ≤ rs.length
  pl : ∀ r ∈ rs, r.name ∈ gp.map (·.1) → r.sort ≠ ("filter" : Str) ∧ ∀ y ∈ r.what.names, y ∈ gp.map (·.1)
  fl : ∀ r ∈ rs, r.sort = ("filter" : Str) → ∀ y ∈ r.what.names, y ∈ gp.map (·.1)
  rank : ∀ (i : Nat) r, rs[i]? = some r → ∀ y ∈ r.what.names, ∃ j, j < i ∧ ∃ r', rs[j]? = some r' ∧ r'.name = y
  len : rs.length ≤ 6 + n
  led : (rs.filter wbB).length ≤ n
theorem sk1 : Str.ofString "input" ≠ Str.ofString "filter" := by decide +kernel
theorem sk2 : Str.ofString "kept" ≠ Str.ofString "filter" := by decide +kernel
theorem sk3 : decide (Str.ofString "input" = Str.ofString "wire" ∨ Str.ofString "input" = Str.ofString "bus") = false := by decide +kernel
theorem sk4 : decide (Str.ofString "kept" = Str.ofString "wire" ∨ Str.ofString "kept" = Str.ofString "bus") = false := by decide +kernel
theorem SrcOk.names {rs : List Row} (h : SrcOk rs) {r : Row} (hr : r ∈ rs) : r.what.names = [] ∧ r.sort ≠ ("filter" : Str) ∧ wbB r = false ∧ ∀ g, RowOk g r := by
  rcases h.row r hr with ⟨n, w, rfl⟩ | ⟨n, w, x, rfl, hl, hb⟩
  · exact ⟨rfl, sk1, sk3, fun g => .input n w⟩
  · exact ⟨rfl, sk2, sk4, fun g => .kept n w x hl hb⟩
theorem DInv.start {rs : List Row} (h : SrcOk rs) (l : rs.length ≤ 6) : DInv rs (ctx rs) 0 where
  row := fun r hr => (h.names hr).2.2.2 _
  nm := h.nm
  w := h.w
  nd := h.nd
  sub := fun q hq => hq
  glen := by unfold ctx; rw [List.length_map]; exact Nat.le_refl _
  pl := fun r hr _ => ⟨(h.names hr).2.1, fun y hy => by rw [(h.names hr).1] at hy; cases hy⟩
  fl := fun r hr _ y hy => by rw [(h.names hr).1] at hy; cases hy
  rank := fun i r hr y hy => by rw [(h.names (List.mem_of_getElem? hr)).1] at hy; cases hy
  len := by omega
  led := by
    have : rs.filter wbB = [] := by
      rw [List.filter_eq_nil_iff]
      intro r hr hd
      rw [(h.names hr).2.2.1] at hd
      cases hd
    rw [this]
    exact Nat.le_refl _
theorem ctx_snoc (rs : List Row) (r : Row) : ctx (rs ++ [r]) = ctx rs ++ [(r.name, r.width)] := by unfold ctx; rw [List.map_append]; rfl
theorem DInv.step {rs : List Row} {gp gp' : Ctx} {n : Nat} {r : Row} (h : DInv rs gp n) (l : LedOk gp (ctx rs) (rs.map Row.name) r gp') : DInv (rs ++ [r]) gp' (n + 1) := by
  have rok : RowOk (ctx rs) r := l.row.elim (fun z => z.ctx' h.sub) id
  have sub' : ∀ p ∈ ctx rs, p ∈ ctx (rs ++ [r]) := fun p hp => by rw [ctx_snoc]; exact List.mem_append_left _ hp
  have gsub : ∀ y, y ∈ gp.map (·.1) → y ∈ gp'.map (·.1) := fun y hy => by
    rcases l.pl with e | ⟨e, _, _⟩
    · rw [e]; exact hy
    · rw [e, List.map_append]; exact List.mem_append_left _ hy
  have gname : ∀ y, y ∈ gp.map (·.1) → y ∈ rs.map Row.name := fun y hy => by
    rw [List.mem_map] at hy
    obtain ⟨q, hq, rfl⟩ := hy
    rw [← ctx_names]
    exact List.mem_map.mpr ⟨q, h.sub q hq, rfl⟩
  refine ⟨fun x hx => ?_, fun x hx => ?_, fun x hx => ?_, ?_, fun q hq => ?_, ?_, fun x hx hn => ?_, fun x hx hs y hy => ?_, fun i x hx y hy => ?_, by rw [List.length_append, List.length_singleton]; have := h.len; omega, ?_⟩
  · rcases List.mem_append.mp hx with hx | hx
    · exact (h.row x hx).ctx' sub'
    · rw [List.mem_singleton.mp hx]; exact rok.ctx' sub'
  · rcases List.mem_append.mp hx with hx | hx
    · exact h.nm x hx
    · rw [List.mem_singleton.mp hx]; exact l.nm
  · rcases List.mem_append.mp hx with hx | hx
    · exact h.w x hx
    · rw [List.mem_singleton.mp hx]; exact l.w
  · rw [List.map_append, List.nodup_append]
    refine ⟨h.nd, by simp, fun a ha b hb e => ?_⟩
    obtain rfl : b = r.name := by simpa using hb
    exact l.fresh (e ▸ ha)
  · rw [ctx_snoc]
    rcases l.pl with e | ⟨e, _, _⟩
    · rw [e] at hq; exact List.mem_append_left _ (h.sub q hq)
    · rw [e] at hq
      rcases List.mem_append.mp hq with hq | hq
      · exact List.mem_append_left _ (h.sub q hq)
      · exact List.mem_append_right _ hq
  · have := h.glen
    rcases l.pl with e | ⟨e, _, _⟩
    · rw [e, List.length_append, List.length_singleton]; omega
    · rw [e, List.length_append, List.length_append, List.length_singleton, List.length_singleton]; omega
  · rcases List.mem_append.mp hx with hx | hx
    · have hn' : x.name ∈ gp.map (·.1) := by
        rcases l.pl with e | ⟨e, _, _⟩
        · rw [e] at hn; exact hn
        · rw [e, List.map_append] at hn
          rcases List.mem_append.mp hn with hn | hn
          · exact hn
          · have hn2 : x.name = r.name := by simpa using hn
            exact absurd (List.mem_map.mpr ⟨x, hx, hn2⟩) l.fresh
      obtain ⟨h1, h2⟩ := h.pl x hx hn'
      exact ⟨h1, fun y hy => gsub y (h2 y hy)⟩
    · obtain rfl := List.mem_singleton.mp hx
      rcases l.pl with e | ⟨e, hs, hr⟩
      · rw [e] at hn
        exact absurd (gname _ hn) l.fresh
      · exact ⟨hs, fun y hy => gsub y (mem_fst (hr.names_in hy))⟩
  · rcases List.mem_append.mp hx with hx | hx
    · exact gsub y (h.fl x hx hs y hy)
    · obtain rfl := List.mem_singleton.mp hx
      exact gsub y (mem_fst ((l.fil hs).names_in hy))
  · by_cases hi : i < rs.length
    · rw [List.getElem?_append_left hi] at hx
      obtain ⟨j, hj, r', hr', e⟩ := h.rank i x hx y hy
      exact ⟨j, hj, r', by rw [List.getElem?_append_left (by omega)]; exact hr', e⟩
    · rw [List.getElem?_append_right (by omega)] at hx
      have e0 : i = rs.length ∧ x = r := by
        cases hk : i - rs.length with
        | zero => rw [hk] at hx; cases hx; exact ⟨by omega, rfl⟩
        | succ k => rw [hk] at hx; cases hx
      obtain ⟨rfl, rfl⟩ := e0
      have := mem_fst (rok.names_in hy)
      rw [ctx_names] at this
      obtain ⟨j, hj, e⟩ := List.getElem_of_mem this
      rw [List.length_map] at hj
      refine ⟨j, hj, rs[j], by rw [List.getElem?_append_left hj]; exact List.getElem?_eq_getElem hj, ?_⟩
      rw [← e, List.getElem_map]
  · rw [List.filter_append, List.length_append]
    have := h.led
    have : ([r].filter wbB).length ≤ 1 := Nat.le_trans (List.length_filter_le _ _) (by simp)
    omega
theorem edge_perm {rs rs' : List Row} (p : List.Perm rs' rs) : Edge rs' = Edge rs := by
  funext x y
  apply propext
  constructor
  · rintro ⟨r, hr, h⟩
    exact ⟨r, p.mem_iff.mp hr, h⟩
  · rintro ⟨r, hr, h⟩
    exact ⟨r, p.mem_iff.mpr hr, h⟩
theorem DInv.down {rs : List Row} {gp : Ctx} {n : Nat} (h : DInv rs gp n) {x y : Str} (hr : Rch (Edge rs) x y) : ∀ (i : Nat) r, rs[i]? = some r → r.name = x → ∃ j, j < i ∧ ∃ r', rs[j]? = some r' ∧ r'.name = y := by
  have one : ∀ {x y : Str}, Edge rs x y → ∀ (i : Nat) r, rs[i]? = some r → r.name = x → ∃ j, j < i ∧ ∃ r', rs[j]? = some r' ∧ r'.name = y := by
    rintro x y ⟨r0, h0, e0, hy⟩ i r hi e
    obtain rfl := nodup_name h.nd h0 (List.mem_of_getElem? hi) (e0.trans e.symm)
    exact h.rank i r0 hi y hy
  induction hr with
  | one e => exact one e
  | more _ e ih =>
    intro i r hi er
    obtain ⟨j, hj, r1, h1, e1⟩ := ih i r hi er
    obtain ⟨k, hk, r2, h2, e2⟩ := one e j r1 h1 e1
    exact ⟨k, by omega, r2, h2, e2⟩
open Classical in
theorem DInv.sig {rs rs' : List Row} {gp : Ctx} {n : Nat} (h : DInv rs gp n) (hn : n ≤ 5) (p : List.Perm rs' rs) : SigOk rs' ∧ ringOf rs' = none ∧ filtOf rs' = none := by
  have mem : ∀ {r : Row}, r ∈ rs' ↔ r ∈ rs := p.mem_iff
  have cp : ∀ q, q ∈ ctx rs → q ∈ ctx rs' := fun q hq => by
    unfold ctx at hq ⊢
    rw [List.mem_map] at hq ⊢
    obtain ⟨r, hr, e⟩ := hq
    exact ⟨r, mem.mpr hr, e⟩
  have inr : ∀ {x : Str} {w : Int}, (x, w) ∈ ctx rs' → ∃ r ∈ rs, r.name = x ∧ r.width = w := fun {x w} hx => by
    unfold ctx at hx
    rw [List.mem_map] at hx
    obtain ⟨r, hr, e⟩ := hx
    cases e
    exact ⟨r, mem.mp hr, rfl, rfl⟩
  refine ⟨⟨⟨fun x w hx => ?_, fun x w hx => ?_, fun x w hx => ?_, ?_⟩, fun r hr => (h.row r (mem.mp hr)).ctx' cp, ?_, ?_⟩, ?_, ?_⟩
  · obtain ⟨r, hr, rfl, _⟩ := inr hx
    exact h.nm r hr
  · obtain ⟨r, hr, _, rfl⟩ := inr hx
    exact (h.w r hr).1
  · obtain ⟨r, hr, _, rfl⟩ := inr hx
    exact (h.w r hr).2
  · rw [ctx_names]
    exact (p.map Row.name).nodup_iff.mpr h.nd
  · rw [p.length_eq]
    have := h.len
    omega
  · have e := (p.filter wbB).length_eq
    have := h.led
    show (rs'.filter wbB).length ≤ 8
    omega
  · unfold ringOf
    rw [Option.map_eq_none_iff, List.find?_eq_none]
    intro r hr hd
    have hr' := of_decide_eq_true hd
    rw [edge_perm p] at hr'
    obtain ⟨i, hi, e⟩ := List.getElem_of_mem (mem.mp hr)
    have gi : rs[i]? = some r := by rw [← e]; exact List.getElem?_eq_getElem hi
    obtain ⟨j, hj, r1, h1, e1⟩ := h.down hr' i r gi rfl
    have a : (rs.map Row.name)[i]? = some r.name := by rw [List.getElem?_map, gi]; rfl
    have b : (rs.map Row.name)[j]? = some r.name := by rw [List.getElem?_map, h1, ← e1]; rfl
    have := nd_ix h.nd a b
    omega
  · unfold filtOf
    rw [Option.map_eq_none_iff, List.find?_eq_none]
    intro f hf hd
    obtain ⟨y, hy, hr⟩ := of_decide_eq_true hd
    rw [edge_perm p] at hr
    have fin : ∀ {f : Str}, f ∈ filtersOf rs' → ∃ r ∈ rs, r.name = f ∧ r.sort = ("filter" : Str) := fun {f} hf => by
      unfold filtersOf at hf
      rw [List.mem_map] at hf
      obtain ⟨r, hr, e⟩ := hf
      obtain ⟨h1, h2⟩ := List.mem_filter.mp hr
      exact ⟨r, mem.mp h1, e, of_decide_eq_true h2⟩
    obtain ⟨rf, hrf, ef, sf⟩ := fin hf
    obtain ⟨ry, hry, ey, sy⟩ := fin hy
    have stay : y ∈ gp.map (·.1) := by
      clear hy hry ey sy ry
      induction hr with
      | one e =>
        obtain ⟨r0, h0, e0, hy⟩ := e
        obtain rfl := nodup_name h.nd h0 hrf (e0.trans ef.symm)
        exact h.fl r0 hrf sf _ hy
      | more _ e ih =>
        obtain ⟨r0, h0, e0, hy⟩ := e
        exact (h.pl r0 h0 (by rw [e0]; exact ih)).2 _ hy
    exact (h.pl ry hry (by rw [ey]; exact stay)).1 sy
theorem clash_none {rs : List Row} {bs : List Blk} (h1 : bothOf rs bs = none) (h2 : ringOf rs = none) (h3 : filtOf rs = none) : clashOf rs bs = none := by
  unfold clashOf
  rw [h1, h2, h3]
  rfl
end K34
namespace K34
open PySem PySem.Spec PyProof.Rows L2
local macro_rules | `(tactic| walk_at "sm") => `(tactic| (repeat (first | exact Same.refl _ | assumption | refine Same.trans ?_ (same_new (by assumption) _) | refine Same.trans ?_ (by assumption))))
theorem erase_map {α β : Type} (f : α → β) : ∀ (l : List α) (j : Nat), (l.eraseIdx j).map f = (l.map f).eraseIdx j
  | [], _ => by simp
  | _ :: _, 0 => rfl
  | a :: l, j + 1 => by
    show f a :: (l.eraseIdx j).map f = f a :: (l.map f).eraseIdx j
    rw [erase_map f l j]
theorem perm_erase {α : Type} : ∀ {l : List α} {j : Nat} {x : α}, l[j]? = some x → List.Perm l (x :: l.eraseIdx j)
  | [], _, _, h => by cases h
  | a :: l, 0, x, h => by cases h; exact List.Perm.refl _
  | a :: l, j + 1, x, h => by
    have ih := perm_erase (l := l) (j := j) (x := x) h
    exact ((List.Perm.cons a ih).trans (List.Perm.swap x a _))
theorem perm_pop {α : Type} {acc rem rs : List α} (p : List.Perm (acc ++ rem) rs) {j : Nat} {x : α} (h : rem[j]? = some x) : List.Perm ((acc ++ [x]) ++ rem.eraseIdx j) rs := by
  refine List.Perm.trans ?_ p
  rw [List.append_assoc]
  exact (List.Perm.append_left acc (perm_erase h)).symm
section
variable {X : Cx} {K : PySem.W.Frag}
theorem pe_bmQ {o e : Expr} {es : List Expr} {to : TE} {t : TA} {name : Str} {apos cpos : Pos} {T id : String} {r : V → List V → Hp → VK → Prop} (hK : X.K = K) (pa : PlainAttrs T) (slot : Slot T name id) (hty : typeOf (.builtin id) = pure (.type "method_descriptor")) (hm : MtR X id r) (ho : PE X o to) (ha : PA X (e :: es) t)
    (hbase : attributeBase o name X.env (eval o X.env) = eval o X.env := by rfl)
    (hfew : ((backTo cpos (starEach (e :: es) X.env)).all (fun x => !x.1) && (backToKw cpos (keywordEach [] X.env)).all (fun x => x.1.isSome)
      && decide ((e :: es).length + ([] : List Keyword).length + (if ([] : List Keyword).isEmpty then 0 else 1) < 30)) = true := by rfl)
    (hline : (apos.endLine == cpos.line) = true := by rfl) (hs : starEach (e :: es) X.env = (false, eval e X.env) :: starEach es X.env := by rfl) (hplain : (backTo cpos (starEach es X.env)).any (·.1) = false := by rfl) :
    PE X (.Call (.Attribute o name apos) (e :: es) [] cpos) (tBM K T r to t) := hK ▸ pe_bm pa slot hty hm ho ha hbase hfew hline hs hplain
end
theorem dpa_erase {K : PySem.W.Frag} {H : Hp} : ∀ {xs : List V} {ds : List PyData} {j : Nat}, DpAll K H xs ds → DpAll K H (xs.eraseIdx j) (ds.eraseIdx j)
  | _, _, _, .nil => by simpa using DpAll.nil
  | _, _, 0, .cons h r => r
  | _, _, j + 1, .cons h r => .cons h (dpa_erase (j := j) r)
section
variable {P : Program} {w : World} {K : PySem.W.Frag} {mg : Str → Option Value} {base : Heap}
def spDes (K : PySem.W.Frag) : Sp := fun vs H Q _ => ∃ (p : Addr) (N : Int), vs = [.ref p] ∧ N + 50000000 < 4611686018427387904 ∧ Pot H p N ∧
  RetG H Q [p] p (N + 50000000) fun v H' => ∃ (tp sg bp : Addr) (xs ys : List V) (rs : List Row) (bs : List Blk), v = .ref tp ∧ H' tp = some (.tup [.ref sg, .ref bp]) ∧ H sg = none ∧ H bp = none ∧ H' sg = some (.lst xs) ∧ DpAll K H' xs (rs.map Row.d) ∧ SigOk rs ∧ H' bp = some (.lst ys) ∧ DpAll K H' ys (bs.map Blk.d) ∧ BlksOk rs bs ∧ clashOf rs bs = none
theorem ok__law_design (T : TX K mg w) (G__law_digit : FnOk P w K mg base CX0 1 T.a__law_digit T.d__law_digit p__law_digit spDig) (G__law_sources : FnOk P w K mg base CX0 3 T.a__law_sources T.d__law_sources p__law_sources (spSrc K))
    (G__law_led : FnOk P w K mg base CX0 8 T.a__law_led T.d__law_led p__law_led (spLed K)) (G__law_blocks : FnOk P w K mg base CX0 13 T.a__law_blocks T.d__law_blocks p__law_blocks (spBlocks K)) :
    FnOk P w K mg base CX0 14 T.a__law_design T.d__law_design p__law_design (spDes K) := by
  refine T.F__law_design.ok sc__law_design (fun vs H Q E h => ?_) (fun cdv A outer s H vs Q E hr h => ?_)
  · obtain ⟨p, N, rfl, _⟩ := h; rfl
  obtain ⟨p, N, rfl, hN, hp, q⟩ := h
  have nd := sc__law_design.nd
  refine ⟨_, ((pss_cons (ps_set (i := 1) nd rfl (Or.inl rfl) (pe_lst pa_nil))
      (pss_cons (ps_set (i := 2) nd rfl (Or.inr rfl) (pe_call G__law_sources (hr.mono (by omega)) rfl T.m__law_sources T.k__law_sources T.b__law_sources .nil pass0 (pa_cons (pv 0) (pa_cons (pv 1) pa_nil))))
      (pss_cons (ps_setLc (i := 3) (own := [("_law_row", 7)]) (g := gName 7) (tt := tYes) rfl nd rfl rfl (sw_true rfl rfl rfl (by decide +kernel)) (pi_list (pv 2)) (blkOk_by (N := n__law_design) (sc := defScope s__law_design) (by decide +kernel)) (fun _ _ _ _ _ => (pg_name (i := 7) nd rfl (Or.inl rfl))) (fun _ _ _ _ _ => pts_nil) (fun _ _ _ _ _ => (pe_slice (sl_tupAK (K := K) rfl) (pv 7) (po_some pe_int) (po_some pe_int))))
      (pss_cons (ps_set (i := 4) nd rfl (Or.inl rfl) (pe_callTy call_list_of (by rfl) T.z_list (by decide +kernel) (pa_cons (pv 3) pa_nil)))
      (pss_cons (ps_for PassesOwn.never rfl (pi_range1 rfl T.z_range (pa_cons (pe_call G__law_digit (hr.mono (by omega)) rfl T.m__law_digit T.k__law_digit T.b__law_digit .nil pass0 (pa_cons (pv 0) (pa_cons pe_int pa_nil))) pa_nil)) (pg_name (i := 5) nd rfl (Or.inl rfl)) (pss_one (ps_expr (pe_bm PySem.F.plainAttrs_list PySem.F.slot_list_append PySem.F.type_list_append mt_append (pv 2) (pa_cons (pe_call G__law_led (hr.mono (by omega)) rfl T.m__law_led T.k__law_led T.b__law_led .nil pass0 (pa_cons (pv 0) (pa_cons (pv 3) (pa_cons (pv 4) (pa_cons (pv 1) (pa_cons (pe_op op_add pe_int (pe_call G__law_digit (hr.mono (by omega)) rfl T.m__law_digit T.k__law_digit T.b__law_digit .nil pass0 (pa_cons (pv 0) (pa_cons pe_int pa_nil)))) pa_nil)))))) pa_nil)))))
      (pss_cons (ps_setLc (i := 6) (own := [("_law_k", 5)]) (g := gName 5) (tt := tYes) rfl nd rfl rfl (sw_true rfl rfl rfl (by decide +kernel)) (pi_range1 rfl T.z_range (pa_cons (pe_callB call_len_seq (by rfl) T.z_len PySem.boot_len (pa_cons (pv 2) pa_nil)) pa_nil)) (blkOk_by (N := n__law_design) (sc := defScope s__law_design) (by decide +kernel)) (fun _ _ _ _ _ => (pg_name (i := 5) nd rfl (Or.inl rfl))) (fun _ _ _ _ _ => pts_nil) (fun _ _ _ _ _ => (pe_bmQ (K := K) rfl PySem.F.plainAttrs_list PySem.F.slot_list_pop PySem.F.type_list_pop mt_popAt (pv 2) (pa_cons (pe_call G__law_digit (hr.mono (by omega)) rfl T.m__law_digit T.k__law_digit T.b__law_digit .nil pass0 (pa_cons (pv 0) (pa_cons (pe_callB (call_len_seqK (K := K) rfl) (by rfl) T.z_len PySem.boot_len (pa_cons (pv 2) pa_nil)) pa_nil))) pa_nil))))
      (pss_one (ps_ret (pe_tup (pa_cons (pv 6) (pa_cons (pe_call G__law_blocks (hr.mono (by omega)) rfl T.m__law_blocks T.k__law_blocks T.b__law_blocks .nil pass0 (pa_cons (pv 0) (pa_cons (pv 6) (pa_cons (pv 1) pa_nil)))) pa_nil)))))))))))), ?_⟩
  refine ⟨by show 0 ≤ sizeLine; decide, fun t ht => ?_⟩
  have f1 : Same H (upd H t (.lst [])) := same_new ht _
  have h1 : upd H t (.lst []) t = some (.lst []) := upd_same
  have pt := hp.ne ht
  have hp1 := hp.same f1
  generalize upd H t (.lst []) = H1 at *
  refine ⟨_, rfl, _, rfl, p, t, N, rfl, pt, h1, by omega, hp1, ?_⟩
  rintro _ H2 k2 hp2 ⟨ra, xs, rs0, rfl, hra1, hra, hd, ht2, so, l6⟩
  have k02 : KP [p] H H2 := (KP.of f1).then k2 (fun b hb => by
    simp only [List.mem_cons, List.not_mem_nil, or_false] at hb
    rcases hb with rfl | rfl
    · exact .inl (by simp)
    · exact .inr ht)
  have hraH := f1.free hra1
  have pra : p ≠ ra := hp1.ne hra1
  have tra : t ≠ ra := fun z => by rw [z, hra1] at h1; cases h1
  have lxs := hd.length
  rw [List.length_map] at lxs
  refine ⟨_, rfl, ra, rfl, ⟨xs, SqL.of hra⟩, fun pl hpl => ?_⟩
  have lctx : (ctx rs0).length = rs0.length := by unfold ctx; rw [List.length_map]
  refine lcD (K := K) walk_list ((ctx rs0).map nameD) (by rw [List.length_map, lctx, lxs]) (by omega) (names_noL _) hpl (fun _ e => SqL.of (e _ _ hra)) yat_same ?_ gm_name ?_
  · rintro i x _ H3 e hi he e3 ⟨rfl, hx⟩ Qy hy
    obtain ⟨r, hri, hxd⟩ := rows_at hd hx
    unfold ctx at he
    rw [List.getElem?_map, List.getElem?_map, hri] at he
    cases he
    obtain ⟨c, z, rfl, hc, hz⟩ := row_inv (hxd.mono e3)
    refine ⟨rfl, _, rfl, _, rfl, _, rfl, row_slice hc fun p4 hp4 => hy _ _ (same_new hp4 _) (.tup (SqT.of upd_same) (.cons (.str _) (.cons (.int _) .nil)))⟩
  intro zs H3 e3 hzs hrz
  have ppl : p ≠ pl := hp2.ne hpl
  have tpl : t ≠ pl := fun z => by rw [z, hpl] at ht2; cases ht2
  have rapl : ra ≠ pl := fun z => by rw [z, hpl] at hra; cases hra
  refine ⟨_, rfl, pl, zs, rfl, .inl (SqL.of hzs), fun ev hev => ?_⟩
  have f4 : Same H3 (upd H3 ev (.lst zs)) := same_new hev _
  have h4 : upd H3 ev (.lst zs) ev = some (.lst zs) := upd_same
  have e34 := e3.trans f4
  have pev : p ≠ ev := (hp2.same e3).ne hev
  have tev : t ≠ ev := fun z => by have := e3 _ _ ht2; rw [z, hev] at this; cases this
  have raev : ra ≠ ev := fun z => by have := e3 _ _ hra; rw [z, hev] at this; cases this
  have plev : pl ≠ ev := fun z => by rw [z, hev] at hzs; cases hzs
  have hp4 := hp2.same e34
  have ht4 := e34 _ _ ht2
  have hra4 := e34 _ _ hra
  have hd4 := hd.mono e34
  have k04 := k02.trans (KP.of e34)
  have hplH := k02.free _ hpl
  have hevH := (k02.trans (KP.of e3)).free _ hev
  have hnpl4 : NL K (upd H3 ev (.lst zs)) pl (ctx rs0) := ⟨zs, f4 _ _ hzs, hrz.mono f4⟩
  have hnev4 : NL K (upd H3 ev (.lst zs)) ev (ctx rs0) := ⟨zs, h4, hrz.mono f4⟩
  generalize upd H3 ev (.lst zs) = H4 at *
  clear e3 hzs hrz f4 h4 hev e34 hp2 ht2 hra hd k02 k2 hpl hp1 h1 hra1 f1
  refine ⟨_, rfl, p, 6, N + 300, rfl, by decide, by decide, by omega, hp4, ?_⟩
  rintro _ H5 k5 hp5 ⟨d, rfl, d0, dm⟩
  refine ⟨d, rfl, by omega, by omega, ?_⟩
  refine for_it (walk_range (lo := 0) (n := d.toNat)) (fun i σ H6 => ∃ o5 vs rs gp, σ = [some (.ref p), some (.ref t), some (.ref ra), some (.ref pl), some (.ref ev), o5, none, none] ∧ KP [p] H H6 ∧ Pot H6 p (N + 301 + i * 50010) ∧ H6 t = some (.lst ((rs.map Row.name).map V.str)) ∧ NL K H6 pl gp ∧ NL K H6 ev (ctx rs) ∧ H6 ra = some (.lst vs) ∧ DpAll K H6 vs (rs.map Row.d) ∧ DInv rs gp i)
    ⟨none, xs, rs0, ctx rs0, rfl, k04.trans k5, hp5.up (by omega), k5.keep _ _ (by simpa using pt.symm) ht4, hnpl4.keep k5 (by simpa using ppl.symm), hnev4.keep k5 (by simpa using pev.symm), k5.keep _ _ (by simpa using pra.symm) hra4, hd4.tk k5.tk (rows_noL rs0), DInv.start so l6⟩ (fun i σ H2 _ _ => True.intro) ?_ ?_
  · rintro i x σ _ H6 hi ⟨o5, vs, rs, gp, rfl, k6, hp6, ht6, hpl6, hev6, hra6, hd6, inv⟩ ⟨rfl, rfl⟩
    have hi5 : i < 5 := by omega
    refine ⟨_, rfl, .inl ⟨rfl, _, SqL.of hra6⟩, ?_⟩
    refine ⟨_, rfl, _, rfl, _, rfl, _, rfl, _, rfl, p, 3, _, rfl, by decide, by decide, by omega, hp6, ?_⟩
    rintro _ H7 k7 hp7 ⟨dd, rfl, dd0, ddm⟩
    have lr := inv.len
    have gl := inv.glen
    have lc : (ctx rs).length = rs.length := by unfold ctx; rw [List.length_map]
    refine ⟨_, _, rfl, rfl, p, pl, ev, t, 1 + dd, _, gp, ctx rs, rs.map Row.name, rfl, by omega, by omega, ⟨ppl, pev, pt, plev, tpl.symm, tev.symm⟩, hpl6.keep k7 (by simpa using ppl.symm), hev6.keep k7 (by simpa using pev.symm), inv.sub, fun x k hx => ?_, by omega, by omega, by omega, k7.keep _ _ (by simpa using pt.symm) ht6, fun x hx => ?_, by rw [List.length_map]; omega, by omega, hp7, ?_⟩
    · unfold ctx at hx
      rw [List.mem_map] at hx
      obtain ⟨r, hr, e⟩ := hx
      cases e
      exact inv.nm r hr
    · rw [List.mem_map] at hx
      obtain ⟨r, hr, rfl⟩ := hx
      exact inv.nm r hr
    rintro v8 H8 k8 hp8 ⟨r, gp', hv8, lok, hpl8, hev8, ht8⟩
    have ran : ra ∉ [p, pl, ev, t] := by simp only [List.mem_cons, List.not_mem_nil, or_false, not_or]; exact ⟨pra.symm, rapl, raev, tra.symm⟩
    have hra8 := k8.keep _ _ ran (k7.keep _ _ (by simpa using pra.symm) hra6)
    have hd8 := (hd6.tk k7.tk (rows_noL rs)).tk k8.tk (rows_noL rs)
    have k08 : KP [p] H H8 := (k6.trans k7).then k8 (fun b hb => by
      simp only [List.mem_cons, List.not_mem_nil, or_false] at hb
      rcases hb with rfl | rfl | rfl | rfl
      · exact .inl (by simp)
      · exact .inr hplH
      · exact .inr hevH
      · exact .inr ht)
    have lvs := hd6.length
    rw [List.length_map] at lvs
    have t9 : TK H8 (upd H8 ra (.lst (vs ++ [v8]))) := TK.lst hra8
    have k9 : KP [ra] H8 (upd H8 ra (.lst (vs ++ [v8]))) := KP.set (by simp) hra8
    refine ⟨ra, _, _, rfl, rfl, hra8, small1000 (by omega), _, _, rs ++ [r], gp', rfl, k08.new hraH hra8, ?_, ?_, hpl8.keep k9 (by simpa using rapl.symm), ?_, upd_same, ?_, inv.step lok⟩
    · have : Pot H8 p (N + 301 + ((i + 1 : Nat) : Int) * 50010) := hp8.up (by omega)
      exact this.keep k9 (by simpa using pra)
    · rw [upd_ne tra, ht8]
      simp
    · rw [ctx_snoc]
      exact hev8.keep k9 (by simpa using raev.symm)
    · rw [List.map_append]
      exact (hd8.tk t9 (rows_noL rs)).app (.cons (hv8.tk t9 r.noL) .nil)
  rintro σ H6 ⟨o5, vs, rs, gp, rfl, k6, hp6, ht6, hpl6, hev6, hra6, hd6, inv⟩
  have lr := inv.len
  have hp6' : Pot H6 p (N + 301 + 250050) := hp6.up (by omega)
  have lvs := hd6.length
  rw [List.length_map] at lvs
  have l11 : rs.length ≤ 11 := by omega
  have n5 : d.toNat ≤ 5 := by omega
  clear hp6 hpl6 hev6 hnpl4 hnev4 hp5 k5 hd4 hra4 ht4 hp4
  refine ⟨_, rfl, ra, vs, rfl, .inl (SqL.of hra6), ((vs.length : Nat) : Int), rfl, by omega, by omega, fun D hD => ?_⟩
  have tn : ((vs.length : Nat) : Int).toNat = vs.length := Int.toNat_natCast _
  have pD : p ≠ D := hp6'.ne hD
  have tD : t ≠ D := fun z => by rw [z, hD] at ht6; cases ht6
  have raD : ra ≠ D := fun z => by rw [z, hD] at hra6; cases hra6
  have hDH := k6.free _ hD
  have f7 : Same H6 (upd H6 D (.lst [])) := same_new hD _
  refine lc_it (walk_range (lo := 0) (n := ((vs.length : Nat) : Int).toNat)) (fun i H7 => KP [p] H H7 ∧ Pot H7 p (N + 301 + 250050 + i) ∧ H7 t = some (.lst ((rs.map Row.name).map V.str)) ∧ ∃ (av rv : List V) (ac re : List Row), H7 D = some (.lst av) ∧ DpAll K H7 av (ac.map Row.d) ∧ H7 ra = some (.lst rv) ∧ DpAll K H7 rv (re.map Row.d) ∧ List.Perm (ac ++ re) rs ∧ re.length + i = rs.length)
    ⟨k6.trans (KP.of f7), (hp6'.up (by omega)).same f7, f7 _ _ ht6, [], vs, [], rs, upd_same, .nil, f7 _ _ hra6, hd6.mono f7, List.Perm.refl _, by omega⟩ (fun i H2 _ _ => True.intro) ?_ ?_
  · rintro i x _ H7 hi ⟨k7, hp7, ht7, av, rv, ac, re, hav, hac, hrv, hre, hpm, hlen⟩ ⟨rfl, rfl⟩
    have lrv := hre.length
    rw [List.length_map] at lrv
    have lav := hac.length
    rw [List.length_map] at lav
    have lpm := hpm.length_eq
    rw [List.length_append] at lpm
    refine ⟨rfl, yes_go ?_⟩
    refine ⟨_, rfl, .inl ⟨rfl, _, SqL.of hrv⟩, ?_⟩
    refine ⟨_, rfl, _, rfl, ra, rv, rfl, .inl (SqL.of hrv), p, _, _, rfl, by omega, by omega, by omega, hp7, ?_⟩
    rintro _ H8 k8 hp8 ⟨dd, rfl, dd0, ddm⟩
    obtain ⟨j, rfl⟩ : ∃ j : Nat, dd = j := ⟨dd.toNat, by omega⟩
    have hj : j < re.length := by omega
    have hrv8 := k8.keep _ _ (by simpa using pra.symm) hrv
    have hav8 := k8.keep _ _ (by simpa using pD.symm) hav
    have ht8 := k8.keep _ _ (by simpa using pt.symm) ht7
    have hre8 := hre.tk k8.tk (rows_noL re)
    have hac8 := hac.tk k8.tk (rows_noL ac)
    have gj : re[j]? = some re[j] := List.getElem?_eq_getElem hj
    obtain ⟨v, hv, hvd⟩ := hre8.at (i := j) (d := re[j].d) (by rw [List.getElem?_map, gj]; rfl)
    have pp := perm_pop hpm gj
    generalize re[j] = r at *
    refine ⟨ra, rv, _, j, v, rfl, rfl, hrv8, by omega, by omega, seqIx (by omega), hv, ?_⟩
    have k9 : KP [ra] H8 (upd H8 ra (.lst (rv.eraseIdx j))) := KP.set (by simp) hrv8
    have h9 : upd H8 ra (.lst (rv.eraseIdx j)) ra = some (.lst (rv.eraseIdx j)) := upd_same
    have hav9 := k9.keep _ _ (by simpa using raD.symm) hav8
    have hac9 := hac8.tk k9.tk (rows_noL ac)
    have hre9 : DpAll K (upd H8 ra (.lst (rv.eraseIdx j))) (rv.eraseIdx j) ((re.eraseIdx j).map Row.d) := by
      have e : (re.eraseIdx j).map Row.d = (re.map Row.d).eraseIdx j := erase_map Row.d re j
      rw [e]
      exact dpa_erase (hre8.tk k9.tk (rows_noL re))
    have hvd9 := hvd.tk k9.tk r.noL
    have hp9 := hp8.keep k9 (by simpa using pra)
    have ht9 := k9.keep _ _ (by simpa using tra) ht8
    have kk9 : KP [p] H (upd H8 ra (.lst (rv.eraseIdx j))) := (k7.trans k8).new hraH hrv8
    generalize upd H8 ra (.lst (rv.eraseIdx j)) = H9 at *
    have t10 : TK H9 (upd H9 D (.lst (av ++ [v]))) := TK.lst hav9
    have k10 : KP [D] H9 (upd H9 D (.lst (av ++ [v]))) := KP.set (by simp) hav9
    refine ⟨av, hav9, small1000 (by omega), kk9.new hDH hav9, ?_, k10.keep _ _ (by simpa using tD) ht9, av ++ [v], rv.eraseIdx j, ac ++ [r], re.eraseIdx j, upd_same, ?_, k10.keep _ _ (by simpa using raD) h9, hre9.tk t10 (rows_noL _), pp, ?_⟩
    · exact (hp9.up (by omega)).keep k10 (by simpa using pD)
    · rw [List.map_append]
      exact (hac9.tk t10 (rows_noL ac)).app (.cons (hvd9.tk t10 r.noL) .nil)
    · rw [List.length_eraseIdx]
      rw [if_pos hj]
      omega
  · rintro H7 ⟨k7, hp7, ht7, av, rv, ac, re, hav, hac, hrv, hre, hpm, hlen⟩
    rw [tn] at hlen
    have re0 : re = [] := List.eq_nil_of_length_eq_zero (by omega)
    subst re0
    rw [List.append_nil] at hpm
    obtain ⟨sok, hring, hfilt⟩ := inv.sig n5 hpm
    refine ⟨_, rfl, _, rfl, _, rfl, _, rfl, p, D, t, N + 301 + 250050 + 11, av, ac, rs.map Row.name, rfl, ⟨pD, pt, tD.symm⟩, hav, hac, sok, ht7, fun x hx => ?_, by rw [List.length_map]; omega, fun r hr => List.mem_map.mpr ⟨r, hpm.mem_iff.mp hr, rfl⟩, by omega, hp7.up (by omega), ?_⟩
    · rw [List.mem_map] at hx
      obtain ⟨r, hr, rfl⟩ := hx
      exact inv.nm r hr
    rintro _ H8 k8 hp8 ⟨bp, ys, bs, rfl, hbp7, hbp, hdb, okb, hboth⟩
    have k08 : KP [p] H H8 := k7.then k8 (fun b hb => by
      simp only [List.mem_cons, List.not_mem_nil, or_false] at hb
      rcases hb with rfl | rfl
      · exact .inl (by simp)
      · exact .inr ht)
    have hav8 := k8.keep _ _ (by simp only [List.mem_cons, List.not_mem_nil, or_false, not_or]; exact ⟨pD.symm, tD.symm⟩) hav
    have hac8 := hac.tk k8.tk (rows_noL ac)
    refine ⟨by show 2 ≤ sizeLine; decide, fun tp htp => ?_⟩
    have f9 : Same H8 (upd H8 tp (.tup [.ref D, .ref bp])) := same_new htp _
    exact q _ _ (k08.trans (KP.of f9)) ((hp8.up (by omega)).same f9) ⟨tp, D, bp, av, ys, ac, bs, rfl, upd_same, hDH, k7.free _ hbp7, f9 _ _ hav8, hac8.mono f9, sok, f9 _ _ hbp, hdb.mono f9, okb, clash_none hboth hring hfilt⟩
end
end K34
namespace K34
open PySem PySem.Spec PyProof.Rows L2
local macro_rules | `(tactic| walk_at "sm") => `(tactic| (repeat (first | exact Same.refl _ | assumption | refine Same.trans ?_ (same_new (by assumption) _) | refine Same.trans ?_ (by assumption))))
mutual
theorem eqv_refl : ∀ {d : PyData}, noL d = true → PyData.eqv d d = true
  | .list _, h => by simp [noL] at h
  | .dict _, h => by simp [noL] at h
  | .tuple ds, h => by
    have := eqvs_refl (ds := ds) (by simpa [noL] using h)
    simpa [PyData.eqv] using this
  | .none, _ => rfl
  | .bool b, _ => by simp [PyData.eqv]
  | .int _, _ => by simp [PyData.eqv]
  | .str _, _ => by simp [PyData.eqv]
theorem eqvs_refl : ∀ {ds : List PyData}, noLs ds = true → PyData.eqvAll ds ds = true
  | [], _ => rfl
  | d :: ds, h => by
    simp only [noLs, Bool.and_eq_true] at h
    simp [PyData.eqvAll, eqv_refl h.1, eqvs_refl h.2]
end
theorem eqv_bus {g : Ctx} {n : Nat} {w : Int} {t : Tm} (h : Ok g n w t) {ds : List (Tm × Tm)} (h2 : 2 ≤ ds.length) : PyData.eqv t.d (What.d (.bus ds)) = false := by
  obtain ⟨o, es, e⟩ : ∃ o es, t.d = .tuple (.str o :: es) := by cases h <;> exact ⟨_, _, rfl⟩
  rw [e]
  cases ds with
  | nil => simp at h2
  | cons p ds => simp [What.d, PyData.eqv, PyData.eqvAll]
theorem shaped_bus {g : Ctx} (G : GOk g) {w : Int} {ds : List (Tm × Tm)} (h : ∀ p ∈ ds, Ok g 4 1 p.1 ∧ Ok g 4 w p.2) : SeqAt.shaped (What.d (.bus ds)) = true := by
  have h1 : PyData.canLayAll0 (ds.map fun p => PyData.tuple [p.1.d, p.2.d]) = true ∧ PyData.depthAll (ds.map fun p => PyData.tuple [p.1.d, p.2.d]) ≤ 10 := by
    induction ds with
    | nil => simp [PyData.canLayAll0, PyData.depthAll]
    | cons p l ih =>
      obtain ⟨a1, a2⟩ := ih fun x hx => h x (List.mem_cons_of_mem _ hx)
      obtain ⟨b1, b2⟩ := h p List.mem_cons_self
      obtain ⟨c1, c2⟩ := b1.lay G
      obtain ⟨d1, d2⟩ := b2.lay G
      constructor
      · simp [PyData.canLayAll0, PyData.canLay0, c1, d1, a1]
      · simp only [List.map_cons, PyData.depthAll, PyData.depth]
        omega
  unfold SeqAt.shaped What.d
  simp only [PyData.canLay0, PyData.depth, h1.1, Bool.true_and]
  exact decide_eq_true (by have := h1.2; omega)
def rkey (r : Row) : Str × Str × Int := (r.sort, r.name, r.width)
theorem keys_ctx {rs rs' : List Row} (h : rs'.map rkey = rs.map rkey) : ctx rs' = ctx rs := by
  have := congrArg (List.map fun q : Str × Str × Int => q.2) h
  rw [List.map_map, List.map_map] at this
  exact this
theorem keys_names {rs rs' : List Row} (h : rs'.map rkey = rs.map rkey) : rs'.map Row.name = rs.map Row.name := by
  have := congrArg (List.map fun q : Str × Str × Int => q.2.1) h
  rw [List.map_map, List.map_map] at this
  exact this
theorem keys_filter (p : Str → Bool) : ∀ {rs rs' : List Row}, rs'.map rkey = rs.map rkey → (rs'.filter fun r => p r.sort).map rkey = (rs.filter fun r => p r.sort).map rkey
  | [], [], _ => rfl
  | [], _ :: _, h => by cases h
  | _ :: _, [], h => by cases h
  | r :: rs, r' :: rs', h => by
    rw [List.map_cons, List.map_cons] at h
    injection h with h1 h2
    have ih := keys_filter p h2
    have e : r'.sort = r.sort := congrArg (·.1) h1
    by_cases hp : p r.sort = true
    · rw [List.filter_cons_of_pos (p := fun r : Row => p r.sort) (by rw [e]; exact hp), List.filter_cons_of_pos (p := fun r : Row => p r.sort) hp, List.map_cons, List.map_cons, ih, h1]
    · rw [List.filter_cons_of_neg (p := fun r : Row => p r.sort) (by rw [e]; exact hp), List.filter_cons_of_neg (p := fun r : Row => p r.sort) hp, ih]
theorem SigOk.anew {rs rs' : List Row} (ok : SigOk rs) (h : rs'.map rkey = rs.map rkey) (hr : ∀ r ∈ rs', RowOk (ctx rs) r) : SigOk rs' ∧ ∀ {bs : List Blk}, BlksOk rs bs → BlksOk rs' bs := by
  have ec := keys_ctx h
  have en := keys_names h
  have el : rs'.length = rs.length := by
    have := congrArg List.length h
    rwa [List.length_map, List.length_map] at this
  have ek : keptOf rs' = keptOf rs := by
    have := congrArg (List.map fun q : Str × Str × Int => q.2.1) (keys_filter (fun s => decide (s = ("kept" : Str))) h)
    rw [List.map_map, List.map_map] at this
    exact this
  refine ⟨⟨by rw [ec]; exact ok.g, by rw [ec]; exact hr, by rw [el]; exact ok.len, ?_⟩, fun {bs} hb => ⟨fun b hb' => ?_, hb.len, by rw [en]; exact hb.nd⟩⟩
  · have := congrArg List.length (keys_filter (fun s => decide (s = ("wire" : Str) ∨ s = ("bus" : Str))) h)
    rw [List.length_map, List.length_map] at this
    rw [this]
    exact ok.led
  · obtain ⟨h1, h2, h3, h4, h5⟩ := hb.one b hb'
    exact ⟨h1, h2, by rw [ec]; exact h3, by rw [ec, ek]; exact h4, h5⟩
theorem cut03 (a b c d : V) : cutV [a, b, c, d] none (some 3) = [a, b, c] := rfl
theorem row_head {K : PySem.W.Frag} {H : Hp} {a b c d : V} {x : Addr} {Q : VK} (hc : SqT K H x [a, b, c, d]) (q : ∀ p, H p = none → Q (.ref p) (upd H p (.tup [a, b, c]))) : rSlA K (.ref x) none (some 3) H Q := by
  refine ⟨x, _, rfl, hc, fun h => ?_, fun _ p hp => ?_⟩
  · have h1 := h.2
    cases h1
  · rw [cut03]
    exact q p hp
theorem cat_new {K : PySem.W.Frag} {H : Hp} {a b : Addr} {x y : V} {xs ys : List V} {Q : VK} (ha : SqT K H a (x :: xs)) (hb : SqT K H b (y :: ys)) (hz : (x :: xs).length + (y :: ys).length ≤ sizeLine) (q : ∀ p, H p = none → Q (.ref p) (upd H p (.tup (x :: xs ++ y :: ys)))) : rCatA K (.ref a) (.ref b) H Q :=
  ⟨a, b, _, _, rfl, rfl, ha, hb, hz, (fun e => by cases e), (fun _ e => by cases e), fun _ _ p hp => q p hp⟩
theorem wfb1 : inV (V.str "input") [V.str "wire", V.str "filter", V.str "bus"] = false := by decide +kernel
theorem wfb2 : inV (V.str "kept") [V.str "wire", V.str "filter", V.str "bus"] = false := by decide +kernel
theorem wfb3 : inV (V.str "wire") [V.str "wire", V.str "filter", V.str "bus"] = true := by decide +kernel
theorem wfb4 : inV (V.str "filter") [V.str "wire", V.str "filter", V.str "bus"] = true := by decide +kernel
theorem wfb5 : inV (V.str "bus") [V.str "wire", V.str "filter", V.str "bus"] = true := by decide +kernel
section
variable {P : Program} {w : World} {K : PySem.W.Frag} {mg : Str → Option Value} {base : Heap}
def spAnew (K : PySem.W.Frag) : Sp := fun vs H Q _ => ∃ (p sg : Addr) (N : Int) (xs : List V) (rs : List Row), vs = [.ref p, .ref sg] ∧ p ≠ sg ∧ H sg = some (.lst xs) ∧ DpAll K H xs (rs.map Row.d) ∧ SigOk rs ∧ N + 200000 < 4611686018427387904 ∧ Pot H p N ∧
  RetG H Q [p] p (N + 200000) fun v H' => ∃ (a : Addr) (ys : List V) (rs' : List Row), v = .ref a ∧ H a = none ∧ H' a = some (.lst ys) ∧ DpAll K H' ys (rs'.map Row.d) ∧ rs'.map rkey = rs.map rkey ∧ ∀ r ∈ rs', RowOk (ctx rs) r
theorem ok__law_anew (T : TX K mg w) (G__law_digit : FnOk P w K mg base CX0 1 T.a__law_digit T.d__law_digit p__law_digit spDig) (G__law_term : FnOk P w K mg base CX0 7 T.a__law_term T.d__law_term p__law_term (spT K)) :
    FnOk P w K mg base CX0 8 T.a__law_anew T.d__law_anew p__law_anew (spAnew K) := by
  refine T.F__law_anew.ok sc__law_anew (fun vs H Q E h => ?_) (fun cdv A outer s H vs Q E hr h => ?_)
  · obtain ⟨p, sg, N, xs, rs, rfl, _⟩ := h; rfl
  obtain ⟨p, sg, N, xs, rs, rfl, n1, hsg, hd, ok, hN, hp, q⟩ := h
  have nd := sc__law_anew.nd
  refine ⟨_, ((pss_cons (ps_setLc (i := 2) (own := [("_law_row", 4)]) (g := gName 4) (tt := tYes) rfl nd rfl rfl (sw_true rfl rfl rfl (by decide +kernel)) (pi_list (pv 1)) (blkOk_by (N := n__law_anew) (sc := defScope s__law_anew) (by decide +kernel)) (fun _ _ _ _ _ => (pg_name (i := 4) nd rfl (Or.inl rfl))) (fun _ _ _ _ _ => pts_nil) (fun _ _ _ _ _ => (pe_slice (sl_tupAK (K := K) rfl) (pv 4) (po_some pe_int) (po_some pe_int))))
      (pss_cons (ps_set (i := 3) nd rfl (Or.inl rfl) (pe_lst pa_nil))
      (pss_cons (ps_for PassesOwn.never rfl (pi_list (pv 1)) (pg_name (i := 4) nd rfl (Or.inl rfl)) (pss_cons (ps_set (i := 5) nd rfl (Or.inl rfl) (pe_ix ix_tup (pv 4) pe_int (fun _ _ => rfl)))
      (pss_cons (ps_if (PW.pt (pw_and (pt_cmpR op_in_seq (pe_ix ix_tup (pv 4) pe_int (fun _ _ => rfl)) (pe_tup (pa_cons pe_str (pa_cons pe_str (pa_cons pe_str pa_nil)))) (by rfl)) (pw_and1 (pt_cmpR op_eq (pe_call G__law_digit (hr.mono (by omega)) rfl T.m__law_digit T.k__law_digit T.b__law_digit .nil pass0 (pa_cons (pv 0) (pa_cons pe_int pa_nil))) pe_int (nomark _))))) (pss_one (ps_set (i := 5) nd rfl (Or.inl rfl) (pe_call G__law_term (hr.mono (by omega)) rfl T.m__law_term T.k__law_term T.b__law_term .nil pass0 (pa_cons (pv 0) (pa_cons (pv 2) (pa_cons (pe_ix ix_tup (pv 4) pe_int (fun _ _ => rfl)) (pa_cons pe_int pa_nil))))))) pss_nil)
      (pss_cons (ps_if (PW.pt (pw_and (pt_cmpR op_eq (pe_ix ix_tup (pv 4) pe_int (fun _ _ => rfl)) pe_str (nomark _)) (pw_and1 (pt_cmpR (op_neD hr.units) (pv 5) (pe_ix ix_tup (pv 4) pe_int (fun _ _ => rfl)) (nomark _))))) (pss_one (ps_set (i := 5) nd rfl (Or.inl rfl) (pe_op op_catA (pe_tup (pa_cons (pe_tup (pa_cons (pe_call G__law_term (hr.mono (by omega)) rfl T.m__law_term T.k__law_term T.b__law_term .nil pass0 (pa_cons (pv 0) (pa_cons (pv 2) (pa_cons pe_int (pa_cons pe_int pa_nil))))) (pa_cons (pv 5) pa_nil))) pa_nil)) (pe_slice sl_tupA (pe_ix ix_tup (pv 4) pe_int (fun _ _ => rfl)) (po_some pe_int) po_none)))) pss_nil)
      (pss_one (ps_expr (pe_bm PySem.F.plainAttrs_list PySem.F.slot_list_append PySem.F.type_list_append mt_append (pv 3) (pa_cons (pe_op op_catA (pe_slice sl_tupA (pv 4) po_none (po_some pe_int)) (pe_tup (pa_cons (pv 5) pa_nil))) pa_nil))))))))
      (pss_one (ps_ret (pv 3))))))), ?_⟩
  have lxs := hd.length
  rw [List.length_map] at lxs
  have l11 := ok.len
  have lctx : (ctx rs).length = rs.length := by unfold ctx; rw [List.length_map]
  refine ⟨_, rfl, sg, rfl, ⟨xs, SqL.of hsg⟩, fun De hDe => ?_⟩
  refine lcD (K := K) walk_list ((ctx rs).map nameD) (by rw [List.length_map, lctx, lxs]) (by omega) (names_noL _) hDe (fun _ e => SqL.of (e _ _ hsg)) yat_same ?_ gm_name ?_
  · rintro i x _ H3 e hi he e3 ⟨rfl, hx⟩ Qy hy
    obtain ⟨r, hri, hxd⟩ := rows_at hd hx
    unfold ctx at he
    rw [List.getElem?_map, List.getElem?_map, hri] at he
    cases he
    obtain ⟨c, z, rfl, hc, hz⟩ := row_inv (hxd.mono e3)
    refine ⟨rfl, _, rfl, _, rfl, _, rfl, row_slice hc fun p4 hp4 => hy _ _ (same_new hp4 _) (.tup (SqT.of upd_same) (.cons (.str _) (.cons (.int _) .nil)))⟩
  intro ze H1 e1 hze hre
  have hnl1 : NL K H1 De (ctx rs) := ⟨ze, hze, hre⟩
  have pDe := hp.ne hDe
  refine ⟨by show 0 ≤ sizeLine; decide, fun pf hpf => ?_⟩
  have f2 : Same H1 (upd H1 pf (.lst [])) := same_new hpf _
  have h2 : upd H1 pf (.lst []) pf = some (.lst []) := upd_same
  have ppf : p ≠ pf := (hp.same e1).ne hpf
  have Depf : De ≠ pf := fun z => by rw [z, hpf] at hze; cases hze
  have hpfH := e1.free hpf
  have hDeH := hDe
  have e02 := e1.trans f2
  have hnl2 := hnl1.same f2
  have hp2 := hp.same e02
  generalize upd H1 pf (.lst []) = H2 at *
  refine ⟨_, rfl, sg, rfl, ⟨xs, SqL.of (e02 _ _ hsg)⟩, ?_⟩
  refine for_it (walk_list (K := K) (a := sg) (xs := xs)) (fun i σ H3 => ∃ o4 o5 vs rs', σ = [some (.ref p), some (.ref sg), some (.ref De), some (.ref pf), o4, o5] ∧ KP [p] H H3 ∧ Pot H3 p (N + 11000 * i) ∧ H3 pf = some (.lst vs) ∧ DpAll K H3 vs (rs'.map Row.d) ∧ NL K H3 De (ctx rs) ∧ rs'.map rkey = (rs.take i).map rkey ∧ ∀ r ∈ rs', RowOk (ctx rs) r)
    ⟨none, none, [], [], rfl, KP.of e02, hp2.up (by omega), h2, .nil, hnl2, rfl, fun r hr => absurd hr List.not_mem_nil⟩ (fun i σ H3 _ z => by obtain ⟨_, _, _, _, _, k3, _⟩ := z; exact SqL.of (k3.keep _ _ (by simpa using n1.symm) hsg)) ?_ ?_
  · rintro i x σ _ H3 hi ⟨o4, o5, vs, rs', rfl, k3, hp3, hF, hdv, hnl3, ek, hrok⟩ ⟨rfl, hx⟩
    obtain ⟨r, hri, hxd⟩ := rows_at hd hx
    have hrm := List.mem_of_getElem? hri
    have hcx : (r.name, r.width) ∈ ctx rs := List.mem_map.mpr ⟨r, hrm, rfl⟩
    have w1 := ok.g.lo _ _ hcx
    have w8 := ok.g.hi _ _ hcx
    have npf : pf ∉ [p] := by simpa using ppf.symm
    have nDe : De ∉ [p] := by simpa using pDe.symm
    obtain ⟨c, z, rfl, hc, hz⟩ := row_inv (hxd.tk k3.tk r.noL)
    have lvs := hdv.length
    rw [List.length_map] at lvs
    have lrs : rs'.length ≤ i := by
      have := congrArg List.length ek
      rw [List.length_map, List.length_map, List.length_take] at this
      omega
    have tk1 : (rs.take (i + 1)).map rkey = (rs.take i).map rkey ++ [rkey r] := by
      rw [List.take_add_one, hri, List.map_append]
      rfl
    have fin : ∀ (H6 : Hp) (x : What) (D : Addr) (Hn : Hp), KP [p] H3 Hn → Pot Hn p (N + 11000 * i + 11000) → Hn pf = some (.lst vs) → Dp K Hn (.ref D) (Row.d ⟨r.sort, r.name, r.width, x⟩) → RowOk (ctx rs) ⟨r.sort, r.name, r.width, x⟩ →
        KP [p] H (upd Hn pf (.lst (vs ++ [.ref D]))) ∧ Pot (upd Hn pf (.lst (vs ++ [.ref D]))) p (N + 11000 * ((i + 1 : Nat) : Int)) ∧ upd Hn pf (.lst (vs ++ [.ref D])) pf = some (.lst (vs ++ [.ref D])) ∧ DpAll K (upd Hn pf (.lst (vs ++ [.ref D]))) (vs ++ [.ref D]) ((rs' ++ [(⟨r.sort, r.name, r.width, x⟩ : Row)]).map Row.d) ∧
        NL K (upd Hn pf (.lst (vs ++ [.ref D]))) De (ctx rs) ∧ (rs' ++ [(⟨r.sort, r.name, r.width, x⟩ : Row)]).map rkey = (rs.take (i + 1)).map rkey ∧ ∀ r0 ∈ rs' ++ [(⟨r.sort, r.name, r.width, x⟩ : Row)], RowOk (ctx rs) r0 := by
      intro _ x D Hn kn hpn hFn hDn rok
      have t1 : TK Hn (upd Hn pf (.lst (vs ++ [.ref D]))) := TK.lst hFn
      have k1 : KP [pf] Hn (upd Hn pf (.lst (vs ++ [.ref D]))) := KP.set (by simp) hFn
      refine ⟨(k3.trans kn).new hpfH hFn, ?_, upd_same, ?_, (hnl3.keep kn nDe).keep k1 (by simpa using Depf), ?_, fun r0 hr0 => ?_⟩
      · have : Pot Hn p (N + 11000 * ((i + 1 : Nat) : Int)) := hpn.up (by omega)
        exact this.keep k1 (by simpa using ppf)
      · rw [List.map_append]
        exact ((hdv.tk kn.tk (rows_noL rs')).tk t1 (rows_noL rs')).app (.cons (hDn.tk t1 (Row.noL _)) .nil)
      · rw [List.map_append, ek, tk1]
        rfl
      · rcases List.mem_append.mp hr0 with h | h
        · exact hrok r0 h
        · rw [List.mem_singleton.mp h]; exact rok
    refine ⟨_, rfl, c, _, _, _, rfl, rfl, hc, (show atI [V.str r.sort, V.str r.name, V.int r.width, z] 3 = some z from rfl), ?_⟩
    refine ⟨_, rfl, c, _, _, _, rfl, rfl, hc, atI_0, by show 3 ≤ sizeLine; decide, fun q4 hq4 => ⟨q4, _, rfl, .inr (SqT.of upd_same), rfl, rfl, _, rfl, ?_⟩⟩
    have f4 : Same H3 (upd H3 q4 (.tup [.str "wire", .str "filter", .str "bus"])) := same_new hq4 _
    have k4 : KP [p] H3 (upd H3 q4 (.tup [.str "wire", .str "filter", .str "bus"])) := KP.of f4
    have hp4 := hp3.same f4
    generalize upd H3 q4 (.tup [.str "wire", .str "filter", .str "bus"]) = H4 at *
    have rok := ok.row r hrm
    have hi11 : i < 11 := by omega
    obtain ⟨rsort, rname, rwidth, rwhat⟩ := r
    dsimp only at *
    cases rok with
    | input n wd =>
      refine if_f wfb1 (if_f rfl ?_)
      refine ⟨_, rfl, c, _, _, _, rfl, rfl, k4.tk.sqt hc, atI_0, rfl, _, rfl, if_f so1 (if_f rfl ?_)⟩
      refine ⟨_, rfl, .inl ⟨rfl, _, SqL.of (k4.keep _ _ npf hF)⟩, ?_⟩
      refine ⟨_, rfl, _, rfl, row_head (k4.tk.sqt hc) fun q5 hq5 => ⟨_, rfl, by show 1 ≤ sizeLine; decide, fun q6 hq6 => ?_⟩⟩
      have f5 := same_new (H := H4) hq5 (.tup [.str "input", .str rname, .int rwidth])
      have f6 := f5.trans (same_new hq6 (.tup [z]))
      refine cat_new (SqT.of (by rw [upd_ne (ne_of_none upd_same hq6)]; exact upd_same)) (SqT.of upd_same) (by show 3 + 1 ≤ sizeLine; decide) fun q7 hq7 => ?_
      have f7 := f6.trans (same_new hq7 (.tup ([.str "input", .str rname, .int rwidth] ++ [z])))
      have k7 := k4.trans (KP.of f7)
      have hF7 := k7.keep _ _ npf hF
      obtain ⟨a1, a2, a3, a4, a5, a6, a7⟩ := fin H4 .non q7 _ k7 ((hp4.up (by omega)).same f7) hF7 (.tup (SqT.of upd_same) (.cons (.str _) (.cons (.str _) (.cons (.int _) (.cons ((hz.tk k4.tk (What.noL _)).mono f7) .nil))))) (.input _ _)
      exact ⟨pf, _, _, rfl, rfl, hF7, small1000 (by omega), _, _, _, _, rfl, a1, a2, a3, a4, a5, a6, a7⟩
    | kept n wd y hl hb =>
      refine if_f wfb2 (if_f rfl ?_)
      refine ⟨_, rfl, c, _, _, _, rfl, rfl, k4.tk.sqt hc, atI_0, rfl, _, rfl, if_f so2 (if_f rfl ?_)⟩
      refine ⟨_, rfl, .inl ⟨rfl, _, SqL.of (k4.keep _ _ npf hF)⟩, ?_⟩
      refine ⟨_, rfl, _, rfl, row_head (k4.tk.sqt hc) fun q5 hq5 => ⟨_, rfl, by show 1 ≤ sizeLine; decide, fun q6 hq6 => ?_⟩⟩
      have f5 := same_new (H := H4) hq5 (.tup [.str "kept", .str rname, .int rwidth])
      have f6 := f5.trans (same_new hq6 (.tup [z]))
      refine cat_new (SqT.of (by rw [upd_ne (ne_of_none upd_same hq6)]; exact upd_same)) (SqT.of upd_same) (by show 3 + 1 ≤ sizeLine; decide) fun q7 hq7 => ?_
      have f7 := f6.trans (same_new hq7 (.tup ([.str "kept", .str rname, .int rwidth] ++ [z])))
      have k7 := k4.trans (KP.of f7)
      have hF7 := k7.keep _ _ npf hF
      obtain ⟨a1, a2, a3, a4, a5, a6, a7⟩ := fin H4 (.val y) q7 _ k7 ((hp4.up (by omega)).same f7) hF7 (.tup (SqT.of upd_same) (.cons (.str _) (.cons (.str _) (.cons (.int _) (.cons ((hz.tk k4.tk (What.noL (.val y))).mono f7) .nil))))) (.kept _ _ _ hl hb)
      exact ⟨pf, _, _, rfl, rfl, hF7, small1000 (by omega), _, _, _, _, rfl, a1, a2, a3, a4, a5, a6, a7⟩
    | wire n wd t0 ht0 =>
      refine if_t wfb3 ⟨_, rfl, p, 4, _, rfl, by decide, by decide, by omega, hp4, ?_⟩
      rintro _ H5 k5' hp5 ⟨d, rfl, d0, dm⟩
      have k5 := k4.trans k5'
      refine ⟨rfl, _, rfl, ?_⟩
      by_cases hd0 : d = 0
      · refine if_t (decide_eq_true (by rw [hd0])) ?_
        refine ⟨_, rfl, _, rfl, _, rfl, c, _, _, _, rfl, rfl, k5.tk.sqt hc, (show atI [V.str "wire", V.str rname, V.int rwidth, z] 2 = some (.int rwidth) from rfl), ?_⟩
        refine ⟨p, De, ctx rs, rwidth, _, 2, rfl, by decide, by decide, pDe, hnl3.keep k5 nDe, fun x k hx => ok.g.nm _ _ hx, by omega, w1, w8, by omega, hp5, ?_⟩
        rintro v6 H6 k6' hp6 ⟨t, ht, hdt⟩
        have k6 := k5.trans k6'
        refine ⟨_, rfl, c, _, _, _, rfl, rfl, k6.tk.sqt hc, atI_0, rfl, _, rfl, if_f so3 (if_f rfl ?_)⟩
        refine ⟨_, rfl, .inl ⟨rfl, _, SqL.of (k6.keep _ _ npf hF)⟩, ?_⟩
        refine ⟨_, rfl, _, rfl, row_head (k6.tk.sqt hc) fun q5 hq5 => ⟨_, rfl, by show 1 ≤ sizeLine; decide, fun q6 hq6 => ?_⟩⟩
        have f5 := same_new (H := H6) hq5 (.tup [.str "wire", .str rname, .int rwidth])
        have f6 := f5.trans (same_new hq6 (.tup [v6]))
        refine cat_new (SqT.of (by rw [upd_ne (ne_of_none upd_same hq6)]; exact upd_same)) (SqT.of upd_same) (by show 3 + 1 ≤ sizeLine; decide) fun q7 hq7 => ?_
        have f7 := f6.trans (same_new hq7 (.tup ([.str "wire", .str rname, .int rwidth] ++ [v6])))
        have k7 := k6.trans (KP.of f7)
        have hF7 := k7.keep _ _ npf hF
        obtain ⟨a1, a2, a3, a4, a5, a6, a7⟩ := fin H6 (.term t) q7 _ k7 ((hp6.up (by omega)).same f7) hF7 (.tup (SqT.of upd_same) (.cons (.str _) (.cons (.str _) (.cons (.int _) (.cons ((hdt).mono f7) .nil))))) (.wire _ _ t ht)
        exact ⟨pf, _, _, rfl, rfl, hF7, small1000 (by omega), _, _, _, _, rfl, a1, a2, a3, a4, a5, a6, a7⟩
      · refine if_f (decide_eq_false fun z => hd0 (V.int.inj z)) ?_
        refine ⟨_, rfl, c, _, _, _, rfl, rfl, k5.tk.sqt hc, atI_0, rfl, _, rfl, if_f so3 (if_f rfl ?_)⟩
        refine ⟨_, rfl, .inl ⟨rfl, _, SqL.of (k5.keep _ _ npf hF)⟩, ?_⟩
        refine ⟨_, rfl, _, rfl, row_head (k5.tk.sqt hc) fun q5 hq5 => ⟨_, rfl, by show 1 ≤ sizeLine; decide, fun q6 hq6 => ?_⟩⟩
        have f5 := same_new (H := H5) hq5 (.tup [.str "wire", .str rname, .int rwidth])
        have f6 := f5.trans (same_new hq6 (.tup [z]))
        refine cat_new (SqT.of (by rw [upd_ne (ne_of_none upd_same hq6)]; exact upd_same)) (SqT.of upd_same) (by show 3 + 1 ≤ sizeLine; decide) fun q7 hq7 => ?_
        have f7 := f6.trans (same_new hq7 (.tup ([.str "wire", .str rname, .int rwidth] ++ [z])))
        have k7 := k5.trans (KP.of f7)
        have hF7 := k7.keep _ _ npf hF
        obtain ⟨a1, a2, a3, a4, a5, a6, a7⟩ := fin H5 (.term t0) q7 _ k7 ((hp5.up (by omega)).same f7) hF7 (.tup (SqT.of upd_same) (.cons (.str _) (.cons (.str _) (.cons (.int _) (.cons ((hz.tk k5.tk (What.noL (.term t0))).mono f7) .nil))))) (.wire _ _ t0 ht0)
        exact ⟨pf, _, _, rfl, rfl, hF7, small1000 (by omega), _, _, _, _, rfl, a1, a2, a3, a4, a5, a6, a7⟩
    | filter n wd t0 ht0 =>
      refine if_t wfb4 ⟨_, rfl, p, 4, _, rfl, by decide, by decide, by omega, hp4, ?_⟩
      rintro _ H5 k5' hp5 ⟨d, rfl, d0, dm⟩
      have k5 := k4.trans k5'
      refine ⟨rfl, _, rfl, ?_⟩
      by_cases hd0 : d = 0
      · refine if_t (decide_eq_true (by rw [hd0])) ?_
        refine ⟨_, rfl, _, rfl, _, rfl, c, _, _, _, rfl, rfl, k5.tk.sqt hc, (show atI [V.str "filter", V.str rname, V.int rwidth, z] 2 = some (.int rwidth) from rfl), ?_⟩
        refine ⟨p, De, ctx rs, rwidth, _, 2, rfl, by decide, by decide, pDe, hnl3.keep k5 nDe, fun x k hx => ok.g.nm _ _ hx, by omega, w1, w8, by omega, hp5, ?_⟩
        rintro v6 H6 k6' hp6 ⟨t, ht, hdt⟩
        have k6 := k5.trans k6'
        refine ⟨_, rfl, c, _, _, _, rfl, rfl, k6.tk.sqt hc, atI_0, rfl, _, rfl, if_f so4 (if_f rfl ?_)⟩
        refine ⟨_, rfl, .inl ⟨rfl, _, SqL.of (k6.keep _ _ npf hF)⟩, ?_⟩
        refine ⟨_, rfl, _, rfl, row_head (k6.tk.sqt hc) fun q5 hq5 => ⟨_, rfl, by show 1 ≤ sizeLine; decide, fun q6 hq6 => ?_⟩⟩
        have f5 := same_new (H := H6) hq5 (.tup [.str "filter", .str rname, .int rwidth])
        have f6 := f5.trans (same_new hq6 (.tup [v6]))
        refine cat_new (SqT.of (by rw [upd_ne (ne_of_none upd_same hq6)]; exact upd_same)) (SqT.of upd_same) (by show 3 + 1 ≤ sizeLine; decide) fun q7 hq7 => ?_
        have f7 := f6.trans (same_new hq7 (.tup ([.str "filter", .str rname, .int rwidth] ++ [v6])))
        have k7 := k6.trans (KP.of f7)
        have hF7 := k7.keep _ _ npf hF
        obtain ⟨a1, a2, a3, a4, a5, a6, a7⟩ := fin H6 (.term t) q7 _ k7 ((hp6.up (by omega)).same f7) hF7 (.tup (SqT.of upd_same) (.cons (.str _) (.cons (.str _) (.cons (.int _) (.cons ((hdt).mono f7) .nil))))) (.filter _ _ t ht)
        exact ⟨pf, _, _, rfl, rfl, hF7, small1000 (by omega), _, _, _, _, rfl, a1, a2, a3, a4, a5, a6, a7⟩
      · refine if_f (decide_eq_false fun z => hd0 (V.int.inj z)) ?_
        refine ⟨_, rfl, c, _, _, _, rfl, rfl, k5.tk.sqt hc, atI_0, rfl, _, rfl, if_f so4 (if_f rfl ?_)⟩
        refine ⟨_, rfl, .inl ⟨rfl, _, SqL.of (k5.keep _ _ npf hF)⟩, ?_⟩
        refine ⟨_, rfl, _, rfl, row_head (k5.tk.sqt hc) fun q5 hq5 => ⟨_, rfl, by show 1 ≤ sizeLine; decide, fun q6 hq6 => ?_⟩⟩
        have f5 := same_new (H := H5) hq5 (.tup [.str "filter", .str rname, .int rwidth])
        have f6 := f5.trans (same_new hq6 (.tup [z]))
        refine cat_new (SqT.of (by rw [upd_ne (ne_of_none upd_same hq6)]; exact upd_same)) (SqT.of upd_same) (by show 3 + 1 ≤ sizeLine; decide) fun q7 hq7 => ?_
        have f7 := f6.trans (same_new hq7 (.tup ([.str "filter", .str rname, .int rwidth] ++ [z])))
        have k7 := k5.trans (KP.of f7)
        have hF7 := k7.keep _ _ npf hF
        obtain ⟨a1, a2, a3, a4, a5, a6, a7⟩ := fin H5 (.term t0) q7 _ k7 ((hp5.up (by omega)).same f7) hF7 (.tup (SqT.of upd_same) (.cons (.str _) (.cons (.str _) (.cons (.int _) (.cons ((hz.tk k5.tk (What.noL (.term t0))).mono f7) .nil))))) (.filter _ _ t0 ht0)
        exact ⟨pf, _, _, rfl, rfl, hF7, small1000 (by omega), _, _, _, _, rfl, a1, a2, a3, a4, a5, a6, a7⟩
    | bus n wd ds d2 d4 hds =>
      refine if_t wfb5 ⟨_, rfl, p, 4, _, rfl, by decide, by decide, by omega, hp4, ?_⟩
      rintro _ H5 k5' hp5 ⟨d, rfl, d0, dm⟩
      have k5 := k4.trans k5'
      have at3 : atI [V.str "bus", V.str rname, V.int rwidth, z] 3 = some z := rfl
      have hz5 := hz.tk k5.tk (What.noL (.bus ds))
      refine ⟨rfl, _, rfl, ?_⟩
      by_cases hd0 : d = 0
      · refine if_t (decide_eq_true (by rw [hd0])) ?_
        refine ⟨_, rfl, _, rfl, _, rfl, c, _, _, _, rfl, rfl, k5.tk.sqt hc, (show atI [V.str "bus", V.str rname, V.int rwidth, z] 2 = some (.int rwidth) from rfl), ?_⟩
        refine ⟨p, De, ctx rs, rwidth, _, 2, rfl, by decide, by decide, pDe, hnl3.keep k5 nDe, fun x k hx => ok.g.nm _ _ hx, by omega, w1, w8, by omega, hp5, ?_⟩
        rintro v6 H6 k6' hp6 ⟨t, ht, hdt⟩
        have k6 := k5.trans k6'
        have hz6 := hz5.tk k6'.tk (What.noL (.bus ds))
        refine ⟨_, rfl, c, _, _, _, rfl, rfl, k6.tk.sqt hc, atI_0, rfl, _, rfl, if_t so5 ?_⟩
        refine ⟨_, rfl, _, rfl, c, _, _, _, rfl, rfl, k6.tk.sqt hc, at3, _, _, hdt, hz6, ht.shaped ok.g (by decide), shaped_bus ok.g hds, _, rfl, ?_⟩
        refine if_t (by rw [eqv_bus ht d2]; rfl) ?_
        refine ⟨_, rfl, _, rfl, p, De, ctx rs, 1, _, 1, rfl, by decide, by decide, pDe, hnl3.keep k6 nDe, fun x k hx => ok.g.nm _ _ hx, by omega, by decide, by decide, by omega, hp6, ?_⟩
        rintro v7 H7 k7' hp7 ⟨t1, ht1, hdt1⟩
        have k7 := k6.trans k7'
        have hz7 := hz6.tk k7'.tk (What.noL (.bus ds))
        have hdt7 := hdt.tk k7'.tk t.noL
        refine ⟨_, rfl, by show 2 ≤ sizeLine; decide, fun c1 hc1 => ⟨by show 1 ≤ sizeLine; decide, fun c2 hc2 => ?_⟩⟩
        have g1 : Same H7 (upd H7 c1 (.tup [v7, v6])) := same_new hc1 _
        have e1' : upd H7 c1 (.tup [v7, v6]) c1 = some (.tup [v7, v6]) := upd_same
        have g2 : Same (upd H7 c1 (.tup [v7, v6])) (upd (upd H7 c1 (.tup [v7, v6])) c2 (.tup [.ref c1])) := same_new hc2 _
        have e2' : upd (upd H7 c1 (.tup [v7, v6])) c2 (.tup [.ref c1]) c2 = some (.tup [.ref c1]) := upd_same
        have e12' := g2 _ _ e1'
        have g12 := g1.trans g2
        generalize upd (upd H7 c1 (.tup [v7, v6])) c2 (.tup [.ref c1]) = H8 at *
        have k8 := k7.trans (KP.of g12)
        obtain ⟨bz, ys, rfl, hbz, rbz⟩ := Dp.tup_inv (hz7.mono g12)
        obtain ⟨q0, ds', eds⟩ : ∃ q0 ds', ds = q0 :: ds' := by
          cases ds with
          | nil => simp at d2
          | cons a b => exact ⟨a, b, rfl⟩
        subst eds
        rw [List.map_cons] at rbz
        obtain ⟨y0, ys', rfl, hy0, rbz'⟩ := DpAll.cons_inv rbz
        have lys' := rbz'.length
        rw [List.length_map] at lys'
        rw [List.length_cons] at d2 d4
        obtain ⟨y1, ys2, eys⟩ : ∃ y1 ys2, ys' = y1 :: ys2 := by
          cases hh : ys' with
          | nil => rw [hh] at lys'; simp at lys'; omega
          | cons a b => exact ⟨a, b, rfl⟩
        subst eys
        refine ⟨_, rfl, c, _, _, _, rfl, rfl, k8.tk.sqt hc, at3, _, rfl, bz, _, rfl, hbz, fun hh => (cut1n _ _ _ hh).elim, fun _ c3 hc3 => ?_⟩
        have g3 : Same H8 (upd H8 c3 (.tup (cutV (y0 :: y1 :: ys2) (some 1) none))) := same_new hc3 _
        have e3' : upd H8 c3 (.tup (cutV (y0 :: y1 :: ys2) (some 1) none)) c3 = some (.tup (y1 :: ys2)) := by rw [upd_same, cut1]
        generalize upd H8 c3 (.tup (cutV (y0 :: y1 :: ys2) (some 1) none)) = H9 at *
        refine cat_new (SqT.of (g3 _ _ e2')) (SqT.of e3') (by rw [sizeLine_eq]; simp only [List.length_cons, List.length_nil] at *; omega) fun c4 hc4 => ?_
        have g4 : Same H9 (upd H9 c4 (.tup ([.ref c1] ++ y1 :: ys2))) := same_new hc4 _
        have e4' : upd H9 c4 (.tup ([.ref c1] ++ y1 :: ys2)) c4 = some (.tup ([.ref c1] ++ y1 :: ys2)) := upd_same
        have g84 := g3.trans g4
        have k10 := k8.trans (KP.of g84)
        have hp10 := (hp7.same g12).same g84
        have hbus : Dp K (upd H9 c4 (.tup ([.ref c1] ++ y1 :: ys2))) (.ref c4) (What.d (.bus ((t1, t) :: ds'))) := by
          refine .tup (SqT.of e4') (.cons (.tup (SqT.of (g84 _ _ e12')) (.cons ((hdt1.mono g12).mono g84) (.cons ((hdt7.mono g12).mono g84) .nil))) ?_)
          exact rbz'.mono g84
        generalize upd H9 c4 (.tup ([.ref c1] ++ y1 :: ys2)) = H10 at *
        have hds' : ∀ q ∈ (t1, t) :: ds', Ok (ctx rs) 4 1 q.1 ∧ Ok (ctx rs) 4 rwidth q.2 := fun q hq => by
          rcases List.mem_cons.mp hq with rfl | hq
          · exact ⟨ht1, ht⟩
          · exact hds q (List.mem_cons_of_mem _ hq)
        refine ⟨_, rfl, .inl ⟨rfl, _, SqL.of (k10.keep _ _ npf hF)⟩, ?_⟩
        refine ⟨_, rfl, _, rfl, row_head (k10.tk.sqt hc) fun q5 hq5 => ⟨_, rfl, by show 1 ≤ sizeLine; decide, fun q6 hq6 => ?_⟩⟩
        have f5 := same_new (H := H10) hq5 (.tup [.str "bus", .str rname, .int rwidth])
        have f6 := f5.trans (same_new hq6 (.tup [.ref c4]))
        refine cat_new (SqT.of (by rw [upd_ne (ne_of_none upd_same hq6)]; exact upd_same)) (SqT.of upd_same) (by show 3 + 1 ≤ sizeLine; decide) fun q7 hq7 => ?_
        have f7 := f6.trans (same_new hq7 (.tup ([.str "bus", .str rname, .int rwidth] ++ [.ref c4])))
        have k7 := k10.trans (KP.of f7)
        have hF7 := k7.keep _ _ npf hF
        obtain ⟨a1, a2, a3, a4, a5, a6, a7⟩ := fin H10 (.bus ((t1, t) :: ds')) q7 _ k7 ((hp10.up (by omega)).same f7) hF7 (.tup (SqT.of upd_same) (.cons (.str _) (.cons (.str _) (.cons (.int _) (.cons ((hbus).mono f7) .nil))))) (.bus _ _ _ (by rw [List.length_cons]; omega) (by rw [List.length_cons]; omega) hds')
        exact ⟨pf, _, _, rfl, rfl, hF7, small1000 (by omega), _, _, _, _, rfl, a1, a2, a3, a4, a5, a6, a7⟩
      · refine if_f (decide_eq_false fun z => hd0 (V.int.inj z)) ?_
        refine ⟨_, rfl, c, _, _, _, rfl, rfl, k5.tk.sqt hc, atI_0, rfl, _, rfl, if_t so5 ?_⟩
        refine ⟨_, rfl, _, rfl, c, _, _, _, rfl, rfl, k5.tk.sqt hc, at3, _, _, hz5, hz5, shaped_bus ok.g hds, shaped_bus ok.g hds, _, rfl, ?_⟩
        refine if_f (by rw [eqv_refl (What.noL (.bus ds))]; rfl) ?_
        refine ⟨_, rfl, .inl ⟨rfl, _, SqL.of (k5.keep _ _ npf hF)⟩, ?_⟩
        refine ⟨_, rfl, _, rfl, row_head (k5.tk.sqt hc) fun q5 hq5 => ⟨_, rfl, by show 1 ≤ sizeLine; decide, fun q6 hq6 => ?_⟩⟩
        have f5 := same_new (H := H5) hq5 (.tup [.str "bus", .str rname, .int rwidth])
        have f6 := f5.trans (same_new hq6 (.tup [z]))
        refine cat_new (SqT.of (by rw [upd_ne (ne_of_none upd_same hq6)]; exact upd_same)) (SqT.of upd_same) (by show 3 + 1 ≤ sizeLine; decide) fun q7 hq7 => ?_
        have f7 := f6.trans (same_new hq7 (.tup ([.str "bus", .str rname, .int rwidth] ++ [z])))
        have k7 := k5.trans (KP.of f7)
        have hF7 := k7.keep _ _ npf hF
        obtain ⟨a1, a2, a3, a4, a5, a6, a7⟩ := fin H5 (.bus ds) q7 _ k7 ((hp5.up (by omega)).same f7) hF7 (.tup (SqT.of upd_same) (.cons (.str _) (.cons (.str _) (.cons (.int _) (.cons ((hz5).mono f7) .nil))))) (.bus _ _ _ d2 d4 hds)
        exact ⟨pf, _, _, rfl, rfl, hF7, small1000 (by omega), _, _, _, _, rfl, a1, a2, a3, a4, a5, a6, a7⟩
  · rintro σ H3 ⟨o4, o5, vs, rs', rfl, k3, hp3, hF, hdv, hnl3, ek, hrok⟩
    rw [List.take_of_length_le (by omega)] at ek
    exact ⟨_, rfl, q _ _ k3 (hp3.up (by omega)) ⟨pf, vs, rs', rfl, hpfH, hF, hdv, ek, hrok⟩⟩
end
end K34
namespace K34
open PySem PySem.Spec PyProof.Rows L2
local macro_rules | `(tactic| walk_at "sm") => `(tactic| (repeat (first | exact Same.refl _ | assumption | refine Same.trans ?_ (same_new (by assumption) _) | refine Same.trans ?_ (by assumption))))
theorem cat_dp {K : PySem.W.Frag} {H : Hp} {v u : V} {d1 d2 : List PyData} {Q : VK} (h1 : Dp K H v (.tuple d1)) (h2 : Dp K H u (.tuple d2)) (hz : d1.length + d2.length ≤ 1000) (q : ∀ x H', Same H H' → Dp K H' x (.tuple (d1 ++ d2)) → Q x H') : rCatA K v u H Q := by
  obtain ⟨a, xs, rfl, hs, h⟩ := Dp.tup_inv h1
  obtain ⟨b, ys, rfl, hs', h'⟩ := Dp.tup_inv h2
  have l1 := h.length
  have l2 := h'.length
  refine ⟨a, b, xs, ys, rfl, rfl, hs, hs', sz (by omega), fun e => ?_, fun _ e => ?_, fun _ _ p hp => q _ _ (same_new hp _) (.tup (SqT.of upd_same) ((h.mono (same_new hp _)).app (h'.mono (same_new hp _))))⟩
  · subst e
    have : d1 = [] := List.eq_nil_of_length_eq_zero (by rw [← l1]; rfl)
    subst this
    exact q _ _ (Same.refl _) (.tup hs' h')
  · subst e
    have : d2 = [] := List.eq_nil_of_length_eq_zero (by rw [← l2]; rfl)
    subst this
    refine q _ _ (Same.refl _) ?_
    rw [List.append_nil]
    exact .tup hs h
theorem kk1 : ¬ Str.ofString "input" = Str.ofString "kept" := by decide +kernel
theorem kk2 : ¬ Str.ofString "wire" = Str.ofString "kept" := by decide +kernel
theorem kk3 : ¬ Str.ofString "filter" = Str.ofString "kept" := by decide +kernel
theorem kk4 : ¬ Str.ofString "bus" = Str.ofString "kept" := by decide +kernel
theorem sttsD_app (a b : List Stt) : sttsD (a ++ b) = sttsD a ++ sttsD b := by rw [sttsD_map, sttsD_map, sttsD_map, List.map_append]
theorem shaped_krows {g : Ctx} {l : List Row} (h : ∀ r ∈ l, RowOk g r ∧ r.sort = ("kept" : Str) ∧ IsNm r.name) : SeqAt.shaped (.list (l.map Row.d)) = true := by
  have hk : PyData.strOk (Str.ofString "kept") = true := by decide +kernel
  have key : ∀ r, RowOk g r → r.sort = ("kept" : Str) → IsNm r.name → r.d.canLay0 = true ∧ r.d.depth = 1 := by
    intro r rok hs hn
    cases rok with
    | input => exact absurd hs kk1
    | wire => exact absurd hs kk2
    | filter => exact absurd hs kk3
    | bus => exact absurd hs kk4
    | kept n w x hl hb =>
      constructor
      · simp [Row.d, What.d, PyData.canLay0, PyData.canLayAll0, hk, strOk_nm hn, strOk_bits hb]
      · simp [Row.d, What.d, PyData.depth, PyData.depthAll]
  have h1 : PyData.canLayAll0 (l.map Row.d) = true ∧ PyData.depthAll (l.map Row.d) ≤ 1 := by
    induction l with
    | nil => simp [PyData.canLayAll0, PyData.depthAll]
    | cons r l ih =>
      obtain ⟨a1, a2⟩ := ih fun x hx => h x (List.mem_cons_of_mem _ hx)
      obtain ⟨b1, b2, b3⟩ := h r List.mem_cons_self
      obtain ⟨c1, c2⟩ := key r b1 b2 b3
      constructor
      · simp [PyData.canLayAll0, c1, a1]
      · simp only [List.map_cons, PyData.depthAll, c2]
        omega
  unfold SeqAt.shaped
  simp only [PyData.canLay0, PyData.depth, h1.1, Bool.true_and]
  exact decide_eq_true (by have := h1.2; omega)
theorem now_at {d : Int} (h0 : 0 ≤ d) (h2 : d < 2) : ∃ wd : Str, (wd = ("now" : Str) ∨ wd = ("later" : Str)) ∧ atI [V.str "now", V.str "later"] d = some (.str wd) := by
  have : d = 0 ∨ d = 1 := by omega
  rcases this with rfl | rfl
  · exact ⟨_, .inl rfl, rfl⟩
  · exact ⟨_, .inr rfl, rfl⟩
section
variable {P : Program} {w : World} {K : PySem.W.Frag} {mg : Str → Option Value} {base : Heap}
def spMore (K : PySem.W.Frag) : Sp := fun vs H Q _ => ∃ (p sg bl : Addr) (N : Int) (xs ys : List V) (rs : List Row) (bs : List Blk), vs = [.ref p, .ref sg, .ref bl] ∧ (p ≠ sg ∧ p ≠ bl) ∧ H sg = some (.lst xs) ∧ DpAll K H xs (rs.map Row.d) ∧ SigOk rs ∧ H bl = some (.lst ys) ∧ DpAll K H ys (bs.map Blk.d) ∧ BlksOk rs bs ∧ N + 20000 < 4611686018427387904 ∧ Pot H p N ∧
  RetG H Q [p] p (N + 20000) fun v H' => ∃ (a : Addr) (zs : List V) (bs' : List Blk), v = .ref a ∧ H a = none ∧ H' a = some (.lst zs) ∧ DpAll K H' zs (bs'.map Blk.d) ∧ BlksOk rs bs'
theorem ok__law_more_set (T : TX K mg w) (G__law_digit : FnOk P w K mg base CX0 1 T.a__law_digit T.d__law_digit p__law_digit spDig) (G__law_leaf : FnOk P w K mg base CX0 3 T.a__law_leaf T.d__law_leaf p__law_leaf (spLeaf K))
    (G__law_many : FnOk P w K mg base CX0 6 T.a__law_many T.d__law_many p__law_many (spLM K 5)) :
    FnOk P w K mg base CX0 7 T.a__law_more_set T.d__law_more_set p__law_more_set (spMore K) := by
  refine T.F__law_more_set.ok sc__law_more_set (fun vs H Q E h => ?_) (fun cdv A outer s H vs Q E hr h => ?_)
  · obtain ⟨p, sg, bl, N, xs, ys, rs, bs, rfl, _⟩ := h; rfl
  obtain ⟨p, sg, bl, N, xs, ys, rs, bs, rfl, ⟨n1, n2⟩, hsg, hd, ok, hbl, hdb, okb, hN, hp, q⟩ := h
  have nd := sc__law_more_set.nd
  have lxs := hd.length
  rw [List.length_map] at lxs
  have l11 := ok.len
  have lys := hdb.length
  rw [List.length_map] at lys
  have l6 := okb.len
  have lctx : (ctx rs).length = rs.length := by unfold ctx; rw [List.length_map]
  have nmg : ∀ x k, (x, k) ∈ ctx rs → IsNm x := fun x k hx => ok.g.nm _ _ hx
  have tail : ∃ u, PSs (cxOf CX0 P w K mg base n__law_more_set (Str.ofString "_law_more_set") (defScope s__law_more_set) T.a__law_more_set cdv A outer s H E).nox ((defBody s__law_more_set).drop 4) u ∧
      ∀ (De Dk pf : Addr) (kv vs : List V) (kr : List Row) (bs' : List Blk) (o6 o7 o8 o9 : Option V) (H' : Hp), p ≠ De → p ≠ Dk → p ≠ pf → De ≠ pf → Dk ≠ pf → H pf = none → KP [p] H H' → Pot H' p (N + 1000) → NL K H' De (ctx rs) → H' Dk = some (.lst kv) → DpAll K H' kv (kr.map Row.d) → (∀ r ∈ kr, r ∈ rs ∧ r.sort = ("kept" : Str)) → kr.length ≤ 11 → H' pf = some (.lst vs) → DpAll K H' vs (bs'.map Blk.d) → BlksOk rs bs' →
        u { nx := fun _ H' => Q .non H', rt := Q } [some (.ref p), some (.ref sg), some (.ref bl), some (.ref De), some (.ref Dk), some (.ref pf), o6, o7, o8, o9, none, none, none, none, none, none, none] H' := by
    refine ⟨_, ((pss_cons (ps_for PassesOwn.never rfl (pi_list (pv 4)) (pg_name (i := 8) nd rfl (Or.inl rfl)) (pss_cons (ps_setLc (i := 10) (own := [("_law_name_here", 11), ("_law_width_here", 13)]) (g := gTup K 2 (gCons (gName 11) (gCons (gName 13) gNil))) rfl nd rfl rfl (sw_true rfl rfl rfl (by decide +kernel)) (pi_list (pv 3)) (blkOk_by (N := n__law_more_set) (sc := defScope s__law_more_set) (by decide +kernel)) (fun _ _ _ _ _ => (pg_tup rfl (pgs_cons (pg_name (i := 11) nd rfl (Or.inl rfl)) (pgs_cons (pg_name (i := 13) nd rfl (Or.inl rfl)) pgs_nil)))) (fun _ _ _ _ _ => pts_one (pt_cmpR op_eq (pv 13) pe_int (nomark _))) (fun _ _ _ _ _ => (pv 11)))
      (pss_one (ps_if (PW.pt (pw_and (pt_cmpR (op_neD hr.units) (pv 10) (pe_lst pa_nil) (nomark _)) (pw_and (pt_cmpR op_lt (pe_callB call_len_seq (by rfl) T.z_len PySem.boot_len (pa_cons (pv 5) pa_nil)) pe_int (nomark _)) (pw_and1 (pt_cmpR op_eq (pe_call G__law_digit (hr.mono (by omega)) rfl T.m__law_digit T.k__law_digit T.b__law_digit .nil pass0 (pa_cons (pv 0) (pa_cons pe_int pa_nil))) pe_int (nomark _)))))) (pss_cons (ps_set (i := 11) nd rfl (Or.inl rfl) (pe_ix ix_list (pe_lc (own := [("_law_one", 14)]) (g := gName 14) rfl nd (pi_list (pe_lc (own := [("_law_k", 15)]) (g := gName 15) (tt := tYes) rfl nd (pi_range1 rfl T.z_range (pa_cons pe_int pa_nil)) (blkOk_by (N := n__law_more_set) (sc := defScope s__law_more_set) (by decide +kernel)) (fun _ _ _ _ _ => (pg_name (i := 15) nd rfl (Or.inl rfl))) (fun _ _ _ _ _ => pts_nil) (fun _ _ _ _ _ => (pe_op op_add_str pe_str (pe_callTy call_str_int (by rfl) T.z_str (by decide +kernel) (pa_cons (pv 15) pa_nil)))))) (blkOk_by (N := n__law_more_set) (sc := defScope s__law_more_set) (by decide +kernel)) (fun _ _ _ _ _ => (pg_name (i := 14) nd rfl (Or.inl rfl))) (fun _ _ _ _ _ => pts_one (pt_cmpR (op_notIn_seqK (K := K) rfl) (pv 14) (pe_lc (own := [("_law_other", 16), ("_law_width_here", 13)]) (g := gTup K 2 (gCons (gName 16) (gCons (gName 13) gNil))) (tt := tYes) rfl nd (pi_listK (K := K) rfl (pv 3)) (blk_nf (blkOk_by (N := n__law_more_set) (sc := defScope s__law_more_set) (by decide +kernel)) (by decide +kernel)) (fun _ _ _ _ _ => (pg_tup rfl (pgs_cons (pg_name (i := 16) nd rfl (Or.inl rfl)) (pgs_cons (pg_name (i := 13) nd rfl (Or.inl rfl)) pgs_nil)))) (fun _ _ _ _ _ => pts_nil) (fun _ _ _ _ _ => (pv 16))) (by rfl))) (fun _ _ _ _ _ => (pv 14))) pe_int (fun _ _ => rfl)))
      (pss_one (ps_if (pt_cmpR op_notIn_seq (pv 11) (pe_lc (own := [("_law_block", 6)]) (g := gName 6) (tt := tYes) rfl nd (pi_list (pv 5)) (blkOk_by (N := n__law_more_set) (sc := defScope s__law_more_set) (by decide +kernel)) (fun _ _ _ _ _ => (pg_name (i := 6) nd rfl (Or.inl rfl))) (fun _ _ _ _ _ => pts_nil) (fun _ _ _ _ _ => (pe_ix (ix_tupK (K := K) rfl) (pv 6) pe_int (fun _ _ => rfl)))) (by rfl)) (pss_cons (ps_set (i := 12) nd rfl (Or.inl rfl) (pe_call G__law_leaf (hr.mono (by omega)) rfl T.m__law_leaf T.k__law_leaf T.b__law_leaf .nil pass0 (pa_cons (pv 0) (pa_cons (pv 3) (pa_cons (pe_ix ix_tup (pv 8) pe_int (fun _ _ => rfl)) pa_nil)))))
      (pss_one (ps_expr (pe_bm PySem.F.plainAttrs_list PySem.F.slot_list_append PySem.F.type_list_append mt_append (pv 5) (pa_cons (pe_tup (pa_cons (pv 11) (pa_cons pe_str (pa_cons (pe_ix ix_list (pv 10) pe_int (fun _ _ => rfl)) (pa_cons (pe_tup (pa_cons (pe_tup (pa_cons (pe_ix ix_list (pe_lst (pa_cons pe_str (pa_cons pe_str pa_nil))) (pe_call G__law_digit (hr.mono (by omega)) rfl T.m__law_digit T.k__law_digit T.b__law_digit .nil pass0 (pa_cons (pv 0) (pa_cons pe_int pa_nil))) (fun _ _ => rfl)) (pa_cons (pe_ix ix_tup (pv 8) pe_int (fun _ _ => rfl)) (pa_cons (pv 12) pa_nil)))) pa_nil)) pa_nil))))) pa_nil))))) pss_nil))) pss_nil))))
      (pss_one (ps_ret (pv 5))))), ?_⟩
    intro De Dk pf kv vs0 kr bs0 o6 o7 o8 o9 H1 pDe pDk ppf Depf Dkpf hpfH k1 hp1 hnl1 hkv hdk hkr lkr hF1 hdv1 okb1
    have lkv := hdk.length
    rw [List.length_map] at lkv
    refine ⟨_, rfl, Dk, rfl, ⟨kv, SqL.of hkv⟩, ?_⟩
    refine for_it (walk_list (K := K) (a := Dk) (xs := kv)) (fun i σ H5 => ∃ o8 o10 o11 o12 vs bs', σ = [some (.ref p), some (.ref sg), some (.ref bl), some (.ref De), some (.ref Dk), some (.ref pf), o6, o7, o8, o9, o10, o11, o12, none, none, none, none] ∧ KP [p] H H5 ∧ Pot H5 p (N + 1000 + 20 * i) ∧ NL K H5 De (ctx rs) ∧ H5 Dk = some (.lst kv) ∧ DpAll K H5 kv (kr.map Row.d) ∧ H5 pf = some (.lst vs) ∧ DpAll K H5 vs (bs'.map Blk.d) ∧ BlksOk rs bs')
      ⟨o8, none, none, none, vs0, bs0, rfl, k1, hp1.up (by omega), hnl1, hkv, hdk, hF1, hdv1, okb1⟩ (fun i σ H5 _ z => by obtain ⟨_, _, _, _, _, _, _, _, _, _, h, _⟩ := z; exact SqL.of h) ?_ ?_
    · clear k1 hp1 hnl1 hkv hdk hF1 hdv1 okb1
      rintro i x σ _ H5 hi ⟨o8, o10, o11, o12, vs, bs', rfl, k5, hp5, hnl5, hkv5, hdk5, hF5, hdv5, okb5⟩ ⟨rfl, hx⟩
      obtain ⟨r, hri, hxd⟩ := rows_at hdk5 hx
      obtain ⟨hrm, hsk⟩ := hkr r (List.mem_of_getElem? hri)
      have hi11 : i < 11 := by omega
      have hcx : (r.name, r.width) ∈ ctx rs := List.mem_map.mpr ⟨r, hrm, rfl⟩
      have lvs := hdv5.length
      rw [List.length_map] at lvs
      have lb6 := okb5.len
      obtain ⟨ze, hze, hre⟩ := hnl5.ex
      have lze := hre.length
      rw [List.length_map, lctx] at lze
      -- triggers
      refine ⟨_, rfl, De, rfl, ⟨ze, SqL.of hze⟩, fun Dt hDt => ?_⟩
      refine lcO (K := K) walk_list ((ctx rs).map fun r => if decide (r.2 = 1) = true then some (PyData.str r.1) else none) (by rw [List.length_map, lctx, lze]) (by omega) (fun d hd => by
          rw [List.mem_map] at hd
          obtain ⟨r, _, e⟩ := hd
          split at e <;> cases e
          rfl) hDt (fun _ e => SqL.of (e _ _ hze)) yat_same ?_ ?_
      · rintro i y _ H3 e hi he e3 ⟨rfl, hy⟩ Qy Qn hyy hnn
        obtain ⟨r, hri, c, rfl, hc⟩ := names_at hre hy
        rw [List.getElem?_map, hri] at he
        cases he
        refine ⟨c, _, rfl, sqt_mono e3 hc, rfl, _, _, rfl, _, _, rfl, rfl, ?_⟩
        refine ⟨rfl, _, rfl, rfl, _, rfl, ?_⟩
        by_cases hs : r.2 = 1
        · refine if_t (decide_eq_true (by rw [hs])) ?_
          exact ⟨_, rfl, hyy _ (if_pos (decide_eq_true hs)) _ _ (Same.refl _) (.str _)⟩
        · refine if_f (decide_eq_false fun z => hs (V.int.inj z)) ?_
          exact hnn (if_neg (fun z => hs (of_decide_eq_true z))) _ (Same.refl _)
      intro zt H6 e6 hzt hrt
      rw [filt_map (fun r : Str × Int => decide (r.2 = 1)) (fun r => PyData.str r.1)] at hrt
      obtain rfl : zt = (((ctx rs).filter fun r => decide (r.2 = 1)).map (·.1)).map V.str := (show DpAll K H6 zt ((((ctx rs).filter fun r => decide (r.2 = 1)).map (·.1)).map PyData.str) by rw [List.map_map]; exact hrt).strs
      have htr : ∀ x ∈ ((ctx rs).filter fun r => decide (r.2 = 1)).map (·.1), (x, 1) ∈ ctx rs := fun x hx => by
        rw [List.mem_map] at hx
        obtain ⟨r, hr', rfl⟩ := hx
        obtain ⟨h1, h2⟩ := List.mem_filter.mp hr'
        have := of_decide_eq_true h2
        rw [← this]
        exact h1
      clear hrt
      generalize ((ctx rs).filter fun r => decide (r.2 = 1)).map (·.1) = tr at *
      refine ⟨_, rfl, by show 0 ≤ sizeLine; decide, fun D7 hD7 => ?_⟩
      have f7 : Same H6 (upd H6 D7 (.lst [])) := same_new hD7 _
      refine ⟨.list (tr.map PyData.str), .list [], .lst (SqL.of (f7 _ _ hzt)) (dpa_strs tr), .lst (SqL.of upd_same) .nil, shaped_strs (fun x hx => nmg _ _ (htr x hx)), rfl, _, rfl, ?_⟩
      have e57 := e6.trans f7
      have hzt7 := f7 _ _ hzt
      have pDt : p ≠ Dt := hp5.ne hDt
      have PfDt : pf ≠ Dt := fun z => by rw [z, hDt] at hF5; cases hF5
      generalize upd H6 D7 (.lst []) = H7 at *
      have hp7 := hp5.same e57
      have k7 := k5.trans (KP.of e57)
      have same_ : ∀ (H8 : Hp), KP [p] H5 H8 → Pot H8 p (N + 1000 + 20 * i + 20) → KP [p] H H8 ∧ Pot H8 p (N + 1000 + 20 * ((i + 1 : Nat) : Int)) ∧ NL K H8 De (ctx rs) ∧ H8 Dk = some (.lst kv) ∧ DpAll K H8 kv (kr.map Row.d) ∧ H8 pf = some (.lst vs) ∧ DpAll K H8 vs (bs'.map Blk.d) ∧ BlksOk rs bs' :=
        fun H8 k8 hp8 => ⟨k5.trans k8, hp8.up (by omega), hnl5.keep k8 (by simpa using pDe.symm), k8.keep _ _ (by simpa using pDk.symm) hkv5, hdk5.tk k8.tk (rows_noL kr), k8.keep _ _ (by simpa using ppf.symm) hF5, hdv5.tk k8.tk (blks_noL bs'), okb5⟩
      cases tr with
      | nil =>
        refine if_f rfl (if_f rfl ?_)
        obtain ⟨a1, a2, a3, a4, a5, a6, a7, a8⟩ := same_ H7 (KP.of e57) (hp7.up (by omega))
        exact ⟨_, _, _, _, _, _, rfl, a1, a2, a3, a4, a5, a6, a7, a8⟩
      | cons t0 tr' =>
        refine if_t rfl ?_
        have hF7 := e57 _ _ hF5
        refine ⟨_, rfl, pf, vs, rfl, .inl (SqL.of hF7), _, _, rfl, rfl, _, rfl, ?_⟩
        by_cases h6 : bs'.length < 6
        · refine if_t (decide_eq_true (by omega)) ?_
          refine ⟨_, rfl, p, 4, _, rfl, by decide, by decide, by omega, hp7, ?_⟩
          rintro _ H8 k8' hp8 ⟨d, rfl, d0, dm⟩
          have k8 : KP [p] H5 H8 := (KP.of e57).trans k8'
          refine ⟨rfl, _, rfl, ?_⟩
          by_cases hd0 : d = 0
          · refine if_t (decide_eq_true (by rw [hd0])) ?_
            refine ⟨70, rfl, by decide, by decide, fun D5 hD5 => ?_⟩
            refine lcD (K := K) (walk_range (lo := 0) (n := (70 : Int).toNat)) ((List.range 70).map fun k => PyData.str (qs "u" k)) (by simp) (by decide) (noLs_iff.mpr fun d hd => by rw [List.mem_map] at hd; obtain ⟨u, _, rfl⟩ := hd; rfl) hD5 (fun _ _ => True.intro) (fun _ _ _ _ y => by rw [y.1]; exact Same.refl _) ?_ gm_name ?_
            · rintro i y _ H5 e hi he e5 ⟨rfl, rfl⟩ Qy hy
              have hi60 : i < 70 := hi
              rw [List.getElem?_map, List.getElem?_range hi60] at he
              cases he
              refine ⟨rfl, _, rfl, _, rfl, ?_⟩
              have l2 := (qs_nm i (by omega)).2.2
              refine ⟨by show Nat.log2 ((0 : Int) + (i : Int)).natAbs < 1920; exact Nat.lt_of_le_of_lt (Nat.log2_le_self _) (by omega), _, _, rfl, rfl, ?_, ?_⟩
              · rw [show (0 : Int) + (i : Int) = ((i : Nat) : Int) by omega]
                have : (Str.ofString "u").length = 1 := by decide +kernel
                rw [sizeLine_eq]
                omega
              · rw [show (0 : Int) + (i : Int) = ((i : Nat) : Int) by omega]
                exact hy _ _ (Same.refl _) (.str _)
            intro ys9 H9 e9 hys9 hr9
            obtain rfl : ys9 = ((List.range 70).map (qs "u")).map V.str := (show DpAll K H9 ys9 (((List.range 70).map (qs "u")).map PyData.str) by rw [List.map_map]; exact hr9).strs
            have k9 : KP [p] H5 H9 := k8.trans (KP.of e9)
            obtain ⟨ze9, hze9, hre9⟩ := (hnl5.keep k9 (by simpa using pDe.symm)).ex
            have lze9 := hre9.length
            rw [List.length_map, lctx] at lze9
            refine ⟨D5, rfl, ⟨_, SqL.of hys9⟩, fun D6 hD6 => ?_⟩
            refine lcO (K := K) walk_list (((List.range 70).map (qs "u")).map fun x => if decide (x ∉ rs.map Row.name) = true then some (PyData.str x) else none) (by simp) (by simp) (fun d hd => by
                rw [List.mem_map] at hd
                obtain ⟨r, _, e⟩ := hd
                split at e <;> cases e
                rfl) hD6 (fun _ e => SqL.of (e _ _ hys9)) yat_same ?_ ?_
            · rintro i y _ H10 e hi he e10 ⟨rfl, hy⟩ Qy Qn hyy hnn
              rw [List.getElem?_map] at he hy
              cases hqi : ((List.range 70).map (qs "u"))[i]? with
              | none => rw [hqi] at he; cases he
              | some z =>
                rw [hqi] at he hy
                cases he; cases hy
                refine ⟨rfl, _, rfl, _, rfl, De, rfl, ⟨ze9, SqL.of (e10 _ _ hze9)⟩, fun D11 hD11 => ?_⟩
                refine lcD (K := K) walk_list (rs.map fun r => PyData.str r.name) (by rw [List.length_map, lze9]) (by omega) (noLs_iff.mpr fun d hd => by rw [List.mem_map] at hd; obtain ⟨u, _, rfl⟩ := hd; rfl) hD11 (fun _ e => SqL.of (e _ _ (e10 _ _ hze9))) yat_same ?_ (gTup_m (gCons_m gm_name (gCons_m gm_name gNil_m))) ?_
                · rintro i y _ H12 e hi he e12 ⟨rfl, hy⟩ Qy hy'
                  obtain ⟨r, hri, c, rfl, hc⟩ := names_at hre9 hy
                  unfold ctx at hri
                  rw [List.getElem?_map] at hri he
                  cases hrr : rs[i]? with
                  | none => rw [hrr] at hri; cases hri
                  | some r0 =>
                    rw [hrr] at hri he
                    cases hri; cases he
                    exact ⟨c, _, rfl, sqt_mono (e10.trans e12) hc, rfl, _, _, rfl, _, _, rfl, rfl, rfl, _, rfl, hy' _ _ (Same.refl _) (.str _)⟩
                · intro zn H12 e12 hzn hrn
                  obtain rfl : zn = (rs.map Row.name).map V.str := (show DpAll K H12 zn ((rs.map Row.name).map PyData.str) by rw [List.map_map]; exact hrn).strs
                  refine ⟨D11, _, rfl, .inl (SqL.of hzn), rfl, flat_strs _, _, rfl, ?_⟩
                  by_cases hz : z ∈ rs.map Row.name
                  · refine if_f (by show (!inV (V.str z) ((rs.map Row.name).map V.str)) = false; rw [inV_str, decide_eq_true hz]; rfl) ?_
                    exact hnn (if_neg (fun e => (of_decide_eq_true e) hz)) _ e12
                  · refine if_t (by show (!inV (V.str z) ((rs.map Row.name).map V.str)) = true; rw [inV_str, decide_eq_false hz]; rfl) ?_
                    exact ⟨_, rfl, hyy _ (if_pos (decide_eq_true hz)) _ _ e12 (.str _)⟩
            intro zs10 H10 e10 hzs10 hr10
            rw [filt_map (fun x : Str => decide (x ∉ rs.map Row.name)) (fun x => PyData.str x)] at hr10
            obtain rfl := hr10.strs
            have hne := qs_free (h := "u") (n := 70) qs_nd.2 (by decide) (l := rs.map Row.name) (by rw [List.length_map]; omega)
            cases hq : ((List.range 70).map (qs "u")).filter (fun x => decide (x ∉ rs.map Row.name)) with
            | nil => exact absurd hq hne
            | cons z zl =>
              rw [hq] at hzs10
              have hz : z ∈ ((List.range 70).map (qs "u")).filter (fun x => decide (x ∉ rs.map Row.name)) := by rw [hq]; exact List.mem_cons_self
              obtain ⟨hz1, hz2⟩ := List.mem_filter.mp hz
              have hzn : z ∉ rs.map Row.name := of_decide_eq_true hz2
              have hznm : IsNm z := by
                rw [List.mem_map] at hz1
                obtain ⟨k, hk, rfl⟩ := hz1
                exact (qs_nm k (List.mem_range.mp hk)).2.1
              refine ⟨D6, _, _, _, rfl, rfl, SqL.of hzs10, atI_0, ?_⟩
              have k10 : KP [p] H5 H10 := k9.trans (KP.of e10)
              have hp10 := (hp8.same e9).same e10
              have hF10 := k10.keep _ _ (by simpa using ppf.symm) hF5
              have hdv10 := hdv5.tk k10.tk (blks_noL bs')
              have hnl10 := hnl5.keep k10 (by simpa using pDe.symm)
              have hxd10 := hxd.tk k10.tk r.noL
              have hzt10 : H10 Dt = some (.lst ((t0 :: tr').map V.str)) := e10 _ _ (e9 _ _ (k8'.keep _ _ (by simpa using pDt.symm) hzt7))
              clear hzs10 hq hr10
              refine ⟨_, rfl, _, rfl, pf, rfl, ⟨vs, SqL.of hF10⟩, fun D11 hD11 => ?_⟩
              refine lcD (K := K) walk_list (bs'.map fun b => PyData.str b.name) (by rw [List.length_map, lvs]) (by omega) (noLs_iff.mpr fun d hd => by rw [List.mem_map] at hd; obtain ⟨u, _, rfl⟩ := hd; rfl) hD11 (fun _ e => SqL.of (e _ _ hF10)) yat_same ?_ gm_name ?_
              · rintro i y _ H12 e hi he e12 ⟨rfl, hy⟩ Qy hy'
                obtain ⟨b, hbi, hyd⟩ := blks_at hdv10 hy
                rw [List.getElem?_map, hbi] at he
                cases he
                obtain ⟨c, u, rfl, hc, hu⟩ := blk_inv (hyd.mono e12)
                exact ⟨rfl, _, rfl, c, _, _, _, rfl, rfl, hc, atI_0, hy' _ _ (Same.refl _) (.str _)⟩
              intro zb H11 e11 hzb hrb
              obtain rfl : zb = (bs'.map Blk.name).map V.str := (show DpAll K H11 zb ((bs'.map Blk.name).map PyData.str) by rw [List.map_map]; exact hrb).strs
              have k11 := k10.trans (KP.of e11)
              have hp11 := hp10.same e11
              refine ⟨D11, _, rfl, .inl (SqL.of hzb), rfl, flat_strs _, _, rfl, ?_⟩
              by_cases hzb' : z ∈ bs'.map Blk.name
              · refine if_f (by show (!inV (V.str z) ((bs'.map Blk.name).map V.str)) = false; rw [inV_str, decide_eq_true hzb']; rfl) ?_
                obtain ⟨a1, a2, a3, a4, a5, a6, a7, a8⟩ := same_ H11 k11 (hp11.up (by omega))
                exact ⟨_, _, _, _, _, _, rfl, a1, a2, a3, a4, a5, a6, a7, a8⟩
              · refine if_t (by show (!inV (V.str z) ((bs'.map Blk.name).map V.str)) = true; rw [inV_str, decide_eq_false hzb']; rfl) ?_
                obtain ⟨c, u, rfl, hc, hu⟩ := row_inv (hxd10.mono e11)
                refine ⟨_, rfl, _, rfl, _, rfl, c, _, _, _, rfl, rfl, hc, (show atI [V.str r.sort, V.str r.name, V.int r.width, u] 2 = some (.int r.width) from rfl), ?_⟩
                refine ⟨p, De, ctx rs, r.width, _, rfl, pDe, hnl10.same e11, nmg, by omega, ok.g.lo _ _ hcx, ok.g.hi _ _ hcx, by omega, hp11, ?_⟩
                rintro v12 H12 k12' hp12 ⟨t, ht, hdt⟩
                have k12 := k11.trans k12'
                have hF12 := k12.keep _ _ (by simpa using ppf.symm) hF5
                refine ⟨_, rfl, .inl ⟨rfl, _, SqL.of hF12⟩, ?_⟩
                have hzt12 := k12'.keep _ _ (by simpa using pDt.symm) (e11 _ _ hzt10)
                refine ⟨_, rfl, _, rfl, Dt, _, _, _, rfl, rfl, SqL.of hzt12, (show atI ((t0 :: tr').map V.str) 0 = some (.str t0) from atI_0), ?_⟩
                refine ⟨by show 2 ≤ sizeLine; decide, fun D13 hD13 => ?_⟩
                have f13 : Same H12 (upd H12 D13 (.lst [.str "now", .str "later"])) := same_new hD13 _
                have h13 : upd H12 D13 (.lst [.str "now", .str "later"]) D13 = some (.lst [.str "now", .str "later"]) := upd_same
                have pD13 := hp12.ne hD13
                refine ⟨_, rfl, p, 2, _, rfl, by decide, by decide, by omega, hp12.same f13, ?_⟩
                rintro _ H14 k14' hp14 ⟨dd, rfl, dd0, ddm⟩
                obtain ⟨wd, hwd, hat⟩ := now_at dd0 ddm
                have k14 := k12.trans ((KP.of f13).trans k14')
                refine ⟨D13, _, _, _, rfl, rfl, SqL.of (k14'.keep _ _ (by simpa using pD13.symm) h13), hat, ?_⟩
                have hc14 : SqT K H14 c [V.str r.sort, V.str r.name, V.int r.width, u] := (k12'.trans ((KP.of f13).trans k14')).tk.sqt hc
                refine ⟨_, rfl, c, _, _, _, rfl, rfl, hc14, (show atI [V.str r.sort, V.str r.name, V.int r.width, u] 1 = some (.str r.name) from rfl), _, rfl, by show 3 ≤ sizeLine; decide, fun c1 hc1 => ⟨by show 1 ≤ sizeLine; decide, fun c2 hc2 => ⟨by show 4 ≤ sizeLine; decide, fun c3 hc3 => ?_⟩⟩⟩
                have g1 : Same H14 (upd H14 c1 (.tup [.str wd, .str r.name, v12])) := same_new hc1 _
                have g1' : upd H14 c1 (.tup [.str wd, .str r.name, v12]) c1 = some (.tup [.str wd, .str r.name, v12]) := upd_same
                generalize upd H14 c1 (.tup [.str wd, .str r.name, v12]) = H15 at *
                have g2 : Same H15 (upd H15 c2 (.tup [.ref c1])) := same_new hc2 _
                have g2' : upd H15 c2 (.tup [.ref c1]) c2 = some (.tup [.ref c1]) := upd_same
                generalize upd H15 c2 (.tup [.ref c1]) = H16 at *
                have g3 : Same H16 (upd H16 c3 (.tup [.str z, .str "fall", .str t0, .ref c2])) := same_new hc3 _
                have g3' : upd H16 c3 (.tup [.str z, .str "fall", .str t0, .ref c2]) c3 = some (.tup [.str z, .str "fall", .str t0, .ref c2]) := upd_same
                generalize upd H16 c3 (.tup [.str z, .str "fall", .str t0, .ref c2]) = H17 at *
                have g23 := g2.trans g3
                have g13 := g1.trans g23
                have hblk : Dp K H17 (.ref c3) (Blk.d ⟨z, "fall", t0, [.set wd r.name t]⟩) := .tup (SqT.of g3') (.cons (.str _) (.cons (.str _) (.cons (.str _) (.cons (.tup (SqT.of (g3 _ _ g2')) (.cons (.tup (SqT.of (g23 _ _ g1')) (.cons (.str _) (.cons (.str _) (.cons (((hdt.mono f13).tk k14'.tk t.noL).mono g13) .nil)))) .nil)) .nil))))
                have k17 := k14.trans (KP.of g13)
                have hp17 := hp14.same g13
                obtain ⟨a1, a2, a3, a4, a5, a6, a7, a8⟩ := same_ H17 k17 (hp17.up (by omega))
                have t18 : TK H17 (upd H17 pf (.lst (vs ++ [.ref c3]))) := TK.lst a6
                have k18 : KP [pf] H17 (upd H17 pf (.lst (vs ++ [.ref c3]))) := KP.set (by simp) a6
                refine ⟨pf, _, _, rfl, rfl, a6, small1000 (by omega), _, _, _, _, _, bs' ++ [⟨z, "fall", t0, [.set wd r.name t]⟩], rfl, a1.new hpfH a6, a2.keep k18 (by simpa using ppf), a3.keep k18 (by simpa using Depf), k18.keep _ _ (by simpa using Dkpf) a4, a5.tk t18 (rows_noL kr), upd_same, ?_, ⟨fun b hb => ?_, by rw [List.length_append, List.length_singleton]; omega, ?_⟩⟩
                · rw [List.map_append]
                  exact (a7.tk t18 (blks_noL bs')).app (.cons (hblk.tk t18 (Blk.noL _)) .nil)
                · rcases List.mem_append.mp hb with hb | hb
                  · exact okb5.one b hb
                  · rw [List.mem_singleton.mp hb]
                    refine ⟨hznm, .inr rfl, htr t0 List.mem_cons_self, fun s hs => ?_, by simp [weightL, Stt.weight]⟩
                    rw [List.mem_singleton.mp hs]
                    refine ⟨hwd, ?_, r.width, hcx, ht.up 4 (by decide)⟩
                    unfold keptOf
                    exact List.mem_map.mpr ⟨r, List.mem_filter.mpr ⟨hrm, decide_eq_true hsk⟩, rfl⟩
                · rw [List.map_append, ← List.append_assoc, List.nodup_append]
                  refine ⟨okb5.nd, by simp, fun a ha b hb e => ?_⟩
                  obtain rfl : b = z := by simpa using hb
                  subst e
                  rcases List.mem_append.mp ha with ha | ha
                  · exact hzn ha
                  · exact hzb' ha
          · refine if_f (decide_eq_false fun z => hd0 (V.int.inj z)) ?_
            obtain ⟨a1, a2, a3, a4, a5, a6, a7, a8⟩ := same_ H8 k8 (hp8.up (by omega))
            exact ⟨_, _, _, _, _, _, rfl, a1, a2, a3, a4, a5, a6, a7, a8⟩
        · refine if_f (decide_eq_false (by omega)) (if_f rfl ?_)
          obtain ⟨a1, a2, a3, a4, a5, a6, a7, a8⟩ := same_ H7 (KP.of e57) (hp7.up (by omega))
          exact ⟨_, _, _, _, _, _, rfl, a1, a2, a3, a4, a5, a6, a7, a8⟩
    · rintro σ H5 ⟨o8, o10, o11, o12, vs, bs', rfl, k5, hp5, hnl5, hkv5, hdk5, hF5, hdv5, okb5⟩
      exact ⟨_, rfl, q _ _ k5 (hp5.up (by omega)) ⟨pf, vs, bs', rfl, hpfH, hF5, hdv5, okb5⟩⟩
  obtain ⟨u, hu2, tl⟩ := tail
  refine ⟨_, (pss_cons (ps_set (i := 3) nd rfl (Or.inr rfl) (pe_lc (own := [("_law_row", 8)]) (g := gName 8) (tt := tYes) rfl nd (pi_list (pv 1)) (blkOk_by (N := n__law_more_set) (sc := defScope s__law_more_set) (by decide +kernel)) (fun _ _ _ _ _ => (pg_name (i := 8) nd rfl (Or.inl rfl))) (fun _ _ _ _ _ => pts_nil) (fun _ _ _ _ _ => (pe_slice (sl_tupAK (K := K) rfl) (pv 8) (po_some pe_int) (po_some pe_int)))))
      (pss_cons (ps_setLc (i := 4) (own := [("_law_row", 8)]) (g := gName 8) rfl nd rfl rfl (sw_true rfl rfl rfl (by decide +kernel)) (pi_list (pv 1)) (blkOk_by (N := n__law_more_set) (sc := defScope s__law_more_set) (by decide +kernel)) (fun _ _ _ _ _ => (pg_name (i := 8) nd rfl (Or.inl rfl))) (fun _ _ _ _ _ => pts_one (pt_cmpR op_eq (pe_ix (ix_tupK (K := K) rfl) (pv 8) pe_int (fun _ _ => rfl)) pe_str (nomark _))) (fun _ _ _ _ _ => (pv 8)))
      (pss_cons (ps_set (i := 5) nd rfl (Or.inl rfl) (pe_lst pa_nil))
      (pss_cons (ps_for PassesOwn.never rfl (pi_list (pv 2)) (pg_name (i := 6) nd rfl (Or.inl rfl)) (pss_cons (ps_set (i := 7) nd rfl (Or.inl rfl) (pe_ix ix_tup (pv 6) pe_int (fun _ _ => rfl)))
      (pss_cons (ps_if (PW.pt (pw_and (pt_cmpR (op_neD hr.units) (pv 4) (pe_lst pa_nil) (nomark _)) (pw_and (pt_cmpR op_eq (pe_call G__law_digit (hr.mono (by omega)) rfl T.m__law_digit T.k__law_digit T.b__law_digit .nil pass0 (pa_cons (pv 0) (pa_cons pe_int pa_nil))) pe_int (nomark _)) (pw_and1 (pt_cmpR op_lt (pe_call G__law_many (hr.mono (by omega)) rfl T.m__law_many T.k__law_many T.b__law_many .nil pass0 (pa_cons (pv 7) pa_nil)) pe_int (nomark _)))))) (pss_cons (ps_set (i := 8) nd rfl (Or.inl rfl) (pe_ix ix_list (pv 4) (pe_call G__law_digit (hr.mono (by omega)) rfl T.m__law_digit T.k__law_digit T.b__law_digit .nil pass0 (pa_cons (pv 0) (pa_cons (pe_callB call_len_seq (by rfl) T.z_len PySem.boot_len (pa_cons (pv 4) pa_nil)) pa_nil))) (fun _ _ => rfl)))
      (pss_cons (ps_set (i := 9) nd rfl (Or.inl rfl) (pe_tup (pa_cons (pe_tup (pa_cons (pe_ix ix_list (pe_lst (pa_cons pe_str (pa_cons pe_str pa_nil))) (pe_call G__law_digit (hr.mono (by omega)) rfl T.m__law_digit T.k__law_digit T.b__law_digit .nil pass0 (pa_cons (pv 0) (pa_cons pe_int pa_nil))) (fun _ _ => rfl)) (pa_cons (pe_ix ix_tup (pv 8) pe_int (fun _ _ => rfl)) (pa_cons (pe_call G__law_leaf (hr.mono (by omega)) rfl T.m__law_leaf T.k__law_leaf T.b__law_leaf .nil pass0 (pa_cons (pv 0) (pa_cons (pv 3) (pa_cons (pe_ix ix_tup (pv 8) pe_int (fun _ _ => rfl)) pa_nil)))) pa_nil)))) pa_nil)))
      (pss_cons (ps_if (pt_cmpR op_eq (pe_call G__law_digit (hr.mono (by omega)) rfl T.m__law_digit T.k__law_digit T.b__law_digit .nil pass0 (pa_cons (pv 0) (pa_cons pe_int pa_nil))) pe_int (nomark _)) (pss_one (ps_set (i := 9) nd rfl (Or.inl rfl) (pe_tup (pa_cons (pe_tup (pa_cons pe_str (pa_cons (pe_call G__law_leaf (hr.mono (by omega)) rfl T.m__law_leaf T.k__law_leaf T.b__law_leaf .nil pass0 (pa_cons (pv 0) (pa_cons (pv 3) (pa_cons pe_int pa_nil)))) (pa_cons (pe_tup pa_nil) (pa_cons (pv 9) pa_nil))))) pa_nil)))) pss_nil)
      (pss_one (ps_set (i := 7) nd rfl (Or.inl rfl) (pe_ix ix_list (pe_lst (pa_cons (pe_op op_catA (pv 9) (pv 7)) (pa_cons (pe_op op_catA (pv 7) (pv 9)) pa_nil))) (pe_call G__law_digit (hr.mono (by omega)) rfl T.m__law_digit T.k__law_digit T.b__law_digit .nil pass0 (pa_cons (pv 0) (pa_cons pe_int pa_nil))) (fun _ _ => rfl))))))) pss_nil)
      (pss_one (ps_expr (pe_bm PySem.F.plainAttrs_list PySem.F.slot_list_append PySem.F.type_list_append mt_append (pv 5) (pa_cons (pe_op op_catA (pe_slice sl_tupA (pv 6) po_none (po_some pe_int)) (pe_tup (pa_cons (pv 7) pa_nil))) pa_nil)))))))
      hu2)))), ?_⟩
  refine ⟨_, rfl, sg, rfl, ⟨xs, SqL.of hsg⟩, fun De hDe => ?_⟩
  refine lcD (K := K) walk_list ((ctx rs).map nameD) (by rw [List.length_map, lctx, lxs]) (by omega) (names_noL _) hDe (fun _ e => SqL.of (e _ _ hsg)) yat_same ?_ gm_name ?_
  · rintro i x _ H3 e hi he e3 ⟨rfl, hx⟩ Qy hy
    obtain ⟨r, hri, hxd⟩ := rows_at hd hx
    unfold ctx at he
    rw [List.getElem?_map, List.getElem?_map, hri] at he
    cases he
    obtain ⟨c, z, rfl, hc, hz⟩ := row_inv (hxd.mono e3)
    refine ⟨rfl, _, rfl, _, rfl, _, rfl, row_slice hc fun p4 hp4 => hy _ _ (same_new hp4 _) (.tup (SqT.of upd_same) (.cons (.str _) (.cons (.int _) .nil)))⟩
  intro ze H1 e1 hze hre
  have hnl1 : NL K H1 De (ctx rs) := ⟨ze, hze, hre⟩
  have pDe := hp.ne hDe
  refine ⟨_, rfl, sg, rfl, ⟨xs, SqL.of (e1 _ _ hsg)⟩, fun Dk hDk => ?_⟩
  have hd1 := hd.mono e1
  refine lcO (K := K) walk_list (rs.map fun r => if decide (r.sort = ("kept" : Str)) = true then some r.d else none) (by rw [List.length_map, lxs]) (by omega) (fun d hd => by
      rw [List.mem_map] at hd
      obtain ⟨r, _, e⟩ := hd
      split at e <;> cases e
      exact r.noL) hDk (fun _ e => SqL.of (e _ _ (e1 _ _ hsg))) yat_same ?_ ?_
  · rintro i x _ H3 e hi he e3 ⟨rfl, hx⟩ Qy Qn hy hn
    obtain ⟨r, hri, hxd⟩ := rows_at hd1 hx
    rw [List.getElem?_map, hri] at he
    cases he
    have hxd3 := hxd.mono e3
    obtain ⟨c, y, rfl, hc, hw⟩ := row_inv hxd3
    refine ⟨rfl, _, rfl, c, _, _, _, rfl, rfl, hc, atI_0, rfl, _, rfl, ?_⟩
    by_cases hs : r.sort = ("kept" : Str)
    · refine if_t (decide_eq_true (by rw [hs])) ?_
      exact ⟨_, rfl, hy _ (if_pos (decide_eq_true hs)) _ _ (Same.refl _) hxd3⟩
    · refine if_f (decide_eq_false fun z => hs (V.str.inj z)) ?_
      exact hn (if_neg (fun z => hs (of_decide_eq_true z))) _ (Same.refl _)
  intro kv H2 e2 hkv hdk
  rw [filt_map (fun r : Row => decide (r.sort = ("kept" : Str))) (fun r => r.d)] at hdk
  have hdk : DpAll K H2 kv ((rs.filter fun r : Row => decide (r.sort = ("kept" : Str))).map Row.d) := hdk
  have hkr : ∀ r ∈ rs.filter (fun r : Row => decide (r.sort = ("kept" : Str))), r ∈ rs ∧ r.sort = ("kept" : Str) := fun r hr => ⟨(List.mem_filter.mp hr).1, of_decide_eq_true (List.mem_filter.mp hr).2⟩
  have lkr : (rs.filter fun r : Row => decide (r.sort = ("kept" : Str))).length ≤ 11 := Nat.le_trans (List.length_filter_le _ _) l11
  generalize (rs.filter fun r : Row => decide (r.sort = ("kept" : Str))) = kr at *
  have lkv := hdk.length
  rw [List.length_map] at lkv
  have e02 := e1.trans e2
  have pDk : p ≠ Dk := (hp.same e1).ne hDk
  refine ⟨by show 0 ≤ sizeLine; decide, fun pf hpf => ?_⟩
  have f3 : Same H2 (upd H2 pf (.lst [])) := same_new hpf _
  have h3 : upd H2 pf (.lst []) pf = some (.lst []) := upd_same
  have ppf : p ≠ pf := (hp.same e02).ne hpf
  have Depf : De ≠ pf := fun z => by have := e2 _ _ hze; rw [z, hpf] at this; cases this
  have Dkpf : Dk ≠ pf := fun z => by rw [z, hpf] at hkv; cases hkv
  have hpfH := e02.free hpf
  have e03 := e02.trans f3
  have hnl3 := (hnl1.same e2).same f3
  have hkv3 := f3 _ _ hkv
  have hdk3 := hdk.mono f3
  have hp3 := hp.same e03
  generalize upd H2 pf (.lst []) = H3 at *
  refine ⟨_, rfl, bl, rfl, ⟨ys, SqL.of (e03 _ _ hbl)⟩, ?_⟩
  refine for_it (walk_list (K := K) (a := bl) (xs := ys)) (fun i σ H4 => ∃ o6 o7 o8 o9 vs bs', σ = [some (.ref p), some (.ref sg), some (.ref bl), some (.ref De), some (.ref Dk), some (.ref pf), o6, o7, o8, o9, none, none, none, none, none, none, none] ∧ KP [p] H H4 ∧ Pot H4 p (N + 100 * i) ∧ NL K H4 De (ctx rs) ∧ H4 Dk = some (.lst kv) ∧ DpAll K H4 kv (kr.map Row.d) ∧ H4 pf = some (.lst vs) ∧ DpAll K H4 vs (bs'.map Blk.d) ∧ bs'.map Blk.name = (bs.take i).map Blk.name ∧ ∀ b ∈ bs', BlkOk1 rs b)
    ⟨none, none, none, none, [], [], rfl, KP.of e03, hp3.up (by omega), hnl3, hkv3, hdk3, h3, .nil, rfl, fun b hb => absurd hb List.not_mem_nil⟩ (fun i σ H3 _ z => by obtain ⟨_, _, _, _, _, _, _, k3, _⟩ := z; exact SqL.of (k3.keep _ _ (by simpa using n2.symm) hbl)) ?_ ?_
  · clear hp3 hnl3 hkv3 hdk3 h3 f3
    rintro i x σ _ H4 hi ⟨o6, o7, o8, o9, vs, bs', rfl, k4, hp4, hnl4, hkv4, hdk4, hF4, hdv4, ebs, hbok⟩ ⟨rfl, hx⟩
    obtain ⟨b, hbi, hxd⟩ := blks_at hdb hx
    have hbm := List.mem_of_getElem? hbi
    have bok := okb.one b hbm
    have hi6 : i < 6 := by omega
    obtain ⟨c, z, rfl, hc, hz⟩ := blk_inv (hxd.tk k4.tk b.noL)
    have npf : pf ∉ [p] := by simpa using ppf.symm
    have nDe : De ∉ [p] := by simpa using pDe.symm
    have nDk : Dk ∉ [p] := by simpa using pDk.symm
    have lvs := hdv4.length
    rw [List.length_map] at lvs
    have lbs : bs'.length ≤ i := by
      have := congrArg List.length ebs
      rw [List.length_map, List.length_map, List.length_take] at this
      omega
    have tk1 : (bs.take (i + 1)).map Blk.name = (bs.take i).map Blk.name ++ [b.name] := by
      rw [List.take_add_one, hbi, List.map_append]
      rfl
    have fin : ∀ (bd : List Stt) (D : Addr) (Hn : Hp), KP [p] H4 Hn → Pot Hn p (N + 100 * i + 100) → Dp K Hn (.ref D) (Blk.d ⟨b.name, b.edge, b.trig, bd⟩) → (∀ s ∈ bd, StOk (ctx rs) (keptOf rs) 4 s) → weightL bd ≤ 20 →
        KP [p] H (upd Hn pf (.lst (vs ++ [.ref D]))) ∧ Pot (upd Hn pf (.lst (vs ++ [.ref D]))) p (N + 100 * ((i + 1 : Nat) : Int)) ∧ NL K (upd Hn pf (.lst (vs ++ [.ref D]))) De (ctx rs) ∧ upd Hn pf (.lst (vs ++ [.ref D])) Dk = some (.lst kv) ∧ DpAll K (upd Hn pf (.lst (vs ++ [.ref D]))) kv (kr.map Row.d) ∧
        upd Hn pf (.lst (vs ++ [.ref D])) pf = some (.lst (vs ++ [.ref D])) ∧ DpAll K (upd Hn pf (.lst (vs ++ [.ref D]))) (vs ++ [.ref D]) ((bs' ++ [(⟨b.name, b.edge, b.trig, bd⟩ : Blk)]).map Blk.d) ∧ (bs' ++ [(⟨b.name, b.edge, b.trig, bd⟩ : Blk)]).map Blk.name = (bs.take (i + 1)).map Blk.name ∧ ∀ b0 ∈ bs' ++ [(⟨b.name, b.edge, b.trig, bd⟩ : Blk)], BlkOk1 rs b0 := by
      intro bd D Hn kn hpn hDn hbd hwd
      have hFn := kn.keep _ _ npf hF4
      have t1 : TK Hn (upd Hn pf (.lst (vs ++ [.ref D]))) := TK.lst hFn
      have k1 : KP [pf] Hn (upd Hn pf (.lst (vs ++ [.ref D]))) := KP.set (by simp) hFn
      refine ⟨(k4.trans kn).new hpfH hFn, ?_, (hnl4.keep kn nDe).keep k1 (by simpa using Depf), k1.keep _ _ (by simpa using Dkpf) (kn.keep _ _ nDk hkv4), (hdk4.tk kn.tk (rows_noL kr)).tk t1 (rows_noL kr), upd_same, ?_, ?_, fun b0 hb0 => ?_⟩
      · have : Pot Hn p (N + 100 * ((i + 1 : Nat) : Int)) := hpn.up (by omega)
        exact this.keep k1 (by simpa using ppf)
      · rw [List.map_append]
        exact ((hdv4.tk kn.tk (blks_noL bs')).tk t1 (blks_noL bs')).app (.cons (hDn.tk t1 (Blk.noL _)) .nil)
      · rw [List.map_append, ebs, tk1]
        rfl
      · rcases List.mem_append.mp hb0 with h | h
        · exact hbok b0 h
        · rw [List.mem_singleton.mp h]
          exact ⟨bok.nm, bok.edge, bok.trig, hbd, hwd⟩
    refine ⟨_, rfl, c, _, _, _, rfl, rfl, hc, (show atI [V.str b.name, V.str b.edge, V.str b.trig, z] 3 = some z from rfl), ?_⟩
    refine ⟨_, rfl, by show 0 ≤ sizeLine; decide, fun D5 hD5 => ?_⟩
    have f5 : Same H4 (upd H4 D5 (.lst [])) := same_new hD5 _
    refine ⟨.list (kr.map Row.d), .list [], .lst (SqL.of (f5 _ _ hkv4)) (hdk4.mono f5), .lst (SqL.of upd_same) .nil, shaped_krows (g := ctx rs) (fun r hr => ⟨ok.row r (hkr r hr).1, (hkr r hr).2, nmg _ r.width (List.mem_map.mpr ⟨r, (hkr r hr).1, rfl⟩)⟩), rfl, _, rfl, ?_⟩
    have k5 : KP [p] H4 (upd H4 D5 (.lst [])) := KP.of f5
    have hp5 := hp4.same f5
    generalize upd H4 D5 (.lst []) = H5 at *
    have hbody := bok.body
    have hfew := bok.few
    have wnn := weightL_nn b.body
    cases hkl : kr with
    | nil =>
      refine if_f (by subst hkl; rfl) (if_f rfl ?_)
      rw [← hkl]
      refine ⟨_, rfl, .inl ⟨rfl, _, SqL.of (k5.keep _ _ npf hF4)⟩, ?_⟩
      refine ⟨_, rfl, _, rfl, row_head (k5.tk.sqt hc) fun q5 hq5 => ⟨_, rfl, by show 1 ≤ sizeLine; decide, fun q6 hq6 => ?_⟩⟩
      have g5 := same_new (H := H5) hq5 (.tup [.str b.name, .str b.edge, .str b.trig])
      have g6 := g5.trans (same_new hq6 (.tup [z]))
      refine cat_new (SqT.of (by rw [upd_ne (ne_of_none upd_same hq6)]; exact upd_same)) (SqT.of upd_same) (by show 3 + 1 ≤ sizeLine; decide) fun q7 hq7 => ?_
      have g7 := g6.trans (same_new hq7 (.tup ([.str b.name, .str b.edge, .str b.trig] ++ [z])))
      have k7 := k5.trans (KP.of g7)
      obtain ⟨a1, a2, a3, a4, a5, a6, a7, a8, a9⟩ := fin b.body q7 _ k7 ((hp5.up (by omega)).same g7) (.tup (SqT.of upd_same) (.cons (.str _) (.cons (.str _) (.cons (.str _) (.cons ((hz.tk k5.tk (by simpa [noL] using Stt.noLs b.body)).mono g7) .nil))))) hbody hfew
      exact ⟨pf, _, _, rfl, rfl, k7.keep _ _ npf hF4, small1000 (by omega), _, _, _, _, _, _, rfl, a1, a2, a3, a4, a5, a6, a7, a8, a9⟩
    | cons k0 kr' =>
      refine if_t (by subst hkl; rfl) ?_
      rw [← hkl]
      have kpos : 1 ≤ kr.length := by rw [hkl]; simp
      clear hkl k0 kr'
      refine ⟨_, rfl, p, 4, _, rfl, by decide, by decide, by omega, hp5, ?_⟩
      rintro _ H6 k6' hp6 ⟨d, rfl, d0, dm⟩
      have k6 := k5.trans k6'
      refine ⟨rfl, _, rfl, ?_⟩
      by_cases hd0 : d = 0
      · refine if_t (decide_eq_true (by rw [hd0])) ?_
        refine ⟨_, rfl, z, b.body, ctx rs, keptOf rs, 4, rfl, rfl, hz.tk k6.tk (by simpa [noL] using Stt.noLs b.body), hbody, ?_⟩
        rintro _ H7 e7 rfl
        have k7a := k6.trans (KP.of e7)
        have hp7a := hp6.same e7
        refine ⟨_, _, rfl, rfl, _, rfl, ?_⟩
        by_cases hw19 : weightL b.body < 19
        · refine if_t (decide_eq_true hw19) ?_
          have hkv7 := k7a.keep _ _ nDk hkv4
          have hdk7 := hdk4.tk k7a.tk (rows_noL kr)
          refine ⟨_, rfl, _, rfl, _, rfl, Dk, kv, rfl, .inl (SqL.of hkv7), ?_⟩
          refine ⟨p, _, _, rfl, by omega, by omega, by omega, hp7a, ?_⟩
          rintro _ H8 k8' hp8 ⟨j8, rfl, j80, j8m⟩
          obtain ⟨j, rfl⟩ : ∃ j : Nat, j8 = j := ⟨j8.toNat, by omega⟩
          have hj : j < kr.length := by omega
          have k8 := k7a.trans k8'
          have hdk8 := hdk7.tk k8'.tk (rows_noL kr)
          have gj : kr[j]? = some kr[j] := List.getElem?_eq_getElem hj
          obtain ⟨v8, hv8, hvd8⟩ := hdk8.at (i := j) (d := kr[j].d) (by rw [List.getElem?_map, gj]; rfl)
          obtain ⟨hrm, hsk⟩ := hkr _ (List.getElem_mem hj)
          generalize kr[j] = r at *
          have hcx : (r.name, r.width) ∈ ctx rs := List.mem_map.mpr ⟨r, hrm, rfl⟩
          have hkp : r.name ∈ keptOf rs := by unfold keptOf; exact List.mem_map.mpr ⟨r, List.mem_filter.mpr ⟨hrm, decide_eq_true hsk⟩, rfl⟩
          refine ⟨Dk, _, _, _, rfl, rfl, SqL.of (k8'.keep _ _ nDk hkv7), atI_nat (j := j) hv8, ?_⟩
          obtain ⟨cr, ur, rfl, hcr, hur⟩ := row_inv hvd8
          refine ⟨by show 2 ≤ sizeLine; decide, fun D9 hD9 => ?_⟩
          have f9 : Same H8 (upd H8 D9 (.lst [.str "now", .str "later"])) := same_new hD9 _
          have h9 : upd H8 D9 (.lst [.str "now", .str "later"]) D9 = some (.lst [.str "now", .str "later"]) := upd_same
          have pD9 := hp8.ne hD9
          refine ⟨_, rfl, p, 2, _, rfl, by decide, by decide, by omega, hp8.same f9, ?_⟩
          rintro _ H10 k10' hp10 ⟨dd, rfl, dd0, ddm⟩
          obtain ⟨wd, hwd, hat⟩ := now_at dd0 ddm
          have k810 : KP [p] H8 H10 := (KP.of f9).trans k10'
          have k10a := k8.trans k810
          have hcr10 := k810.tk.sqt hcr
          refine ⟨D9, _, _, _, rfl, rfl, SqL.of (k10'.keep _ _ (by simpa using pD9.symm) h9), hat, ?_⟩
          refine ⟨_, rfl, cr, _, _, _, rfl, rfl, hcr10, (show atI [V.str r.sort, V.str r.name, V.int r.width, ur] 1 = some (.str r.name) from rfl), ?_⟩
          refine ⟨_, rfl, _, rfl, _, rfl, cr, _, _, _, rfl, rfl, hcr10, (show atI [V.str r.sort, V.str r.name, V.int r.width, ur] 2 = some (.int r.width) from rfl), ?_⟩
          refine ⟨p, De, ctx rs, r.width, _, rfl, pDe, hnl4.keep k10a nDe, nmg, by omega, ok.g.lo _ _ hcx, ok.g.hi _ _ hcx, by omega, hp10, ?_⟩
          rintro v11 H11 k11' hp11 ⟨t, ht, hdt⟩
          have k11a := k10a.trans k11'
          refine ⟨by show 3 ≤ sizeLine; decide, fun c1 hc1 => ⟨by show 1 ≤ sizeLine; decide, fun c2 hc2 => ?_⟩⟩
          have g1 : Same H11 (upd H11 c1 (.tup [.str wd, .str r.name, v11])) := same_new hc1 _
          have g1' : upd H11 c1 (.tup [.str wd, .str r.name, v11]) c1 = some (.tup [.str wd, .str r.name, v11]) := upd_same
          generalize upd H11 c1 (.tup [.str wd, .str r.name, v11]) = H12 at *
          have g2 : Same H12 (upd H12 c2 (.tup [.ref c1])) := same_new hc2 _
          have g2' : upd H12 c2 (.tup [.ref c1]) c2 = some (.tup [.ref c1]) := upd_same
          generalize upd H12 c2 (.tup [.ref c1]) = H13 at *
          have g12 := g1.trans g2
          have k13 := k11a.trans (KP.of g12)
          have hm13 : Dp K H13 (.ref c2) (.tuple (sttsD [Stt.set wd r.name t])) := .tup (SqT.of g2') (.cons (.tup (SqT.of (g2 _ _ g1')) (.cons (.str _) (.cons (.str _) (.cons (hdt.mono g12) .nil)))) .nil)
          have ok1 : StOk (ctx rs) (keptOf rs) 3 (.set wd r.name t) := ⟨hwd, hkp, r.width, hcx, ht.up 4 (by decide)⟩
          have hp13 := hp11.same g12
          refine ⟨_, rfl, p, 2, _, rfl, by decide, by decide, by omega, hp13, ?_⟩
          rintro _ H14 k14' hp14 ⟨e, rfl, e0, em⟩
          have k14 := k13.trans k14'
          have hm14 := hm13.tk k14'.tk (by simpa [noL] using Stt.noLs [Stt.set wd r.name t])
          refine ⟨rfl, _, rfl, ?_⟩
          by_cases he1 : e = 1
          · refine if_t (decide_eq_true (by rw [he1])) ?_
            refine ⟨_, rfl, _, rfl, p, De, ctx rs, 1, _, rfl, pDe, hnl4.keep k14 nDe, nmg, by omega, by decide, by decide, by omega, hp14, ?_⟩
            rintro v15 H15 k15' hp15 ⟨t1, ht1, hdt1⟩
            have k15 := k14.trans k15'
            have hm15 := hm14.tk k15'.tk (by simpa [noL] using Stt.noLs [Stt.set wd r.name t])
            refine ⟨by show 0 ≤ sizeLine; decide, fun c3 hc3 => ⟨_, rfl, by show 4 ≤ sizeLine; decide, fun c4 hc4 => ⟨by show 1 ≤ sizeLine; decide, fun c5 hc5 => ?_⟩⟩⟩
            have g3 : Same H15 (upd H15 c3 (.tup [])) := same_new hc3 _
            have g3' : upd H15 c3 (.tup []) c3 = some (.tup []) := upd_same
            generalize upd H15 c3 (.tup []) = H16 at *
            have g4 : Same H16 (upd H16 c4 (.tup [.str "if", v15, .ref c3, .ref c2])) := same_new hc4 _
            have g4' : upd H16 c4 (.tup [.str "if", v15, .ref c3, .ref c2]) c4 = some (.tup [.str "if", v15, .ref c3, .ref c2]) := upd_same
            generalize upd H16 c4 (.tup [.str "if", v15, .ref c3, .ref c2]) = H17 at *
            have g5 : Same H17 (upd H17 c5 (.tup [.ref c4])) := same_new hc5 _
            have g5' : upd H17 c5 (.tup [.ref c4]) c5 = some (.tup [.ref c4]) := upd_same
            generalize upd H17 c5 (.tup [.ref c4]) = H18 at *
            have g45 := g4.trans g5
            have g35 := g3.trans g45
            have k18 := k15.trans (KP.of g35)
            have hp18 := hp15.same g35
            have hm18 : Dp K H18 (.ref c5) (.tuple (sttsD [Stt.iff t1 [] [Stt.set wd r.name t]])) := .tup (SqT.of g5') (.cons (.tup (SqT.of (g5 _ _ g4')) (.cons (.str _) (.cons (hdt1.mono g35) (.cons (.tup (SqT.of (g45 _ _ g3')) .nil) (.cons (hm15.mono g35) .nil))))) .nil)
            have hz9 : Dp K H18 z (.tuple (sttsD b.body)) := hz.tk k18.tk (by simpa [noL] using Stt.noLs b.body)
            have lbd := weightL_len b.body
            have lsd : (sttsD b.body).length = b.body.length := by rw [sttsD_map, List.length_map]
            refine ⟨_, rfl, _, rfl, cat_dp hm18 hz9 (by rw [lsd]; show 1 + _ ≤ 1000; omega) fun u1 G1 ge1 hu1 => ?_⟩
            refine ⟨_, rfl, _, rfl, cat_dp (hz9.mono ge1) ((hm18).mono ge1) (by rw [lsd]; show _ + 1 ≤ 1000; omega) fun u2 G2 ge2 hu2' => ⟨by show 2 ≤ sizeLine; decide, fun DL hDL => ?_⟩⟩
            have ge3 : Same G2 (upd G2 DL (.lst [u1, u2])) := same_new hDL _
            have hDL' : upd G2 DL (.lst [u1, u2]) DL = some (.lst [u1, u2]) := upd_same
            have ge13 := ge1.trans (ge2.trans ge3)
            have pDL : p ≠ DL := ((hp18).same (ge1.trans ge2)).ne hDL
            have hp10 := (hp18).same ge13
            have hu1' := hu1.mono (ge2.trans ge3)
            have hu2'' := hu2'.mono ge3
            have k10 := k18.trans (KP.of ge13)
            generalize upd G2 DL (.lst [u1, u2]) = G3 at *
            refine ⟨_, rfl, p, 2, _, rfl, by decide, by decide, by omega, hp10, ?_⟩
            rintro _ H11 k11' hp11 ⟨e9, rfl, e90, e9m⟩
            have k11 := k10.trans k11'
            have hDL11 := k11'.keep _ _ (by simpa using pDL.symm) hDL'
            have okm : ∀ s ∈ [Stt.iff t1 [] [Stt.set wd r.name t]], StOk (ctx rs) (keptOf rs) 4 s := (fun s hs => by rw [List.mem_singleton.mp hs]; exact ⟨ht1.up 4 (by decide), fun s hs => absurd hs List.not_mem_nil, fun s hs => by rw [List.mem_singleton.mp hs]; exact ok1⟩)
            have wm : weightL [Stt.iff t1 [] [Stt.set wd r.name t]] ≤ 2 := (by simp [weightL, Stt.weight])
            have hce : e9 = 0 ∨ e9 = 1 := by omega
            rcases hce with rfl | rfl
            · refine ⟨DL, _, _, _, rfl, rfl, SqL.of hDL11, atI_0, ?_⟩
              have hv11 : Dp K H11 u1 (.tuple (sttsD ([Stt.iff t1 [] [Stt.set wd r.name t]] ++ b.body))) := by
                rw [sttsD_app]
                exact hu1'.tk k11'.tk (by rw [← sttsD_app]; simpa [noL] using Stt.noLs _)
              refine ⟨_, rfl, .inl ⟨rfl, _, SqL.of (k11.keep _ _ npf hF4)⟩, ?_⟩
              refine ⟨_, rfl, _, rfl, row_head (k11.tk.sqt hc) fun q5 hq5 => ⟨_, rfl, by show 1 ≤ sizeLine; decide, fun q6 hq6 => ?_⟩⟩
              have g5 := same_new (H := H11) hq5 (.tup [.str b.name, .str b.edge, .str b.trig])
              have g6 := g5.trans (same_new hq6 (.tup [u1]))
              refine cat_new (SqT.of (by rw [upd_ne (ne_of_none upd_same hq6)]; exact upd_same)) (SqT.of upd_same) (by show 3 + 1 ≤ sizeLine; decide) fun q7 hq7 => ?_
              have g7 := g6.trans (same_new hq7 (.tup ([.str b.name, .str b.edge, .str b.trig] ++ [u1])))
              have k7 := k11.trans (KP.of g7)
              obtain ⟨a1, a2, a3, a4, a5, a6, a7, a8, a9⟩ := fin ([Stt.iff t1 [] [Stt.set wd r.name t]] ++ b.body) q7 _ k7 ((hp11.up (by omega)).same g7) (.tup (SqT.of upd_same) (.cons (.str _) (.cons (.str _) (.cons (.str _) (.cons ((hv11).mono g7) .nil))))) (fun s hs => (List.mem_append.mp hs).elim (okm s) (hbody s)) (by rw [weightL_app]; omega)
              exact ⟨pf, _, _, rfl, rfl, k7.keep _ _ npf hF4, small1000 (by omega), _, _, _, _, _, _, rfl, a1, a2, a3, a4, a5, a6, a7, a8, a9⟩
            · refine ⟨DL, _, _, _, rfl, rfl, SqL.of hDL11, (show atI [u1, u2] 1 = some u2 from rfl), ?_⟩
              have hv11 : Dp K H11 u2 (.tuple (sttsD (b.body ++ [Stt.iff t1 [] [Stt.set wd r.name t]]))) := by
                rw [sttsD_app]
                exact hu2''.tk k11'.tk (by rw [← sttsD_app]; simpa [noL] using Stt.noLs _)
              refine ⟨_, rfl, .inl ⟨rfl, _, SqL.of (k11.keep _ _ npf hF4)⟩, ?_⟩
              refine ⟨_, rfl, _, rfl, row_head (k11.tk.sqt hc) fun q5 hq5 => ⟨_, rfl, by show 1 ≤ sizeLine; decide, fun q6 hq6 => ?_⟩⟩
              have g5 := same_new (H := H11) hq5 (.tup [.str b.name, .str b.edge, .str b.trig])
              have g6 := g5.trans (same_new hq6 (.tup [u2]))
              refine cat_new (SqT.of (by rw [upd_ne (ne_of_none upd_same hq6)]; exact upd_same)) (SqT.of upd_same) (by show 3 + 1 ≤ sizeLine; decide) fun q7 hq7 => ?_
              have g7 := g6.trans (same_new hq7 (.tup ([.str b.name, .str b.edge, .str b.trig] ++ [u2])))
              have k7 := k11.trans (KP.of g7)
              obtain ⟨a1, a2, a3, a4, a5, a6, a7, a8, a9⟩ := fin (b.body ++ [Stt.iff t1 [] [Stt.set wd r.name t]]) q7 _ k7 ((hp11.up (by omega)).same g7) (.tup (SqT.of upd_same) (.cons (.str _) (.cons (.str _) (.cons (.str _) (.cons ((hv11).mono g7) .nil))))) (fun s hs => (List.mem_append.mp hs).elim (hbody s) (okm s)) (by rw [weightL_app]; omega)
              exact ⟨pf, _, _, rfl, rfl, k7.keep _ _ npf hF4, small1000 (by omega), _, _, _, _, _, _, rfl, a1, a2, a3, a4, a5, a6, a7, a8, a9⟩
          · refine if_f (decide_eq_false fun z => he1 (V.int.inj z)) ?_
            have hz9 : Dp K H14 z (.tuple (sttsD b.body)) := hz.tk k14.tk (by simpa [noL] using Stt.noLs b.body)
            have lbd := weightL_len b.body
            have lsd : (sttsD b.body).length = b.body.length := by rw [sttsD_map, List.length_map]
            refine ⟨_, rfl, _, rfl, cat_dp hm14 hz9 (by rw [lsd]; show 1 + _ ≤ 1000; omega) fun u1 G1 ge1 hu1 => ?_⟩
            refine ⟨_, rfl, _, rfl, cat_dp (hz9.mono ge1) ((hm14).mono ge1) (by rw [lsd]; show _ + 1 ≤ 1000; omega) fun u2 G2 ge2 hu2' => ⟨by show 2 ≤ sizeLine; decide, fun DL hDL => ?_⟩⟩
            have ge3 : Same G2 (upd G2 DL (.lst [u1, u2])) := same_new hDL _
            have hDL' : upd G2 DL (.lst [u1, u2]) DL = some (.lst [u1, u2]) := upd_same
            have ge13 := ge1.trans (ge2.trans ge3)
            have pDL : p ≠ DL := ((hp14).same (ge1.trans ge2)).ne hDL
            have hp10 := (hp14).same ge13
            have hu1' := hu1.mono (ge2.trans ge3)
            have hu2'' := hu2'.mono ge3
            have k10 := k14.trans (KP.of ge13)
            generalize upd G2 DL (.lst [u1, u2]) = G3 at *
            refine ⟨_, rfl, p, 2, _, rfl, by decide, by decide, by omega, hp10, ?_⟩
            rintro _ H11 k11' hp11 ⟨e9, rfl, e90, e9m⟩
            have k11 := k10.trans k11'
            have hDL11 := k11'.keep _ _ (by simpa using pDL.symm) hDL'
            have okm : ∀ s ∈ [Stt.set wd r.name t], StOk (ctx rs) (keptOf rs) 4 s := (fun s hs => by rw [List.mem_singleton.mp hs]; exact ok1.up (by decide))
            have wm : weightL [Stt.set wd r.name t] ≤ 2 := (by simp [weightL, Stt.weight])
            have hce : e9 = 0 ∨ e9 = 1 := by omega
            rcases hce with rfl | rfl
            · refine ⟨DL, _, _, _, rfl, rfl, SqL.of hDL11, atI_0, ?_⟩
              have hv11 : Dp K H11 u1 (.tuple (sttsD ([Stt.set wd r.name t] ++ b.body))) := by
                rw [sttsD_app]
                exact hu1'.tk k11'.tk (by rw [← sttsD_app]; simpa [noL] using Stt.noLs _)
              refine ⟨_, rfl, .inl ⟨rfl, _, SqL.of (k11.keep _ _ npf hF4)⟩, ?_⟩
              refine ⟨_, rfl, _, rfl, row_head (k11.tk.sqt hc) fun q5 hq5 => ⟨_, rfl, by show 1 ≤ sizeLine; decide, fun q6 hq6 => ?_⟩⟩
              have g5 := same_new (H := H11) hq5 (.tup [.str b.name, .str b.edge, .str b.trig])
              have g6 := g5.trans (same_new hq6 (.tup [u1]))
              refine cat_new (SqT.of (by rw [upd_ne (ne_of_none upd_same hq6)]; exact upd_same)) (SqT.of upd_same) (by show 3 + 1 ≤ sizeLine; decide) fun q7 hq7 => ?_
              have g7 := g6.trans (same_new hq7 (.tup ([.str b.name, .str b.edge, .str b.trig] ++ [u1])))
              have k7 := k11.trans (KP.of g7)
              obtain ⟨a1, a2, a3, a4, a5, a6, a7, a8, a9⟩ := fin ([Stt.set wd r.name t] ++ b.body) q7 _ k7 ((hp11.up (by omega)).same g7) (.tup (SqT.of upd_same) (.cons (.str _) (.cons (.str _) (.cons (.str _) (.cons ((hv11).mono g7) .nil))))) (fun s hs => (List.mem_append.mp hs).elim (okm s) (hbody s)) (by rw [weightL_app]; omega)
              exact ⟨pf, _, _, rfl, rfl, k7.keep _ _ npf hF4, small1000 (by omega), _, _, _, _, _, _, rfl, a1, a2, a3, a4, a5, a6, a7, a8, a9⟩
            · refine ⟨DL, _, _, _, rfl, rfl, SqL.of hDL11, (show atI [u1, u2] 1 = some u2 from rfl), ?_⟩
              have hv11 : Dp K H11 u2 (.tuple (sttsD (b.body ++ [Stt.set wd r.name t]))) := by
                rw [sttsD_app]
                exact hu2''.tk k11'.tk (by rw [← sttsD_app]; simpa [noL] using Stt.noLs _)
              refine ⟨_, rfl, .inl ⟨rfl, _, SqL.of (k11.keep _ _ npf hF4)⟩, ?_⟩
              refine ⟨_, rfl, _, rfl, row_head (k11.tk.sqt hc) fun q5 hq5 => ⟨_, rfl, by show 1 ≤ sizeLine; decide, fun q6 hq6 => ?_⟩⟩
              have g5 := same_new (H := H11) hq5 (.tup [.str b.name, .str b.edge, .str b.trig])
              have g6 := g5.trans (same_new hq6 (.tup [u2]))
              refine cat_new (SqT.of (by rw [upd_ne (ne_of_none upd_same hq6)]; exact upd_same)) (SqT.of upd_same) (by show 3 + 1 ≤ sizeLine; decide) fun q7 hq7 => ?_
              have g7 := g6.trans (same_new hq7 (.tup ([.str b.name, .str b.edge, .str b.trig] ++ [u2])))
              have k7 := k11.trans (KP.of g7)
              obtain ⟨a1, a2, a3, a4, a5, a6, a7, a8, a9⟩ := fin (b.body ++ [Stt.set wd r.name t]) q7 _ k7 ((hp11.up (by omega)).same g7) (.tup (SqT.of upd_same) (.cons (.str _) (.cons (.str _) (.cons (.str _) (.cons ((hv11).mono g7) .nil))))) (fun s hs => (List.mem_append.mp hs).elim (hbody s) (okm s)) (by rw [weightL_app]; omega)
              exact ⟨pf, _, _, rfl, rfl, k7.keep _ _ npf hF4, small1000 (by omega), _, _, _, _, _, _, rfl, a1, a2, a3, a4, a5, a6, a7, a8, a9⟩
        · refine if_f (decide_eq_false hw19) ?_
          refine ⟨_, rfl, .inl ⟨rfl, _, SqL.of (k7a.keep _ _ npf hF4)⟩, ?_⟩
          refine ⟨_, rfl, _, rfl, row_head (k7a.tk.sqt hc) fun q5 hq5 => ⟨_, rfl, by show 1 ≤ sizeLine; decide, fun q6 hq6 => ?_⟩⟩
          have g5 := same_new (H := H7) hq5 (.tup [.str b.name, .str b.edge, .str b.trig])
          have g6 := g5.trans (same_new hq6 (.tup [z]))
          refine cat_new (SqT.of (by rw [upd_ne (ne_of_none upd_same hq6)]; exact upd_same)) (SqT.of upd_same) (by show 3 + 1 ≤ sizeLine; decide) fun q7 hq7 => ?_
          have g7 := g6.trans (same_new hq7 (.tup ([.str b.name, .str b.edge, .str b.trig] ++ [z])))
          have k7 := k7a.trans (KP.of g7)
          obtain ⟨a1, a2, a3, a4, a5, a6, a7, a8, a9⟩ := fin b.body q7 _ k7 ((hp7a.up (by omega)).same g7) (.tup (SqT.of upd_same) (.cons (.str _) (.cons (.str _) (.cons (.str _) (.cons ((hz.tk k7a.tk (by simpa [noL] using Stt.noLs b.body)).mono g7) .nil))))) hbody hfew
          exact ⟨pf, _, _, rfl, rfl, k7.keep _ _ npf hF4, small1000 (by omega), _, _, _, _, _, _, rfl, a1, a2, a3, a4, a5, a6, a7, a8, a9⟩
      · refine if_f (decide_eq_false fun z => hd0 (V.int.inj z)) (if_f rfl ?_)
        refine ⟨_, rfl, .inl ⟨rfl, _, SqL.of (k6.keep _ _ npf hF4)⟩, ?_⟩
        refine ⟨_, rfl, _, rfl, row_head (k6.tk.sqt hc) fun q5 hq5 => ⟨_, rfl, by show 1 ≤ sizeLine; decide, fun q6 hq6 => ?_⟩⟩
        have g5 := same_new (H := H6) hq5 (.tup [.str b.name, .str b.edge, .str b.trig])
        have g6 := g5.trans (same_new hq6 (.tup [z]))
        refine cat_new (SqT.of (by rw [upd_ne (ne_of_none upd_same hq6)]; exact upd_same)) (SqT.of upd_same) (by show 3 + 1 ≤ sizeLine; decide) fun q7 hq7 => ?_
        have g7 := g6.trans (same_new hq7 (.tup ([.str b.name, .str b.edge, .str b.trig] ++ [z])))
        have k7 := k6.trans (KP.of g7)
        obtain ⟨a1, a2, a3, a4, a5, a6, a7, a8, a9⟩ := fin b.body q7 _ k7 ((hp6.up (by omega)).same g7) (.tup (SqT.of upd_same) (.cons (.str _) (.cons (.str _) (.cons (.str _) (.cons ((hz.tk k6.tk (by simpa [noL] using Stt.noLs b.body)).mono g7) .nil))))) hbody hfew
        exact ⟨pf, _, _, rfl, rfl, k7.keep _ _ npf hF4, small1000 (by omega), _, _, _, _, _, _, rfl, a1, a2, a3, a4, a5, a6, a7, a8, a9⟩
  · rintro σ H4 ⟨o6, o7, o8, o9, vs, bs', rfl, k4, hp4, hnl4, hkv4, hdk4, hF4, hdv4, ebs, hbok⟩
    rw [List.take_of_length_le (by omega)] at ebs
    have lb : bs'.length = bs.length := by
      have := congrArg List.length ebs
      rwa [List.length_map, List.length_map] at this
    exact tl De Dk pf kv vs kr bs' o6 o7 o8 o9 H4 pDe pDk ppf Depf Dkpf hpfH k4 (hp4.up (by omega)) hnl4 hkv4 hdk4 hkr lkr hF4 hdv4 ⟨hbok, by omega, by rw [ebs]; exact okb.nd⟩
end
end K34
namespace K34
open PySem PySem.Spec PyProof.Rows L2
local macro_rules | `(tactic| walk_at "sm") => `(tactic| (repeat (first | exact Same.refl _ | assumption | refine Same.trans ?_ (same_new (by assumption) _) | refine Same.trans ?_ (by assumption))))
theorem dueD_noL (o : Option (Str × Str)) : noL (dueD o) = true := by
  cases o with
  | none => rfl
  | some p => obtain ⟨k, x⟩ := p; rfl
theorem clash_some {rs : List Row} {bs : List Blk} {k x : Str} (ok : SigOk rs) (h : clashOf rs bs = some (k, x)) : (k = ("both" : Str) ∨ k = ("ring" : Str) ∨ k = ("filter" : Str)) ∧ IsNm x := by
  have nm : ∀ r ∈ rs, IsNm r.name := fun r hr => ok.g.nm _ r.width (List.mem_map.mpr ⟨r, hr, rfl⟩)
  unfold clashOf at h
  cases h1 : bothOf rs bs with
  | some p =>
    rw [h1] at h
    obtain rfl : p = (k, x) := by simpa using h
    unfold bothOf at h1
    rw [Option.map_eq_some_iff] at h1
    obtain ⟨r, hr, e⟩ := h1
    cases e
    exact ⟨.inl rfl, nm r (List.mem_of_find?_eq_some hr)⟩
  | none =>
    rw [h1] at h
    cases h2 : ringOf rs with
    | some p =>
      rw [h2] at h
      obtain rfl : p = (k, x) := by simpa using h
      unfold ringOf at h2
      rw [Option.map_eq_some_iff] at h2
      obtain ⟨r, hr, e⟩ := h2
      cases e
      exact ⟨.inr (.inl rfl), nm r (List.mem_of_find?_eq_some hr)⟩
    | none =>
      rw [h2] at h
      have h3 : filtOf rs = some (k, x) := by simpa using h
      unfold filtOf at h3
      rw [Option.map_eq_some_iff] at h3
      obtain ⟨f, hf, e⟩ := h3
      cases e
      refine ⟨.inr (.inr rfl), ?_⟩
      have := List.mem_of_find?_eq_some hf
      unfold filtersOf at this
      rw [List.mem_map] at this
      obtain ⟨r, hr, rfl⟩ := this
      exact nm r (List.mem_filter.mp hr).1
theorem kind_ok {k : Str} (h : k = ("both" : Str) ∨ k = ("ring" : Str) ∨ k = ("filter" : Str)) : PyData.strOk k = true := by
  rcases h with rfl | rfl | rfl <;> decide +kernel
theorem made_sh : SeqAt.shaped (dueD none) = true := by decide +kernel
theorem due_shaped {rs : List Row} {bs : List Blk} (ok : SigOk rs) : SeqAt.shaped (dueD (clashOf rs bs)) = true := by
  cases h : clashOf rs bs with
  | none => exact made_sh
  | some p =>
    obtain ⟨k, x⟩ := p
    obtain ⟨h1, h2⟩ := clash_some ok h
    unfold SeqAt.shaped dueD
    simp [PyData.canLay0, PyData.canLayAll0, PyData.depth, PyData.depthAll, kind_ok h1, strOk_nm h2]
section
variable {P : Program} {w : World} {K : PySem.W.Frag} {mg : Str → Option Value} {base : Heap}
def spLaw (K : PySem.W.Frag) : Sp := fun vs H Q _ => ∃ (a : Addr) (l : List Int), vs = [.ref a] ∧ SqL K H a (l.map V.int) ∧ ∀ H', Q (.bl true) H'
theorem ok_law (T : TX K mg w) (G__law_pot : FnOk P w K mg base CX0 1 T.a__law_pot T.d__law_pot p__law_pot (spPot K)) (G__law_digit : FnOk P w K mg base CX0 1 T.a__law_digit T.d__law_digit p__law_digit spDig)
    (G__law_design : FnOk P w K mg base CX0 14 T.a__law_design T.d__law_design p__law_design (spDes K)) (G__law_clash : FnOk P w K mg base CX0 25 T.a__law_clash T.d__law_clash p__law_clash (spClash K))
    (G__law_anew : FnOk P w K mg base CX0 8 T.a__law_anew T.d__law_anew p__law_anew (spAnew K)) (G__law_more_set : FnOk P w K mg base CX0 7 T.a__law_more_set T.d__law_more_set p__law_more_set (spMore K))
    (G__law_due : FnOk P w K mg base CX0 7 T.a__law_due T.d__law_due p__law_due (spDue K)) :
    FnOk P w K mg base CX0 26 T.a_law T.d_law p_law (spLaw K) := by
  refine T.F_law.ok sc_law (fun vs H Q E h => ?_) (fun cdv A outer s H vs Q E hr h => ?_)
  · obtain ⟨a, l, rfl, _⟩ := h; rfl
  obtain ⟨a, l, rfl, ha, q⟩ := h
  have nd := sc_law.nd
  refine ⟨_, ((pss_cons (ps_for PassesOwn.never rfl (pi_range1 rfl T.z_range (pa_cons (pe_callB (call_max2 rfl) (by rfl) T.z_max (by decide +kernel) (pa_cons pe_int (pa_cons (pe_callB (call_min2 rfl) (by rfl) T.z_min (by decide +kernel) (pa_cons (pe_callB call_len_seq (by rfl) T.z_len PySem.boot_len (pa_cons (pv 0) pa_nil)) (pa_cons pe_int pa_nil))) pa_nil))) pa_nil)) (pg_name (i := 1) nd rfl (Or.inl rfl)) (pss_cons (ps_set (i := 2) nd rfl (Or.inl rfl) (pe_call G__law_pot (hr.mono (by omega)) rfl T.m__law_pot T.k__law_pot T.b__law_pot .nil pass0 (pa_cons (pv 0) (pa_cons (pv 1) pa_nil))))
      (pss_cons (ps_asg (pe_call G__law_design (hr.mono (by omega)) rfl T.m__law_design T.k__law_design T.b__law_design .nil pass0 (pa_cons (pv 2) pa_nil)) (pg_tup rfl (pgs_cons (pg_name (i := 3) nd rfl (Or.inl rfl)) (pgs_cons (pg_name (i := 4) nd rfl (Or.inl rfl)) pgs_nil))))
      (pss_cons (ps_if (pt_cmpR (op_neD hr.units) (pe_call G__law_clash (hr.mono (by omega)) rfl T.m__law_clash T.k__law_clash T.b__law_clash .nil pass0 (pa_cons (pe_callTy call_list_of (by rfl) T.z_list (by decide +kernel) (pa_cons (pv 3) pa_nil)) (pa_cons (pe_callTy call_list_of (by rfl) T.z_list (by decide +kernel) (pa_cons (pv 4) pa_nil)) pa_nil))) (pe_tup (pa_cons pe_str (pa_cons pe_str pa_nil))) (nomark _)) (pss_one (ps_ret pe_bl)) pss_nil)
      (pss_cons (ps_if (pt_cmpR op_gt (pe_call G__law_digit (hr.mono (by omega)) rfl T.m__law_digit T.k__law_digit T.b__law_digit .nil pass0 (pa_cons (pv 2) (pa_cons pe_int pa_nil))) pe_int (nomark _)) (pss_one (ps_set (i := 3) nd rfl (Or.inl rfl) (pe_call G__law_anew (hr.mono (by omega)) rfl T.m__law_anew T.k__law_anew T.b__law_anew .nil pass0 (pa_cons (pv 2) (pa_cons (pv 3) pa_nil))))) pss_nil)
      (pss_cons (ps_set (i := 4) nd rfl (Or.inl rfl) (pe_call G__law_more_set (hr.mono (by omega)) rfl T.m__law_more_set T.k__law_more_set T.b__law_more_set .nil pass0 (pa_cons (pv 2) (pa_cons (pv 3) (pa_cons (pv 4) pa_nil)))))
      (pss_one (ps_if (pt_cmpR (op_neD hr.units) (pe_call G__law_clash (hr.mono (by omega)) rfl T.m__law_clash T.k__law_clash T.b__law_clash .nil pass0 (pa_cons (pv 3) (pa_cons (pv 4) pa_nil))) (pe_call G__law_due (hr.mono (by omega)) rfl T.m__law_due T.k__law_due T.b__law_due .nil pass0 (pa_cons (pv 3) (pa_cons (pv 4) pa_nil))) (nomark _)) (pss_one (ps_ret pe_bl)) pss_nil))))))))
      (pss_one (ps_ret pe_bl)))), ?_⟩
  refine ⟨_, rfl, a, _, rfl, .inl ha, _, _, rfl, _, _, rfl, ?_⟩
  refine ⟨_, rfl, ?_, ?_, ?_⟩
  · split <;> split <;> omega
  · split <;> split <;> omega
  have few : (if (if (8 : Int) < ((l.map V.int).length : Int) then (8 : Int) else ((l.map V.int).length : Int)) > 1 then (if (8 : Int) < ((l.map V.int).length : Int) then (8 : Int) else ((l.map V.int).length : Int)) else 1).toNat ≤ 8 := by
    split <;> split <;> omega
  generalize hn : (if (if (8 : Int) < ((l.map V.int).length : Int) then (8 : Int) else ((l.map V.int).length : Int)) > 1 then (if (8 : Int) < ((l.map V.int).length : Int) then (8 : Int) else ((l.map V.int).length : Int)) else 1).toNat = n at *
  refine for_it (walk_range (lo := 0) (n := n)) (fun i σ H1 => ∃ o1 o2 o3 o4, σ = [some (.ref a), o1, o2, o3, o4] ∧ Same H H1) ⟨none, none, none, none, rfl, Same.refl _⟩ (fun i σ H1 _ _ => True.intro) ?_ ?_
  · rintro i x σ _ H1 hi ⟨o1, o2, o3, o4, rfl, e1⟩ ⟨rfl, rfl⟩
    refine ⟨_, rfl, _, rfl, a, (0 : Int) + (i : Int), l, rfl, e1.seq ha, by omega, by omega, fun p H2 e2 hp1 hp2 => ?_⟩
    refine ⟨_, rfl, p, 0, rfl, by decide, hp2, ?_⟩
    rintro _ H3 k3 hp3 ⟨tp, sg, bp, xs, ys, rs, bs, rfl, htp, hsg2, hbp2, hsg, hd, ok, hbp, hdb, okb, hcn⟩
    have pne : ∀ {c : Addr}, H2 c = none → p ≠ c := fun h z => hp2.some (by rw [z]; exact h)
    have psg := pne hsg2
    have pbp := pne hbp2
    refine ⟨tp, _, rfl, SqT.of htp, rfl, _, _, rfl, _, _, rfl, rfl, ?_⟩
    -- the first clash
    refine ⟨_, rfl, sg, xs, rfl, .inl (SqL.of hsg), fun la hla => ?_⟩
    have f4 : Same H3 (upd H3 la (.lst xs)) := same_new hla _
    have h4 : upd H3 la (.lst xs) la = some (.lst xs) := upd_same
    generalize upd H3 la (.lst xs) = H4 at *
    refine ⟨_, rfl, bp, ys, rfl, .inl (SqL.of (f4 _ _ hbp)), fun lb hlb => ?_⟩
    have f5 : Same H4 (upd H4 lb (.lst ys)) := same_new hlb _
    have h5 : upd H4 lb (.lst ys) lb = some (.lst ys) := upd_same
    have h45 := f5 _ _ h4
    generalize upd H4 lb (.lst ys) = H5 at *
    have f45 := f4.trans f5
    refine ⟨la, lb, xs, ys, rs, bs, rfl, h45, hd.mono f45, ok, h5, hdb.mono f45, okb, fun v6 H6 e6 h6 => ?_⟩
    rw [hcn] at h6
    refine ⟨by show 2 ≤ sizeLine; decide, fun c7 hc7 => ?_⟩
    have f7 : Same H6 (upd H6 c7 (.tup [.str "made", .str ""])) := same_new hc7 _
    have h7 : upd H6 c7 (.tup [.str "made", .str ""]) c7 = some (.tup [.str "made", .str ""]) := upd_same
    generalize upd H6 c7 (.tup [.str "made", .str ""]) = H7 at *
    refine ⟨dueD none, dueD none, h6.mono f7, .tup (SqT.of h7) (.cons (.str _) (.cons (.str _) .nil)), made_sh, made_sh, _, rfl, if_f (by rw [eqv_refl (dueD_noL none)]; rfl) ?_⟩
    have e37 := f45.trans (e6.trans f7)
    have hp7 := hp3.same e37
    refine ⟨_, rfl, p, 3, _, rfl, by decide, by decide, by omega, hp7, ?_⟩
    rintro _ H8 k8 hp8 ⟨d, rfl, d0, dm⟩
    have k38 : KP [p] H3 H8 := (KP.of e37).trans k8
    have hsg8 := k38.keep _ _ (by simpa using psg.symm) hsg
    have hbp8 := k38.keep _ _ (by simpa using pbp.symm) hbp
    have hd8 := hd.tk k38.tk (rows_noL rs)
    have hdb8 := hdb.tk k38.tk (blks_noL bs)
    have e18 : Same H H8 := e1.trans (((KP.of (S := []) e2).then (k3.trans k38) (fun b hb => by rw [List.mem_singleton.mp hb]; exact .inr hp1)).same)
    refine ⟨_, _, rfl, rfl, _, rfl, ?_⟩
    by_cases hd0 : 0 < d
    · refine if_t (decide_eq_true hd0) ?_
      refine ⟨_, rfl, _, rfl, p, sg, _, xs, rs, rfl, psg, hsg8, hd8, ok, by omega, hp8, ?_⟩
      rintro _ H9 k9 hp9 ⟨sg', xs', rs', rfl, hsgn, hsg9, hd9, ekey, hrok⟩
      obtain ⟨ok', okb'⟩ := ok.anew ekey hrok
      have psg' : p ≠ sg' := fun z => hp8.some (by rw [z]; exact hsgn)
      have hbp9 := k9.keep _ _ (by simpa using pbp.symm) hbp8
      have hdb9 := hdb8.tk k9.tk (blks_noL bs)
      have k29 : KP [p] H2 H9 := k3.trans (k38.trans k9)
      refine ⟨_, rfl, _, rfl, _, rfl, p, sg', bp, _, xs', ys, rs', bs, rfl, ⟨psg', pbp⟩, hsg9, hd9, ok', hbp9, hdb9, (okb' okb), by omega, hp9, ?_⟩
      rintro _ G1 kg1 hpg1 ⟨bq, zs, bs', rfl, hbqn, hbq, hdbq, okbq⟩
      have hsgG := kg1.keep _ _ (by simpa using (psg').symm) hsg9
      have hdG := (hd9).tk kg1.tk (rows_noL rs')
      refine ⟨_, rfl, _, rfl, sg', bq, xs', zs, rs', bs', rfl, hsgG, hdG, ok', hbq, hdbq, okbq, fun v2 G2 eg2 hv2 => ?_⟩
      refine ⟨_, rfl, _, rfl, sg', bq, xs', zs, rs', bs', rfl, SqL.of (eg2 _ _ hsgG), hdG.mono eg2, ok', SqL.of (eg2 _ _ hbq), hdbq.mono eg2, okbq, fun v3 G3 eg3 hv3 => ?_⟩
      refine ⟨_, _, hv2.mono eg3, hv3, due_shaped ok', due_shaped ok', _, rfl, if_f (by rw [eqv_refl (dueD_noL _)]; rfl) ?_⟩
      have eG : Same H G3 := e1.trans ((((KP.of (S := []) e2).then (k29.trans kg1) (fun b hb => by rw [List.mem_singleton.mp hb]; exact .inr hp1)).same).trans (eg2.trans eg3))
      exact ⟨_, _, _, _, rfl, eG⟩
    · refine if_f (decide_eq_false hd0) ?_
      have k28 : KP [p] H2 H8 := k3.trans k38
      refine ⟨_, rfl, _, rfl, _, rfl, p, sg, bp, _, xs, ys, rs, bs, rfl, ⟨psg, pbp⟩, hsg8, hd8, ok, hbp8, hdb8, okb, by omega, hp8, ?_⟩
      rintro _ G1 kg1 hpg1 ⟨bq, zs, bs', rfl, hbqn, hbq, hdbq, okbq⟩
      have hsgG := kg1.keep _ _ (by simpa using (psg).symm) hsg8
      have hdG := (hd8).tk kg1.tk (rows_noL rs)
      refine ⟨_, rfl, _, rfl, sg, bq, xs, zs, rs, bs', rfl, hsgG, hdG, ok, hbq, hdbq, okbq, fun v2 G2 eg2 hv2 => ?_⟩
      refine ⟨_, rfl, _, rfl, sg, bq, xs, zs, rs, bs', rfl, SqL.of (eg2 _ _ hsgG), hdG.mono eg2, ok, SqL.of (eg2 _ _ hbq), hdbq.mono eg2, okbq, fun v3 G3 eg3 hv3 => ?_⟩
      refine ⟨_, _, hv2.mono eg3, hv3, due_shaped ok, due_shaped ok, _, rfl, if_f (by rw [eqv_refl (dueD_noL _)]; rfl) ?_⟩
      have eG : Same H G3 := e1.trans ((((KP.of (S := []) e2).then (k28.trans kg1) (fun b hb => by rw [List.mem_singleton.mp hb]; exact .inr hp1)).same).trans (eg2.trans eg3))
      exact ⟨_, _, _, _, rfl, eG⟩
  · rintro σ H1 ⟨o1, o2, o3, o4, rfl, e1⟩
    exact q _
end
end K34
/-! what the top leaves (printed by gentz.py) -/
namespace K34
open PySem PySem.Spec PyProof.Rows L2
theorem cut2 {α β : Prop} (a : α) (h : α → β) : β := h a
def oexB (C : Addr) (cd : ClassData) (sl : Array (Option Value)) : Bool := match cd.mro, sl.toList with
    | .ref C' :: bm, [_, _, _, _, some (.builtin n), _] => C' == C && n == "ValueError.__new__" && !cd.hasDel && cd.hasDict && PySem.HandSPX.refsVE bm
    | _, _ => false
theorem oexB_ok {K : PySem.W.Frag} {C : Addr} {dd : Option Addr} {cd : ClassData} {sl : Array (Option Value)} (ho : K.lookup C = some ⟨.type "type", dd, .cls cd, sl⟩) (q : oexB C cd sl = true) : ∃ nm qn N bs bm sn sub ab col dd k0 k1 k2 k3 k5, K.lookup C = some (excClassObj nm qn C N bs bm true sn sub ab col dd k0 k1 k2 k3 k5 "ValueError.__new__") ∧ PySem.HandSPX.refsVE bm = true := by
  unfold oexB at q
  split at q
  · rename_i C' bm k0 k1 k2 k3 n k5 hm hs
    simp only [Bool.and_eq_true, beq_iff_eq, Bool.not_eq_true'] at q
    obtain ⟨⟨⟨⟨rfl, rfl⟩, hdel⟩, hdi⟩, ht⟩ := q
    obtain ⟨nm, bs, mro, ns, qn, hd, sn, sub, ab, col, del⟩ := cd
    dsimp only at hm hdel hdi
    subst hm hdel hdi
    have hsl : sl = #[k0, k1, k2, k3, some (.builtin "ValueError.__new__"), k5] := by
      obtain ⟨l⟩ := sl
      simp only at hs
      rw [hs]
    subst hsl
    exact ⟨nm, qn, ns, bs, bm, sn, sub, ab, col, dd, k0, k1, k2, k3, k5, ho, ht⟩
  · cases q
theorem te_mk {K : PySem.W.Frag} {C : Addr} {dd : Option Addr} {cd : ClassData} {sl : Array (Option Value)} (ho : K.lookup C = some ⟨.type "type", dd, .cls cd, sl⟩) (ex : PySem.W.subIn K (.ref C) (.type "BaseException") = some true) (ty : PySem.W.typeIn K (.ref C) = some (.type "type"))
    (sb : PySem.W.subIn K (.ref C) (.ref C) = some true) : PySem.W.exmOne K (.ref C) (.ref C) = some true := by
  have hc : PySem.W.clsIn K C = some cd := by
    unfold PySem.W.clsIn
    rw [ho]
  unfold PySem.W.exmOne PySem.W.kitCls
  rw [ex]
  show (if (some true == some true) = true then (if ((PySem.W.clsIn K C).isSome && PySem.W.typeIn K (.ref C) == some (.type "type")) = true then PySem.W.subIn K (.ref C) (.ref C) else none) else none) = some true
  rw [hc, ty, sb]
  rfl
/-- a def as it stands -/
def DefT (K : PySem.W.Frag) (mg : Str → Option Value) (x : Str) (st : Stmt) (ps : List Str) : Prop := ∃ (a : Addr) (d : FuncData), Fun K x x st a d ∧ mg x = some (.ref a) ∧ Binds K d ps []
section
variable {K : PySem.W.Frag} {h : Heap} {mg : Str → Option Value} {w : World}
theorem def_mk (X : K.In h) (G : h.Ns mainGlobals mg) {x : Str} {st : Stmt} {ps : List Str} (hb : ∀ (kV doc pm : Value) (an : Option Addr) (cdv ct : Value) (us : List Value), us.length = ps.length → bindArgs (PySem.W.fnOf x x (defArgs st) (defBody st) (defScope st) .none kV doc pm an cdv ct) ⟨us, []⟩ = pure (ps.zip us))
    {f : Addr} {od an : Option Addr} {sl : Array (Option Value)} {oc kV dc pm cd ct : Value} (a : PySem.W.nsIn K mainGlobals x = some (some (.ref f)))
    (l : K.lookup f = some ⟨oc, od, .func (PySem.W.fnOf x x (defArgs st) (defBody st) (defScope st) .none kV dc pm an cd ct), sl⟩) (c : PySem.W.codeIn K cd x = true) (k : PySem.W.keepIn K (.ref f) = true) : DefT K mg x st ps :=
  ⟨f, _, fun_mk l c k, PySem.W.mg_of X G a, (fun_mk l c k).binds hb⟩
theorem int_mk (X : K.In h) (G : h.Ns mainGlobals mg) {x : Str} {v : Int} {t : Tok} (a : PySem.W.nsIn K mainGlobals x = some (some (.int v t))) : ∃ t, mg x = some (.int v t) := ⟨t, PySem.W.mg_of X G a⟩
theorem str_mk (X : K.In h) (G : h.Ns mainGlobals mg) {x v : Str} {t : Tok} (a : PySem.W.nsIn K mainGlobals x = some (some (.str v t))) : ∃ t, mg x = some (.str v t) := ⟨t, PySem.W.mg_of X G a⟩
theorem tup_mk (X : K.In h) (G : h.Ns mainGlobals mg) {x : Str} {vs : List V} {f : Addr} {od : Option Addr} {its : Array Value} {n : Nat} {sl : Array (Option Value)} (a : PySem.W.nsIn K mainGlobals x = some (some (.ref f)))
    (l : K.lookup f = some ⟨.type "tuple", od, .seq its n, sl⟩) (hz : its.size ≤ sizeLine) (hv : Vals vs its.toList) : ∃ f, mg x = some (.ref f) ∧ ∀ H : Hp, SqT K H f vs := ⟨f, PySem.W.mg_of X G a, fun H => .inr ⟨_, its, n, l, rfl, rfl, hz, hv⟩⟩

theorem args_mk (X : K.In h) (G : h.Ns mainGlobals mg) {f : Addr} {es : Array DictEntry} {n : Nat} {t_not t_any t_all t_pick : Tok} (a : PySem.W.nsIn K mainGlobals "ARGUMENTS" = some (some (.ref f)))
    (l : K.lookup f = some ⟨.type "dict", none, .dict es n, #[]⟩) (k : PySem.W.KeysLit w.params es.toList) (lo : (f == sysModules) = false)
    (g_not : PySem.W.nsIn K f "not" = some (some (.int 1 t_not)))
    (g_any : PySem.W.nsIn K f "any" = some (some (.int 1 t_any)))
    (g_all : PySem.W.nsIn K f "all" = some (some (.int 1 t_all)))
    (g_pick : PySem.W.nsIn K f "pick" = some (some (.int 3 t_pick)))
    (g_and : PySem.W.nsIn K f "and" = some none)
    (g_or : PySem.W.nsIn K f "or" = some none)
    (g_xor : PySem.W.nsIn K f "xor" = some none)
    (g_plus : PySem.W.nsIn K f "plus" = some none)
    (g_same : PySem.W.nsIn K f "same" = some none)
    (g_less : PySem.W.nsIn K f "less" = some none)
    (g_join : PySem.W.nsIn K f "join" = some none) :
    ∃ (f : Addr) (es : Array DictEntry) (n : Nat) (t_not t_any t_all t_pick : Tok), mg "ARGUMENTS" = some (.ref f) ∧ KDict K w f es n ∧ PySem.W.nsIn K f "not" = some (some (.int 1 t_not)) ∧ PySem.W.nsIn K f "any" = some (some (.int 1 t_any)) ∧ PySem.W.nsIn K f "all" = some (some (.int 1 t_all)) ∧ PySem.W.nsIn K f "pick" = some (some (.int 3 t_pick)) ∧ PySem.W.nsIn K f "and" = some none ∧ PySem.W.nsIn K f "or" = some none ∧ PySem.W.nsIn K f "xor" = some none ∧ PySem.W.nsIn K f "plus" = some none ∧ PySem.W.nsIn K f "same" = some none ∧ PySem.W.nsIn K f "less" = some none ∧ PySem.W.nsIn K f "join" = some none :=
  ⟨f, es, n, t_not, t_any, t_all, t_pick, PySem.W.mg_of X G a, ⟨l, k, lo⟩, g_not, g_any, g_all, g_pick, g_and, g_or, g_xor, g_plus, g_same, g_less, g_join⟩
/-- is_value: its width by name or not at all -/
theorem isv_mk (X : K.In h) (G : h.Ns mainGlobals mg) {f D : Addr} {od an : Option Addr} {sl : Array (Option Value)} {oc dc pm cd ct : Value} {t : Tok} (a : PySem.W.nsIn K mainGlobals "is_value" = some (some (.ref f)))
    (l : K.lookup f = some ⟨oc, od, .func (PySem.W.fnOf "is_value" "is_value" (defArgs s_is_value) (defBody s_is_value) (defScope s_is_value) .none (.ref D) dc pm an cd ct), sl⟩) (c : PySem.W.codeIn K cd "is_value" = true) (k : PySem.W.keepIn K (.ref f) = true)
    (kd : PySem.W.nsIn K D "width" = some (some (.int 0 t))) :
    ∃ (a : Addr) (d : FuncData), FunD K "is_value" "is_value" (defArgs s_is_value) (defBody s_is_value) (defScope s_is_value) [] [("width", V.int 0)] a d ∧ mg "is_value" = some (.ref a) ∧ (∃ v : List Value, Vals [V.int 0] v ∧ Binds K d p_is_value v) ∧
      KBn K d p_is_value 1 ["width"] (fun us ws => us ++ ws) (fun us ws => us ++ ws) := by
  have F : FunD K "is_value" "is_value" (defArgs s_is_value) (defBody s_is_value) (defScope s_is_value) [] [("width", V.int 0)] f (PySem.W.fnOf "is_value" "is_value" (defArgs s_is_value) (defBody s_is_value) (defScope s_is_value) .none (.ref D) dc pm an cd ct) :=
    ⟨⟨oc, od, .none, .ref D, dc, pm, an, cd, ct, sl, rfl, l, c, .inl ⟨rfl, rfl⟩, .inr ⟨D, rfl, fun q hq => by rw [List.mem_singleton.mp hq]; exact ⟨_, kd, _, rfl⟩⟩⟩, k⟩
  refine ⟨f, _, F, PySem.W.mg_of X G a, F.binds0 1 (by simp) rfl fun D doc pm an cdv ct us ks hl hk => ?_, ⟨fun s us ws _ h1 h2 => ?_, fun a b => a.append b⟩⟩
  · match us, ks, hl, hk with
    | [u], [v], _, _ => exact ⟨_, _, _, _, _, _, rfl, rfl, rfl⟩
  · match us, ws, h1, h2 with
    | [u], [v], _, _ => exact .of_eq rfl
/-- a def whose last parameter has a default -/
theorem tw_mk (X : K.In h) (G : h.Ns mainGlobals mg) {f T : Addr} {od an odT : Option Addr} {sl slT : Array (Option Value)} {oc kV dc pm cd ct ocT : Value} {t : Tok} {n : Nat} (a : PySem.W.nsIn K mainGlobals "term_weight" = some (some (.ref f)))
    (l : K.lookup f = some ⟨oc, od, .func (PySem.W.fnOf "term_weight" "term_weight" (defArgs s_term_weight) (defBody s_term_weight) (defScope s_term_weight) (.ref T) kV dc pm an cd ct), sl⟩) (c : PySem.W.codeIn K cd "term_weight" = true) (k : PySem.W.keepIn K (.ref f) = true)
    (lT : K.lookup T = some ⟨ocT, odT, .seq #[.int 10 t] n, slT⟩) :
    ∃ (a : Addr) (d : FuncData), FunD K "term_weight" "term_weight" (defArgs s_term_weight) (defBody s_term_weight) (defScope s_term_weight) [V.int 10] [] a d ∧ mg "term_weight" = some (.ref a) ∧ Binds K d p_term_weight [] ∧ ∃ v : List Value, Vals [V.int 10] v ∧ Binds K d p_term_weight v := by
  have F : FunD K "term_weight" "term_weight" (defArgs s_term_weight) (defBody s_term_weight) (defScope s_term_weight) [V.int 10] [] f (PySem.W.fnOf "term_weight" "term_weight" (defArgs s_term_weight) (defBody s_term_weight) (defScope s_term_weight) (.ref T) kV dc pm an cd ct) :=
    ⟨⟨oc, od, .ref T, kV, dc, pm, an, cd, ct, sl, rfl, l, c, .inr ⟨by simp, T, _, [.int 10 t], n, rfl, lT, rfl, .cons ⟨_, rfl⟩ .nil⟩, .inl rfl⟩, k⟩
  have b2 := F.binds1 (ps := p_term_weight) 2 1 (by simp) rfl fun T kV doc pm an cdv ct us its hl hi => by
    match us, its, hl, hi with
    | [u, v], [i], _, _ => exact ⟨_, rfl, rfl⟩
  have b1 := F.binds1 (ps := p_term_weight) 1 0 (by simp) rfl fun T kV doc pm an cdv ct us its hl hi => by
    match us, its, hl, hi with
    | [u], [i], _, _ => exact ⟨_, rfl, rfl⟩
  obtain ⟨ds, hv, hb⟩ := b2
  have : ds = [] := List.eq_nil_of_length_eq_zero hv.length.symm
  subst this
  exact ⟨f, _, F, PySem.W.mg_of X G a, hb, b1⟩
theorem des_mk {C f T T0 : Addr} {od an odT : Option Addr} {sl slT : Array (Option Value)} {oc kV dc pm cd ct ocT : Value} {n : Nat} (i : PySem.W.findIn K (.ref C) "__init__" = some (some (.ref f)))
    (l : K.lookup f = some ⟨oc, od, .func (PySem.W.fnOf "__init__" "Design.__init__" (defArgs s_DesignI) (defBody s_DesignI) (defScope s_DesignI) (.ref T) kV dc pm an cd ct), sl⟩) (c : PySem.W.codeIn K cd "Design.__init__" = true) (k : PySem.W.keepIn K (.ref f) = true)
    (lT : K.lookup T = some ⟨ocT, odT, .seq #[.ref T0] n, slT⟩) :
    ∃ (d : FuncData), FunD K "__init__" "Design.__init__" (defArgs s_DesignI) (defBody s_DesignI) (defScope s_DesignI) [V.ref T0] [] f d ∧ Binds K d p_DesignI [] := by
  have F : FunD K "__init__" "Design.__init__" (defArgs s_DesignI) (defBody s_DesignI) (defScope s_DesignI) [V.ref T0] [] f (PySem.W.fnOf "__init__" "Design.__init__" (defArgs s_DesignI) (defBody s_DesignI) (defScope s_DesignI) (.ref T) kV dc pm an cd ct) :=
    ⟨⟨oc, od, .ref T, kV, dc, pm, an, cd, ct, sl, rfl, l, c, .inr ⟨by simp, T, _, [.ref T0], n, rfl, lT, rfl, .cons rfl .nil⟩, .inl rfl⟩, k⟩
  have b2 := F.binds1 (ps := p_DesignI) 3 1 (by simp) rfl fun T kV doc pm an cdv ct us its hl hi => by
    match us, its, hl, hi with
    | [u, v, w], [i], _, _ => exact ⟨_, rfl, rfl⟩
  obtain ⟨ds, hv, hb⟩ := b2
  have : ds = [] := List.eq_nil_of_length_eq_zero hv.length.symm
  subst this
  exact ⟨_, F, hb⟩
/-- the three classes' facts -/
structure ClsT (K : PySem.W.Frag) (mg : Str → Option Value) (aW aN aC aD : Addr) : Prop where
  mW : mg "WireError" = some (.ref aW)
  wg : PySem.W.specialIn K (.ref aW) "__getattribute__" = some (some (.builtin "type.__getattribute__"))
  wr : PySem.W.readsIn K aW (.type "type") = true
  wi : PySem.W.findCls K (.ref aW) (.type "type") "__init__" = some (.val (.builtin "ValueError.__init__"))
  mN : mg "NoTerm" = some (.ref aN)
  mC : mg "Clash" = some (.ref aC)
  oex : OexC K aC
  xf : XfC K aC
  nk : PySem.W.findIn K (.ref aC) "kind" = some none
  nw : PySem.W.findIn K (.ref aC) "who" = some none
  te : PySem.W.exmOne K (.ref aC) (.ref aC) = some true
  mD : mg "Design" = some (.ref aD)
  cl : Cls K aD
  n1 : NoAttr K aD "rows"
  n2 : NoAttr K aD "parts"
  n3 : NoAttr K aD "by_names"
  n4 : NoAttr K aD "beside"
theorem cls_mk (X : K.In h) (G : h.Ns mainGlobals mg) {aW aN aC aD : Addr} {ddC : Option Addr} {cdC : ClassData} {slC : Array (Option Value)} (mW : PySem.W.nsIn K mainGlobals "WireError" = some (some (.ref aW))) (wg : PySem.W.specialIn K (.ref aW) "__getattribute__" = some (some (.builtin "type.__getattribute__")))
    (wr : PySem.W.readsIn K aW (.type "type") = true) (wi : PySem.W.findCls K (.ref aW) (.type "type") "__init__" = some (.val (.builtin "ValueError.__init__"))) (mN : PySem.W.nsIn K mainGlobals "NoTerm" = some (some (.ref aN)))
    (mC : PySem.W.nsIn K mainGlobals "Clash" = some (some (.ref aC))) (lC : K.lookup aC = some ⟨.type "type", ddC, .cls cdC, slC⟩) (ox : oexB aC cdC slC = true) (sa : PySem.W.findIn K (.ref aC) "__setattr__" = some (some (.builtin "object.__setattr__"))) (ex : PySem.W.subIn K (.ref aC) (.type "BaseException") = some true)
    (ty : PySem.W.typeIn K (.ref aC) = some (.type "type")) (kC : PySem.W.keepIn K (.ref aC) = true) (xg : PySem.W.findIn K (.ref aC) "__getattribute__" = some (some (.builtin "BaseException.__getattribute__"))) (xh : PySem.W.findIn K (.ref aC) "__getattr__" = some none) (xd : PySem.W.hasDictIn K aC = true) (nk : PySem.W.findIn K (.ref aC) "kind" = some none) (nw : PySem.W.findIn K (.ref aC) "who" = some none) (te : PySem.W.subIn K (.ref aC) (.ref aC) = some true)
    (mD : PySem.W.nsIn K mainGlobals "Design" = some (some (.ref aD))) (pg : PySem.W.plainGet K aD Str.empty = true) (hd : PySem.W.hasDictIn K aD = true) (po : PySem.W.plainOver K aD = true) (sd : PySem.W.findIn K (.ref aD) "__setattr__" = some (some (.builtin "object.__setattr__")))
    (n1 : PySem.W.findIn K (.ref aD) "rows" = some none) (n2 : PySem.W.findIn K (.ref aD) "parts" = some none) (n3 : PySem.W.findIn K (.ref aD) "by_names" = some none) (n4 : PySem.W.findIn K (.ref aD) "beside" = some none) : ClsT K mg aW aN aC aD :=
  ⟨PySem.W.mg_of X G mW, wg, wr, wi, PySem.W.mg_of X G mN, PySem.W.mg_of X G mC, ⟨oexB_ok lC ox, sa, ex, ty, kC⟩, ⟨xg, xh, ex, xd⟩, nk, nw, te_mk lC ex ty te, PySem.W.mg_of X G mD, ⟨pg, hd, po, sd⟩, n1, n2, n3, n4⟩
/-- Clash.__init__ and Design.__init__ -/
def IniT (K : PySem.W.Frag) (aC aD : Addr) : Prop := ∃ (f : Addr) (d : FuncData) (g T0 : Addr) (e : FuncData), Fun K "__init__" "Clash.__init__" s_ClashI f d ∧ Binds K d n_ClashI [] ∧ PySem.W.findIn K (.ref aC) "__init__" = some (some (.ref f)) ∧ PySem.W.typeIn K (.ref f) = some (.type "function") ∧
  FunD K "__init__" "Design.__init__" (defArgs s_DesignI) (defBody s_DesignI) (defScope s_DesignI) [V.ref T0] [] g e ∧ Binds K e p_DesignI [] ∧ Mk K aD g
theorem ini_mk {aC aD f g T T0 : Addr} {od an odg ang odT : Option Addr} {sl slg slT : Array (Option Value)} {oc kV dc pm cd ct ocg kVg dcg pmg cdg ctg ocT : Value} {n : Nat} (i : PySem.W.findIn K (.ref aC) "__init__" = some (some (.ref f)))
    (l : K.lookup f = some ⟨oc, od, .func (PySem.W.fnOf "__init__" "Clash.__init__" (defArgs s_ClashI) (defBody s_ClashI) (defScope s_ClashI) .none kV dc pm an cd ct), sl⟩) (c : PySem.W.codeIn K cd "Clash.__init__" = true) (k : PySem.W.keepIn K (.ref f) = true)
    (ti : PySem.W.typeIn K (.ref f) = some (.type "function")) (ig : PySem.W.findIn K (.ref aD) "__init__" = some (some (.ref g)))
    (lg : K.lookup g = some ⟨ocg, odg, .func (PySem.W.fnOf "__init__" "Design.__init__" (defArgs s_DesignI) (defBody s_DesignI) (defScope s_DesignI) (.ref T) kVg dcg pmg ang cdg ctg), slg⟩) (cg : PySem.W.codeIn K cdg "Design.__init__" = true) (kg : PySem.W.keepIn K (.ref g) = true)
    (lT : K.lookup T = some ⟨ocT, odT, .seq #[.ref T0] n, slT⟩) (mk : PySem.W.makesIn K aD = true) (fg : PySem.W.isFn K (.ref g) = true) (kD : PySem.W.keepIn K (.ref aD) = true) : IniT K aC aD := by
  obtain ⟨e, F, hb⟩ := des_mk ig lg cg kg lT
  exact ⟨f, _, g, T0, e, fun_mk l c k, (fun_mk l c k).binds (ps := n_ClashI) (fun _ _ _ _ _ _ us hl => match us, hl with | [_, _, _], _ => rfl), i, ti, F, hb, ⟨mk, ig, fg, kD⟩⟩
variable {P : Program} {base : Heap}
theorem all_law (T : TX K mg w) : FnOk P w K mg base CX0 26 T.a_law T.d_law p_law (spLaw K) := by
  have h_is_value := ok_is_value (P := P) (base := base) T
  have h_arguments_of := ok_arguments_of (P := P) (base := base) T
  have h_is_name := ok_is_name (P := P) (base := base) T
  have h_is_whole := ok_is_whole (P := P) (base := base) T
  have h_is_width := ok_is_width (P := P) (base := base) T
  have h_is_row := ok_is_row (P := P) (base := base) T
  have h_terms_in := ok_terms_in (P := P) (base := base) T
  have h_operated_width := ok_operated_width (P := P) (base := base) T
  have h_are_bounds := ok_are_bounds (P := P) (base := base) T h_is_whole
  have h_leaf_weight := ok_leaf_weight (P := P) (base := base) T h_is_name h_is_value
  have h_term_weight := ok_term_weight (P := P) (base := base) T h_leaf_weight h_are_bounds h_arguments_of 4
  have h_is_term := ok_is_term (P := P) (base := base) T h_term_weight
  have h_fitting_width := ok_fitting_width (P := P) (base := base) T h_terms_in h_operated_width 4
  have h_width_of := ok_width_of (P := P) (base := base) T h_is_term h_fitting_width
  have h_has_width := ok_has_width (P := P) (base := base) T h_width_of
  have h_names_along := ok_names_along (P := P) (base := base) T h_terms_in 4
  have h_names_in := ok_names_in (P := P) (base := base) T h_names_along
  have h_hangs_on := ok_hangs_on (P := P) (base := base) T
  have h_terms_of := ok_terms_of (P := P) (base := base) T
  have h_names_beside := ok_names_beside (P := P) (base := base) T h_terms_of h_names_in
  have h_ring_wrong := ok_ring_wrong (P := P) (base := base) T h_names_beside h_hangs_on
  have h_set_by := ok_set_by (P := P) (base := base) T 5
  have h_both_wrong := ok_both_wrong (P := P) (base := base) T h_set_by
  have h_widths_of := ok_widths_of (P := P) (base := base) T
  have h_name_wrong := ok_name_wrong (P := P) (base := base) T h_is_name
  have h_signal_wrong := ok_signal_wrong (P := P) (base := base) T h_is_row h_name_wrong h_is_width
  have h_signals_wrong := ok_signals_wrong (P := P) (base := base) T h_signal_wrong
  have h_many_wrong := ok_many_wrong (P := P) (base := base) T
  have h_is_driver := ok_is_driver (P := P) (base := base) T h_has_width
  have h_are_drivers := ok_are_drivers (P := P) (base := base) T h_is_driver
  have h_is_what := ok_is_what (P := P) (base := base) T h_is_value h_are_drivers h_has_width
  have h_what_wrong := ok_what_wrong (P := P) (base := base) T h_widths_of h_is_what
  have h_body_weight := (ok_sb (P := P) (base := base) T h_has_width 4).2
  have h_block_wrong := ok_block_wrong (P := P) (base := base) T h_is_row h_name_wrong h_widths_of h_body_weight
  have h_blocks_wrong := ok_blocks_wrong (P := P) (base := base) T h_block_wrong
  have h_first_clash := ok_first_clash (P := P) (base := base) T h_signals_wrong h_many_wrong h_what_wrong h_blocks_wrong h_both_wrong h_ring_wrong
  have h_ClashI := ok_ClashI (P := P) (base := base) T
  have h_DesignI := ok_DesignI (P := P) (base := base) T h_ClashI h_first_clash h_names_beside
  have h__law_clash := ok__law_clash (P := P) (base := base) T h_DesignI
  have h__law_names := ok__law_names (P := P) (base := base) T 4
  have h__law_beside := ok__law_beside (P := P) (base := base) T h__law_names
  have h__law_reached := ok__law_reached (P := P) (base := base) T
  have h__law_sets := ok__law_sets (P := P) (base := base) T 5
  have h__law_many := ok__law_many (P := P) (base := base) T 5
  have h__law_due := ok__law_due (P := P) (base := base) T h__law_sets h__law_beside h__law_reached
  have h__law_digit := ok__law_digit (P := P) (base := base) T
  have h__law_pot := ok__law_pot (P := P) (base := base) T
  have h__law_value := ok__law_value (P := P) (base := base) T h__law_digit
  have h__law_width := ok__law_width (P := P) (base := base) T h__law_digit
  have h__law_name := ok__law_name (P := P) (base := base) T h__law_digit
  have h__law_leaf := ok__law_leaf (P := P) (base := base) T h__law_digit h__law_value
  have h__law_term := ok__law_term (P := P) (base := base) T h__law_digit h__law_leaf
  have h__law_sources := ok__law_sources (P := P) (base := base) T h__law_digit h__law_name h__law_width h__law_value
  have h__law_led := ok__law_led (P := P) (base := base) T h__law_digit h__law_name h__law_width h__law_term
  have h__law_body := ok__law_body (P := P) (base := base) T h__law_digit h__law_term
  have h__law_blocks := ok__law_blocks (P := P) (base := base) T h__law_digit h__law_name h__law_body
  have h__law_design := ok__law_design (P := P) (base := base) T h__law_digit h__law_sources h__law_led h__law_blocks
  have h__law_anew := ok__law_anew (P := P) (base := base) T h__law_digit h__law_term
  have h__law_more_set := ok__law_more_set (P := P) (base := base) T h__law_digit h__law_leaf h__law_many
  exact ok_law T h__law_pot h__law_digit h__law_design h__law_clash h__law_anew h__law_more_set h__law_due
theorem all_mk {l : PySem.W.OpenLaw} {fa : Addr} (hfa : mg "law" = some (.ref fa))
    (D_arguments_of : DefT K mg "arguments_of" s_arguments_of p_arguments_of)
    (D_is_name : DefT K mg "is_name" s_is_name p_is_name)
    (D_is_whole : DefT K mg "is_whole" s_is_whole p_is_whole)
    (D_are_bounds : DefT K mg "are_bounds" s_are_bounds p_are_bounds)
    (D_leaf_weight : DefT K mg "leaf_weight" s_leaf_weight p_leaf_weight)
    (D_is_term : DefT K mg "is_term" s_is_term p_is_term)
    (D_terms_in : DefT K mg "terms_in" s_terms_in p_terms_in)
    (D_operated_width : DefT K mg "operated_width" s_operated_width p_operated_width)
    (D_fitting_width : DefT K mg "fitting_width" s_fitting_width p_fitting_width)
    (D_width_of : DefT K mg "width_of" s_width_of p_width_of)
    (D_names_along : DefT K mg "names_along" s_names_along p_names_along)
    (D_names_in : DefT K mg "names_in" s_names_in p_names_in)
    (D_has_width : DefT K mg "has_width" s_has_width p_has_width)
    (D_name_wrong : DefT K mg "name_wrong" s_name_wrong p_name_wrong)
    (D_is_width : DefT K mg "is_width" s_is_width p_is_width)
    (D_is_row : DefT K mg "is_row" s_is_row p_is_row)
    (D_signal_wrong : DefT K mg "signal_wrong" s_signal_wrong p_signal_wrong)
    (D_signals_wrong : DefT K mg "signals_wrong" s_signals_wrong p_signals_wrong)
    (D_many_wrong : DefT K mg "many_wrong" s_many_wrong p_many_wrong)
    (D_is_driver : DefT K mg "is_driver" s_is_driver p_is_driver)
    (D_are_drivers : DefT K mg "are_drivers" s_are_drivers p_are_drivers)
    (D_is_what : DefT K mg "is_what" s_is_what p_is_what)
    (D_widths_of : DefT K mg "widths_of" s_widths_of p_widths_of)
    (D_what_wrong : DefT K mg "what_wrong" s_what_wrong p_what_wrong)
    (D_statement_weight : DefT K mg "statement_weight" s_statement_weight p_statement_weight)
    (D_body_weight : DefT K mg "body_weight" s_body_weight p_body_weight)
    (D_block_wrong : DefT K mg "block_wrong" s_block_wrong p_block_wrong)
    (D_blocks_wrong : DefT K mg "blocks_wrong" s_blocks_wrong p_blocks_wrong)
    (D_set_by : DefT K mg "set_by" s_set_by p_set_by)
    (D_both_wrong : DefT K mg "both_wrong" s_both_wrong p_both_wrong)
    (D_terms_of : DefT K mg "terms_of" s_terms_of p_terms_of)
    (D_names_beside : DefT K mg "names_beside" s_names_beside p_names_beside)
    (D_hangs_on : DefT K mg "hangs_on" s_hangs_on p_hangs_on)
    (D_ring_wrong : DefT K mg "ring_wrong" s_ring_wrong p_ring_wrong)
    (D_first_clash : DefT K mg "first_clash" s_first_clash p_first_clash)
    (D__law_pot : DefT K mg "_law_pot" s__law_pot p__law_pot)
    (D__law_digit : DefT K mg "_law_digit" s__law_digit p__law_digit)
    (D__law_name : DefT K mg "_law_name" s__law_name p__law_name)
    (D__law_value : DefT K mg "_law_value" s__law_value p__law_value)
    (D__law_leaf : DefT K mg "_law_leaf" s__law_leaf p__law_leaf)
    (D__law_term : DefT K mg "_law_term" s__law_term p__law_term)
    (D__law_width : DefT K mg "_law_width" s__law_width p__law_width)
    (D__law_sources : DefT K mg "_law_sources" s__law_sources p__law_sources)
    (D__law_led : DefT K mg "_law_led" s__law_led p__law_led)
    (D__law_body : DefT K mg "_law_body" s__law_body p__law_body)
    (D__law_blocks : DefT K mg "_law_blocks" s__law_blocks p__law_blocks)
    (D__law_design : DefT K mg "_law_design" s__law_design p__law_design)
    (D__law_clash : DefT K mg "_law_clash" s__law_clash p__law_clash)
    (D__law_names : DefT K mg "_law_names" s__law_names p__law_names)
    (D__law_beside : DefT K mg "_law_beside" s__law_beside p__law_beside)
    (D__law_reached : DefT K mg "_law_reached" s__law_reached p__law_reached)
    (D__law_sets : DefT K mg "_law_sets" s__law_sets p__law_sets)
    (D__law_due : DefT K mg "_law_due" s__law_due p__law_due)
    (D__law_anew : DefT K mg "_law_anew" s__law_anew p__law_anew)
    (D__law_many : DefT K mg "_law_many" s__law_many p__law_many)
    (D__law_more_set : DefT K mg "_law_more_set" s__law_more_set p__law_more_set)
    (D_law : DefT K mg "law" s_law p_law)
    (D_is_value : ∃ (a : Addr) (d : FuncData), FunD K "is_value" "is_value" (defArgs s_is_value) (defBody s_is_value) (defScope s_is_value) [] [("width", V.int 0)] a d ∧ mg "is_value" = some (.ref a) ∧ (∃ v : List Value, Vals [V.int 0] v ∧ Binds K d p_is_value v) ∧ KBn K d p_is_value 1 ["width"] (fun us ws => us ++ ws) (fun us ws => us ++ ws))
    (D_term_weight : ∃ (a : Addr) (d : FuncData), FunD K "term_weight" "term_weight" (defArgs s_term_weight) (defBody s_term_weight) (defScope s_term_weight) [V.int 10] [] a d ∧ mg "term_weight" = some (.ref a) ∧ Binds K d p_term_weight [] ∧ ∃ v : List Value, Vals [V.int 10] v ∧ Binds K d p_term_weight v)
    (z_len : mg "len" = none)
    (z_isinstance : mg "isinstance" = none)
    (z_all : mg "all" = none)
    (z_any : mg "any" = none)
    (z_sum : mg "sum" = none)
    (z_max : mg "max" = none)
    (z_min : mg "min" = none)
    (z_int : mg "int" = none)
    (z_str : mg "str" = none)
    (z_list : mg "list" = none)
    (z_tuple : mg "tuple" = none)
    (z_dict : mg "dict" = none)
    (z_range : mg "range" = none)
    (z_enumerate : mg "enumerate" = none)
    (z_bool : mg "bool" = none)
    (i_WIDEST : ∃ t, mg "WIDEST" = some (.int 8 t))
    (i_MOST_TUPLES : ∃ t, mg "MOST_TUPLES" = some (.int 60 t))
    (i_DEEPEST_terms : ∃ t, mg "DEEPEST_terms" = some (.int 10 t))
    (i_LONGEST_NAME : ∃ t, mg "LONGEST_NAME" = some (.int 8 t))
    (i_FIELDS : ∃ t, mg "FIELDS" = some (.int 4 t))
    (i_MOST_SIGNALS : ∃ t, mg "MOST_SIGNALS" = some (.int 24 t))
    (i_MOST_WIRES : ∃ t, mg "MOST_WIRES" = some (.int 8 t))
    (i_MOST_BLOCKS : ∃ t, mg "MOST_BLOCKS" = some (.int 6 t))
    (i_MOST_STATEMENTS : ∃ t, mg "MOST_STATEMENTS" = some (.int 20 t))
    (i_DEEPEST_clashes : ∃ t, mg "DEEPEST_clashes" = some (.int 4 t))
    (i_LEAST_DRIVERS : ∃ t, mg "LEAST_DRIVERS" = some (.int 2 t))
    (i_MOST_DRIVERS : ∃ t, mg "MOST_DRIVERS" = some (.int 4 t))
    (i_SIGNS : ∃ t, mg "SIGNS" = some (.str "01xz" t))
    (i_LETTERS : ∃ t, mg "LETTERS" = some (.str "abcdefghijklmnopqrstuvwxyz" t))
    (i_FIGURES : ∃ t, mg "FIGURES" = some (.str "0123456789" t))
    (u_WORDS : ∃ f, mg "WORDS" = some (.ref f) ∧ ∀ H : Hp, SqT K H f (["not", "and", "or", "xor", "plus", "same", "less", "any", "all", "pick", "join", "part"].map fun x : String => V.str (Str.ofString x)))
    (u_OTHER_WORDS : ∃ f, mg "OTHER_WORDS" = some (.ref f) ∧ ∀ H : Hp, SqT K H f (["is", "of", "at", "filters", "later"].map fun x : String => V.str (Str.ofString x)))
    (u_SORTS : ∃ f, mg "SORTS" = some (.ref f) ∧ ∀ H : Hp, SqT K H f (["input", "wire", "filter", "bus", "kept"].map fun x : String => V.str (Str.ofString x)))
    (u_EDGES : ∃ f, mg "EDGES" = some (.ref f) ∧ ∀ H : Hp, SqT K H f (["rise", "fall"].map fun x : String => V.str (Str.ofString x)))
    (ar : ∃ (f : Addr) (es : Array DictEntry) (n : Nat) (t_not t_any t_all t_pick : Tok), mg "ARGUMENTS" = some (.ref f) ∧ KDict K w f es n ∧ PySem.W.nsIn K f "not" = some (some (.int 1 t_not)) ∧ PySem.W.nsIn K f "any" = some (some (.int 1 t_any)) ∧ PySem.W.nsIn K f "all" = some (some (.int 1 t_all)) ∧ PySem.W.nsIn K f "pick" = some (some (.int 3 t_pick)) ∧ PySem.W.nsIn K f "and" = some none ∧ PySem.W.nsIn K f "or" = some none ∧ PySem.W.nsIn K f "xor" = some none ∧ PySem.W.nsIn K f "plus" = some none ∧ PySem.W.nsIn K f "same" = some none ∧ PySem.W.nsIn K f "less" = some none ∧ PySem.W.nsIn K f "join" = some none)
    {aW aN aC aD : Addr} (C : ClsT K mg aW aN aC aD) (I : IniT K aC aD) :
    ∃ fd : FuncData, (∀ (s : Shared) (v : Value), BindsTo s fd ⟨[v], []⟩ [("_law_script", v)]) ∧ ∀ base : Heap, K.In base → base.Ns mainGlobals mg → FnOk l.prog w K mg base CX0 26 fa fd ["_law_script"] (spLaw K) := by
  obtain ⟨a_arguments_of, d_arguments_of, F_arguments_of, m_arguments_of, b_arguments_of⟩ := D_arguments_of
  obtain ⟨a_is_name, d_is_name, F_is_name, m_is_name, b_is_name⟩ := D_is_name
  obtain ⟨a_is_whole, d_is_whole, F_is_whole, m_is_whole, b_is_whole⟩ := D_is_whole
  obtain ⟨a_are_bounds, d_are_bounds, F_are_bounds, m_are_bounds, b_are_bounds⟩ := D_are_bounds
  obtain ⟨a_leaf_weight, d_leaf_weight, F_leaf_weight, m_leaf_weight, b_leaf_weight⟩ := D_leaf_weight
  obtain ⟨a_is_term, d_is_term, F_is_term, m_is_term, b_is_term⟩ := D_is_term
  obtain ⟨a_terms_in, d_terms_in, F_terms_in, m_terms_in, b_terms_in⟩ := D_terms_in
  obtain ⟨a_operated_width, d_operated_width, F_operated_width, m_operated_width, b_operated_width⟩ := D_operated_width
  obtain ⟨a_fitting_width, d_fitting_width, F_fitting_width, m_fitting_width, b_fitting_width⟩ := D_fitting_width
  obtain ⟨a_width_of, d_width_of, F_width_of, m_width_of, b_width_of⟩ := D_width_of
  obtain ⟨a_names_along, d_names_along, F_names_along, m_names_along, b_names_along⟩ := D_names_along
  obtain ⟨a_names_in, d_names_in, F_names_in, m_names_in, b_names_in⟩ := D_names_in
  obtain ⟨a_has_width, d_has_width, F_has_width, m_has_width, b_has_width⟩ := D_has_width
  obtain ⟨a_name_wrong, d_name_wrong, F_name_wrong, m_name_wrong, b_name_wrong⟩ := D_name_wrong
  obtain ⟨a_is_width, d_is_width, F_is_width, m_is_width, b_is_width⟩ := D_is_width
  obtain ⟨a_is_row, d_is_row, F_is_row, m_is_row, b_is_row⟩ := D_is_row
  obtain ⟨a_signal_wrong, d_signal_wrong, F_signal_wrong, m_signal_wrong, b_signal_wrong⟩ := D_signal_wrong
  obtain ⟨a_signals_wrong, d_signals_wrong, F_signals_wrong, m_signals_wrong, b_signals_wrong⟩ := D_signals_wrong
  obtain ⟨a_many_wrong, d_many_wrong, F_many_wrong, m_many_wrong, b_many_wrong⟩ := D_many_wrong
  obtain ⟨a_is_driver, d_is_driver, F_is_driver, m_is_driver, b_is_driver⟩ := D_is_driver
  obtain ⟨a_are_drivers, d_are_drivers, F_are_drivers, m_are_drivers, b_are_drivers⟩ := D_are_drivers
  obtain ⟨a_is_what, d_is_what, F_is_what, m_is_what, b_is_what⟩ := D_is_what
  obtain ⟨a_widths_of, d_widths_of, F_widths_of, m_widths_of, b_widths_of⟩ := D_widths_of
  obtain ⟨a_what_wrong, d_what_wrong, F_what_wrong, m_what_wrong, b_what_wrong⟩ := D_what_wrong
  obtain ⟨a_statement_weight, d_statement_weight, F_statement_weight, m_statement_weight, b_statement_weight⟩ := D_statement_weight
  obtain ⟨a_body_weight, d_body_weight, F_body_weight, m_body_weight, b_body_weight⟩ := D_body_weight
  obtain ⟨a_block_wrong, d_block_wrong, F_block_wrong, m_block_wrong, b_block_wrong⟩ := D_block_wrong
  obtain ⟨a_blocks_wrong, d_blocks_wrong, F_blocks_wrong, m_blocks_wrong, b_blocks_wrong⟩ := D_blocks_wrong
  obtain ⟨a_set_by, d_set_by, F_set_by, m_set_by, b_set_by⟩ := D_set_by
  obtain ⟨a_both_wrong, d_both_wrong, F_both_wrong, m_both_wrong, b_both_wrong⟩ := D_both_wrong
  obtain ⟨a_terms_of, d_terms_of, F_terms_of, m_terms_of, b_terms_of⟩ := D_terms_of
  obtain ⟨a_names_beside, d_names_beside, F_names_beside, m_names_beside, b_names_beside⟩ := D_names_beside
  obtain ⟨a_hangs_on, d_hangs_on, F_hangs_on, m_hangs_on, b_hangs_on⟩ := D_hangs_on
  obtain ⟨a_ring_wrong, d_ring_wrong, F_ring_wrong, m_ring_wrong, b_ring_wrong⟩ := D_ring_wrong
  obtain ⟨a_first_clash, d_first_clash, F_first_clash, m_first_clash, b_first_clash⟩ := D_first_clash
  obtain ⟨a__law_pot, d__law_pot, F__law_pot, m__law_pot, b__law_pot⟩ := D__law_pot
  obtain ⟨a__law_digit, d__law_digit, F__law_digit, m__law_digit, b__law_digit⟩ := D__law_digit
  obtain ⟨a__law_name, d__law_name, F__law_name, m__law_name, b__law_name⟩ := D__law_name
  obtain ⟨a__law_value, d__law_value, F__law_value, m__law_value, b__law_value⟩ := D__law_value
  obtain ⟨a__law_leaf, d__law_leaf, F__law_leaf, m__law_leaf, b__law_leaf⟩ := D__law_leaf
  obtain ⟨a__law_term, d__law_term, F__law_term, m__law_term, b__law_term⟩ := D__law_term
  obtain ⟨a__law_width, d__law_width, F__law_width, m__law_width, b__law_width⟩ := D__law_width
  obtain ⟨a__law_sources, d__law_sources, F__law_sources, m__law_sources, b__law_sources⟩ := D__law_sources
  obtain ⟨a__law_led, d__law_led, F__law_led, m__law_led, b__law_led⟩ := D__law_led
  obtain ⟨a__law_body, d__law_body, F__law_body, m__law_body, b__law_body⟩ := D__law_body
  obtain ⟨a__law_blocks, d__law_blocks, F__law_blocks, m__law_blocks, b__law_blocks⟩ := D__law_blocks
  obtain ⟨a__law_design, d__law_design, F__law_design, m__law_design, b__law_design⟩ := D__law_design
  obtain ⟨a__law_clash, d__law_clash, F__law_clash, m__law_clash, b__law_clash⟩ := D__law_clash
  obtain ⟨a__law_names, d__law_names, F__law_names, m__law_names, b__law_names⟩ := D__law_names
  obtain ⟨a__law_beside, d__law_beside, F__law_beside, m__law_beside, b__law_beside⟩ := D__law_beside
  obtain ⟨a__law_reached, d__law_reached, F__law_reached, m__law_reached, b__law_reached⟩ := D__law_reached
  obtain ⟨a__law_sets, d__law_sets, F__law_sets, m__law_sets, b__law_sets⟩ := D__law_sets
  obtain ⟨a__law_due, d__law_due, F__law_due, m__law_due, b__law_due⟩ := D__law_due
  obtain ⟨a__law_anew, d__law_anew, F__law_anew, m__law_anew, b__law_anew⟩ := D__law_anew
  obtain ⟨a__law_many, d__law_many, F__law_many, m__law_many, b__law_many⟩ := D__law_many
  obtain ⟨a__law_more_set, d__law_more_set, F__law_more_set, m__law_more_set, b__law_more_set⟩ := D__law_more_set
  obtain ⟨a_law, d_law, F_law, m_law, b_law⟩ := D_law
  obtain ⟨a_is_value, d_is_value, F_is_value, m_is_value, ⟨v_is_value, bv_is_value, bd_is_value⟩, kb_is_value⟩ := D_is_value
  obtain ⟨a_term_weight, d_term_weight, F_term_weight, m_term_weight, b_term_weight, v_term_weight, bv_term_weight, bd_term_weight⟩ := D_term_weight
  obtain ⟨t_WIDEST, m_WIDEST⟩ := i_WIDEST
  obtain ⟨t_MOST_TUPLES, m_MOST_TUPLES⟩ := i_MOST_TUPLES
  obtain ⟨t_DEEPEST_terms, m_DEEPEST_terms⟩ := i_DEEPEST_terms
  obtain ⟨t_LONGEST_NAME, m_LONGEST_NAME⟩ := i_LONGEST_NAME
  obtain ⟨t_FIELDS, m_FIELDS⟩ := i_FIELDS
  obtain ⟨t_MOST_SIGNALS, m_MOST_SIGNALS⟩ := i_MOST_SIGNALS
  obtain ⟨t_MOST_WIRES, m_MOST_WIRES⟩ := i_MOST_WIRES
  obtain ⟨t_MOST_BLOCKS, m_MOST_BLOCKS⟩ := i_MOST_BLOCKS
  obtain ⟨t_MOST_STATEMENTS, m_MOST_STATEMENTS⟩ := i_MOST_STATEMENTS
  obtain ⟨t_DEEPEST_clashes, m_DEEPEST_clashes⟩ := i_DEEPEST_clashes
  obtain ⟨t_LEAST_DRIVERS, m_LEAST_DRIVERS⟩ := i_LEAST_DRIVERS
  obtain ⟨t_MOST_DRIVERS, m_MOST_DRIVERS⟩ := i_MOST_DRIVERS
  obtain ⟨t_SIGNS, m_SIGNS⟩ := i_SIGNS
  obtain ⟨t_LETTERS, m_LETTERS⟩ := i_LETTERS
  obtain ⟨t_FIGURES, m_FIGURES⟩ := i_FIGURES
  obtain ⟨a_WORDS, m_WORDS, q_WORDS⟩ := u_WORDS
  obtain ⟨a_OTHER_WORDS, m_OTHER_WORDS, q_OTHER_WORDS⟩ := u_OTHER_WORDS
  obtain ⟨a_SORTS, m_SORTS, q_SORTS⟩ := u_SORTS
  obtain ⟨a_EDGES, m_EDGES, q_EDGES⟩ := u_EDGES
  obtain ⟨a_ARGUMENTS, es_ARGUMENTS, en_ARGUMENTS, tg_not, tg_any, tg_all, tg_pick, m_ARGUMENTS, kd_ARGUMENTS, g_not, g_any, g_all, g_pick, g_and, g_or, g_xor, g_plus, g_same, g_less, g_join⟩ := ar
  obtain ⟨a_ClashI, d_ClashI, a_DesignI, T0, d_DesignI, F_ClashI, b_ClashI, i_Clash, ti_Clash, F_DesignI, b_DesignI, mk_Design⟩ := I
  have e := hfa.symm.trans m_law
  cases e
  let T : TX K mg w := { a_is_value := a_is_value, d_is_value := d_is_value, F_is_value := F_is_value, m_is_value := m_is_value, a_arguments_of := a_arguments_of, d_arguments_of := d_arguments_of, F_arguments_of := F_arguments_of, m_arguments_of := m_arguments_of, b_arguments_of := b_arguments_of, a_is_name := a_is_name, d_is_name := d_is_name, F_is_name := F_is_name, m_is_name := m_is_name, b_is_name := b_is_name, a_is_whole := a_is_whole, d_is_whole := d_is_whole, F_is_whole := F_is_whole, m_is_whole := m_is_whole, b_is_whole := b_is_whole, a_are_bounds := a_are_bounds, d_are_bounds := d_are_bounds, F_are_bounds := F_are_bounds, m_are_bounds := m_are_bounds, b_are_bounds := b_are_bounds, a_leaf_weight := a_leaf_weight, d_leaf_weight := d_leaf_weight, F_leaf_weight := F_leaf_weight, m_leaf_weight := m_leaf_weight, b_leaf_weight := b_leaf_weight, a_term_weight := a_term_weight, d_term_weight := d_term_weight, F_term_weight := F_term_weight, m_term_weight := m_term_weight, b_term_weight := b_term_weight, a_is_term := a_is_term, d_is_term := d_is_term, F_is_term := F_is_term, m_is_term := m_is_term, b_is_term := b_is_term, a_terms_in := a_terms_in, d_terms_in := d_terms_in, F_terms_in := F_terms_in, m_terms_in := m_terms_in, b_terms_in := b_terms_in, a_operated_width := a_operated_width, d_operated_width := d_operated_width, F_operated_width := F_operated_width, m_operated_width := m_operated_width, b_operated_width := b_operated_width, a_fitting_width := a_fitting_width, d_fitting_width := d_fitting_width, F_fitting_width := F_fitting_width, m_fitting_width := m_fitting_width, b_fitting_width := b_fitting_width, a_width_of := a_width_of, d_width_of := d_width_of, F_width_of := F_width_of, m_width_of := m_width_of, b_width_of := b_width_of, a_names_along := a_names_along, d_names_along := d_names_along, F_names_along := F_names_along, m_names_along := m_names_along, b_names_along := b_names_along, a_names_in := a_names_in, d_names_in := d_names_in, F_names_in := F_names_in, m_names_in := m_names_in, b_names_in := b_names_in, a_has_width := a_has_width, d_has_width := d_has_width, F_has_width := F_has_width, m_has_width := m_has_width, b_has_width := b_has_width, a_name_wrong := a_name_wrong, d_name_wrong := d_name_wrong, F_name_wrong := F_name_wrong, m_name_wrong := m_name_wrong, b_name_wrong := b_name_wrong, a_is_width := a_is_width, d_is_width := d_is_width, F_is_width := F_is_width, m_is_width := m_is_width, b_is_width := b_is_width, a_is_row := a_is_row, d_is_row := d_is_row, F_is_row := F_is_row, m_is_row := m_is_row, b_is_row := b_is_row, a_signal_wrong := a_signal_wrong, d_signal_wrong := d_signal_wrong, F_signal_wrong := F_signal_wrong, m_signal_wrong := m_signal_wrong, b_signal_wrong := b_signal_wrong, a_signals_wrong := a_signals_wrong, d_signals_wrong := d_signals_wrong, F_signals_wrong := F_signals_wrong, m_signals_wrong := m_signals_wrong, b_signals_wrong := b_signals_wrong, a_many_wrong := a_many_wrong, d_many_wrong := d_many_wrong, F_many_wrong := F_many_wrong, m_many_wrong := m_many_wrong, b_many_wrong := b_many_wrong, a_is_driver := a_is_driver, d_is_driver := d_is_driver, F_is_driver := F_is_driver, m_is_driver := m_is_driver, b_is_driver := b_is_driver, a_are_drivers := a_are_drivers, d_are_drivers := d_are_drivers, F_are_drivers := F_are_drivers, m_are_drivers := m_are_drivers, b_are_drivers := b_are_drivers, a_is_what := a_is_what, d_is_what := d_is_what, F_is_what := F_is_what, m_is_what := m_is_what, b_is_what := b_is_what, a_widths_of := a_widths_of, d_widths_of := d_widths_of, F_widths_of := F_widths_of, m_widths_of := m_widths_of, b_widths_of := b_widths_of, a_what_wrong := a_what_wrong, d_what_wrong := d_what_wrong, F_what_wrong := F_what_wrong, m_what_wrong := m_what_wrong, b_what_wrong := b_what_wrong, a_statement_weight := a_statement_weight, d_statement_weight := d_statement_weight, F_statement_weight := F_statement_weight, m_statement_weight := m_statement_weight, b_statement_weight := b_statement_weight, a_body_weight := a_body_weight, d_body_weight := d_body_weight, F_body_weight := F_body_weight, m_body_weight := m_body_weight, b_body_weight := b_body_weight, a_block_wrong := a_block_wrong, d_block_wrong := d_block_wrong, F_block_wrong := F_block_wrong, m_block_wrong := m_block_wrong, b_block_wrong := b_block_wrong, a_blocks_wrong := a_blocks_wrong, d_blocks_wrong := d_blocks_wrong, F_blocks_wrong := F_blocks_wrong, m_blocks_wrong := m_blocks_wrong, b_blocks_wrong := b_blocks_wrong, a_set_by := a_set_by, d_set_by := d_set_by, F_set_by := F_set_by, m_set_by := m_set_by, b_set_by := b_set_by, a_both_wrong := a_both_wrong, d_both_wrong := d_both_wrong, F_both_wrong := F_both_wrong, m_both_wrong := m_both_wrong, b_both_wrong := b_both_wrong, a_terms_of := a_terms_of, d_terms_of := d_terms_of, F_terms_of := F_terms_of, m_terms_of := m_terms_of, b_terms_of := b_terms_of, a_names_beside := a_names_beside, d_names_beside := d_names_beside, F_names_beside := F_names_beside, m_names_beside := m_names_beside, b_names_beside := b_names_beside, a_hangs_on := a_hangs_on, d_hangs_on := d_hangs_on, F_hangs_on := F_hangs_on, m_hangs_on := m_hangs_on, b_hangs_on := b_hangs_on, a_ring_wrong := a_ring_wrong, d_ring_wrong := d_ring_wrong, F_ring_wrong := F_ring_wrong, m_ring_wrong := m_ring_wrong, b_ring_wrong := b_ring_wrong, a_first_clash := a_first_clash, d_first_clash := d_first_clash, F_first_clash := F_first_clash, m_first_clash := m_first_clash, b_first_clash := b_first_clash, a__law_pot := a__law_pot, d__law_pot := d__law_pot, F__law_pot := F__law_pot, m__law_pot := m__law_pot, b__law_pot := b__law_pot, a__law_digit := a__law_digit, d__law_digit := d__law_digit, F__law_digit := F__law_digit, m__law_digit := m__law_digit, b__law_digit := b__law_digit, a__law_name := a__law_name, d__law_name := d__law_name, F__law_name := F__law_name, m__law_name := m__law_name, b__law_name := b__law_name, a__law_value := a__law_value, d__law_value := d__law_value, F__law_value := F__law_value, m__law_value := m__law_value, b__law_value := b__law_value, a__law_leaf := a__law_leaf, d__law_leaf := d__law_leaf, F__law_leaf := F__law_leaf, m__law_leaf := m__law_leaf, b__law_leaf := b__law_leaf, a__law_term := a__law_term, d__law_term := d__law_term, F__law_term := F__law_term, m__law_term := m__law_term, b__law_term := b__law_term, a__law_width := a__law_width, d__law_width := d__law_width, F__law_width := F__law_width, m__law_width := m__law_width, b__law_width := b__law_width, a__law_sources := a__law_sources, d__law_sources := d__law_sources, F__law_sources := F__law_sources, m__law_sources := m__law_sources, b__law_sources := b__law_sources, a__law_led := a__law_led, d__law_led := d__law_led, F__law_led := F__law_led, m__law_led := m__law_led, b__law_led := b__law_led, a__law_body := a__law_body, d__law_body := d__law_body, F__law_body := F__law_body, m__law_body := m__law_body, b__law_body := b__law_body, a__law_blocks := a__law_blocks, d__law_blocks := d__law_blocks, F__law_blocks := F__law_blocks, m__law_blocks := m__law_blocks, b__law_blocks := b__law_blocks, a__law_design := a__law_design, d__law_design := d__law_design, F__law_design := F__law_design, m__law_design := m__law_design, b__law_design := b__law_design, a__law_clash := a__law_clash, d__law_clash := d__law_clash, F__law_clash := F__law_clash, m__law_clash := m__law_clash, b__law_clash := b__law_clash, a__law_names := a__law_names, d__law_names := d__law_names, F__law_names := F__law_names, m__law_names := m__law_names, b__law_names := b__law_names, a__law_beside := a__law_beside, d__law_beside := d__law_beside, F__law_beside := F__law_beside, m__law_beside := m__law_beside, b__law_beside := b__law_beside, a__law_reached := a__law_reached, d__law_reached := d__law_reached, F__law_reached := F__law_reached, m__law_reached := m__law_reached, b__law_reached := b__law_reached, a__law_sets := a__law_sets, d__law_sets := d__law_sets, F__law_sets := F__law_sets, m__law_sets := m__law_sets, b__law_sets := b__law_sets, a__law_due := a__law_due, d__law_due := d__law_due, F__law_due := F__law_due, m__law_due := m__law_due, b__law_due := b__law_due, a__law_anew := a__law_anew, d__law_anew := d__law_anew, F__law_anew := F__law_anew, m__law_anew := m__law_anew, b__law_anew := b__law_anew, a__law_many := a__law_many, d__law_many := d__law_many, F__law_many := F__law_many, m__law_many := m__law_many, b__law_many := b__law_many, a__law_more_set := a__law_more_set, d__law_more_set := d__law_more_set, F__law_more_set := F__law_more_set, m__law_more_set := m__law_more_set, b__law_more_set := b__law_more_set, a_law := fa, d_law := d_law, F_law := F_law, m_law := m_law, b_law := b_law, v_is_value := v_is_value, bv_is_value := bv_is_value, bd_is_value := bd_is_value, kb_is_value := kb_is_value, v_term_weight := v_term_weight, bv_term_weight := bv_term_weight, bd_term_weight := bd_term_weight, z_len := z_len, z_isinstance := z_isinstance, z_all := z_all, z_any := z_any, z_sum := z_sum, z_max := z_max, z_min := z_min, z_int := z_int, z_str := z_str, z_list := z_list, z_tuple := z_tuple, z_dict := z_dict, z_range := z_range, z_enumerate := z_enumerate, z_bool := z_bool, t_WIDEST := t_WIDEST, m_WIDEST := m_WIDEST, t_MOST_TUPLES := t_MOST_TUPLES, m_MOST_TUPLES := m_MOST_TUPLES, t_DEEPEST_terms := t_DEEPEST_terms, m_DEEPEST_terms := m_DEEPEST_terms, t_LONGEST_NAME := t_LONGEST_NAME, m_LONGEST_NAME := m_LONGEST_NAME, t_FIELDS := t_FIELDS, m_FIELDS := m_FIELDS, t_MOST_SIGNALS := t_MOST_SIGNALS, m_MOST_SIGNALS := m_MOST_SIGNALS, t_MOST_WIRES := t_MOST_WIRES, m_MOST_WIRES := m_MOST_WIRES, t_MOST_BLOCKS := t_MOST_BLOCKS, m_MOST_BLOCKS := m_MOST_BLOCKS, t_MOST_STATEMENTS := t_MOST_STATEMENTS, m_MOST_STATEMENTS := m_MOST_STATEMENTS, t_DEEPEST_clashes := t_DEEPEST_clashes, m_DEEPEST_clashes := m_DEEPEST_clashes, t_LEAST_DRIVERS := t_LEAST_DRIVERS, m_LEAST_DRIVERS := m_LEAST_DRIVERS, t_MOST_DRIVERS := t_MOST_DRIVERS, m_MOST_DRIVERS := m_MOST_DRIVERS, t_SIGNS := t_SIGNS, m_SIGNS := m_SIGNS, t_LETTERS := t_LETTERS, m_LETTERS := m_LETTERS, t_FIGURES := t_FIGURES, m_FIGURES := m_FIGURES, a_WORDS := a_WORDS, m_WORDS := m_WORDS, q_WORDS := q_WORDS, a_OTHER_WORDS := a_OTHER_WORDS, m_OTHER_WORDS := m_OTHER_WORDS, q_OTHER_WORDS := q_OTHER_WORDS, a_SORTS := a_SORTS, m_SORTS := m_SORTS, q_SORTS := q_SORTS, a_EDGES := a_EDGES, m_EDGES := m_EDGES, q_EDGES := q_EDGES, a_ARGUMENTS := a_ARGUMENTS, m_ARGUMENTS := m_ARGUMENTS, es_ARGUMENTS := es_ARGUMENTS, en_ARGUMENTS := en_ARGUMENTS, kd_ARGUMENTS := kd_ARGUMENTS, tg_not := tg_not, g_not := g_not, tg_any := tg_any, g_any := g_any, tg_all := tg_all, g_all := g_all, tg_pick := tg_pick, g_pick := g_pick, g_and := g_and, g_or := g_or, g_xor := g_xor, g_plus := g_plus, g_same := g_same, g_less := g_less, g_join := g_join, a_WireError := aW, m_WireError := C.mW, wg_WireError := C.wg, wr_WireError := C.wr, wi_WireError := C.wi, a_NoTerm := aN, m_NoTerm := C.mN, a_Clash := aC, m_Clash := C.mC, oex_Clash := C.oex, xf_Clash := C.xf, nk_Clash := C.nk, nw_Clash := C.nw, te_Clash := C.te, a_ClashI := a_ClashI, d_ClashI := d_ClashI, F_ClashI := F_ClashI, b_ClashI := b_ClashI, i_Clash := i_Clash, ti_Clash := ti_Clash, a_Design := aD, m_Design := C.mD, cl_Design := C.cl, n1_Design := C.n1, n2_Design := C.n2, n3_Design := C.n3, n4_Design := C.n4, a_DesignI := a_DesignI, d_DesignI := d_DesignI, T0 := T0, F_DesignI := F_DesignI, b_DesignI := b_DesignI, mk_Design := mk_Design }
  refine ⟨d_law, fun s v => ?_, fun base _ _ => all_law T⟩
  obtain ⟨oc, od, kV, doc, pm, an, cdv, ct, osl, e, _⟩ := F_law.ex
  subst e
  exact .of_eq rfl
theorem walk {l : PySem.W.OpenLaw} {q : Program} {loose : List Str} {XP : (Str → Option Value) → Heap → Prop} {YP : World → Heap → Prop} {d : DefRec} {K : Params → PySem.W.Frag} (hn : l.most = some 63) (hdf : d.params.defaults = [])
    (hY : ∀ (w : World) (h : Heap), YP w h → (K w.params).In h)
    (F : ∀ (w : World) (mg : Str → Option Value) (fa : Addr) (h : Heap), (K w.params).In h → h.Ns mainGlobals mg → mg d.name = some (.ref fa) →
      ∃ fd : FuncData, (∀ (s : Shared) (u : Value), BindsTo s fd ⟨[u], []⟩ [("_law_script", u)]) ∧ ∀ base : Heap, (K w.params).In base → base.Ns mainGlobals mg → FnOk l.prog w (K w.params) mg base CX0 26 fa fd ["_law_script"] (spLaw (K w.params))) :
    PySem.W.WalkO q loose XP YP l.row.toRowW d [] (fun f vs => PySem.call f vs) :=
  L2.walk_of (n := 63) (k := 26) (x := "_law_script") (CX := fun _ => CX0) (sp := fun w => spLaw (K w.params)) hn (by decide) hdf ⟨rfl, by decide, by decide⟩ hY F (fun _ _ a ns hl _ hS => ⟨a, ns, rfl, hS, fun _ => rfl⟩) fun _ _ _ _ _ z => z
end
end K34
open PySem PySem.W PyProof.Rows
set_option maxHeartbeats 0 in
theorem PySem.Challenge.cw_deltawires_k34_whole_both_ring_filter_holds : PySem.Challenge.rw_deltawires_k34_whole_both_ring_filter.Holds := by
  w_on; o_law; k_head; (case hw => w_witness2)
  k_fill
  refine K34.walk (l := PySem.Challenge.rw_deltawires_k34_whole_both_ring_filter) rfl rfl (fun w h Y => PySem.W.kIn_of Y) ?F
  case F =>
    intro w mg fa h KX G hmg
    refine' K34.cut2 (K34.def_mk (x := "arguments_of") (st := K34.s_arguments_of) (ps := K34.p_arguments_of) KX G (fun _ _ _ _ _ _ us hl => match us, hl with | [_], _ => rfl) ?a ?l ?c ?k) fun D_arguments_of => ?r_D_arguments_of
    (case a => k_is); (case l => k_is); (case c => k_is); (case k => k_is)
    refine' K34.cut2 (K34.def_mk (x := "is_name") (st := K34.s_is_name) (ps := K34.p_is_name) KX G (fun _ _ _ _ _ _ us hl => match us, hl with | [_], _ => rfl) ?a ?l ?c ?k) fun D_is_name => ?r_D_is_name
    (case a => k_is); (case l => k_is); (case c => k_is); (case k => k_is)
    refine' K34.cut2 (K34.def_mk (x := "is_whole") (st := K34.s_is_whole) (ps := K34.p_is_whole) KX G (fun _ _ _ _ _ _ us hl => match us, hl with | [_], _ => rfl) ?a ?l ?c ?k) fun D_is_whole => ?r_D_is_whole
    (case a => k_is); (case l => k_is); (case c => k_is); (case k => k_is)
    refine' K34.cut2 (K34.def_mk (x := "are_bounds") (st := K34.s_are_bounds) (ps := K34.p_are_bounds) KX G (fun _ _ _ _ _ _ us hl => match us, hl with | [_], _ => rfl) ?a ?l ?c ?k) fun D_are_bounds => ?r_D_are_bounds
    (case a => k_is); (case l => k_is); (case c => k_is); (case k => k_is)
    refine' K34.cut2 (K34.def_mk (x := "leaf_weight") (st := K34.s_leaf_weight) (ps := K34.p_leaf_weight) KX G (fun _ _ _ _ _ _ us hl => match us, hl with | [_, _], _ => rfl) ?a ?l ?c ?k) fun D_leaf_weight => ?r_D_leaf_weight
    (case a => k_is); (case l => k_is); (case c => k_is); (case k => k_is)
    refine' K34.cut2 (K34.def_mk (x := "is_term") (st := K34.s_is_term) (ps := K34.p_is_term) KX G (fun _ _ _ _ _ _ us hl => match us, hl with | [_], _ => rfl) ?a ?l ?c ?k) fun D_is_term => ?r_D_is_term
    (case a => k_is); (case l => k_is); (case c => k_is); (case k => k_is)
    refine' K34.cut2 (K34.def_mk (x := "terms_in") (st := K34.s_terms_in) (ps := K34.p_terms_in) KX G (fun _ _ _ _ _ _ us hl => match us, hl with | [_], _ => rfl) ?a ?l ?c ?k) fun D_terms_in => ?r_D_terms_in
    (case a => k_is); (case l => k_is); (case c => k_is); (case k => k_is)
    refine' K34.cut2 (K34.def_mk (x := "operated_width") (st := K34.s_operated_width) (ps := K34.p_operated_width) KX G (fun _ _ _ _ _ _ us hl => match us, hl with | [_, _], _ => rfl) ?a ?l ?c ?k) fun D_operated_width => ?r_D_operated_width
    (case a => k_is); (case l => k_is); (case c => k_is); (case k => k_is)
    refine' K34.cut2 (K34.def_mk (x := "fitting_width") (st := K34.s_fitting_width) (ps := K34.p_fitting_width) KX G (fun _ _ _ _ _ _ us hl => match us, hl with | [_, _], _ => rfl) ?a ?l ?c ?k) fun D_fitting_width => ?r_D_fitting_width
    (case a => k_is); (case l => k_is); (case c => k_is); (case k => k_is)
    refine' K34.cut2 (K34.def_mk (x := "width_of") (st := K34.s_width_of) (ps := K34.p_width_of) KX G (fun _ _ _ _ _ _ us hl => match us, hl with | [_, _], _ => rfl) ?a ?l ?c ?k) fun D_width_of => ?r_D_width_of
    (case a => k_is); (case l => k_is); (case c => k_is); (case k => k_is)
    refine' K34.cut2 (K34.def_mk (x := "names_along") (st := K34.s_names_along) (ps := K34.p_names_along) KX G (fun _ _ _ _ _ _ us hl => match us, hl with | [_], _ => rfl) ?a ?l ?c ?k) fun D_names_along => ?r_D_names_along
    (case a => k_is); (case l => k_is); (case c => k_is); (case k => k_is)
    refine' K34.cut2 (K34.def_mk (x := "names_in") (st := K34.s_names_in) (ps := K34.p_names_in) KX G (fun _ _ _ _ _ _ us hl => match us, hl with | [_], _ => rfl) ?a ?l ?c ?k) fun D_names_in => ?r_D_names_in
    (case a => k_is); (case l => k_is); (case c => k_is); (case k => k_is)
    refine' K34.cut2 (K34.def_mk (x := "has_width") (st := K34.s_has_width) (ps := K34.p_has_width) KX G (fun _ _ _ _ _ _ us hl => match us, hl with | [_, _, _], _ => rfl) ?a ?l ?c ?k) fun D_has_width => ?r_D_has_width
    (case a => k_is); (case l => k_is); (case c => k_is); (case k => k_is)
    refine' K34.cut2 (K34.def_mk (x := "name_wrong") (st := K34.s_name_wrong) (ps := K34.p_name_wrong) KX G (fun _ _ _ _ _ _ us hl => match us, hl with | [_, _, _], _ => rfl) ?a ?l ?c ?k) fun D_name_wrong => ?r_D_name_wrong
    (case a => k_is); (case l => k_is); (case c => k_is); (case k => k_is)
    refine' K34.cut2 (K34.def_mk (x := "is_width") (st := K34.s_is_width) (ps := K34.p_is_width) KX G (fun _ _ _ _ _ _ us hl => match us, hl with | [_], _ => rfl) ?a ?l ?c ?k) fun D_is_width => ?r_D_is_width
    (case a => k_is); (case l => k_is); (case c => k_is); (case k => k_is)
    refine' K34.cut2 (K34.def_mk (x := "is_row") (st := K34.s_is_row) (ps := K34.p_is_row) KX G (fun _ _ _ _ _ _ us hl => match us, hl with | [_], _ => rfl) ?a ?l ?c ?k) fun D_is_row => ?r_D_is_row
    (case a => k_is); (case l => k_is); (case c => k_is); (case k => k_is)
    refine' K34.cut2 (K34.def_mk (x := "signal_wrong") (st := K34.s_signal_wrong) (ps := K34.p_signal_wrong) KX G (fun _ _ _ _ _ _ us hl => match us, hl with | [_, _, _], _ => rfl) ?a ?l ?c ?k) fun D_signal_wrong => ?r_D_signal_wrong
    (case a => k_is); (case l => k_is); (case c => k_is); (case k => k_is)
    refine' K34.cut2 (K34.def_mk (x := "signals_wrong") (st := K34.s_signals_wrong) (ps := K34.p_signals_wrong) KX G (fun _ _ _ _ _ _ us hl => match us, hl with | [_], _ => rfl) ?a ?l ?c ?k) fun D_signals_wrong => ?r_D_signals_wrong
    (case a => k_is); (case l => k_is); (case c => k_is); (case k => k_is)
    refine' K34.cut2 (K34.def_mk (x := "many_wrong") (st := K34.s_many_wrong) (ps := K34.p_many_wrong) KX G (fun _ _ _ _ _ _ us hl => match us, hl with | [_, _], _ => rfl) ?a ?l ?c ?k) fun D_many_wrong => ?r_D_many_wrong
    (case a => k_is); (case l => k_is); (case c => k_is); (case k => k_is)
    refine' K34.cut2 (K34.def_mk (x := "is_driver") (st := K34.s_is_driver) (ps := K34.p_is_driver) KX G (fun _ _ _ _ _ _ us hl => match us, hl with | [_, _, _], _ => rfl) ?a ?l ?c ?k) fun D_is_driver => ?r_D_is_driver
    (case a => k_is); (case l => k_is); (case c => k_is); (case k => k_is)
    refine' K34.cut2 (K34.def_mk (x := "are_drivers") (st := K34.s_are_drivers) (ps := K34.p_are_drivers) KX G (fun _ _ _ _ _ _ us hl => match us, hl with | [_, _, _], _ => rfl) ?a ?l ?c ?k) fun D_are_drivers => ?r_D_are_drivers
    (case a => k_is); (case l => k_is); (case c => k_is); (case k => k_is)
    refine' K34.cut2 (K34.def_mk (x := "is_what") (st := K34.s_is_what) (ps := K34.p_is_what) KX G (fun _ _ _ _ _ _ us hl => match us, hl with | [_, _], _ => rfl) ?a ?l ?c ?k) fun D_is_what => ?r_D_is_what
    (case a => k_is); (case l => k_is); (case c => k_is); (case k => k_is)
    refine' K34.cut2 (K34.def_mk (x := "widths_of") (st := K34.s_widths_of) (ps := K34.p_widths_of) KX G (fun _ _ _ _ _ _ us hl => match us, hl with | [_], _ => rfl) ?a ?l ?c ?k) fun D_widths_of => ?r_D_widths_of
    (case a => k_is); (case l => k_is); (case c => k_is); (case k => k_is)
    refine' K34.cut2 (K34.def_mk (x := "what_wrong") (st := K34.s_what_wrong) (ps := K34.p_what_wrong) KX G (fun _ _ _ _ _ _ us hl => match us, hl with | [_], _ => rfl) ?a ?l ?c ?k) fun D_what_wrong => ?r_D_what_wrong
    (case a => k_is); (case l => k_is); (case c => k_is); (case k => k_is)
    refine' K34.cut2 (K34.def_mk (x := "statement_weight") (st := K34.s_statement_weight) (ps := K34.p_statement_weight) KX G (fun _ _ _ _ _ _ us hl => match us, hl with | [_, _, _, _], _ => rfl) ?a ?l ?c ?k) fun D_statement_weight => ?r_D_statement_weight
    (case a => k_is); (case l => k_is); (case c => k_is); (case k => k_is)
    refine' K34.cut2 (K34.def_mk (x := "body_weight") (st := K34.s_body_weight) (ps := K34.p_body_weight) KX G (fun _ _ _ _ _ _ us hl => match us, hl with | [_, _, _, _], _ => rfl) ?a ?l ?c ?k) fun D_body_weight => ?r_D_body_weight
    (case a => k_is); (case l => k_is); (case c => k_is); (case k => k_is)
    refine' K34.cut2 (K34.def_mk (x := "block_wrong") (st := K34.s_block_wrong) (ps := K34.p_block_wrong) KX G (fun _ _ _ _ _ _ us hl => match us, hl with | [_, _, _, _], _ => rfl) ?a ?l ?c ?k) fun D_block_wrong => ?r_D_block_wrong
    (case a => k_is); (case l => k_is); (case c => k_is); (case k => k_is)
    refine' K34.cut2 (K34.def_mk (x := "blocks_wrong") (st := K34.s_blocks_wrong) (ps := K34.p_blocks_wrong) KX G (fun _ _ _ _ _ _ us hl => match us, hl with | [_, _], _ => rfl) ?a ?l ?c ?k) fun D_blocks_wrong => ?r_D_blocks_wrong
    (case a => k_is); (case l => k_is); (case c => k_is); (case k => k_is)
    refine' K34.cut2 (K34.def_mk (x := "set_by") (st := K34.s_set_by) (ps := K34.p_set_by) KX G (fun _ _ _ _ _ _ us hl => match us, hl with | [_, _], _ => rfl) ?a ?l ?c ?k) fun D_set_by => ?r_D_set_by
    (case a => k_is); (case l => k_is); (case c => k_is); (case k => k_is)
    refine' K34.cut2 (K34.def_mk (x := "both_wrong") (st := K34.s_both_wrong) (ps := K34.p_both_wrong) KX G (fun _ _ _ _ _ _ us hl => match us, hl with | [_, _], _ => rfl) ?a ?l ?c ?k) fun D_both_wrong => ?r_D_both_wrong
    (case a => k_is); (case l => k_is); (case c => k_is); (case k => k_is)
    refine' K34.cut2 (K34.def_mk (x := "terms_of") (st := K34.s_terms_of) (ps := K34.p_terms_of) KX G (fun _ _ _ _ _ _ us hl => match us, hl with | [_], _ => rfl) ?a ?l ?c ?k) fun D_terms_of => ?r_D_terms_of
    (case a => k_is); (case l => k_is); (case c => k_is); (case k => k_is)
    refine' K34.cut2 (K34.def_mk (x := "names_beside") (st := K34.s_names_beside) (ps := K34.p_names_beside) KX G (fun _ _ _ _ _ _ us hl => match us, hl with | [_], _ => rfl) ?a ?l ?c ?k) fun D_names_beside => ?r_D_names_beside
    (case a => k_is); (case l => k_is); (case c => k_is); (case k => k_is)
    refine' K34.cut2 (K34.def_mk (x := "hangs_on") (st := K34.s_hangs_on) (ps := K34.p_hangs_on) KX G (fun _ _ _ _ _ _ us hl => match us, hl with | [_, _], _ => rfl) ?a ?l ?c ?k) fun D_hangs_on => ?r_D_hangs_on
    (case a => k_is); (case l => k_is); (case c => k_is); (case k => k_is)
    refine' K34.cut2 (K34.def_mk (x := "ring_wrong") (st := K34.s_ring_wrong) (ps := K34.p_ring_wrong) KX G (fun _ _ _ _ _ _ us hl => match us, hl with | [_], _ => rfl) ?a ?l ?c ?k) fun D_ring_wrong => ?r_D_ring_wrong
    (case a => k_is); (case l => k_is); (case c => k_is); (case k => k_is)
    refine' K34.cut2 (K34.def_mk (x := "first_clash") (st := K34.s_first_clash) (ps := K34.p_first_clash) KX G (fun _ _ _ _ _ _ us hl => match us, hl with | [_, _], _ => rfl) ?a ?l ?c ?k) fun D_first_clash => ?r_D_first_clash
    (case a => k_is); (case l => k_is); (case c => k_is); (case k => k_is)
    refine' K34.cut2 (K34.def_mk (x := "_law_pot") (st := K34.s__law_pot) (ps := K34.p__law_pot) KX G (fun _ _ _ _ _ _ us hl => match us, hl with | [_, _], _ => rfl) ?a ?l ?c ?k) fun D__law_pot => ?r_D__law_pot
    (case a => k_is); (case l => k_is); (case c => k_is); (case k => k_is)
    refine' K34.cut2 (K34.def_mk (x := "_law_digit") (st := K34.s__law_digit) (ps := K34.p__law_digit) KX G (fun _ _ _ _ _ _ us hl => match us, hl with | [_, _], _ => rfl) ?a ?l ?c ?k) fun D__law_digit => ?r_D__law_digit
    (case a => k_is); (case l => k_is); (case c => k_is); (case k => k_is)
    refine' K34.cut2 (K34.def_mk (x := "_law_name") (st := K34.s__law_name) (ps := K34.p__law_name) KX G (fun _ _ _ _ _ _ us hl => match us, hl with | [_, _], _ => rfl) ?a ?l ?c ?k) fun D__law_name => ?r_D__law_name
    (case a => k_is); (case l => k_is); (case c => k_is); (case k => k_is)
    refine' K34.cut2 (K34.def_mk (x := "_law_value") (st := K34.s__law_value) (ps := K34.p__law_value) KX G (fun _ _ _ _ _ _ us hl => match us, hl with | [_, _, _], _ => rfl) ?a ?l ?c ?k) fun D__law_value => ?r_D__law_value
    (case a => k_is); (case l => k_is); (case c => k_is); (case k => k_is)
    refine' K34.cut2 (K34.def_mk (x := "_law_leaf") (st := K34.s__law_leaf) (ps := K34.p__law_leaf) KX G (fun _ _ _ _ _ _ us hl => match us, hl with | [_, _, _], _ => rfl) ?a ?l ?c ?k) fun D__law_leaf => ?r_D__law_leaf
    (case a => k_is); (case l => k_is); (case c => k_is); (case k => k_is)
    refine' K34.cut2 (K34.def_mk (x := "_law_term") (st := K34.s__law_term) (ps := K34.p__law_term) KX G (fun _ _ _ _ _ _ us hl => match us, hl with | [_, _, _, _], _ => rfl) ?a ?l ?c ?k) fun D__law_term => ?r_D__law_term
    (case a => k_is); (case l => k_is); (case c => k_is); (case k => k_is)
    refine' K34.cut2 (K34.def_mk (x := "_law_width") (st := K34.s__law_width) (ps := K34.p__law_width) KX G (fun _ _ _ _ _ _ us hl => match us, hl with | [_], _ => rfl) ?a ?l ?c ?k) fun D__law_width => ?r_D__law_width
    (case a => k_is); (case l => k_is); (case c => k_is); (case k => k_is)
    refine' K34.cut2 (K34.def_mk (x := "_law_sources") (st := K34.s__law_sources) (ps := K34.p__law_sources) KX G (fun _ _ _ _ _ _ us hl => match us, hl with | [_, _], _ => rfl) ?a ?l ?c ?k) fun D__law_sources => ?r_D__law_sources
    (case a => k_is); (case l => k_is); (case c => k_is); (case k => k_is)
    refine' K34.cut2 (K34.def_mk (x := "_law_led") (st := K34.s__law_led) (ps := K34.p__law_led) KX G (fun _ _ _ _ _ _ us hl => match us, hl with | [_, _, _, _, _], _ => rfl) ?a ?l ?c ?k) fun D__law_led => ?r_D__law_led
    (case a => k_is); (case l => k_is); (case c => k_is); (case k => k_is)
    refine' K34.cut2 (K34.def_mk (x := "_law_body") (st := K34.s__law_body) (ps := K34.p__law_body) KX G (fun _ _ _ _ _ _ us hl => match us, hl with | [_, _, _, _, _], _ => rfl) ?a ?l ?c ?k) fun D__law_body => ?r_D__law_body
    (case a => k_is); (case l => k_is); (case c => k_is); (case k => k_is)
    refine' K34.cut2 (K34.def_mk (x := "_law_blocks") (st := K34.s__law_blocks) (ps := K34.p__law_blocks) KX G (fun _ _ _ _ _ _ us hl => match us, hl with | [_, _, _], _ => rfl) ?a ?l ?c ?k) fun D__law_blocks => ?r_D__law_blocks
    (case a => k_is); (case l => k_is); (case c => k_is); (case k => k_is)
    refine' K34.cut2 (K34.def_mk (x := "_law_design") (st := K34.s__law_design) (ps := K34.p__law_design) KX G (fun _ _ _ _ _ _ us hl => match us, hl with | [_], _ => rfl) ?a ?l ?c ?k) fun D__law_design => ?r_D__law_design
    (case a => k_is); (case l => k_is); (case c => k_is); (case k => k_is)
    refine' K34.cut2 (K34.def_mk (x := "_law_clash") (st := K34.s__law_clash) (ps := K34.p__law_clash) KX G (fun _ _ _ _ _ _ us hl => match us, hl with | [_, _], _ => rfl) ?a ?l ?c ?k) fun D__law_clash => ?r_D__law_clash
    (case a => k_is); (case l => k_is); (case c => k_is); (case k => k_is)
    refine' K34.cut2 (K34.def_mk (x := "_law_names") (st := K34.s__law_names) (ps := K34.p__law_names) KX G (fun _ _ _ _ _ _ us hl => match us, hl with | [_], _ => rfl) ?a ?l ?c ?k) fun D__law_names => ?r_D__law_names
    (case a => k_is); (case l => k_is); (case c => k_is); (case k => k_is)
    refine' K34.cut2 (K34.def_mk (x := "_law_beside") (st := K34.s__law_beside) (ps := K34.p__law_beside) KX G (fun _ _ _ _ _ _ us hl => match us, hl with | [_], _ => rfl) ?a ?l ?c ?k) fun D__law_beside => ?r_D__law_beside
    (case a => k_is); (case l => k_is); (case c => k_is); (case k => k_is)
    refine' K34.cut2 (K34.def_mk (x := "_law_reached") (st := K34.s__law_reached) (ps := K34.p__law_reached) KX G (fun _ _ _ _ _ _ us hl => match us, hl with | [_, _], _ => rfl) ?a ?l ?c ?k) fun D__law_reached => ?r_D__law_reached
    (case a => k_is); (case l => k_is); (case c => k_is); (case k => k_is)
    refine' K34.cut2 (K34.def_mk (x := "_law_sets") (st := K34.s__law_sets) (ps := K34.p__law_sets) KX G (fun _ _ _ _ _ _ us hl => match us, hl with | [_, _], _ => rfl) ?a ?l ?c ?k) fun D__law_sets => ?r_D__law_sets
    (case a => k_is); (case l => k_is); (case c => k_is); (case k => k_is)
    refine' K34.cut2 (K34.def_mk (x := "_law_due") (st := K34.s__law_due) (ps := K34.p__law_due) KX G (fun _ _ _ _ _ _ us hl => match us, hl with | [_, _], _ => rfl) ?a ?l ?c ?k) fun D__law_due => ?r_D__law_due
    (case a => k_is); (case l => k_is); (case c => k_is); (case k => k_is)
    refine' K34.cut2 (K34.def_mk (x := "_law_anew") (st := K34.s__law_anew) (ps := K34.p__law_anew) KX G (fun _ _ _ _ _ _ us hl => match us, hl with | [_, _], _ => rfl) ?a ?l ?c ?k) fun D__law_anew => ?r_D__law_anew
    (case a => k_is); (case l => k_is); (case c => k_is); (case k => k_is)
    refine' K34.cut2 (K34.def_mk (x := "_law_many") (st := K34.s__law_many) (ps := K34.p__law_many) KX G (fun _ _ _ _ _ _ us hl => match us, hl with | [_], _ => rfl) ?a ?l ?c ?k) fun D__law_many => ?r_D__law_many
    (case a => k_is); (case l => k_is); (case c => k_is); (case k => k_is)
    refine' K34.cut2 (K34.def_mk (x := "_law_more_set") (st := K34.s__law_more_set) (ps := K34.p__law_more_set) KX G (fun _ _ _ _ _ _ us hl => match us, hl with | [_, _, _], _ => rfl) ?a ?l ?c ?k) fun D__law_more_set => ?r_D__law_more_set
    (case a => k_is); (case l => k_is); (case c => k_is); (case k => k_is)
    refine' K34.cut2 (K34.def_mk (x := "law") (st := K34.s_law) (ps := K34.p_law) KX G (fun _ _ _ _ _ _ us hl => match us, hl with | [_], _ => rfl) ?a ?l ?c ?k) fun D_law => ?r_D_law
    (case a => k_is); (case l => k_is); (case c => k_is); (case k => k_is)
    refine' K34.cut2 (K34.isv_mk KX G ?a ?l ?c ?k ?kd) fun D_is_value => ?r_D_is_value
    (case a => k_is); (case l => k_is); (case c => k_is); (case k => k_is); (case kd => k_is)
    refine' K34.cut2 (K34.tw_mk KX G ?a ?l ?c ?k ?lT) fun D_term_weight => ?r_D_term_weight
    (case a => k_is); (case l => k_is); (case c => k_is); (case k => k_is); (case lT => k_is)
    refine' K34.cut2 (PySem.W.mg_none_of (n := "len") KX G ?a) fun z_len => ?r_z_len
    (case a => k_is)
    refine' K34.cut2 (PySem.W.mg_none_of (n := "isinstance") KX G ?a) fun z_isinstance => ?r_z_isinstance
    (case a => k_is)
    refine' K34.cut2 (PySem.W.mg_none_of (n := "all") KX G ?a) fun z_all => ?r_z_all
    (case a => k_is)
    refine' K34.cut2 (PySem.W.mg_none_of (n := "any") KX G ?a) fun z_any => ?r_z_any
    (case a => k_is)
    refine' K34.cut2 (PySem.W.mg_none_of (n := "sum") KX G ?a) fun z_sum => ?r_z_sum
    (case a => k_is)
    refine' K34.cut2 (PySem.W.mg_none_of (n := "max") KX G ?a) fun z_max => ?r_z_max
    (case a => k_is)
    refine' K34.cut2 (PySem.W.mg_none_of (n := "min") KX G ?a) fun z_min => ?r_z_min
    (case a => k_is)
    refine' K34.cut2 (PySem.W.mg_none_of (n := "int") KX G ?a) fun z_int => ?r_z_int
    (case a => k_is)
    refine' K34.cut2 (PySem.W.mg_none_of (n := "str") KX G ?a) fun z_str => ?r_z_str
    (case a => k_is)
    refine' K34.cut2 (PySem.W.mg_none_of (n := "list") KX G ?a) fun z_list => ?r_z_list
    (case a => k_is)
    refine' K34.cut2 (PySem.W.mg_none_of (n := "tuple") KX G ?a) fun z_tuple => ?r_z_tuple
    (case a => k_is)
    refine' K34.cut2 (PySem.W.mg_none_of (n := "dict") KX G ?a) fun z_dict => ?r_z_dict
    (case a => k_is)
    refine' K34.cut2 (PySem.W.mg_none_of (n := "range") KX G ?a) fun z_range => ?r_z_range
    (case a => k_is)
    refine' K34.cut2 (PySem.W.mg_none_of (n := "enumerate") KX G ?a) fun z_enumerate => ?r_z_enumerate
    (case a => k_is)
    refine' K34.cut2 (PySem.W.mg_none_of (n := "bool") KX G ?a) fun z_bool => ?r_z_bool
    (case a => k_is)
    refine' K34.cut2 (K34.int_mk (x := "WIDEST") (v := 8) KX G ?a) fun i_WIDEST => ?r_i_WIDEST
    (case a => k_is)
    refine' K34.cut2 (K34.int_mk (x := "MOST_TUPLES") (v := 60) KX G ?a) fun i_MOST_TUPLES => ?r_i_MOST_TUPLES
    (case a => k_is)
    refine' K34.cut2 (K34.int_mk (x := "DEEPEST_terms") (v := 10) KX G ?a) fun i_DEEPEST_terms => ?r_i_DEEPEST_terms
    (case a => k_is)
    refine' K34.cut2 (K34.int_mk (x := "LONGEST_NAME") (v := 8) KX G ?a) fun i_LONGEST_NAME => ?r_i_LONGEST_NAME
    (case a => k_is)
    refine' K34.cut2 (K34.int_mk (x := "FIELDS") (v := 4) KX G ?a) fun i_FIELDS => ?r_i_FIELDS
    (case a => k_is)
    refine' K34.cut2 (K34.int_mk (x := "MOST_SIGNALS") (v := 24) KX G ?a) fun i_MOST_SIGNALS => ?r_i_MOST_SIGNALS
    (case a => k_is)
    refine' K34.cut2 (K34.int_mk (x := "MOST_WIRES") (v := 8) KX G ?a) fun i_MOST_WIRES => ?r_i_MOST_WIRES
    (case a => k_is)
    refine' K34.cut2 (K34.int_mk (x := "MOST_BLOCKS") (v := 6) KX G ?a) fun i_MOST_BLOCKS => ?r_i_MOST_BLOCKS
    (case a => k_is)
    refine' K34.cut2 (K34.int_mk (x := "MOST_STATEMENTS") (v := 20) KX G ?a) fun i_MOST_STATEMENTS => ?r_i_MOST_STATEMENTS
    (case a => k_is)
    refine' K34.cut2 (K34.int_mk (x := "DEEPEST_clashes") (v := 4) KX G ?a) fun i_DEEPEST_clashes => ?r_i_DEEPEST_clashes
    (case a => k_is)
    refine' K34.cut2 (K34.int_mk (x := "LEAST_DRIVERS") (v := 2) KX G ?a) fun i_LEAST_DRIVERS => ?r_i_LEAST_DRIVERS
    (case a => k_is)
    refine' K34.cut2 (K34.int_mk (x := "MOST_DRIVERS") (v := 4) KX G ?a) fun i_MOST_DRIVERS => ?r_i_MOST_DRIVERS
    (case a => k_is)
    refine' K34.cut2 (K34.str_mk (x := "SIGNS") (v := "01xz") KX G ?a) fun i_SIGNS => ?r_i_SIGNS
    (case a => k_is)
    refine' K34.cut2 (K34.str_mk (x := "LETTERS") (v := "abcdefghijklmnopqrstuvwxyz") KX G ?a) fun i_LETTERS => ?r_i_LETTERS
    (case a => k_is)
    refine' K34.cut2 (K34.str_mk (x := "FIGURES") (v := "0123456789") KX G ?a) fun i_FIGURES => ?r_i_FIGURES
    (case a => k_is)
    refine' K34.cut2 (K34.tup_mk (x := "WORDS") (vs := ["not", "and", "or", "xor", "plus", "same", "less", "any", "all", "pick", "join", "part"].map fun x : String => L2.V.str (Str.ofString x)) KX G ?a ?l ?hz ?hv) fun u_WORDS => ?r_u_WORDS
    (case a => k_is); (case l => k_is); (case hz => decide); (case hv => repeat (first | exact .nil | refine .cons ⟨_, rfl⟩ ?_))
    refine' K34.cut2 (K34.tup_mk (x := "OTHER_WORDS") (vs := ["is", "of", "at", "filters", "later"].map fun x : String => L2.V.str (Str.ofString x)) KX G ?a ?l ?hz ?hv) fun u_OTHER_WORDS => ?r_u_OTHER_WORDS
    (case a => k_is); (case l => k_is); (case hz => decide); (case hv => repeat (first | exact .nil | refine .cons ⟨_, rfl⟩ ?_))
    refine' K34.cut2 (K34.tup_mk (x := "SORTS") (vs := ["input", "wire", "filter", "bus", "kept"].map fun x : String => L2.V.str (Str.ofString x)) KX G ?a ?l ?hz ?hv) fun u_SORTS => ?r_u_SORTS
    (case a => k_is); (case l => k_is); (case hz => decide); (case hv => repeat (first | exact .nil | refine .cons ⟨_, rfl⟩ ?_))
    refine' K34.cut2 (K34.tup_mk (x := "EDGES") (vs := ["rise", "fall"].map fun x : String => L2.V.str (Str.ofString x)) KX G ?a ?l ?hz ?hv) fun u_EDGES => ?r_u_EDGES
    (case a => k_is); (case l => k_is); (case hz => decide); (case hv => repeat (first | exact .nil | refine .cons ⟨_, rfl⟩ ?_))
    refine' K34.cut2 (K34.args_mk (w := w) KX G ?a ?l ?k ?lo ?g_not ?g_any ?g_all ?g_pick ?g_and ?g_or ?g_xor ?g_plus ?g_same ?g_less ?g_join) fun ar => ?r_ar
    (case a => k_is); (case l => k_is); (case k => k_keys); (case lo => decide); (case g_not => k_is); (case g_any => k_is); (case g_all => k_is); (case g_pick => k_is); (case g_and => k_is); (case g_or => k_is); (case g_xor => k_is); (case g_plus => k_is); (case g_same => k_is); (case g_less => k_is); (case g_join => k_is)
    refine' K34.cut2 (K34.cls_mk KX G ?mW ?wg ?wr ?wi ?mN ?mC ?lC ?ox ?sa ?ex ?ty ?kC ?xg ?xh ?xd ?nk ?nw ?te ?mD ?pg ?hd ?po ?sd ?n1 ?n2 ?n3 ?n4) fun C => ?r_C
    (case mW => k_is); (case wg => k_is); (case wr => k_is); (case wi => k_is); (case mN => k_is); (case mC => k_is); (case lC => k_is); (case ox => decide +kernel); (case sa => k_is); (case ex => k_is); (case ty => k_is); (case kC => k_is); (case xg => k_is); (case xh => k_is); (case xd => k_is); (case nk => k_is); (case nw => k_is); (case te => k_is); (case mD => k_is); (case pg => k_is); (case hd => k_is); (case po => k_is); (case sd => k_is); (case n1 => k_is); (case n2 => k_is); (case n3 => k_is); (case n4 => k_is)
    refine K34.all_mk hmg D_arguments_of D_is_name D_is_whole D_are_bounds D_leaf_weight D_is_term D_terms_in D_operated_width D_fitting_width D_width_of D_names_along D_names_in D_has_width D_name_wrong D_is_width D_is_row D_signal_wrong D_signals_wrong D_many_wrong D_is_driver D_are_drivers D_is_what D_widths_of D_what_wrong D_statement_weight D_body_weight D_block_wrong D_blocks_wrong D_set_by D_both_wrong D_terms_of D_names_beside D_hangs_on D_ring_wrong D_first_clash D__law_pot D__law_digit D__law_name D__law_value D__law_leaf D__law_term D__law_width D__law_sources D__law_led D__law_body D__law_blocks D__law_design D__law_clash D__law_names D__law_beside D__law_reached D__law_sets D__law_due D__law_anew D__law_many D__law_more_set D_law D_is_value D_term_weight z_len z_isinstance z_all z_any z_sum z_max z_min z_int z_str z_list z_tuple z_dict z_range z_enumerate z_bool i_WIDEST i_MOST_TUPLES i_DEEPEST_terms i_LONGEST_NAME i_FIELDS i_MOST_SIGNALS i_MOST_WIRES i_MOST_BLOCKS i_MOST_STATEMENTS i_DEEPEST_clashes i_LEAST_DRIVERS i_MOST_DRIVERS i_SIGNS i_LETTERS i_FIGURES u_WORDS u_OTHER_WORDS u_SORTS u_EDGES ar C ?_
    refine' K34.ini_mk ?i ?l ?c ?k ?ti ?ig ?lg ?cg ?kg ?lT ?mk ?fg ?kD
    (case i => k_is); (case l => k_is); (case c => k_is); (case k => k_is); (case ti => k_is); (case ig => k_is); (case lg => k_is); (case cg => k_is); (case kg => k_is); (case lT => k_is); (case mk => k_is); (case fg => k_is); (case kD => k_is)
