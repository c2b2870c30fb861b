import PyProof.Rows.All
import Wide.All
import OpenK.AllK
import Wide.FinOn
import KE.KStateDown
import HandS.ForMost
import HandS.Flow
import HandS.SortInts
import HandS.Wide
import HandS.Deep
import HandS.TryMany
import HandS.SuiteRaise
import HandS.ExcInit
import HandS.ExcIs
import HandS.IsInst
import HandS.TupAny
import HandS.CallSlots
import HandS.CallLocal
import HandS.EndBits
import HandS.WordsExc
import HandS.Style
import HandS.Strs
import HandS.WrittenGet
import HandS.Flt
import KE.GoesNew
import KE.GoesMore
import HandS.SetTxtIn
import HandS.Zip
import HandS.More
import HandS.Defaults
import HandS.Head0
import HandS.Head1
import HandS.Head2
import HandS.HeadEnd
import HandS.HeadHook1
import HandS.HeadHook2
import HandS.HeadHook3
import PySem.Challenge.RW_inkyears_k02_inks
set_option Elab.async false
set_option linter.all false
set_option maxRecDepth 100000
set_option maxHeartbeats 4000000
namespace VI
open PySem PySem.Spec L2
open PyProof.Rows hiding St

/-! ### a dict that the text wrote, text keys -/
/-- its items are these -/
def KDs (K : PySem.W.Frag) (w : World) (p : Addr) (kvs : List (Str × V)) : Prop :=
  (∃ es n, K.lookup p = some ⟨.type "dict", none, .dict es n, #[]⟩ ∧ PySem.W.KeysLit w.params es.toList) ∧ (p == sysModules) = false ∧
    ∀ x, match kvs.lookup x with
      | some v => ∃ u, PySem.W.nsIn K p x = some (some u) ∧ RelV v u
      | none => PySem.W.nsIn K p x = some none
theorem KDs.get {K : PySem.W.Frag} {w : World} {p : Addr} {kvs : List (Str × V)} (h : KDs K w p kvs) {x : Str} {v : V} (e : kvs.lookup x = some v) : KDct K w p x v := by
  obtain ⟨⟨es, n, h1, h2⟩, _, h4⟩ := h
  have q := h4 x
  rw [e] at q
  obtain ⟨u, q1, q2⟩ := q
  exact ⟨es, n, u, h1, h2, q1, q2⟩
/-- x in d, x not in d -/
def rInK (K : PySem.W.Frag) (w : World) (g : Bool → Bool) : R2 := fun x y H Q => ∃ z p kvs, x = .str z ∧ y = .ref p ∧ KDs K w p kvs ∧ Q (.bl (g (kvs.lookup z).isSome)) H
section
variable {X : Cx}
theorem inK_core {pins : List (Addr × Obj)} {s : Shared} {σ : L2.St} {H : Hp} {z : Str} {p : Addr} {kvs : List (Str × V)} (I : Inv X pins σ H s) (k : KDs X.K X.w p kvs) :
    ∃ es : Array DictEntry, s.heap.MapOf (strKind X.prog X.w) p (fun k => findBy Value.isStrOf es k) ∧ (findBy Value.isStrOf es z).isSome = (kvs.lookup z).isSome := by
  obtain ⟨⟨es, n, hl, hk⟩, _, k3⟩ := k
  have q := k3 z
  refine ⟨es, PySem.W.mapOf_K (prog := X.prog) I.kIn hl hk, ?_⟩
  cases e : kvs.lookup z with
  | none =>
    rw [e] at q
    rw [PySem.W.find_K hl q]
    rfl
  | some v =>
    rw [e] at q
    obtain ⟨u, q1, _⟩ := q
    rw [PySem.W.find_K hl q1]
    rfl
theorem op_inK : OpR X (compareOp .In) (rInK X.K X.w fun b => b) := by
  intro pins s σ H x y v u Q I rx ry h
  obtain ⟨z, p, kvs, rfl, rfl, k, q⟩ := h
  obtain ⟨t, rfl⟩ := rx
  obtain rfl : u = Value.ref p := ry
  obtain ⟨es, m, er⟩ := inK_core (z := z) I k
  refine wpAny_in_of (strKind_is X.prog X.w z t) k.2.1 m ?_
  show EP X pins σ Q (.bool (findBy Value.isStrOf es z).isSome) _
  rw [er]
  exact ⟨.bl _, H, I.tok _, rfl, q⟩
theorem op_notinK : OpR X (compareOp .NotIn) (rInK X.K X.w fun b => !b) := by
  intro pins s σ H x y v u Q I rx ry h
  obtain ⟨z, p, kvs, rfl, rfl, k, q⟩ := h
  obtain ⟨t, rfl⟩ := rx
  obtain rfl : u = Value.ref p := ry
  obtain ⟨es, m, er⟩ := inK_core (z := z) I k
  refine wpAny_notIn_of (strKind_is X.prog X.w z t) k.2.1 m ?_
  show EP X pins σ Q (.bool (!(findBy Value.isStrOf es z).isSome)) _
  rw [er]
  exact ⟨.bl _, H, I.tok _, rfl, q⟩
end
/-! ### a < b < c < d -/
def tChain3 (r r' r'' : R2) (ta tb tc td : TE) : TE := fun σ H Q => ta σ H fun x H1 => tb σ H1 fun y H2 => r x y H2 fun z H3 => ∃ k, z = .bl k ∧ (if k = true then tc σ H3 fun w' H4 => r' y w' H4 fun z2 H5 => ∃ k2, z2 = .bl k2 ∧ (if k2 = true then td σ H5 fun w2 H6 => r'' w' w2 H6 Q else Q (.bl false) H5) else Q (.bl false) H3)
section
variable {X : Cx} {op op' op'' : CmpOp} {r r' r'' : R2} {a b c d : Expr} {ta tb tc td : TE} {pos : Pos}
theorem pe_chain3 (ho : OpR X (compareOp op) r) (ho' : OpR X (compareOp op') r') (ho'' : OpR X (compareOp op'') r'') (ha : PE X a ta) (hb : PE X b tb) (hc : PE X c tc) (hd : PE X d td)
    (hm : lastMarks [op, op', op''] [b, c, d] = false) : PE X (.Compare a [op, op', op''] [b, c, d] pos) (tChain3 r r' r'' ta tb tc td) := by
  refine ⟨fun pins s σ H Q I h => ?_⟩
  refine Compare_chain (thn (ha.run pins s σ H _ I h) fun v s1 ⟨x, H1, I1, r1, q1⟩ => chain_link (thn (hb.run pins s1 σ H1 _ I1 q1) fun u s2 ⟨y, H2, I2, r2, q2⟩ =>
    thn (ho pins s2 σ H2 x y v u _ I2 r1 r2 q2) fun d' s3 ⟨z, H3, I3, r3, k, e, q3⟩ => ?_)) hm
  subst e
  cases r3
  refine wpAny_truthy_bool ?_
  cases k with
  | false => exact ite_ff ⟨.bl false, H3, I3, rfl, q3⟩
  | true =>
    refine ite_tt (chain_link (thn (hc.run pins s3 σ H3 _ I3 q3) fun w' s4 ⟨z', H4, I4, r4, q4⟩ => thn (ho' pins s4 σ H4 y z' u w' _ I4 r2 r4 q4) fun d2 s5 ⟨z2, H5, I5, r5, k2, e2, q5⟩ => ?_))
    subst e2
    cases r5
    refine wpAny_truthy_bool ?_
    cases k2 with
    | false => exact ite_ff ⟨.bl false, H5, I5, rfl, q5⟩
    | true => exact ite_tt (chain_last (thn (hd.run pins s5 σ H5 _ I5 q5) fun w2 s6 ⟨z3, H6, I6, r6, q6⟩ => ho'' pins s6 σ H6 z' z3 w' w2 Q I6 r4 r6 q6))
theorem pt_chain3 (ho : OpR X (compareOp op) r) (ho' : OpR X (compareOp op') r') (ho'' : OpR X (compareOp op'') r'') (ha : PE X a ta) (hb : PE X b tb) (hc : PE X c tc) (hd : PE X d td)
    (hm : lastMarks [op, op', op''] [b, c, d] = false) : PT X (.Compare a [op, op', op''] [b, c, d] pos) (tTest (tChain3 r r' r'' ta tb tc td)) := by
  refine ⟨fun pins s σ H Q I h => ?_⟩
  refine isTrue_chain (thn (ha.run pins s σ H _ I h) fun v s1 ⟨x, H1, I1, r1, q1⟩ => test_link (thn (hb.run pins s1 σ H1 _ I1 q1) fun u s2 ⟨y, H2, I2, r2, q2⟩ =>
    thn (ho pins s2 σ H2 x y v u _ I2 r1 r2 q2) fun d' s3 ⟨z, H3, I3, r3, k, e, q3⟩ => ?_)) hm
  subst e
  cases r3
  refine wpAny_truthy_bool ?_
  cases k with
  | false =>
    obtain ⟨k', e', q'⟩ := q3
    cases e'
    exact ite_ff ⟨H3, I3, q'⟩
  | true =>
    refine ite_tt (test_link (thn (hc.run pins s3 σ H3 _ I3 q3) fun w' s4 ⟨z', H4, I4, r4, q4⟩ => thn (ho' pins s4 σ H4 y z' u w' _ I4 r2 r4 q4) fun d2 s5 ⟨z2, H5, I5, r5, k2, e2, q5⟩ => ?_))
    subst e2
    cases r5
    refine wpAny_truthy_bool ?_
    cases k2 with
    | false =>
      obtain ⟨k', e', q'⟩ := q5
      cases e'
      exact ite_ff ⟨H5, I5, q'⟩
    | true =>
      refine ite_tt (test_last (thn (hd.run pins s5 σ H5 _ I5 q5) fun w2 s6 ⟨z3, H6, I6, r6, q6⟩ => thn (ho'' pins s6 σ H6 z' z3 w' w2 _ I6 r4 r6 q6) fun d3 s7 ⟨z4, H7, I7, r7, k3, e3, q7⟩ => ?_))
      subst e3
      cases r7
      exact wpAny_truthy_bool ⟨H7, I7, q7⟩
end
/-! ### methods and classes, what is raised being wished for at the caller's slots -/
section
variable {X : Cx} {CX : CXT} {k : Nat} {f C : Addr} {fd : FuncData} {ps : List Str} {sp : Sp} {E : L2.St → XK} {x m : Str} {p pos apos : Pos} {e o : Expr} {es : List Expr} {ta : TE} {t : TA}
def tMethSD (C : Addr) (m : Str) (sp : Sp) (E : L2.St → XK) (ta : TE) (t : TA) : TE := fun σ H Q => ta σ H fun x H1 => ∃ a dx fs, x = .ref a ∧ H1 a = some (.ins C dx fs) ∧ fs.lookup m = none ∧ t σ H1 fun vs H2 => sp (x :: vs) H2 Q (E σ)
theorem pe_methSD {pl : Sem Bool} (he : PE X o ta) (c : Cls X.K C) (hm : Meth X.K C m f) (F : FnOk X.prog X.w X.K X.mg X.base CX k f fd ps sp) (hr : Room k X.A) (hb : Binds X.K fd ps []) (hx : ∀ σ, PassesAt CX X σ (E σ)) (ha : PA X (e :: es) t)
    (hst : starEach (e :: es) X.env = (false, eval e X.env) :: starEach es X.env) (hpl : (backTo pos (starEach es X.env)).any (·.1) = false)
    (ht : eval (.Call (.Attribute o m apos) (e :: es) [] pos) X.env = (do
      let ov ← eval o X.env
      standAt apos.atName
      let (f, first) ← holding [ov] (getMethod ov m pl)
      callWith pos f first (backTo pos (starEach (e :: es) X.env)) (backToKw pos (keywordEach [] X.env)))) :
    PE X (.Call (.Attribute o m apos) (e :: es) [] pos) (tMethSD C m sp E ta t) := by
  refine ⟨fun pins s σ H Q I h => ?_⟩
  refine PySem.W.methodCall_KW (pl := pl) (thn (he.run pins s σ H _ I h) fun u s1 ⟨x, H1, I1, rx, a, dx, fs, ex, ea, l, q⟩ => ?_) ht
  subst ex
  obtain rfl : u = Value.ref a := rx
  refine getmeth_ok I1 ea c hm l (PySem.W.callWith_K (first := [.ref a]) (h₀ := X.base) I.ok.mod.kin hm.kp (thn (ha.run pos pins s1 σ H1 _ I1 q) fun us s2 ⟨vs, H2, I2, r, q2⟩ => ⟨I2.kIn, ?_⟩) hst hpl)
  refine run_fnSD (us := .ref a :: us) (vs := .ref a :: vs) (ds := []) (dvs := []) F hr hb .nil (hx σ) I2 (.cons rfl r) ?_
  rw [List.append_nil]
  exact q2
theorem pe_methSD0 {pl : Sem Bool} (he : PE X o ta) (c : Cls X.K C) (hm : Meth X.K C m f) (F : FnOk X.prog X.w X.K X.mg X.base CX k f fd ps sp) (hr : Room k X.A) (hb : Binds X.K fd ps []) (hx : ∀ σ, PassesAt CX X σ (E σ))
    (ht : eval (.Call (.Attribute o m apos) [] [] pos) X.env = (do
      let ov ← eval o X.env
      standAt apos.atName
      let (f, first) ← holding [ov] (getMethod ov m pl)
      callWith pos f first (backTo pos (starEach [] X.env)) (backToKw pos (keywordEach [] X.env)))) :
    PE X (.Call (.Attribute o m apos) [] [] pos) (tMethSD C m sp E ta tNil) := by
  refine ⟨fun pins s σ H Q I h => ?_⟩
  refine PySem.W.methodCall_KW (pl := pl) (thn (he.run pins s σ H _ I h) fun u s1 ⟨x, H1, I1, rx, a, dx, fs, ex, ea, l, q⟩ => ?_) ht
  subst ex
  obtain rfl : u = Value.ref a := rx
  refine getmeth_ok I1 ea c hm l (PySem.W.callWith_K0 (first := [.ref a]) I1.kIn hm.kp ?_)
  exact run_fnSD (us := [.ref a]) (vs := [.ref a]) (ds := []) (dvs := []) F hr hb .nil (hx σ) I1 (.cons rfl .nil) q
def tMakeSD (C : Addr) (sp : Sp) (E : L2.St → XK) (t : TA) : TE := fun σ H Q => t σ H fun vs H1 => ∀ x dx, H1 x = none → H1 dx = none → dx ≠ x → sp (.ref x :: vs) (upd (upd H1 dx (.own x)) x (.ins C dx [])) (fun v H2 => v = .non ∧ Q (.ref x) H2) (E σ)
theorem run_makeSD {pins : List (Addr × Obj)} {σ : L2.St} {H : Hp} {s : Shared} {Q : VK} {us : List Value} {vs : List V} (M : Mk X.K C f) (F : FnOk X.prog X.w X.K X.mg X.base CX k f fd ps sp) (hr : Room (k + 1) X.A) (hb : Binds X.K fd ps [])
    (hx : PassesAt CX X σ (E σ)) (I : Inv X pins σ H s) (r : Vals vs us)
    (h : ∀ x dx, H x = none → H dx = none → dx ≠ x → sp (.ref x :: vs) (upd (upd H dx (.own x)) x (.ins C dx [])) (fun v H2 => v = .non ∧ Q (.ref x) H2) (E σ)) :
    wpAny (model X.prog X.w) X.A (call (.ref C) us) (EP X pins σ Q) X.xe s := by
  have start := h (s.heap.objs.size + 1) s.heap.objs.size (I.hok.fresh (Nat.le_succ _)) (I.hok.fresh (Nat.le_refl _)) (Nat.ne_of_lt (Nat.lt_succ_self _))
  have made := Inv.made (C := C) I
  have rel : Vals (V.ref (s.heap.objs.size + 1) :: vs) (Value.ref (s.heap.objs.size + 1) :: us) := .cons rfl r
  have len : (Value.ref (s.heap.objs.size + 1) :: us ++ []).length = ps.length := by
    rw [List.append_nil, ← rel.length]
    exact F.len _ _ _ _ start
  have rel' : Vals (V.ref (s.heap.objs.size + 1) :: vs) (Value.ref (s.heap.objs.size + 1) :: us ++ []) := by rw [List.append_nil]; exact rel
  refine wpAny_call (make_map (f := f) I.kIn M.makes M.init (beq_iff_eq.mp M.fn) (codeAny_mono (F.run _ X.stack _ _ ⟨Value.ref (s.heap.objs.size + 1) :: us, []⟩ _ _ _ (E σ) (hr.make C us []) (made.env0.make C us []) (hb _ (Value.ref (s.heap.objs.size + 1) :: us) made.kIn len) rel' start) fun res s' got => ?_))
  cases res with
  | error e => exact hx pins _ _ e s' made got
  | ok fl =>
    cases fl with
    | ret u =>
      obtain ⟨v, H', I3, rv, ev, q3⟩ := made.after got
      subst ev
      exact ⟨rv, ⟨V.ref (s.heap.objs.size + 1), H', I3, rfl, q3⟩⟩
    | next => exact got.elim
    | brk => exact got.elim
    | cont => exact got.elim
theorem pe_makeSD (M : Mk X.K C f) (F : FnOk X.prog X.w X.K X.mg X.base CX k f fd ps sp) (hr : Room (k + 1) X.A) (hg : Gl X x) (hm : X.mg x = some (.ref C)) (hb : Binds X.K fd ps []) (hx : ∀ σ, PassesAt CX X σ (E σ))
    (ha : PA X (e :: es) t) (hdb : (x == ("__debug__" : Str)) = false) (he : starEach (e :: es) X.env = (false, eval e X.env) :: starEach es X.env) (hpl : (backTo pos (starEach es X.env)).any (·.1) = false) :
    PE X (.Call (.Name x p) (e :: es) [] pos) (tMakeSD C sp E t) :=
  ⟨fun pins s σ H Q I h => wpAny_Call_Name_kw (ld_glob I hg hm (PySem.W.callWith_K (h₀ := X.base) I.ok.mod.kin M.kp (thn (ha.run pos pins s σ H _ I h) fun us s1 ⟨vs, H1, I1, r, q⟩ => ⟨I1.kIn, run_makeSD M F hr hb (hx σ) I1 r q⟩) he hpl) hdb)⟩
end
/-- how o.m(..) is reckoned, in one row -/
theorem meth_tree {env : Env} {o : Expr} {m : Str} {apos pos : Pos} {args : List Expr} (hb : attributeBase o m env (eval o env) = eval o env)
    (hf : ((backTo pos (starEach args env)).all (fun x => !x.1) && (backToKw pos (keywordEach [] env)).all (fun x => x.1.isSome) && decide (args.length + ([] : List Keyword).length + (if ([] : List Keyword).isEmpty then 0 else 1) < 30)) = true)
    (hl : (apos.endLine == pos.line) = true) : ∃ pl : Sem Bool, eval (.Call (.Attribute o m apos) args [] pos) env = (do
      let ov ← eval o env
      standAt apos.atName
      let (f, first) ← holding [ov] (getMethod ov m pl)
      callWith pos f first (backTo pos (starEach args env)) (backToKw pos (keywordEach [] env))) := by
  have form : methodCallForm (args.length + ([] : List Keyword).length) (backTo pos (starEach args env)) (backToKw pos (keywordEach [] env)) = true := hf
  have at_ : methodCallPos true o env apos pos = pure pos := by unfold methodCallPos; simp [hl]
  refine ⟨(do return (← importBound o env).getD true), ?_⟩
  rw [arm_eval_Call, hb]
  congr 1
  funext ov
  congr 1
  funext _
  unfold methodCall
  rw [form]
  unfold calleeOf
  rw [if_pos rfl]
  congr 1
  funext q
  obtain ⟨f, first⟩ := q
  show (methodCallPos true o env apos pos >>= fun callPos => callWith callPos f first _ _) = _
  rw [at_]
  exact pure_bind _ _
/-! ### a call of a local name that holds a def -/
section
variable {X : Cx} {CX : CXT} {k i : Nat} {f : Addr} {fd : FuncData} {ps : List Str} {sp : Sp} {E : L2.St → XK} {x : Str} {p pos : Pos} {e : Expr} {es : List Expr} {t : TA}
def tCallLSD (i : Nat) (f : Addr) (sp : Sp) (E : L2.St → XK) (t : TA) : TE := fun σ H Q => σ[i]? = some (some (.ref f)) ∧ t σ H fun vs H1 => sp vs H1 Q (E σ)
theorem pe_callLSD (F : FnOk X.prog X.w X.K X.mg X.base CX k f fd ps sp) (hr : Room k X.A) (hN : X.N[i]? = some x) (hv : Vis X.env.scope x) (hk : PySem.W.keepIn X.K (.ref f) = true) (hb : Binds X.K fd ps []) (hx : ∀ σ, PassesAt CX X σ (E σ)) (ha : PA X (e :: es) t)
    (hdb : (x == ("__debug__" : Str)) = false) (hcd : (x == ("__classdict__" : Str)) = false) (he : starEach (e :: es) X.env = (false, eval e X.env) :: starEach es X.env) (hpl : (backTo pos (starEach es X.env)).any (·.1) = false) : PE X (.Call (.Name x p) (e :: es) [] pos) (tCallLSD i f sp E t) := by
  refine ⟨fun pins s σ H Q I ⟨hs, ht⟩ => ?_⟩
  refine wpAny_Call_Name_kw (thn ((pe_var (pos := p) hN hv hdb hcd).run pins s σ H (fun v H1 => v = .ref f ∧ H1 = H) I ⟨.ref f, hs, rfl, rfl⟩) fun u s1 ⟨v, H1, I1, r1, q1⟩ => ?_)
  obtain ⟨rfl, rfl⟩ := q1
  cases r1
  refine PySem.W.callWith_K (h₀ := X.base) I.ok.mod.kin hk (thn (ha.run pos pins s1 σ _ _ I1 ht) fun us s2 ⟨vs, H2, I2, r, q⟩ => ⟨I2.kIn, ?_⟩) he hpl
  refine run_fnSD (ds := []) (dvs := []) F hr hb .nil (hx σ) I2 r ?_
  rw [List.append_nil]
  exact q
end
end VI

set_option maxHeartbeats 4000000
namespace VI
open PySem PySem.Spec L2
open PyProof.Rows hiding St

/-! ### how many unlike texts: len(set(xs)) -/
/-- the texts met, each once -/
def met (xs : List Str) : List Str := xs.foldl (fun acc x => if acc.contains x then acc else acc ++ [x]) []
def metS (acc : List Str) (x : Str) : List Str := if acc.contains x then acc else acc ++ [x]
def metN (xs : List Str) (i : Nat) : List Str := (xs.take i).foldl metS []
theorem metN_all (xs : List Str) : metN xs xs.length = met xs := by unfold metN; rw [List.take_length]; rfl
theorem metN_succ (xs : List Str) (i : Nat) (h : i < xs.length) : metN xs (i + 1) = metS (metN xs i) (xs.getD i Str.empty) := by
  unfold metN
  rw [List.take_succ, List.getElem?_eq_getElem h, List.getD_eq_getElem?_getD, List.getElem?_eq_getElem h]
  show ((xs.take i) ++ [xs[i]]).foldl metS [] = _
  rw [List.foldl_append]
  rfl
theorem metS_le (acc : List Str) (x : Str) : (metS acc x).length ≤ acc.length + 1 := by
  unfold metS; split
  · omega
  · rw [List.length_append]; exact Nat.le_refl _
theorem metN_le (xs : List Str) : ∀ i, i ≤ xs.length → (metN xs i).length ≤ i
  | 0, _ => Nat.le_refl _
  | i + 1, h => by
    rw [metN_succ xs i (by omega)]
    have := metS_le (metN xs i) (xs.getD i Str.empty)
    have := metN_le xs i (by omega)
    omega
section
variable {prog : Program} {w : World} {A : Around} {R : Result → Shared → Prop} {I : Addr} {fp wr : List Addr} {G : Array GenState → Array GenState → Prop} {n : Nat} {P : Nat → Value → Prop} {Sx : Nat → Shared → Prop}
theorem metS_has (acc : List Str) (x k : Str) : (acc.contains k || decide (k = x)) = (metS acc x).contains k := by
  unfold metS
  by_cases h : acc.contains x = true
  · rw [if_pos h]
    by_cases e : k = x
    · rw [e, h]; rfl
    · rw [decide_eq_false e, Bool.or_false]
  · rw [if_neg h]
    by_cases e : k = x
    · rw [e]; simp
    · rw [decide_eq_false e, Bool.or_false]
      simp [e]
theorem setLoop (U : WalksS prog w A.in1 I fp wr G n P Sx) (B : Addr) (hB : B ∉ fp) (xs : List Str) (hl : xs.length = n) (few : n + 1 < scanBound) (val : ∀ i v, P i v → ∃ t, v = .str (xs.getD i Str.empty) t) :
    ∀ (m i : Nat) (s : Shared), n - i = m → i ≤ n → Sx i s → s.heap.SetOf (PySem.strKind prog w) B (fun k => (metN xs i).contains k) (metN xs i).length →
      (∀ s', Moved (B :: wr) G s s' → s'.heap.SetOf (PySem.strKind prog w) B (fun k => (met xs).contains k) (met xs).length → R (.ok (.ret .none)) s') →
      codeAny (model prog w) A (.builtin "set.update.loop" ⟨[.ref B, .ref I], []⟩) R s := by
  have hBw : B ∉ wr := fun h => hB (U.sub _ h)
  have more : ∀ b ∈ wr, b ∈ B :: wr := fun b hb => List.mem_cons_of_mem _ hb
  intro m
  induction m with
  | zero =>
    intro i s hm hi st hS hR
    obtain rfl : i = n := by omega
    refine codeAny_builtin PyProof.Rows.F.entry_set_update_loop (by
      rw [Around.under_plainId PyProof.Rows.F.plain_set_update_loop _]
      show wpAny _ A.in1 (pyNext (.ref I) >>= _) _ _ s
      refine wpAny_bind (U.done s _ _ st fun s' hm => ?_)
      show wpAny _ A.in1 (ret Value.none) _ _ s'
      refine wpAny_pure (hR s' (hm.mono more) ?_)
      rw [← hl, metN_all] at hS
      obtain ⟨o, es, ep, t, ho, rest⟩ := hS
      exact ⟨o, es, ep, t, hm.heap B _ hBw ho, rest⟩)
  | succ m ih =>
    intro i s hm hi st hS hR
    have hlt : i < n := by omega
    refine codeAny_builtin PyProof.Rows.F.entry_set_update_loop (by
      rw [Around.under_plainId PyProof.Rows.F.plain_set_update_loop _]
      show wpAny _ A.in1 (pyNext (.ref I) >>= _) _ _ s
      refine wpAny_bind (U.item i s _ _ hlt st fun v s' hP st' hm => ?_)
      obtain ⟨t, rfl⟩ := val i v hP
      have there : s'.heap.SetOf (PySem.strKind prog w) B (fun k => (metN xs i).contains k) (metN xs i).length := by
        obtain ⟨o, es, ep, tb, ho, rest⟩ := hS
        exact ⟨o, es, ep, tb, hm.heap B _ hBw ho, rest⟩
      show wpAny _ A.in1 (holding [Value.str (xs.getD i Str.empty) t] (setAdd B (.str (xs.getD i Str.empty) t)) >>= _) _ _ s'
      refine wpAny_bind (wpAny_holding ?_)
      unfold setAdd
      have room := metN_le xs i (by omega)
      refine wpAny_holding (wpAny_bind ((PySem.strKind prog w).pyHash (k := xs.getD i Str.empty) (strKind_is _ _ _ _) (wpAny_setAddHashed_of (knd := PySem.strKind prog w) (s := { s' with toks := s'.toks + 1 }) (strKind_is _ _ _ _) rfl there (by omega) fun h' hsb hS2 => ?_)))
      have next : h'.SetOf (PySem.strKind prog w) B (fun k => (metN xs (i + 1)).contains k) (metN xs (i + 1)).length := by
        rw [metN_succ xs i (by omega)]
        refine SetOf_congr hS2 (fun k => metS_has _ _ _) ?_
        unfold metS
        split <;> simp_all
      refine wpAny_pure ⟨plainId_quiet PyProof.Rows.F.plain_set_update_loop _, ih (i + 1) _ (by omega) hlt (U.frame _ s' _ _ st' (Nat.le_succ _) fun b hb o e => ?_) next fun s'' hm'' hS'' => ?_⟩
      · rw [hsb.2 b (fun h : b = B => hB (by rw [← h]; exact hb))]; exact e
      · refine hR s'' (Moved.trans U.gtrans ((hm.mono more).then_heap (Nat.le_succ _) fun b o hb e => ?_) hm'') hS''
        rw [hsb.2 b (fun h : b = B => hb (by rw [h]; exact List.mem_cons_self))]; exact e)
end

section
variable {prog : Program} {w : World} {A : Around} {E : Value → Shared → Prop} {s : Shared}
/-- the set that is being made -/
abbrev nset (led : Bool) : Obj := { cls := .type "set", dict := none, data := .set #[] 0 (.fresh 0 0 led) }
theorem callSet {l : Addr} {items : Array Value} {xs : List Str} {Q : Value → Shared → Prop} (hh : A.handled = none) (hl : s.heap.IsList l items) (hi : PyProof.Rows.StrsAre items.toList xs) (few : xs.length + 1 < scanBound)
    (h : ∀ (h' : Heap) (tk : Nat), h'.SetOf (PySem.strKind prog w) s.heap.objs.size (fun k => (met xs).contains k) (met xs).length → (∀ b o, b < s.heap.objs.size → s.heap.get? b = some o → h'.get? b = some o) → Q (.ref s.heap.objs.size) { s with heap := h', toks := tk }) :
    wpAny (model prog w) A (call (.type "set") [.ref l]) Q E s := by
  obtain ⟨c, tl, hmro⟩ := PySem.F.called_set.mro
  have made := PySem.F.called_set.made; have sub := PySem.F.called_set.sub; have nt := PySem.F.called_set.notType; have cc := PySem.F.called_set.canCreate; have tc := PySem.F.typeCall_set_1 (.ref l)
  refine wpAny_call (codeAny_of_tree (show wpAny _ _ (callAny (.type "set") _) _ _ _ from ?_))
  refine wpAny_pure ⟨Code.quiet_builtin _ (by decide +kernel), codeAny_builtin PySem.F.entry_type_call (by
    rw [Around.under_plain (weight_type_call_type "set" [.ref l] []) rfl]
    repeat (any_goals (first | assumption | wp_step))
    refine codeAny_mono (code_set_new_1 (.ref l) (E := E) (Q₁ := fun obj s₁ => ∃ led : Bool, obj = .ref s.heap.objs.size ∧ s₁ = { s with heap := s.heap.push (nset led) }) fun led => ⟨led, rfl, rfl⟩) fun r s₁ got => ?_
    cases r with
    | error e => exact got
    | ok fl =>
      cases fl with
      | next => exact got.elim
      | brk => exact got.elim
      | cont => exact got.elim
      | ret obj =>
        obtain ⟨led, rfl, rfl⟩ := got
        have there : (s.heap.push (nset led)).get? s.heap.objs.size = some (nset led) := Heap.get?_push_size _ rfl
        have isS : Shared.TypeIs { s with heap := s.heap.push (nset led) } (.ref s.heap.objs.size) "set" := ⟨_, there, rfl⟩
        have li := PySem.F.called_set.init.lookup; have bi := PySem.F.called_set.init.bind (.ref s.heap.objs.size)
        repeat (any_goals (first | assumption | wp_step))
        refine codeAny_mono (codeAny_call_builtin (R := wants (fun r s₂ => r = .none ∧ ∃ h' tk, s₂ = { s with heap := h', toks := tk } ∧ h'.SetOf (PySem.strKind prog w) s.heap.objs.size (fun k => (met xs).contains k) (met xs).length ∧ (∀ b o, b < s.heap.objs.size → s.heap.get? b = some o → h'.get? b = some o)) E)
          PySem.F.called_set.init.plain PySem.F.entry_set_init (check_set_init_1 isS ?_)) fun r₂ s₂ got₂ => ?_
        · have lt : l < s.heap.objs.size := by obtain ⟨o, e, _⟩ := hl; exact Heap.lt_size e
          obtain ⟨⟨oc, od, odt, osl⟩, ho, hc, nl, hd⟩ := id hl
          simp only at hc hd
          subst hc hd
          have ho' : (s.heap.push (nset led)).get? l = some { cls := .type "list", dict := od, data := .seq items nl, slots := osl } := Heap.get?_push_of_some _ ho
          have il : (s.heap.push (nset led)).IsList l items := ⟨_, ho', rfl, nl, rfl⟩
          have n1 := PySem.F.sub_list_set; have n2 := PySem.F.sub_list_frozenset; have n3 : (Value.type "list" == Value.type "dict") = false := by decide
          unfold Builtin.«set.__init__» noKeywords Builtin.Frozenset.updateFrom
          generalize hPI : pyIter = PI
          wp_walk
          subst hPI
          refine wpAny_pyIter_list il (wpAny_bind (wpAny_runValue ?_))
          have h3 : A.in1.in1.in1.handled = none := by simp [hh]
          have sz : (s.heap.push (nset led)).objs.size = s.heap.objs.size + 1 := Heap.size_push ..
          have ne : l ≠ (s.heap.push (nset led)).objs.size := by rw [sz]; exact Nat.ne_of_lt (Nat.lt_succ_of_lt lt)
          have nf : s.heap.objs.size ∉ [(s.heap.push (nset led)).objs.size, l] := by
            rw [sz]; simp only [List.mem_cons, List.not_mem_nil, or_false, not_or]
            exact ⟨Nat.ne_of_lt (Nat.lt_succ_self _), Nat.ne_of_gt lt⟩
          have len : xs.length = items.size := by rw [← StrsAre.len_eq hi, Array.length_toList]
          have val : ∀ (i : Nat) (v : Value), items[i]? = some v → ∃ t, v = .str (xs.getD i Str.empty) t := fun i v hv => SS.strs_at hi i v (by rw [Array.getElem?_toList]; exact hv)
          refine setLoop ((Walks.list h3 _ l ne items).toS) s.heap.objs.size nf xs len (by rw [← len]; exact few) val (items.size - 0) 0 _ (by omega) (Nat.zero_le _) ⟨⟨_, Heap.get?_push_size _ rfl, rfl, rfl⟩, (il.push _)⟩ ?start ?fin
          case start =>
            refine PyProof.Rows.SetOf_congr ((PyProof.Rows.setObjOf_fresh (knd := PySem.strKind prog w) led).setOf (Heap.get?_push_of_some _ there) (by unfold scanBound; omega)) (fun _ => ?_) ?_ <;> (unfold metN; rfl)
          case fin =>
            rintro ⟨h', g', d', tk', os'⟩ mv hS'
            obtain rfl : g' = s.gens := mv.gens
            obtain rfl : d' = s.drawn := mv.drawn
            obtain rfl : os' = s.os := mv.os
            show wpAny _ _ _ _ _ _
            refine wpAny_pure (show wpAny _ _ (ret Value.none) _ _ _ from wpAny_pure ⟨rfl, h', tk', rfl, hS', fun b o hb e => ?_⟩)
            refine mv.heap b o ?_ (Heap.get?_push_of_some _ (Heap.get?_push_of_some _ e))
            simp only [List.mem_cons, List.not_mem_nil, or_false, not_or]
            exact ⟨Nat.ne_of_lt hb, by rw [sz]; exact Nat.ne_of_lt (Nat.lt_succ_of_lt hb)⟩
        · cases r₂ with
          | error e => exact got₂
          | ok fl₂ =>
            cases fl₂ with
            | ret r =>
              obtain ⟨rfl, h', tk, rfl, hS', keep⟩ := got₂
              repeat (any_goals (first | assumption | wp_step))
              exact h _ _ hS' keep
            | _ => exact got₂.elim)⟩
end
/-- len(set(xs)), xs a list of texts -/
def tLenSetN (K : PySem.W.Frag) (ta : TE) : TE := fun σ H Q => ta σ H fun x H1 => ∃ (l : Addr) (xs : List Str), x = .ref l ∧ SqL K H1 l (xs.map V.str) ∧ xs.length < 4000 ∧ Q (.int (met xs).length) H1
theorem pe_lenSetN {X : Cx} {a : Expr} {ta : TE} {p p2 q pos : Pos} (hc : X.calm = true) (hg : Gl X "len") (hm : X.mg "len" = none) (hg2 : Gl X "set") (hm2 : X.mg "set" = none) (ha : PE X a ta) (na : starEach [a] X.env = (false, eval a X.env) :: starEach [] X.env) :
    PE X (.Call (.Name "len" p) [.Call (.Name "set" p2) [a] [] q] [] pos) (tLenSetN X.K ta) := by
  refine ⟨fun pins s σ H Q I h => ?_⟩
  refine Call_ (ld_blt I hg hm boot_len (PyProof.Rows.callWith_builtin1 (PyProof.Rows.args_cons ?_ rfl) rfl rfl))
  refine Call_ (ld_blt I hg2 hm2 boot_set (PyProof.Rows.callWith_type1 (PyProof.Rows.args_cons (thn (ha.run pins s σ H _ I h) fun v s1 ⟨x, H1, I1, r1, q1⟩ => PyProof.Rows.args_nil ?_) na) na rfl))
  obtain ⟨l, xs, rfl, hq, few, q1⟩ := q1
  cases r1
  obtain ⟨its, r, pl, hz⟩ := I1.list hq
  have sb : scanBound = 4096 := by unfold scanBound; rfl
  refine callSet (I1.ok.hd hc) pl.isList (by simpa using strsAre_of r) (by omega) fun h' tk hS hk => PyProof.Rows.args_nil ?_
  obtain ⟨o, es, ep, t, ho, hex, hd, _, _, _, hf, hn⟩ := hS
  have I2 : Inv X pins σ H1 { s1 with heap := h', toks := tk } := I1.kept fun b o e => hk b o (Heap.lt_size e) e
  have hle : (met xs).length ≤ xs.length := by rw [← metN_all]; exact metN_le xs _ (Nat.le_refl _)
  exact call_len_set ho hex hd hf (by rw [hn]; omega) ⟨.int (met xs).length, H1, I2.tok _, ⟨_, by rw [hn]⟩, q1⟩
end VI

set_option maxHeartbeats 4000000
namespace VI
open PySem PySem.Spec L2
open PyProof.Rows hiding St

/-! ### zip of a list and a text -/
def ItzS (K : PySem.W.Frag) (a : Addr) (z : Str) : It :=
  ⟨fun i H => ∃ (xs : List V) (x : V) (c : Nat), SqL K H a xs ∧ xs[i]? = some x ∧ z.cps[i]? = some c,
    fun i H v H' => ∃ T x c, v = .ref T ∧ H T = none ∧ H' = upd H T (.tup [x, .str ⟨#[c]⟩]) ∧ (∀ xs, SqL K H a xs → xs[i]? = some x) ∧ z.cps[i]? = some c,
    fun i H => ∃ xs : List V, SqL K H a xs ∧ i ≤ xs.length ∧ i ≤ z.cps.size ∧ (i = xs.length ∨ i = z.cps.size)⟩
theorem apart5 {n a : Nat} (h : a < n) : ZipSep2 (n + 4) (n + 2) (n + 3) n (n + 1) [n, a] [n + 1] where
  TIz := show (n + 2 : Nat) ≠ n + 4 by omega
  TOz := show (n + 3 : Nat) ≠ n + 4 by omega
  TITO := show (n + 2 : Nat) ≠ n + 3 by omega
  TIi1 := show (n + 2 : Nat) ≠ n by omega
  mem1 := List.mem_cons_self
  zf1 := fun q => by rcases (show (n + 4 : Nat) = n ∨ (n + 4 : Nat) = a by simpa using q) with q | q <;> omega
  Tf1 := fun q => by rcases (show (n + 3 : Nat) = n ∨ (n + 3 : Nat) = a by simpa using q) with q | q <;> omega
  TIi2 := show (n + 2 : Nat) ≠ n + 1 by omega
  mem2 := List.mem_cons_self
  zf2 := fun q => by have : (n + 4 : Nat) = n + 1 := by simpa using q
                     omega
  Tf2 := fun q => by have : (n + 3 : Nat) = n + 1 := by simpa using q
                     omega
  sep1_2 := fun q => by have : (n : Nat) = n + 1 := by simpa using q
                        omega
  sep2_1 := fun q => by rcases (show (n + 1 : Nat) = n ∨ (n + 1 : Nat) = a by simpa using q) with q | q <;> omega
theorem turn_zipS {P : Program} {w : World} {K : PySem.W.Frag} {elts : List Expr} {kk : Nat} {tpos : Pos} {a z TI TO i1 i2 : Addr} {zt : Str} {t : Tok} (D : ZipSep2 z TI TO i1 i2 [i1, a] [i2]) :
    Turn P w K (.Tuple elts kk tpos) (ItzS K a zt) [z, TI, TO, i1, i2] z (fun i h => IsZip h z TI TO .none ∧ IsTupOf2 h TI (.ref i1) (.ref i2) ∧ (∃ x y, IsTupOf2 h TO x y) ∧ h.IsListIter i1 a i ∧ h.IsStrIter i2 (strIterType zt) zt t i) where
  mem := by simp
  obj := fun i h ⟨hz, hTI, ⟨x, y, hTO⟩, ⟨o1, e1, _, d1⟩, ⟨o2, e2, _, d2⟩⟩ c hc => by
    have : c = z ∨ c = TI ∨ c = TO ∨ c = i1 ∨ c = i2 := by simpa using hc
    rcases this with rfl | rfl | rfl | rfl | rfl
    · exact ⟨_, hz, fun v q => nomatch q⟩
    · exact ⟨_, hTI, fun v q => nomatch q⟩
    · exact ⟨_, hTO, fun v q => nomatch q⟩
    · exact ⟨o1, e1, fun v q => by rw [d1] at q; cases q⟩
    · exact ⟨o2, e2, fun v q => by rw [d2] at q; cases q⟩
  keep := fun i h h' ⟨hz, hTI, ⟨x, y, hTO⟩, h1, ⟨o2, e2, r2⟩⟩ k => ⟨k z (by simp) _ hz, k TI (by simp) _ hTI, ⟨x, y, k TO (by simp) _ hTO⟩, h1.at fun o q => k i1 (by simp) o q, ⟨o2, k i2 (by simp) o2 e2, r2⟩⟩
  item := by
    intro X hP hw hK hc i pins s σ H E I hf ⟨hz, hTI, ⟨x0, y0, hTO⟩, h1, h2⟩ ⟨xs, x, c, hqx, hx, hcx⟩
    subst hP hw hK
    obtain ⟨its, rv, p, _⟩ := I.list hqx
    obtain ⟨u, hu, ru⟩ := rv.get hx
    have hzl : z < s.heap.objs.size := Heap.lt_size hz
    have hne : a ≠ i1 := fun q => by
      obtain ⟨o, e, _, d⟩ := h1
      obtain ⟨o', e', _, n', d'⟩ := p.isList
      rw [q, e] at e'
      cases e'
      rw [d] at d'
      cases d'
    have hh : X.A.in1.handled = none := I.ok.hd hc
    have lt1 : i < its.toArray.size := by have := (List.getElem?_eq_some_iff.mp hu).1; simpa using this
    have lt2 : i < zt.cps.size := (Array.getElem?_eq_some_iff.mp hcx).1
    refine wpAny_pyNext_zipD2_item D (Draws.list (prog := X.prog) (w := X.w) hh i1 a hne its.toArray) (Draws.text (prog := X.prog) (w := X.w) hh i2 zt t) hz hTI hTO ⟨h1, p.isList⟩ h2 lt1 lt2 fun x1 x2 h' tk p1 p2 z' TO' q1 q2 hT hsz hk => ?_
    obtain ⟨c', t', hc', rfl⟩ := p2
    rw [hcx] at hc'
    cases hc'
    have e1 : x1 = u := by
      have : its.toArray[i]? = some u := by simpa using hu
      rw [this] at p1
      exact (Option.some.inj p1).symm
    subst e1
    refine ⟨_, rfl, wpAny_letOwnedTupleGo_zip (s := { s with heap := h', toks := tk }) z' fun h'' z'' sb => ?_⟩
    have hT2 : h''.get? s.heap.objs.size = some { cls := .type "tuple", data := .seq #[x1, .str ⟨#[c]⟩ t'] } := (sb.2 _ (Nat.ne_of_gt hzl)).trans hT
    have new : ObjOk X.prog X.w (upd H s.heap.objs.size (.tup [x, .str ⟨#[c]⟩])) h'' s.heap.objs.size (.tup [x, .str ⟨#[c]⟩]) :=
      ⟨show 2 ≤ sizeLine by decide, [x1, .str ⟨#[c]⟩ t'], .cons ru (.cons ⟨t', rfl⟩ .nil), ⟨_, hT2, rfl, _, rfl⟩⟩
    have I1 : Inv X pins σ (upd H s.heap.objs.size (.tup [x, .str ⟨#[c]⟩])) { s with heap := h'', toks := tk } :=
      I.turnedNew (t' := tk) (ch := [z, TI, TO, i1, i2]) (fun b o hb q => (sb.2 b (fun e => hb (by simp [e]))).trans (hk b o (fun e => hb (by simp [e])) (fun e => hb (by simp [e])) (fun e => hb (by simp [e])) (fun e => hb (by simp [e])) q)) hf (Nat.le_refl _) new
    refine ⟨.ref s.heap.objs.size, _, I1, rfl, ⟨_, x, c, rfl, I.hok.fresh (Nat.le_refl _), rfl, fun l hl => by rw [I.list_inj hl hqx]; exact hx, hcx⟩, ⟨z'', ?_, ⟨x1, .str ⟨#[c]⟩ t', ?_⟩, ?_, ?_⟩, fun b hb => ?_⟩
    · exact (sb.2 _ D.TIz).trans (hk _ _ D.TIz D.TITO D.TIi1 D.TIi2 hTI)
    · exact (sb.2 _ D.TOz).trans TO'
    · exact q1.1.at fun o q => (sb.2 _ D.zi1.symm).trans q
    · obtain ⟨o2, e2, r2⟩ := q2
      exact ⟨o2, (sb.2 _ D.zi2.symm).trans e2, r2⟩
    · have lt : b < s.heap.objs.size := by
        have : b = z ∨ b = TI ∨ b = TO ∨ b = i1 ∨ b = i2 := by simpa using hb
        rcases this with rfl | rfl | rfl | rfl | rfl
        · exact hzl
        · exact Heap.lt_size hTI
        · exact Heap.lt_size hTO
        · obtain ⟨_, e1, _⟩ := h1; exact Heap.lt_size e1
        · obtain ⟨_, e2, _⟩ := h2; exact Heap.lt_size e2
      rw [upd_ne (Nat.ne_of_lt lt)]
      exact (hf b hb).1
  done := by
    intro X hP hw hK hc i pins s σ H E I hf ⟨hz, hTI, ⟨x0, y0, hTO⟩, h1, h2⟩ ⟨xs, hqx, hi1, hi2, hend⟩
    subst hP hw hK
    obtain ⟨its, rv, p, _⟩ := I.list hqx
    have hne : a ≠ i1 := fun q => by
      obtain ⟨o, e, _, d⟩ := h1
      obtain ⟨o', e', _, n', d'⟩ := p.isList
      rw [q, e] at e'
      cases e'
      rw [d] at d'
      cases d'
    have hh : X.A.in1.handled = none := I.ok.hd hc
    have ll := rv.length
    have sz : its.toArray.size = xs.length := by rw [List.size_toArray, ← ll]
    exact wpAny_pyNext_zipD2_end D (Draws.list (prog := X.prog) (w := X.w) hh i1 a hne its.toArray) (Draws.text (prog := X.prog) (w := X.w) hh i2 zt t) hz hTI hTO ⟨h1, p.isList⟩ h2 (by omega) hi2 (by omega) fun h' tk hk => ⟨rfl, I.turnedL (t' := tk) (ch := [z, TI, TO, i1, i2]) (fun b o hb q =>
      hk b o (fun e => hb (by simp [e])) (fun e => hb (by simp [e])) (fun e => hb (by simp [e])) (fun e => hb (by simp [e])) q) hf⟩
  self := fun A i s Q E st h => wpAny_pyIter_zip st.1 h
def iZipS (K : PySem.W.Frag) (ta : TA) : TI := fun σ H R => ta σ H fun vs H1 => ∃ a z xs, vs = [.ref a, .str z] ∧ SqL K H1 a xs ∧ R (ItzS K a z) H1
theorem pi_zipS {X : Cx} {e e2 : Expr} {ta : TA} {p pos tpos : Pos} {elts : List Expr} {kk : Nat} (hg : Gl X "zip") (hm : X.mg "zip" = none) (ha : PA X [e, e2] ta)
    (hs : starEach [e, e2] X.env = (false, eval e X.env) :: starEach [e2] X.env) (hpl : (backTo pos (starEach [e2] X.env)).any (·.1) = false) :
    PI X (.Tuple elts kk tpos) (.Call (.Name "zip" p) [e, e2] [] pos) (iZipS X.K ta) := by
  refine ⟨fun pins s σ H R I h => ?_⟩
  refine Call_ (ld_blt I hg hm PyProof.Rows.boot_zip (PyProof.Rows.callWith_type1 (thn (ha.run pos pins s σ H _ I h) fun us s1 ⟨vs, H1, I1, r1, q1⟩ => ?_) hs hpl))
  obtain ⟨a, z, xs, rfl, hq, q⟩ := q1
  cases r1 with
  | cons r rr =>
  cases rr with
  | cons r' rr =>
  cases rr
  cases r
  obtain ⟨t, rfl⟩ := r'
  obtain ⟨its, rv, p1, _⟩ := I1.list hq
  refine zip_begins2 (begins_list a its.toArray) (begins_text z t) p1.isList trivial fun h' hz hTI hTO h1 h2 hsz hk => wpAny_pyIter_zip hz ?_
  have I2 : Inv X pins σ H1 { s1 with heap := h' } := I1.kept (t' := s1.toks) hk
  refine ⟨s1.heap.objs.size + 4, [s1.heap.objs.size + 4, s1.heap.objs.size + 2, s1.heap.objs.size + 3, s1.heap.objs.size, s1.heap.objs.size + 1], _, _, H1, rfl, I2, turn_zipS (t := t) (apart5 (n := s1.heap.objs.size) (a := a) p1.lt), ⟨hz, hTI, ⟨_, _, hTO⟩, ⟨_, h1, rfl, rfl⟩, ⟨_, h2, rfl, rfl⟩⟩, fun b hb => ?_, q⟩
  have hle : (s1.heap.objs.size : Nat) ≤ b := by
    have : b = s1.heap.objs.size + 4 ∨ b = s1.heap.objs.size + 2 ∨ b = s1.heap.objs.size + 3 ∨ b = s1.heap.objs.size ∨ b = s1.heap.objs.size + 1 := by simpa using hb
    rcases this with e | e | e | e | e <;> (rw [e]; first | exact Nat.le_add_right _ _ | exact Nat.le_refl _)
  exact I1.fpOk hle (I1.hok.fresh hle)
end VI

set_option maxHeartbeats 4000000
namespace VI
open PySem PySem.Spec L2
open PyProof.Rows hiding St

/-! ### values as trees, with tags of ownership -/
inductive Tag where | own | new | any | bor | sta
  deriving DecidableEq, Inhabited
inductive Kd where | lst | tup | dic (ks : List Key) | ins (c : Str) (fs : List Str)
  deriving Inhabited
inductive D where
  | und | non | bl (b : Bool) | int (i : Int) | str (x : Str) | fn (x : Str)
  | nd (t : Tag) (k : Kd) (xs : List D)
  deriving Inhabited

mutual
/-- all tags turned -/
def D.tag (f : Tag → Tag) : D → D
  | .nd t k xs => .nd (f t) k (D.tags f xs)
  | .und => .und
  | .non => .non
  | .bl b => .bl b
  | .int i => .int i
  | .str x => .str x
  | .fn x => .fn x
def D.tags (f : Tag → Tag) : List D → List D
  | [] => []
  | d :: ds => d.tag f :: D.tags f ds
end
mutual
/-- all tags are so -/
def D.all (p : Tag → Bool) : D → Bool
  | .nd t k xs => p t && D.alls p xs
  | _ => true
def D.alls (p : Tag → Bool) : List D → Bool
  | [] => true
  | d :: ds => d.all p && D.alls p ds
end
def notBor : Tag → Bool | .bor => false | _ => true
def notAny : Tag → Bool | .any => false | _ => true
def notOwn : Tag → Bool | .own => false | _ => true
def notSta : Tag → Bool | .sta => false | _ => true
def notOld : Tag → Bool | .any => false | .sta => false | _ => true
abbrev D.clean (d : D) : Bool := d.all notBor
/-- own becomes borrowed, new, any -/
def ownTo (u : Tag) : Tag → Tag | .own => u | t => t
def anyTo (u : Tag) : Tag → Tag | .any => u | t => t
def toAny : Tag → Tag | .sta => .sta | _ => .any

theorem D.tags_map (f : Tag → Tag) : ∀ xs : List D, D.tags f xs = xs.map (D.tag f)
  | [] => rfl
  | d :: ds => by rw [D.tags, D.tags_map f ds]; rfl
theorem D.alls_all (p : Tag → Bool) : ∀ xs : List D, D.alls p xs = xs.all (D.all p)
  | [] => rfl
  | d :: ds => by rw [D.alls, D.alls_all p ds]; rfl

/-! ### the ground: what the text wrote -/
structure Gc where
  K : PySem.W.Frag
  w : World
  mg : Str → Option Value
  /-- classes by name -/
  cls : Str → Option Addr
  /-- defs and classes as values -/
  fa : Str → Option Addr
  /-- what may be borrowed: the heap as it was when the statement began -/
  hb : Hp
/-- the same ground, another heap to borrow from -/
def Gc.wh (c : Gc) (h : Hp) : Gc := { c with hb := h }
def Gc.c0 (c : Gc) : Gc := c.wh fun _ => none

section
variable (c : Gc)
/-- a node stands at p, as it is -/
def At (H : Hp) (p : Addr) (k : Kd) (vs : List V) : Prop := match k with
  | .lst => H p = some (.lst vs)
  | .tup => H p = some (.tup vs)
  | .dic ks => H p = some (.dK (ks.zip vs)) ∧ ks.length = vs.length
  | .ins n fs => ∃ C dx, c.cls n = some C ∧ H p = some (.ins C dx (fs.zip vs)) ∧ fs.length = vs.length
/-- the script, or a node that the text wrote: to be read -/
def Sta (F : Hp) (p : Addr) (k : Kd) (vs : List V) : Prop := match k with
  | .lst => SqL c.K F p vs
  | .tup => SqT c.K F p vs
  | .dic ks => ∃ ns : List Str, ks = ns.map .inr ∧ ns.length = vs.length ∧ KDs c.K c.w p (ns.zip vs)
  | .ins _ _ => False

mutual
/-- v stands for d; m counts the places that d owns -/
def Rep (Fa Fn H : Hp) : D → V → (Addr → Nat) → Prop
  | .und, _, m => ∀ a, m a = 0
  | .non, v, m => v = .non ∧ ∀ a, m a = 0
  | .bl b, v, m => v = .bl b ∧ ∀ a, m a = 0
  | .int i, v, m => v = .int i ∧ ∀ a, m a = 0
  | .str x, v, m => v = .str x ∧ ∀ a, m a = 0
  | .fn x, v, m => (∃ a, c.fa x = some a ∧ v = .ref a) ∧ ∀ a, m a = 0
  | .nd t k xs, v, m => ∃ p vs m', v = .ref p ∧ Reps Fa Fn H xs vs m' ∧ match t with
    | .own => At c H p k vs ∧ ∀ a, m a = m' a + (if a = p then 1 else 0)
    | .new => At c Fn p k vs ∧ (∀ a, m' a = 0) ∧ ∀ a, m a = 0
    | .any => At c Fa p k vs ∧ (∀ a, m' a = 0) ∧ ∀ a, m a = 0
    | .bor => At c c.hb p k vs ∧ (∀ a, m' a = 0) ∧ ∀ a, m a = 0
    | .sta => Sta c Fa p k vs ∧ (∀ a, m' a = 0) ∧ ∀ a, m a = 0
def Reps (Fa Fn H : Hp) : List D → List V → (Addr → Nat) → Prop
  | [], vs, m => vs = [] ∧ ∀ a, m a = 0
  | d :: ds, vs, m => ∃ v r m1 m2, vs = v :: r ∧ Rep Fa Fn H d v m1 ∧ Reps Fa Fn H ds r m2 ∧ ∀ a, m a = m1 a + m2 a
end
end

section
variable {c : Gc} {Fa Fn H Fa' Fn' H' : Hp}
theorem Sta.mono {p : Addr} {k : Kd} {vs : List V} (h : Same H H') : Sta c H p k vs → Sta c H' p k vs := by
  cases k with
  | lst => intro q; exact h.seq q
  | tup =>
    intro q
    rcases q with (q | ⟨o, q⟩) | q
    · exact .inl (.inl (h _ _ q))
    · exact .inl (.inr ⟨o, h _ _ q⟩)
    · exact .inr q
  | dic ks => intro q; exact q
  | ins n fs => intro q; exact q
theorem At.mono {p : Addr} {k : Kd} {vs : List V} (h : Same H H') : At c H p k vs → At c H' p k vs := by
  cases k with
  | lst => intro q; exact h _ _ q
  | tup => intro q; exact h _ _ q
  | dic ks => intro q; exact ⟨h _ _ q.1, q.2⟩
  | ins n fs =>
    intro q
    obtain ⟨C, dx, a, b, e⟩ := q
    exact ⟨C, dx, a, h _ _ b, e⟩
theorem At.some {p : Addr} {k : Kd} {vs : List V} : At c H p k vs → ∃ o, H p = some o := by
  cases k with
  | lst => intro q; exact ⟨_, q⟩
  | tup => intro q; exact ⟨_, q⟩
  | dic ks => intro q; exact ⟨_, q.1⟩
  | ins n fs =>
    intro q
    obtain ⟨C, dx, a, b, e⟩ := q
    exact ⟨_, b⟩
theorem At.cong {p : Addr} {k : Kd} {vs : List V} (h : H' p = H p) : At c H p k vs → At c H' p k vs := by
  cases k with
  | lst => intro q; exact h.trans q
  | tup => intro q; exact h.trans q
  | dic ks => intro q; exact ⟨h.trans q.1, q.2⟩
  | ins n fs =>
    intro q
    obtain ⟨C, dx, a, b, e⟩ := q
    exact ⟨C, dx, a, h.trans b, e⟩

/-- what a tag asks, elsewhere -/
def TagP (c : Gc) (Fa Fn H : Hp) : Tag → Addr → Kd → List V → Prop
  | .own => At c H
  | .new => At c Fn
  | .any => At c Fa
  | .bor => At c c.hb
  | .sta => Sta c Fa
def cnt (f : Tag → Tag) (m : Addr → Nat) : Addr → Nat := fun a => if f .own = .own then m a else 0
theorem cnt_le (f : Tag → Tag) (m : Addr → Nat) (a : Addr) : cnt f m a ≤ m a := by unfold cnt; split <;> simp
theorem cnt_add (f : Tag → Tag) {m m1 m2 : Addr → Nat} {a : Addr} (h : m a = m1 a + m2 a) : cnt f m a = cnt f m1 a + cnt f m2 a := by
  unfold cnt; split
  · exact h
  · rfl
theorem cnt_no {f : Tag → Tag} (h : f .own ≠ .own) (m : Addr → Nat) (a : Addr) : cnt f m a = 0 := by unfold cnt; rw [if_neg h]
theorem cnt_yes {f : Tag → Tag} (h : f .own = .own) (m : Addr → Nat) (a : Addr) : cnt f m a = m a := by unfold cnt; rw [if_pos h]

mutual
/-- THE turning of tags and heaps -/
theorem Rep.conv {f : Tag → Tag} (hf : ∀ t, f t = .own → t = .own) : ∀ {d : D} {v : V} {m : Addr → Nat}, Rep c Fa Fn H d v m →
    (∀ p k vs, m p ≠ 0 → At c H p k vs → TagP c Fa' Fn' H' (f .own) p k vs) → (∀ p k vs, At c Fn p k vs → TagP c Fa' Fn' H' (f .new) p k vs) →
    (d.all notAny = false → ∀ p k vs, At c Fa p k vs → TagP c Fa' Fn' H' (f .any) p k vs) → (d.all notSta = false → ∀ p k vs, Sta c Fa p k vs → TagP c Fa' Fn' H' (f .sta) p k vs) → (d.clean = false → ∀ p k vs, At c c.hb p k vs → TagP c Fa' Fn' H' (f .bor) p k vs) →
    Rep c Fa' Fn' H' (d.tag f) v (cnt f m)
  | .und, v, m, h, _, _, _, _, _ => fun a => Nat.le_zero.mp (Nat.le_trans (cnt_le f m a) (Nat.le_of_eq (h a)))
  | .non, v, m, h, _, _, _, _, _ => ⟨h.1, fun a => Nat.le_zero.mp (Nat.le_trans (cnt_le f m a) (Nat.le_of_eq (h.2 a)))⟩
  | .bl b, v, m, h, _, _, _, _, _ => ⟨h.1, fun a => Nat.le_zero.mp (Nat.le_trans (cnt_le f m a) (Nat.le_of_eq (h.2 a)))⟩
  | .int i, v, m, h, _, _, _, _, _ => ⟨h.1, fun a => Nat.le_zero.mp (Nat.le_trans (cnt_le f m a) (Nat.le_of_eq (h.2 a)))⟩
  | .str x, v, m, h, _, _, _, _, _ => ⟨h.1, fun a => Nat.le_zero.mp (Nat.le_trans (cnt_le f m a) (Nat.le_of_eq (h.2 a)))⟩
  | .fn x, v, m, h, _, _, _, _, _ => ⟨h.1, fun a => Nat.le_zero.mp (Nat.le_trans (cnt_le f m a) (Nat.le_of_eq (h.2 a)))⟩
  | .nd t k xs, v, m, h, ho, hn, ha, hs, hb => by
    obtain ⟨p, vs, m', rfl, hr, h⟩ := h
    have hm : ∀ a, m' a ≤ m a := fun a => by
      cases t <;> simp only at h
      · have := h.2 a; omega
      all_goals (have := h.2.1 a; omega)
    have up : ∀ q : Tag → Bool, D.alls q xs = false → (D.nd t k xs).all q = false := fun q e => by
      show (q t && D.alls q xs) = false
      rw [e, Bool.and_false]
    have r := Reps.conv hf hr (fun p k vs h1 h2 => ho p k vs (fun z => h1 (Nat.le_zero.mp (z ▸ hm p))) h2) hn (fun e => ha (up _ e)) (fun e => hs (up _ e)) (fun e => hb (up _ e))
    -- a frozen node stays frozen
    have z : t ≠ .own → f t ≠ .own := fun n e => n (hf t e)
    have fr : (∀ a, m' a = 0) → (∀ a, m a = 0) → f t ≠ .own → TagP c Fa' Fn' H' (f t) p k vs → Rep c Fa' Fn' H' ((D.nd t k xs).tag f) (.ref p) (cnt f m) := fun z1 z2 hne q => by
      have c0 : ∀ a, cnt f m' a = 0 := fun a => Nat.le_zero.mp (Nat.le_trans (cnt_le f m' a) (Nat.le_of_eq (z1 a)))
      have c1 : ∀ a, cnt f m a = 0 := fun a => Nat.le_zero.mp (Nat.le_trans (cnt_le f m a) (Nat.le_of_eq (z2 a)))
      refine ⟨p, vs, cnt f m', rfl, r, ?_⟩
      cases e : f t with
      | own => exact absurd e hne
      | new => rw [e] at q; exact ⟨q, c0, c1⟩
      | any => rw [e] at q; exact ⟨q, c0, c1⟩
      | bor => rw [e] at q; exact ⟨q, c0, c1⟩
      | sta => rw [e] at q; exact ⟨q, c0, c1⟩
    cases t with
    | own =>
      obtain ⟨ha1, hm1⟩ := h
      have q := ho p k vs (by have := hm1 p; rw [if_pos rfl] at this; omega) ha1
      refine ⟨p, vs, cnt f m', rfl, r, ?_⟩
      cases e : f .own with
      | own =>
        rw [e] at q
        refine ⟨q, fun a => ?_⟩
        rw [cnt_yes e, cnt_yes e]
        exact hm1 a
      | new =>
        rw [e] at q
        refine ⟨q, cnt_no (by rw [e]; decide) _, cnt_no (by rw [e]; decide) _⟩
      | any =>
        rw [e] at q
        refine ⟨q, cnt_no (by rw [e]; decide) _, cnt_no (by rw [e]; decide) _⟩
      | bor =>
        rw [e] at q
        refine ⟨q, cnt_no (by rw [e]; decide) _, cnt_no (by rw [e]; decide) _⟩
      | sta =>
        rw [e] at q
        refine ⟨q, cnt_no (by rw [e]; decide) _, cnt_no (by rw [e]; decide) _⟩
    | new => exact fr h.2.1 h.2.2 (z (by decide)) (hn p k vs h.1)
    | any => exact fr h.2.1 h.2.2 (z (by decide)) (ha (by rfl) p k vs h.1)
    | bor => exact fr h.2.1 h.2.2 (z (by decide)) (hb (by rfl) p k vs h.1)
    | sta => exact fr h.2.1 h.2.2 (z (by decide)) (hs (by rfl) p k vs h.1)
theorem Reps.conv {f : Tag → Tag} (hf : ∀ t, f t = .own → t = .own) : ∀ {ds : List D} {vs : List V} {m : Addr → Nat}, Reps c Fa Fn H ds vs m →
    (∀ p k vs, m p ≠ 0 → At c H p k vs → TagP c Fa' Fn' H' (f .own) p k vs) → (∀ p k vs, At c Fn p k vs → TagP c Fa' Fn' H' (f .new) p k vs) →
    (D.alls notAny ds = false → ∀ p k vs, At c Fa p k vs → TagP c Fa' Fn' H' (f .any) p k vs) → (D.alls notSta ds = false → ∀ p k vs, Sta c Fa p k vs → TagP c Fa' Fn' H' (f .sta) p k vs) → (D.alls notBor ds = false → ∀ p k vs, At c c.hb p k vs → TagP c Fa' Fn' H' (f .bor) p k vs) →
    Reps c Fa' Fn' H' (D.tags f ds) vs (cnt f m)
  | [], vs, m, h, _, _, _, _, _ => ⟨h.1, fun a => Nat.le_zero.mp (Nat.le_trans (cnt_le f m a) (Nat.le_of_eq (h.2 a)))⟩
  | d :: ds, vs, m, h, ho, hn, ha, hs, hb => by
    obtain ⟨v, r, m1, m2, rfl, h1, h2, hm⟩ := h
    have u1 : ∀ q : Tag → Bool, d.all q = false → D.alls q (d :: ds) = false := fun q e => by
      show (d.all q && D.alls q ds) = false
      rw [e, Bool.false_and]
    have u2 : ∀ q : Tag → Bool, D.alls q ds = false → D.alls q (d :: ds) = false := fun q e => by
      show (d.all q && D.alls q ds) = false
      rw [e, Bool.and_false]
    exact ⟨v, r, cnt f m1, cnt f m2, rfl, Rep.conv hf h1 (fun p k vs z q => ho p k vs (by have := hm p; omega) q) hn (fun e => ha (u1 _ e)) (fun e => hs (u1 _ e)) (fun e => hb (u1 _ e)),
      Reps.conv hf h2 (fun p k vs z q => ho p k vs (by have := hm p; omega) q) hn (fun e => ha (u2 _ e)) (fun e => hs (u2 _ e)) (fun e => hb (u2 _ e)), fun a => cnt_add f (hm a)⟩
end

mutual
theorem D.tag_id : ∀ d : D, d.tag (fun t => t) = d
  | .nd t k xs => by
    show D.nd t k (D.tags (fun t => t) xs) = _
    rw [D.tags_id xs]
  | .und => rfl
  | .non => rfl
  | .bl b => rfl
  | .int i => rfl
  | .str x => rfl
  | .fn x => rfl
theorem D.tags_id : ∀ ds : List D, D.tags (fun t => t) ds = ds
  | [] => rfl
  | d :: ds => by
    show d.tag (fun t => t) :: D.tags (fun t => t) ds = _
    rw [D.tag_id d, D.tags_id ds]
end
/-- the same tree in another heap -/
theorem Rep.to {d : D} {v : V} {m : Addr → Nat} (h : Rep c Fa Fn H d v m) (ho : ∀ p k vs, m p ≠ 0 → At c H p k vs → At c H' p k vs) (hn : Same Fn Fn') (ha : Same Fa Fa') : Rep c Fa' Fn' H' d v m := by
  have q := Rep.conv (f := fun t => t) (Fa' := Fa') (Fn' := Fn') (H' := H') (fun _ e => e) h ho (fun p k vs z => z.mono hn) (fun _ p k vs z => z.mono ha) (fun _ p k vs z => z.mono ha) (fun e p k vs z => z)
  rw [D.tag_id] at q
  exact q
theorem Reps.to {d : List D} {v : List V} {m : Addr → Nat} (h : Reps c Fa Fn H d v m) (ho : ∀ p k vs, m p ≠ 0 → At c H p k vs → At c H' p k vs) (hn : Same Fn Fn') (ha : Same Fa Fa') : Reps c Fa' Fn' H' d v m := by
  have q := Reps.conv (f := fun t => t) (Fa' := Fa') (Fn' := Fn') (H' := H') (fun _ e => e) h ho (fun p k vs z => z.mono hn) (fun _ p k vs z => z.mono ha) (fun _ p k vs z => z.mono ha) (fun e p k vs z => z)
  rw [D.tags_id] at q
  exact q
theorem Rep.grow {d : D} {v : V} {m : Addr → Nat} (h : Rep c Fa Fn H d v m) (s : Same H H') : Rep c Fa Fn H' d v m :=
  h.to (fun _ _ _ _ q => q.mono s) (Same.refl _) (Same.refl _)
theorem Reps.grow {d : List D} {v : List V} {m : Addr → Nat} (h : Reps c Fa Fn H d v m) (s : Same H H') : Reps c Fa Fn H' d v m :=
  h.to (fun _ _ _ _ q => q.mono s) (Same.refl _) (Same.refl _)
mutual
/-- what borrows nothing is the same whatever is to be borrowed -/
theorem Rep.chb {h : Hp} : ∀ {d : D} {v : V} {m : Addr → Nat}, Rep c Fa Fn H d v m → d.clean = true → Rep (c.wh h) Fa Fn H d v m
  | .und, v, m, r, _ => r
  | .non, v, m, r, _ => r
  | .bl b, v, m, r, _ => r
  | .int i, v, m, r, _ => r
  | .str x, v, m, r, _ => r
  | .fn x, v, m, r, _ => r
  | .nd t k xs, v, m, r, e => by
    obtain ⟨p, vs, m', rfl, hr, h⟩ := r
    have e' : (notBor t && D.alls notBor xs) = true := e
    rw [Bool.and_eq_true] at e'
    refine ⟨p, vs, m', rfl, Reps.chb hr e'.2, ?_⟩
    cases t with
    | own => exact h
    | new => exact h
    | any => exact h
    | bor => cases e'.1
    | sta => exact h
theorem Reps.chb {h : Hp} : ∀ {ds : List D} {vs : List V} {m : Addr → Nat}, Reps c Fa Fn H ds vs m → D.alls notBor ds = true → Reps (c.wh h) Fa Fn H ds vs m
  | [], vs, m, r, _ => r
  | d :: ds, vs, m, r, e => by
    obtain ⟨v, r, m1, m2, rfl, h1, h2, hm⟩ := r
    have e' : (d.all notBor && D.alls notBor ds) = true := e
    rw [Bool.and_eq_true] at e'
    exact ⟨v, r, m1, m2, rfl, Rep.chb h1 e'.1, Reps.chb h2 e'.2, hm⟩
end
mutual
/-- what is owned stands -/
theorem Rep.live : ∀ {d : D} {v : V} {m : Addr → Nat}, Rep c Fa Fn H d v m → ∀ a, m a ≠ 0 → ∃ o, H a = some o
  | .und, v, m, h, a, n => absurd (h a) n
  | .non, v, m, h, a, n => absurd (h.2 a) n
  | .bl b, v, m, h, a, n => absurd (h.2 a) n
  | .int i, v, m, h, a, n => absurd (h.2 a) n
  | .str x, v, m, h, a, n => absurd (h.2 a) n
  | .fn x, v, m, h, a, n => absurd (h.2 a) n
  | .nd t k xs, v, m, h, a, n => by
    obtain ⟨p, vs, m', rfl, hr, h⟩ := h
    cases t with
    | own =>
      obtain ⟨ha, hm⟩ := h
      by_cases e : a = p
      · subst e; exact ha.some
      · have := hm a
        rw [if_neg e] at this
        exact Reps.live hr a (by omega)
    | new => exact absurd (h.2.2 a) n
    | any => exact absurd (h.2.2 a) n
    | bor => exact absurd (h.2.2 a) n
    | sta => exact absurd (h.2.2 a) n
theorem Reps.live : ∀ {ds : List D} {vs : List V} {m : Addr → Nat}, Reps c Fa Fn H ds vs m → ∀ a, m a ≠ 0 → ∃ o, H a = some o
  | [], vs, m, h, a, n => absurd (h.2 a) n
  | d :: ds, vs, m, h, a, n => by
    obtain ⟨v, r, m1, m2, rfl, h1, h2, hm⟩ := h
    by_cases e : m1 a = 0
    · exact Reps.live h2 a (by have := hm a; omega)
    · exact Rep.live h1 a e
end
theorem Reps.len : ∀ {ds : List D} {vs : List V} {m : Addr → Nat}, Reps c Fa Fn H ds vs m → ds.length = vs.length
  | [], vs, m, h => by rw [h.1]; rfl
  | d :: ds, vs, m, h => by
    obtain ⟨v, r, m1, m2, rfl, h1, h2, hm⟩ := h
    rw [List.length_cons, List.length_cons, Reps.len h2]
theorem Rep.ext {d : D} {v : V} {m m' : Addr → Nat} (h : Rep c Fa Fn H d v m) (e : ∀ a, m' a = m a) : Rep c Fa Fn H d v m' := by
  have : m' = m := funext e
  rw [this]; exact h
theorem Reps.ext {d : List D} {v : List V} {m m' : Addr → Nat} (h : Reps c Fa Fn H d v m) (e : ∀ a, m' a = m a) : Reps c Fa Fn H d v m' := by
  have : m' = m := funext e
  rw [this]; exact h
theorem Reps.append : ∀ {ds es : List D} {vs us : List V} {m n : Addr → Nat}, Reps c Fa Fn H ds vs m → Reps c Fa Fn H es us n → Reps c Fa Fn H (ds ++ es) (vs ++ us) fun a => m a + n a
  | [], es, vs, us, m, n, h, h' => by
    rw [h.1]
    exact h'.ext fun a => by rw [h.2 a, Nat.zero_add]
  | d :: ds, es, vs, us, m, n, h, h' => by
    obtain ⟨v, r, m1, m2, rfl, h1, h2, hm⟩ := h
    exact ⟨v, r ++ us, m1, _, rfl, h1, Reps.append h2 h', fun a => by have := hm a; show m a + n a = m1 a + (m2 a + n a); omega⟩
theorem Reps.split : ∀ {ds es : List D} {vs : List V} {m : Addr → Nat}, Reps c Fa Fn H (ds ++ es) vs m → ∃ v1 v2 m1 m2, vs = v1 ++ v2 ∧ Reps c Fa Fn H ds v1 m1 ∧ Reps c Fa Fn H es v2 m2 ∧ ∀ a, m a = m1 a + m2 a
  | [], es, vs, m, h => ⟨[], vs, fun _ => 0, m, rfl, ⟨rfl, fun _ => rfl⟩, h, fun a => (Nat.zero_add _).symm⟩
  | d :: ds, es, vs, m, h => by
    obtain ⟨v, r, m1, m2, rfl, h1, h2, hm⟩ := h
    obtain ⟨v1, v2, n1, n2, rfl, q1, q2, q3⟩ := Reps.split h2
    exact ⟨v :: v1, v2, fun a => m1 a + n1 a, n2, rfl, ⟨v, v1, m1, n1, rfl, h1, q1, fun _ => rfl⟩, q2, fun a => by have := hm a; have := q3 a; show m a = m1 a + n1 a + n2 a; omega⟩
theorem Reps.get : ∀ {ds : List D} {vs : List V} {m : Addr → Nat} {i : Nat} {d : D}, Reps c Fa Fn H ds vs m → ds[i]? = some d → ∃ v m1, vs[i]? = some v ∧ Rep c Fa Fn H d v m1 ∧ ∀ a, m1 a ≤ m a
  | [], vs, m, i, d, h, e => by simp at e
  | x :: ds, vs, m, 0, d, h, e => by
    obtain ⟨v, r, m1, m2, rfl, h1, h2, hm⟩ := h
    simp at e; subst e
    exact ⟨v, m1, rfl, h1, fun a => by have := hm a; omega⟩
  | x :: ds, vs, m, i + 1, d, h, e => by
    obtain ⟨v, r, m1, m2, rfl, h1, h2, hm⟩ := h
    obtain ⟨u, n1, q1, q2, q3⟩ := Reps.get (i := i) (d := d) h2 (by simpa using e)
    exact ⟨u, n1, by simpa using q1, q2, fun a => by have := hm a; have := q3 a; omega⟩
end
end VI

set_option maxHeartbeats 4000000
namespace VI
open PySem PySem.Spec L2
open PyProof.Rows hiding St

/-! ### slots -/
section
variable {c : Gc} {Fa Fn H Fa' Fn' H' : Hp}
theorem Rep.und {v : V} : Rep c Fa Fn H .und v fun _ => 0 := fun _ => rfl
theorem Reps.take : ∀ {ds : List D} {vs : List V} {m : Addr → Nat} {i : Nat} {d : D}, Reps c Fa Fn H ds vs m → ds[i]? = some d →
    ∃ v m1 m2, vs[i]? = some v ∧ Rep c Fa Fn H d v m1 ∧ Reps c Fa Fn H (ds.set i .und) vs m2 ∧ ∀ a, m a = m1 a + m2 a
  | [], vs, m, i, d, h, e => by simp at e
  | x :: ds, vs, m, 0, d, h, e => by
    obtain ⟨v, r, m1, m2, rfl, h1, h2, hm⟩ := h
    simp at e; subst e
    exact ⟨v, m1, m2, rfl, h1, ⟨v, r, fun _ => 0, m2, rfl, Rep.und, h2, fun a => (Nat.zero_add _).symm⟩, hm⟩
  | x :: ds, vs, m, i + 1, d, h, e => by
    obtain ⟨v, r, m1, m2, rfl, h1, h2, hm⟩ := h
    obtain ⟨u, n1, n2, q1, q2, q3, q4⟩ := Reps.take (i := i) (d := d) h2 (by simpa using e)
    exact ⟨u, n1, fun a => m1 a + n2 a, by simpa using q1, q2, ⟨v, r, m1, n2, rfl, h1, q3, fun _ => rfl⟩, fun a => by have := hm a; have := q4 a; show m a = n1 a + (m1 a + n2 a); omega⟩
theorem Reps.put {d : D} {v : V} {m1 : Addr → Nat} (hd : Rep c Fa Fn H d v m1) : ∀ {ds : List D} {vs : List V} {m : Addr → Nat} {i : Nat}, Reps c Fa Fn H ds vs m → ds[i]? = some .und →
    Reps c Fa Fn H (ds.set i d) (vs.set i v) fun a => m1 a + m a
  | [], vs, m, i, h, e => by simp at e
  | x :: ds, vs, m, 0, h, e => by
    obtain ⟨u, r, n1, n2, rfl, h1, h2, hm⟩ := h
    simp at e; subst e
    exact ⟨v, r, m1, n2, rfl, hd, h2, fun a => by have := hm a; have := h1 a; show m1 a + m a = _; omega⟩
  | x :: ds, vs, m, i + 1, h, e => by
    obtain ⟨u, r, n1, n2, rfl, h1, h2, hm⟩ := h
    have q := Reps.put (i := i) hd h2 (by simpa using e)
    exact ⟨u, r.set i v, n1, _, rfl, h1, q, fun a => by have := hm a; show m1 a + m a = n1 a + (m1 a + n2 a); omega⟩

/-- the slots σ hold what env says -/
def Slots (c : Gc) (Fa Fn H : Hp) (env : List D) (σ : St) (m : Addr → Nat) : Prop :=
  ∃ vs, Reps c Fa Fn H env vs m ∧ σ.length = env.length ∧ ∀ (i : Nat) (d : D) (v : V), env[i]? = some d → d ≠ .und → vs[i]? = some v → σ[i]? = some (some v)
theorem Slots.to {env : List D} {σ : St} {m : Addr → Nat} (h : Slots c Fa Fn H env σ m) (ho : ∀ p k vs, m p ≠ 0 → At c H p k vs → At c H' p k vs) (hn : Same Fn Fn') (ha : Same Fa Fa') : Slots c Fa' Fn' H' env σ m := by
  obtain ⟨vs, r, l, q⟩ := h
  exact ⟨vs, r.to ho hn ha, l, q⟩
theorem Slots.grow {env : List D} {σ : St} {m : Addr → Nat} (h : Slots c Fa Fn H env σ m) (s : Same H H') : Slots c Fa Fn H' env σ m := by
  obtain ⟨vs, r, l, q⟩ := h
  exact ⟨vs, r.grow s, l, q⟩
theorem Slots.get {env : List D} {σ : St} {m : Addr → Nat} {i : Nat} {d : D} (h : Slots c Fa Fn H env σ m) (e : env[i]? = some d) (hu : d ≠ .und) :
    ∃ v m1 m2, σ[i]? = some (some v) ∧ Rep c Fa Fn H d v m1 ∧ Slots c Fa Fn H (env.set i .und) σ m2 ∧ ∀ a, m a = m1 a + m2 a := by
  obtain ⟨vs, r, l, q⟩ := h
  obtain ⟨v, m1, m2, h1, h2, h3, h4⟩ := r.take e
  refine ⟨v, m1, m2, q i d v e hu h1, h2, ⟨vs, h3, by simpa using l, fun j d' v' e1 e2 e3 => ?_⟩, h4⟩
  by_cases hj : j = i
  · subst hj
    have hlt : j < env.length := (List.getElem?_eq_some_iff.mp e).1
    rw [List.getElem?_set_self hlt] at e1
    cases e1
    exact absurd rfl e2
  · rw [List.getElem?_set_ne (Ne.symm hj)] at e1
    exact q j d' v' e1 e2 e3
theorem Slots.put {env : List D} {σ : St} {m m1 : Addr → Nat} {i : Nat} {d : D} {v : V} (h : Slots c Fa Fn H env σ m) (e : env[i]? = some .und) (hd : Rep c Fa Fn H d v m1) :
    Slots c Fa Fn H (env.set i d) (σ.set i (some v)) fun a => m1 a + m a := by
  obtain ⟨vs, r, l, q⟩ := h
  have hlt : i < env.length := (List.getElem?_eq_some_iff.mp e).1
  have hl : vs.length = env.length := r.len.symm
  refine ⟨vs.set i v, Reps.put hd r e, by simpa using l, fun j d' v' e1 e2 e3 => ?_⟩
  by_cases hj : j = i
  · subst hj
    rw [List.getElem?_set_self (by omega)] at e3 ⊢
    cases e3
    rfl
  · rw [List.getElem?_set_ne (Ne.symm hj)] at e1 e3 ⊢
    exact q j d' v' e1 e2 e3
/-- a slot is forgotten, whatever stands there -/
theorem Slots.drop {env : List D} {σ : St} {m : Addr → Nat} {i : Nat} {o : Option V} (h : Slots c Fa Fn H env σ m) : ∃ m2, Slots c Fa Fn H (env.set i .und) (σ.set i o) m2 ∧ ∀ a, m2 a ≤ m a := by
  obtain ⟨vs, r, l, q⟩ := h
  cases e : env[i]? with
  | none =>
    have hlt : env.length ≤ i := List.getElem?_eq_none_iff.mp e
    rw [List.set_eq_of_length_le hlt, List.set_eq_of_length_le (by omega)]
    exact ⟨m, ⟨vs, r, l, q⟩, fun a => Nat.le_refl _⟩
  | some d =>
    obtain ⟨v, m1, m2, h1, h2, h3, h4⟩ := r.take e
    refine ⟨m2, ⟨vs, h3, by simpa using l, fun j d' v' e1 e2 e3 => ?_⟩, fun a => by have := h4 a; omega⟩
    by_cases hj : j = i
    · subst hj
      have hlt : j < env.length := (List.getElem?_eq_some_iff.mp e).1
      rw [List.getElem?_set_self hlt] at e1
      cases e1
      exact absurd rfl e2
    · rw [List.getElem?_set_ne (Ne.symm hj)] at e1 ⊢
      exact q j d' v' e1 e2 e3
theorem Slots.live {env : List D} {σ : St} {m : Addr → Nat} (h : Slots c Fa Fn H env σ m) : ∀ a, m a ≠ 0 → ∃ o, H a = some o := by
  obtain ⟨vs, r, l, q⟩ := h
  exact r.live
end

/-! ### the state -/
/-- what a run began with -/
structure Fr where
  H0 : Hp
  Fa0 : Hp
  M : Addr → Prop
structure SRc (c : Gc) (f : Fr) (Fa Fn : Hp) (σ : St) (H : Hp) (env ds : List D) (vs : List V) (mS mT : Addr → Nat) : Prop where
  slots : Slots c Fa Fn H env σ mS
  tmps : Reps c Fa Fn H ds vs mT
  cl : D.alls notBor env = true
  one : ∀ a, mS a + mT a ≤ 1
  free : ∀ a, mS a + mT a ≠ 0 → Fa a = none ∧ (f.H0 a = none ∨ f.M a)
  sub : Same Fa H
  subn : Same Fn Fa
  nw : ∀ a o, Fn a = some o → f.H0 a = none
  an : ∀ a o, Fa a = some o → f.Fa0 a = some o ∨ f.H0 a = none ∨ f.M a
  fa0 : Same f.Fa0 Fa
  dom : ∀ a, H a = none → f.H0 a = none
  keep : ∀ a o, f.H0 a = some o → ¬ f.M a → H a = some o
  hbs : Same c.hb H
  hbo : ∀ a, mS a ≠ 0 → c.hb a = H a
def SR (c : Gc) (f : Fr) (σ : St) (H : Hp) (env ds : List D) (vs : List V) : Prop := ∃ Fa Fn mS mT, SRc c f Fa Fn σ H env ds vs mS mT

/-- at most one more at new places -/
def nwc (H : Hp) (a : Addr) : Nat := if H a = none then 1 else 0
theorem nwc_some {H : Hp} {a : Addr} {o : HO} (h : H a = some o) : nwc H a = 0 := by unfold nwc; rw [h]; rfl
theorem nwc_le {H : Hp} {a : Addr} : nwc H a ≤ 1 := by unfold nwc; split <;> omega

section
variable {c : Gc} {f : Fr} {Fa Fn H H' : Hp} {σ : St} {env ds rest : List D} {vs rv : List V} {mS mT : Addr → Nat}
theorem SRc.fresh (S : SRc c f Fa Fn σ H env ds vs mS mT) {a : Addr} (h : H a = none) : mS a = 0 ∧ mT a = 0 ∧ Fa a = none ∧ Fn a = none ∧ f.H0 a = none := by
  refine ⟨?_, ?_, ?_, ?_, S.dom a h⟩
  · by_cases e : mS a = 0
    · exact e
    · obtain ⟨o, q⟩ := S.slots.live a e
      rw [h] at q; cases q
  · by_cases e : mT a = 0
    · exact e
    · obtain ⟨o, q⟩ := S.tmps.live a e
      rw [h] at q; cases q
  · cases e : Fa a with
    | none => rfl
    | some o => have := S.sub a o e; rw [h] at this; cases this
  · cases e : Fn a with
    | none => rfl
    | some o => have := S.sub a o (S.subn a o e); rw [h] at this; cases this
theorem Same.none {H H' : Hp} (s : Same H H') {a : Addr} (h : H' a = none) : H a = none := s.free h
/-- the heap grows -/
theorem SRc.grow (S : SRc c f Fa Fn σ H env ds vs mS mT) (s : Same H H') : SRc c f Fa Fn σ H' env ds vs mS mT := by
  have hbo : ∀ a, mS a ≠ 0 → c.hb a = H' a := fun a h => by
    obtain ⟨o, e⟩ := S.slots.live a h
    rw [S.hbo a h, e, s a o e]
  exact { S with slots := S.slots.grow s, tmps := S.tmps.grow s, sub := S.sub.trans s, dom := fun a h => S.dom a (s.free h), keep := fun a o h n => s a o (S.keep a o h n), hbs := S.hbs.trans s, hbo := hbo }
/-- the operands go, the result comes -/
theorem SRc.res {d : D} {v : V} {m1 m2 m' : Addr → Nat} (S : SRc c f Fa Fn σ H env (ds ++ rest) (vs ++ rv) mS mT) (h2 : Reps c Fa Fn H rest rv m2) (hm : ∀ a, mT a = m1 a + m2 a)
    (s : Same H H') (hd : Rep c Fa Fn H' d v m') (hm' : ∀ a, m' a ≤ m1 a + nwc H a) : SRc c f Fa Fn σ H' env (d :: rest) (v :: rv) mS fun a => m' a + m2 a := by
  have key : ∀ a, m' a ≤ m1 a ∨ (H a = Option.none ∧ m1 a = 0 ∧ m2 a = 0 ∧ mS a = 0 ∧ m' a ≤ 1) := fun a => by
    cases e : H a with
    | some o => left; have := hm' a; rw [nwc_some e] at this; exact this
    | none =>
      right
      obtain ⟨z1, z2, _⟩ := S.fresh e
      have z3 := hm a
      have z4 := hm' a
      have z5 := @nwc_le H a
      exact ⟨rfl, by omega, by omega, z1, by omega⟩
  refine { S.grow s with tmps := ⟨v, rv, m', m2, rfl, hd, h2.grow s, fun _ => rfl⟩, one := fun a => ?_, free := fun a h => ?_ }
  · have := S.one a
    have := hm a
    show mS a + (m' a + m2 a) ≤ 1
    rcases key a with h | ⟨_, h⟩ <;> omega
  · have h' : mS a + (m' a + m2 a) ≠ 0 := h
    rcases key a with q | ⟨e, _⟩
    · exact S.free a (by have := hm a; omega)
    · obtain ⟨_, _, z, _, z'⟩ := S.fresh e
      exact ⟨z, .inl z'⟩
/-- an item more that owns nothing -/
theorem SRc.push {d : D} {v : V} (S : SRc c f Fa Fn σ H env ds vs mS mT) (h : Rep c Fa Fn H d v fun _ => 0) : SRc c f Fa Fn σ H env (d :: ds) (v :: vs) mS mT :=
  { S with tmps := ⟨v, vs, fun _ => 0, mT, rfl, h, S.tmps, fun a => (Nat.zero_add _).symm⟩ }
/-- items are let go -/
theorem SRc.pop (S : SRc c f Fa Fn σ H env (ds ++ rest) (vs ++ rv) mS mT) (hl : ds.length = vs.length) : ∃ m2, SRc c f Fa Fn σ H env rest rv mS m2 := by
  obtain ⟨v1, v2, m1, m2, e, h1, h2, hm⟩ := S.tmps.split
  obtain ⟨rfl, rfl⟩ := List.append_inj e (by rw [← hl, h1.len])
  exact ⟨m2, { S with tmps := h2, one := fun a => by have := S.one a; have := hm a; omega, free := fun a h => S.free a (by have := hm a; omega) }⟩

/-- the tags at a slot are turned: what it owned is frozen (u: new or any) -/
theorem SRc.freeze {i : Nat} {d : D} {u : Tag} (S : SRc c f Fa Fn σ H env ds vs mS mT) (e : env[i]? = some d) (hu : d ≠ .und) (hn : (u = .new ∧ ∀ a, ¬ f.M a) ∨ u = .any) :
    ∃ Fa' Fn' mS' v, SRc c f Fa' Fn' σ H (env.set i (d.tag (ownTo u))) ds vs mS' mT ∧ σ[i]? = some (some v) ∧ Rep c Fa' Fn' H (d.tag (ownTo u)) v (fun _ => 0) ∧ (D.alls notBor (env.set i (d.tag (ownTo u))) = true) := by
  obtain ⟨v, m1, m2, hv, hd, hS, hm⟩ := S.slots.get e hu
  have hdc : d.clean = true := by
    have q := S.cl
    rw [D.alls_all, List.all_eq_true] at q
    exact q d (List.mem_of_getElem? e)
  have z1 : ∀ a, m1 a ≠ 0 → Fa a = none ∧ (f.H0 a = none ∨ f.M a) := fun a h => S.free a (by have := hm a; omega)
  let Fa' : Hp := fun a => if m1 a ≠ 0 then H a else Fa a
  let Fn' : Hp := if u = .new then fun a => if m1 a ≠ 0 then H a else Fn a else Fn
  have sa : Same Fa Fa' := fun a o h => by
    show (if m1 a ≠ 0 then H a else Fa a) = some o
    by_cases q : m1 a ≠ 0
    · rw [(z1 a q).1] at h; cases h
    · rw [if_neg q]; exact h
  have sn : Same Fn Fn' := fun a o h => by
    show (if u = .new then fun a => if m1 a ≠ 0 then H a else Fn a else Fn) a = some o
    by_cases w : u = .new
    · rw [if_pos w]
      show (if m1 a ≠ 0 then H a else Fn a) = some o
      by_cases q : m1 a ≠ 0
      · have := S.subn a o h
        rw [(z1 a q).1] at this; cases this
      · rw [if_neg q]; exact h
    · rw [if_neg w]; exact h
  have hown : ownTo u .own ≠ .own := by rcases hn with ⟨rfl, _⟩ | rfl <;> decide
  have hT : ∀ t, ownTo u t = .own → t = .own := fun t => by
    rcases hn with ⟨rfl, _⟩ | rfl <;> cases t <;> decide
  have hclean : (d.tag (ownTo u)).clean = true ∧ True := by
    refine ⟨?_, trivial⟩
    have gen : (∀ d : D, d.all notBor = true → (d.tag (ownTo u)).all notBor = true) := by
      have ht : ∀ t, notBor t = true → notBor (ownTo u t) = true := fun t => by
        rcases hn with ⟨rfl, _⟩ | rfl <;> cases t <;> decide
      exact fun d => go ht d
    exact gen d hdc
  have r0 : Rep c Fa' Fn' H (d.tag (ownTo u)) v (cnt (ownTo u) m1) := by
    refine Rep.conv hT hd (fun p k vs h1 h2 => ?_) (fun p k vs q => ?_) (fun _ p k vs q => ?_) (fun _ p k vs q => ?_) (fun z => by rw [hdc] at z; cases z)
    · have qa : At c Fa' p k vs := h2.cong (show (if m1 p ≠ 0 then H p else Fa p) = H p by rw [if_pos h1])
      rcases hn with ⟨rfl, _⟩ | rfl
      · have qn : At c Fn' p k vs := h2.cong (show (if Tag.new = .new then fun a => if m1 a ≠ 0 then H a else Fn a else Fn) p = H p by rw [if_pos rfl]; show (if m1 p ≠ 0 then H p else Fn p) = H p; rw [if_pos h1])
        exact qn
      · exact qa
    · exact q.mono sn
    · exact q.mono sa
    · exact q.mono sa
  have r1 : Rep c Fa' Fn' H (d.tag (ownTo u)) v (fun _ => 0) := r0.ext fun a => (cnt_no hown m1 a).symm
  have hlt : i < env.length := (List.getElem?_eq_some_iff.mp e).1
  have hS' : Slots c Fa' Fn' H (env.set i .und) σ m2 := hS.to (fun _ _ _ _ q => q) sn sa
  have hP := hS'.put (i := i) (d := d.tag (ownTo u)) (v := v) (by rw [List.getElem?_set_self hlt]) r1
  rw [List.set_set] at hP
  have hσ : σ.set i (some v) = σ := by
    have hlt2 : i < σ.length := (List.getElem?_eq_some_iff.mp hv).1
    have e2 : σ[i] = some v := (List.getElem?_eq_some_iff.mp hv).2
    rw [← e2]
    exact List.set_getElem_self hlt2
  rw [hσ] at hP
  have hcl : D.alls notBor (env.set i (d.tag (ownTo u))) = true := by
    rw [D.alls_all, List.all_eq_true]
    intro x hx
    rcases List.mem_or_eq_of_mem_set hx with h | h
    · have q := S.cl
      rw [D.alls_all, List.all_eq_true] at q
      exact q x h
    · rw [h]; exact hclean.1
  refine ⟨Fa', Fn', fun a => 0 + m2 a, v, { slots := hP, tmps := S.tmps.to (fun _ _ _ _ q => q) sn sa, cl := hcl, one := fun a => ?_, free := fun a h => ?_, sub := fun a o h => ?_, subn := fun a o h => ?_, nw := fun a o h => ?_, an := fun a o h => ?_, fa0 := S.fa0.trans sa, dom := S.dom, keep := S.keep, hbs := S.hbs, hbo := fun a h => S.hbo a (by have h' : 0 + m2 a ≠ 0 := h; have := hm a; omega) }, hv, r1, hcl⟩
  · have := S.one a; have := hm a; show 0 + m2 a + mT a ≤ 1; omega
  · have h' : 0 + m2 a + mT a ≠ 0 := h
    have q := S.free a (by have := hm a; omega)
    refine ⟨?_, q.2⟩
    show (if m1 a ≠ 0 then H a else Fa a) = none
    rw [if_neg (by have := S.one a; have := hm a; omega)]
    exact q.1
  · have h' : (if m1 a ≠ 0 then H a else Fa a) = some o := h
    by_cases q : m1 a ≠ 0
    · rw [if_pos q] at h'; exact h'
    · rw [if_neg q] at h'; exact S.sub a o h'
  · have h' : (if u = .new then fun a => if m1 a ≠ 0 then H a else Fn a else Fn) a = some o := h
    show (if m1 a ≠ 0 then H a else Fa a) = some o
    by_cases w : u = .new
    · rw [if_pos w] at h'
      have h2 : (if m1 a ≠ 0 then H a else Fn a) = some o := h'
      by_cases q : m1 a ≠ 0
      · rw [if_pos q] at h2 ⊢; exact h2
      · rw [if_neg q] at h2 ⊢; exact S.subn a o h2
    · rw [if_neg w] at h'
      exact sa a o (S.subn a o h')
  · have h' : (if u = .new then fun a => if m1 a ≠ 0 then H a else Fn a else Fn) a = some o := h
    by_cases w : u = .new
    · rw [if_pos w] at h'
      have h2 : (if m1 a ≠ 0 then H a else Fn a) = some o := h'
      by_cases q : m1 a ≠ 0
      · rcases (z1 a q).2 with z | z
        · exact z
        · rcases hn with ⟨_, hM⟩ | hA
          · exact absurd z (hM a)
          · rw [hA] at w; cases w
      · rw [if_neg q] at h2; exact S.nw a o h2
    · rw [if_neg w] at h'; exact S.nw a o h'
  · have h' : (if m1 a ≠ 0 then H a else Fa a) = some o := h
    by_cases q : m1 a ≠ 0
    · exact .inr (z1 a q).2
    · rw [if_neg q] at h'; exact S.an a o h'
where
  go {u : Tag} (ht : ∀ t, notBor t = true → notBor (ownTo u t) = true) : ∀ d : D, d.all notBor = true → (d.tag (ownTo u)).all notBor = true
    | .nd t k xs => fun h => by
      have h' : (notBor t && D.alls notBor xs) = true := h
      rw [Bool.and_eq_true] at h'
      show (notBor (ownTo u t) && D.alls notBor (D.tags (ownTo u) xs)) = true
      rw [ht t h'.1, gos ht xs h'.2]; rfl
    | .und => fun _ => rfl
    | .non => fun _ => rfl
    | .bl b => fun _ => rfl
    | .int i => fun _ => rfl
    | .str x => fun _ => rfl
    | .fn x => fun _ => rfl
  gos {u : Tag} (ht : ∀ t, notBor t = true → notBor (ownTo u t) = true) : ∀ ds : List D, D.alls notBor ds = true → D.alls notBor (D.tags (ownTo u) ds) = true
    | [] => fun _ => rfl
    | d :: ds => fun h => by
      have h' : (d.all notBor && D.alls notBor ds) = true := h
      rw [Bool.and_eq_true] at h'
      show ((d.tag (ownTo u)).all notBor && D.alls notBor (D.tags (ownTo u) ds)) = true
      rw [go ht d h'.1, gos ht ds h'.2]; rfl
/-- a value that waits is frozen -/
theorem SRc.frzT {ds0 : List D} {vs0 : List V} {u : Tag} (S : SRc c f Fa Fn σ H env (ds0 ++ rest) (vs0 ++ rv) mS mT) (hl : ds0.length = vs0.length) (hn : (u = .new ∧ ∀ a, ¬ f.M a) ∨ u = .any) :
    ∃ Fa' Fn' m2, SRc c f Fa' Fn' σ H env (D.tags (ownTo u) ds0 ++ rest) (vs0 ++ rv) mS m2 ∧ Reps c Fa' Fn' H (D.tags (ownTo u) ds0) vs0 (fun _ => 0) ∧ Reps c Fa' Fn' H rest rv m2 := by
  obtain ⟨v1, v2, m1, m2, ee, hd, h2, hm⟩ := S.tmps.split
  obtain ⟨rfl, rfl⟩ := List.append_inj ee (by rw [← hl, hd.len])
  have z1 : ∀ a, m1 a ≠ 0 → Fa a = none ∧ (f.H0 a = none ∨ f.M a) := fun a h => S.free a (by have := hm a; omega)
  let Fa' : Hp := fun a => if m1 a ≠ 0 then H a else Fa a
  let Fn' : Hp := if u = .new then fun a => if m1 a ≠ 0 then H a else Fn a else Fn
  have sa : Same Fa Fa' := fun a o h => by
    show (if m1 a ≠ 0 then H a else Fa a) = some o
    by_cases q : m1 a ≠ 0
    · rw [(z1 a q).1] at h; cases h
    · rw [if_neg q]; exact h
  have sn : Same Fn Fn' := fun a o h => by
    show (if u = .new then fun a => if m1 a ≠ 0 then H a else Fn a else Fn) a = some o
    by_cases w : u = .new
    · rw [if_pos w]
      show (if m1 a ≠ 0 then H a else Fn a) = some o
      by_cases q : m1 a ≠ 0
      · have := S.subn a o h
        rw [(z1 a q).1] at this; cases this
      · rw [if_neg q]; exact h
    · rw [if_neg w]; exact h
  have hown : ownTo u .own ≠ .own := by rcases hn with ⟨rfl, _⟩ | rfl <;> decide
  have hT : ∀ t, ownTo u t = .own → t = .own := fun t => by
    rcases hn with ⟨rfl, _⟩ | rfl <;> cases t <;> decide
  have r0 : Reps c Fa' Fn' H (D.tags (ownTo u) ds0) vs0 (cnt (ownTo u) m1) := by
    refine Reps.conv hT hd (fun p k vs h1 h2 => ?_) (fun p k vs q => ?_) (fun _ p k vs q => ?_) (fun _ p k vs q => ?_) (fun z p k vs q => q)
    · have qa : At c Fa' p k vs := h2.cong (show (if m1 p ≠ 0 then H p else Fa p) = H p by rw [if_pos h1])
      rcases hn with ⟨rfl, _⟩ | rfl
      · have qn : At c Fn' p k vs := h2.cong (show (if Tag.new = .new then fun a => if m1 a ≠ 0 then H a else Fn a else Fn) p = H p by rw [if_pos rfl]; show (if m1 p ≠ 0 then H p else Fn p) = H p; rw [if_pos h1])
        exact qn
      · exact qa
    · exact q.mono sn
    · exact q.mono sa
    · exact q.mono sa
  have r1 : Reps c Fa' Fn' H (D.tags (ownTo u) ds0) vs0 (fun _ => 0) := r0.ext fun a => (cnt_no hown m1 a).symm
  have h2' : Reps c Fa' Fn' H rest rv m2 := h2.to (fun _ _ _ _ q => q) sn sa
  refine ⟨Fa', Fn', m2, { slots := S.slots.to (fun _ _ _ _ q => q) sn sa, tmps := (r1.append h2').ext fun a => (Nat.zero_add _).symm, cl := S.cl, one := fun a => ?_, free := fun a h => ?_, sub := fun a o h => ?_, subn := fun a o h => ?_, nw := fun a o h => ?_, an := fun a o h => ?_, fa0 := S.fa0.trans sa, dom := S.dom, keep := S.keep, hbs := S.hbs, hbo := S.hbo }, r1, h2'⟩
  · have := S.one a; have := hm a; omega
  · have q := S.free a (by have := hm a; omega)
    refine ⟨?_, q.2⟩
    show (if m1 a ≠ 0 then H a else Fa a) = none
    rw [if_neg (by have := S.one a; have := hm a; omega)]
    exact q.1
  · have h' : (if m1 a ≠ 0 then H a else Fa a) = some o := h
    by_cases q : m1 a ≠ 0
    · rw [if_pos q] at h'; exact h'
    · rw [if_neg q] at h'; exact S.sub a o h'
  · have h' : (if u = .new then fun a => if m1 a ≠ 0 then H a else Fn a else Fn) a = some o := h
    show (if m1 a ≠ 0 then H a else Fa a) = some o
    by_cases w : u = .new
    · rw [if_pos w] at h'
      have h2 : (if m1 a ≠ 0 then H a else Fn a) = some o := h'
      by_cases q : m1 a ≠ 0
      · rw [if_pos q] at h2 ⊢; exact h2
      · rw [if_neg q] at h2 ⊢; exact S.subn a o h2
    · rw [if_neg w] at h'
      exact sa a o (S.subn a o h')
  · have h' : (if u = .new then fun a => if m1 a ≠ 0 then H a else Fn a else Fn) a = some o := h
    by_cases w : u = .new
    · rw [if_pos w] at h'
      have h2 : (if m1 a ≠ 0 then H a else Fn a) = some o := h'
      by_cases q : m1 a ≠ 0
      · rcases (z1 a q).2 with z | z
        · exact z
        · rcases hn with ⟨_, hM⟩ | hA
          · exact absurd z (hM a)
          · rw [hA] at w; cases w
      · rw [if_neg q] at h2; exact S.nw a o h2
    · rw [if_neg w] at h'; exact S.nw a o h'
  · have h' : (if m1 a ≠ 0 then H a else Fa a) = some o := h
    by_cases q : m1 a ≠ 0
    · exact .inr (z1 a q).2
    · rw [if_neg q] at h'; exact S.an a o h'
/-- a borrowed view of a clean value -/
theorem Rep.view {d : D} {v : V} {m : Addr → Nat} (h : Rep c Fa Fn H d v m) (hb : ∀ a, m a ≠ 0 → c.hb a = H a) : Rep c Fa Fn H (d.tag (ownTo .bor)) v fun _ => 0 := by
  have q := Rep.conv (f := ownTo .bor) (Fa' := Fa) (Fn' := Fn) (H' := H) (fun t => by cases t <;> decide) h (fun p k vs z q => q.cong (hb p z)) (fun p k vs q => q) (fun _ p k vs q => q) (fun _ p k vs q => q) (fun _ p k vs q => q)
  exact q.ext fun a => (cnt_no (by decide) m a).symm
end
end VI

set_option maxHeartbeats 4000000
namespace VI
open PySem PySem.Spec L2
open PyProof.Rows hiding St

/-! ### what a run gives -/
inductive R (α : Type) where
  | ok (a : α) | exc (x : Str) (fs : List D) (env : List D) | stuck
def R.bind {α β : Type} : R α → (α → R β) → R β
  | .ok a, g => g a
  | .exc x fs env, _ => .exc x fs env
  | .stuck, _ => .stuck
def R.of {α : Type} : Option α → R α
  | some a => .ok a
  | none => .stuck
@[simp] theorem R.bind_ok {α β : Type} (a : α) (g : α → R β) : (R.ok a).bind g = g a := rfl
@[simp] theorem R.bind_stuck {α β : Type} (g : α → R β) : (R.stuck : R α).bind g = .stuck := rfl
@[simp] theorem R.bind_exc {α β : Type} (x fs env) (g : α → R β) : (R.exc x fs env : R α).bind g = .exc x fs env := rfl
@[simp] theorem R.of_some {α : Type} (a : α) : R.of (some a) = .ok a := rfl
@[simp] theorem R.of_none {α : Type} : (R.of (none : Option α)) = .stuck := rfl

/-! ### the text, without places -/
inductive Md where | bor | mv | cpy | cpc
  deriving DecidableEq
inductive Bi where
  | len | abs | max2 | min2 | min3 | divmod | int | str | list | tuple | sum | all | any | sorted | max1 | min1 | dict | lenset
  deriving DecidableEq
inductive Mt where
  | index | count | join | split | endswith
  deriving DecidableEq
inductive Ty where | int | bool | str | list | tuple
  deriving DecidableEq
/-- a target: a name, or a tuple of names -/
inductive T where | nm (i : Nat) | tp (is : List Nat)
  deriving DecidableEq
inductive Ik where | lst | str | rng | zip | enum | zipS
  deriving DecidableEq
inductive E where
  | nop
  | lit (d : D)
  | loc (i : Nat) (m : Md)
  | glb (x : Str)
  | bin (o : Operator) (a b : E)
  | cmp (o : CmpOp) (a b : E)
  | cm2 (o p : CmpOp) (a b d : E)
  | cm3 (o p q : CmpOp) (a b d e : E)
  | bop (o : BoolOp) (es : List E)
  | not (a : E)
  | tru (a : E)
  | neg (a : E)
  | ife (t a b : E)
  | tup (es : List E)
  | lst (es : List E)
  | ix (a i : E)
  | slc (a lo hi : E)
  | rev (a : E)
  | fld (a : E) (f : Str)
  | call (f : Str) (es : List E)
  | mk (C : Str) (es : List E)
  | cal (i : Nat) (es : List E)
  | blt (b : Bi) (es : List E)
  | isi (a : E) (t : Ty)
  | isc (a : E) (C : Str)
  | lset (a : E)
  | mth (m : Mt) (a : E) (es : List E)
  | ump (a : E) (m : Str) (es : List E)
  | comp (vs : List Nat) (tg : T) (k : Ik) (its : List E) (cond : List E) (elt : E)

/-- what the defs do -/
structure Calls where
  fn : Str → List D → R D
  mkc : Str → List D → R D
  /-- methods: class, name -/
  mt : Str → Str → List D → R D
  cst : Str → Option D
  frz : Tag
  sub : Str → Str → Option Bool
  /-- whether the class has the method -/
  hm : Str → Str → Bool

/-! ### operations on values -/
def mulOk (i j : Int) : Bool := decide (i.natAbs < 18446744073709551616) || decide (j.natAbs < 18446744073709551616) || decide (i.natAbs.log2 + j.natAbs.log2 < 100000000)
def divOk (j : Int) : Bool := decide (0 < j) && decide (j < 1073741824)
/-- a list or tuple with its items, but the script or a written one -/
def D.lst? : D → Option (List D)
  | .nd .sta _ _ => none
  | .nd _ .lst xs => some xs
  | _ => none
/-- a list's items, any list -/
def D.seq? : D → Option (List D)
  | .nd _ .lst xs => some xs
  | .nd _ .tup xs => some xs
  | _ => none
def D.ltup? : D → Option (List D)
  | .nd _ .tup xs => some xs
  | _ => none
def repStr (x : Str) (n : Int) : Str := if n < 1 then Str.empty else ⟨(List.replicate n.toNat x.cps.toList).flatten.toArray⟩
def binV : Operator → D → D → Option D
  | .Add, .int i, .int j => some (.int (i + j))
  | .Add, .str x, .str y => if x.length + y.length ≤ 16777216 then some (.str (x ++ y)) else none
  | .Add, .nd t .lst xs, .nd u .lst ys => if t = .sta ∨ u = .sta then none else if xs.length + ys.length ≤ 16777216 then some (.nd .own .lst (xs ++ ys)) else none
  | .Add, .nd t .tup xs, .nd u .tup ys => if xs.length + ys.length ≤ 16777216 then (match xs, ys with
      | [], _ => some (.nd u .tup ys)
      | _, [] => some (.nd t .tup xs)
      | _, _ => some (.nd .own .tup (xs ++ ys))) else none
  | .Sub, .int i, .int j => some (.int (i - j))
  | .Mult, .int i, .int j => if mulOk i j then some (.int (i * j)) else none
  | .Mult, .str x, .int j => if decide (0 ≤ j) && decide (j ≤ 1000) && decide (x.length ≤ 1000) then some (.str (repStr x j)) else none
  | .Mult, .nd t .lst xs, .int j => if t = .sta then none else if D.alls notOwn xs && decide (-1000000 ≤ j) && decide (j ≤ 1000000) && decide (xs.length * j.toNat ≤ 16777216) then some (.nd .own .lst (List.replicate j.toNat xs).flatten) else none
  | .FloorDiv, .int i, .int j => if divOk j then some (.int (i / j)) else none
  | .Mod, .int i, .int j => if 0 < j then some (.int (i % j)) else none
  | .Pow, .int i, .int j => if decide (0 ≤ j) && decide (j ≤ 1000000) && decide (i.natAbs < 18446744073709551616) then some (.int (i ^ j.toNat)) else none
  | .RShift, .int i, .int j => if 0 ≤ j then some (.int (i / 2 ^ j.toNat)) else none
  | _, _, _ => none
mutual
/-- as plain data -/
def D.py : D → Option PyData
  | .non => some .none
  | .bl b => some (.bool b)
  | .int i => some (.int i)
  | .str x => some (.str x)
  | .nd _ .lst xs => (D.pys xs).map .list
  | .nd _ .tup xs => (D.pys xs).map .tuple
  | _ => none
def D.pys : List D → Option (List PyData)
  | [] => some []
  | d :: ds => match d.py, D.pys ds with
    | some x, some xs => some (x :: xs)
    | _, _ => none
end
/-- == -/
def eqD : D → D → Option Bool
  | .non, .non => some true
  | .bl a, .bl b => some (a == b)
  | .int i, .int j => some (decide (i = j))
  | .str x, .str y => some (decide (x = y))
  | .non, .int _ | .int _, .non | .non, .bl _ | .bl _, .non | .non, .str _ | .str _, .non => some false
  | .int _, .str _ | .str _, .int _ | .bl _, .str _ | .str _, .bl _ => some false
  | x, y => match x.py, y.py with
    | some d, some e => if SeqAt.shaped d && SeqAt.shaped e then some (PyData.eqv d e) else none
    | _, _ => none
def D.flat : D → Bool
  | .non | .bl _ | .int _ | .str _ => true
  | _ => false
/-- == of flat values, as in does it -/
def eqF : D → D → Bool
  | .non, .non => true
  | .bl a, .bl b => a == b
  | .bl a, .int b => (if a then 1 else 0) == b
  | .int a, .bl b => a == (if b then 1 else 0)
  | .int a, .int b => decide (a = b)
  | .str a, .str b => decide (a = b)
  | _, _ => false
def inD (x : D) : D → Option Bool
  | .str z => match x with
    | .str ⟨c⟩ => match c.toList with
      | [n] => some (decide (n ∈ z.cps.toList))
      | _ => none
    | _ => none
  | .nd _ .lst xs => if x.flat && xs.all D.flat then some (xs.any fun y => eqF y x) else
      match x.py, D.pys xs with
      | some d, some ds => if SeqAt.shaped d && SeqAt.shaped (.list ds) then some (ds.any fun z => PyData.eqv z d) else none
      | _, _ => none
  | .nd _ .tup xs => if x.flat && xs.all D.flat then some (xs.any fun y => eqF y x) else none
  | .nd .sta (.dic ks) _ => match x with
    | .str z => some (ks.any fun k => decide (k = .inr z))
    | _ => none
  | _ => none
def cmpV : CmpOp → D → D → Option Bool
  | .Eq, x, y => eqD x y
  | .NotEq, x, y => (eqD x y).map (!·)
  | .Lt, .int i, .int j => some (decide (i < j))
  | .LtE, .int i, .int j => some (decide (i ≤ j))
  | .Gt, .int i, .int j => some (decide (j < i))
  | .GtE, .int i, .int j => some (decide (j ≤ i))
  | .Is, x, .non => match x with | .non => some true | .und => none | _ => some false
  | .IsNot, x, .non => match x with | .non => some false | .und => none | _ => some true
  | .Is, .bl a, .bl b => some (a == b)
  | .IsNot, .bl a, .bl b => some (!(a == b))
  | .In, x, y => inD x y
  | .NotIn, x, y => (inD x y).map (!·)
  | _, _, _ => none
def truD : D → Option Bool
  | .non => some false
  | .bl b => some b
  | .int i => some (i != 0)
  | .str x => if x.length ≤ 16777216 then some ((x.length : Int) != 0) else none
  | .nd _ .lst xs => some (!xs.isEmpty)
  | .nd _ .tup xs => some (!xs.isEmpty)
  | _ => none
def ixV : D → D → Option D
  | .nd _ .lst xs, .int i => atI xs i
  | .nd _ .tup xs, .int i => atI xs i
  | .str z, .int i => if z.length ≤ 16777216 then (atI z.cps.toList i).map fun n => .str ⟨#[n]⟩ else none
  | .nd .sta (.dic ks) vs, .str z => ((ks.zip vs).find? fun q => decide (q.1 = .inr z)).map (·.2)
  | _, _ => none
def cutD (xs : List D) (lo hi : Option Int) : List D := (xs.drop (HT.sIx xs.length 0 lo)).take (HT.sIx xs.length xs.length hi - HT.sIx xs.length 0 lo)
def slcV (x : D) (l h : Option Int) : Option D := match x with
  | .nd _ .lst xs => some (.nd .own .lst (cutD xs l h))
  | .nd t .tup xs => if HT.sIx xs.length 0 l = 0 ∧ HT.sIx xs.length xs.length h = xs.length then some (.nd t .tup xs) else some (.nd .own .tup (cutD xs l h))
  | .str z => if z.length ≤ 16777216 then some (.str (cutS z l h)) else none
  | _ => none
/-- a slice's bound -/
def bndN (e : E) (d : D) : Option (Option Int) := match e with
  | .nop => some none
  | _ => match d with
    | .int i => some (some i)
    | _ => none
def ints? : List D → Option (List Int)
  | [] => some []
  | .int i :: r => (ints? r).map (i :: ·)
  | _ => none
def bls? : List D → Option (List Bool)
  | [] => some []
  | .bl i :: r => (bls? r).map (i :: ·)
  | _ => none
def strs? : List D → Option (List Str)
  | [] => some []
  | .str i :: r => (strs? r).map (i :: ·)
  | _ => none
def isTy : Ty → D → Option Bool
  | _, .und => none
  | _, .fn _ => none
  | _, .nd _ (.ins _ _) _ => none
  | .int, .int _ => some true
  | .int, .bl _ => some true
  | .bool, .bl _ => some true
  | .str, .str _ => some true
  | .list, .nd _ .lst _ => some true
  | .tuple, .nd _ .tup _ => some true
  | _, _ => some false

/-! ### names, slots, targets -/
def getL (env : List D) (i : Nat) : Option D := match env[i]? with
  | some .und => none
  | o => o
/-- a target takes a value -/
def T.set : T → D → List D → R (List D)
  | .nm i, d, env => if d.clean && decide (i < env.length) then .ok (env.set i d) else .stuck
  | .tp is, d, env => match d.ltup? with
    | some xs => if xs.length = is.length && D.alls notBor xs && is.all (fun i => decide (i < env.length)) then .ok (go is xs env) else .stuck
    | none => .stuck
where
  go : List Nat → List D → List D → List D
    | i :: is, x :: xs, env => go is xs (env.set i x)
    | _, _, env => env
/-- what is set owns nothing -/
def T.nown : T → D → Bool
  | .nm _, d => d.all notOwn
  | .tp _, .nd _ .tup xs => D.alls notOwn xs
  | .tp _, _ => true
def wipeD (env : List D) : List Nat → List D
  | [] => env
  | v :: vs => (wipeD env vs).set v .und
/-- the items that a walk gives -/
def itemsOf : Ik → List D → Option (List D)
  | .lst, [.nd _ .lst xs] => some xs
  | .lst, [.nd _ .tup xs] => some xs
  | .str, [.str z] => some (z.cps.toList.map fun n => .str ⟨#[n]⟩)
  | .rng, [.int j] => if decide (-4611686018427387904 ≤ j) && decide (j < 4611686018427387904) then some ((List.range j.toNat).map fun (n : Nat) => D.int (n : Int)) else none
  | .rng, [.int i, .int j] => if decide (-4611686018427387904 ≤ i) && decide (i < 4611686018427387904) && decide (-4611686018427387904 ≤ j) && decide (j < 4611686018427387904) then some ((List.range (j - i).toNat).map fun (n : Nat) => D.int (i + (n : Int))) else none
  | .zip, [.nd _ .lst xs, .nd _ .lst ys] => some ((xs.zip ys).map fun p => .nd .own .tup [p.1, p.2])
  | .zipS, [.nd _ .lst xs, .str z] => some ((xs.zip z.cps.toList).map fun p => .nd .own .tup [p.1, .str ⟨#[p.2]⟩])
  | .enum, [.nd _ .lst xs] => some ((xs.zipIdx).map fun p => .nd .own .tup [.int (p.2 : Int), p.1])
  | _, _ => none

/-! ### calls -/
/-- how a callee sees its arguments -/
def seen (d : D) : D := d.tag toAny
/-- what the caller makes of a result -/
def called (fz : Tag) (ds : List D) (d : D) : Option D :=
  if d.all notOld then some d
  else if D.alls notBor ds then (if D.alls notOld ds then some (d.tag (anyTo fz)) else some d)
  else none
def R.called (fz : Tag) (ds env : List D) : R D → R (D × List D)
  | .ok d => R.of ((VI.called fz ds d).map fun d' => (d', env))
  | .exc x fs _ => .exc x fs env
  | .stuck => .stuck

def sortI (ns : List Int) : List Int := ns.mergeSort fun a b => decide (a ≤ b)
def biV : Bi → List D → Option D
  | .len, [.nd _ .lst xs] => some (.int xs.length)
  | .len, [.nd _ .tup xs] => some (.int xs.length)
  | .len, [.str z] => if z.length ≤ 16777216 then some (.int z.length) else none
  | .abs, [.int i] => some (.int (if i < 0 then -i else i))
  | .max2, [.int i, .int j] => some (.int (if j > i then j else i))
  | .min2, [.int i, .int j] => some (.int (if j < i then j else i))
  | .divmod, [.int i, .int j] => if divOk j then some (.nd .own .tup [.int (i / j), .int (i % j)]) else none
  | .int, [.int i] => some (.int i)
  | .int, [.bl k] => some (.int (if k then 1 else 0))
  | .str, [.int i] => if i.natAbs.log2 < 1920 then some (.str (toString i)) else none
  | .list, [.nd _ .lst xs] => some (.nd .own .lst xs)
  | .list, [.nd _ .tup xs] => some (.nd .own .lst xs)
  | .tuple, [.nd _ .lst xs] => some (.nd .own .tup xs)
  | .tuple, [.nd t .tup xs] => some (.nd t .tup xs)
  | .sum, [.nd _ .lst xs] => (ints? xs).map fun ns => .int ns.sum
  | .all, [.nd _ .lst xs] => (bls? xs).map fun bs => .bl (bs.all id)
  | .any, [.nd _ .lst xs] => (bls? xs).map fun bs => .bl (bs.any id)
  | .max1, [.nd _ .lst xs] => match ints? xs with
    | some (n :: ns) => some (.int (ns.foldl max n))
    | _ => none
  | .min1, [.nd _ .lst xs] => match ints? xs with
    | some (n :: ns) => some (.int (ns.foldl min n))
    | _ => none
  | .sorted, [.nd _ .lst xs] => (ints? xs).map fun ns => .nd .own .lst ((sortI ns).map .int)
  | _, _ => none
/-- the first place that is equal -/
def idxF (x : D) : List D → Nat → Option Nat
  | [], _ => none
  | y :: r, n => if eqF y x then some n else idxF x r (n + 1)
def mthT : Mt → D → Bool
  | .index, .nd _ .lst _ => true
  | .join, .str _ => true
  | .split, .str _ => true
  | .count, .str _ => true
  | .endswith, .str _ => true
  | _, _ => false
def mthV : Mt → D → List D → Option D
  | .join, .str a, [.nd _ .lst xs] => match strs? xs with
    | some ys => if (ys.map (·.length)).sum + ys.length * a.length ≤ 16777216 then some (.str (Txt.join a ys)) else none
    | none => none
  | .join, .str a, [.nd _ .tup xs] => match strs? xs with
    | some ys => if (ys.map (·.length)).sum + ys.length * a.length ≤ 16777216 then some (.str (Txt.join a ys)) else none
    | none => none
  | .split, .str a, [.str b] => if (b.length == 0) = false ∧ a.length + 2 ≤ 16777216 then some (.nd .own .lst ((Txt.split a b).map .str)) else none
  | .count, .str a, [.str b] => some (.int (Txt.count a b))
  | .endswith, .str a, [.str b] => some (.bl (Txt.endswith a b))
  | .index, .nd _ .lst xs, [d] => if d.flat && xs.all D.flat then (idxF d xs 0).map fun (n : Nat) => .int (n : Int) else none
  | _, _, _ => none

/-- isinstance with a class of the text -/
def isCls (sub : Str → Str → Option Bool) (C : Str) : D → Option Bool
  | .nd _ (.ins n _) _ => sub n C
  | _ => none
/-- len(set(..)) -/
def lsetV : D → Option D
  | .nd _ .lst xs => match strs? xs with
    | some ys => if ys.length < 4000 then some (.int (met ys).length) else none
    | none => none
  | _ => none
def R.noexc {α : Type} : R α → R α
  | .ok a => .ok a
  | _ => .stuck
/-- a comprehension's turns -/
def compL (tst : List D → R Bool) (elt : List D → R (D × List D)) (tg : T) (env : List D) : List D → List D → R (List D)
  | [], acc => .ok acc
  | d :: ds, acc => if !tg.nown d then .stuck else (tg.set d env).noexc.bind fun env1 => (tst env1).noexc.bind fun b =>
    if b = true then (elt env1).noexc.bind fun r => if r.1.clean && decide (acc.length < 16777216) then compL tst elt tg env ds (acc ++ [r.1]) else .stuck
    else compL tst elt tg env ds acc

/-- what a name gives -/
def locSem (fz : Tag) (i : Nat) (m : Md) (env : List D) : R (D × List D) := match getL env i with
  | none => .stuck
  | some d => match m with
    | .bor => .ok (d.tag (ownTo .bor), env)
    | .mv => .ok (d, env.set i .und)
    | .cpy => .ok (d.tag (ownTo fz), env.set i (d.tag (ownTo fz)))
    | .cpc => match d with
      | .nd .own k xs => .ok (.nd .bor k (D.tags (ownTo fz) xs), env.set i (.nd .own k (D.tags (ownTo fz) xs)))
      | d => .ok (d.tag (ownTo fz), env.set i (d.tag (ownTo fz)))

/-! ### what an expression gives -/
mutual
def E.sem (G : Calls) : E → List D → R (D × List D)
  | .nop, env => .ok (.und, env)
  | .lit d, env => .ok (d, env)
  | .loc i m, env => locSem G.frz i m env
  | .glb x, env => R.of ((G.cst x).map fun d => (d, env))
  | .bin o a b, env => (a.sem G env).bind fun p => (b.sem G p.2).bind fun q => R.of ((binV o p.1 q.1).map fun d => (d, q.2))
  | .cmp o a b, env => (a.sem G env).bind fun p => (b.sem G p.2).bind fun q => R.of ((cmpV o p.1 q.1).map fun d => (.bl d, q.2))
  | .cm2 o p a b d, env => (a.sem G env).bind fun x => (b.sem G x.2).bind fun y => match cmpV o x.1 y.1 with
    | some true => (d.sem G y.2).bind fun z => R.of ((cmpV p y.1 z.1).map fun k => (.bl k, z.2))
    | some false => .ok (.bl false, y.2)
    | none => .stuck
  | .cm3 o p q a b d e, env => (a.sem G env).bind fun x => (b.sem G x.2).bind fun y => match cmpV o x.1 y.1 with
    | some true => (d.sem G y.2).bind fun z => (match cmpV p y.1 z.1 with
      | some true => (e.sem G z.2).bind fun u => R.of ((cmpV q z.1 u.1).map fun k => (.bl k, u.2))
      | some false => .ok (.bl false, z.2)
      | none => .stuck)
    | some false => .ok (.bl false, y.2)
    | none => .stuck
  | .bop o es, env => semB G o es env
  | .not a, env => (a.sem G env).bind fun p => match p.1 with
    | .bl b => .ok (.bl (!b), p.2)
    | _ => .stuck
  | .tru a, env => (a.sem G env).bind fun p => R.of ((truD p.1).map fun b => (.bl b, p.2))
  | .neg a, env => (a.sem G env).bind fun p => match p.1 with
    | .int i => .ok (.int (-i), p.2)
    | _ => .stuck
  | .ife t a b, env => (t.sem G env).bind fun p => match p.1 with
    | .bl true => a.sem G p.2
    | .bl false => b.sem G p.2
    | _ => .stuck
  | .tup es, env => (semL G es env).bind fun p => if p.1.length ≤ 16777216 then .ok (.nd .own .tup p.1, p.2) else .stuck
  | .lst es, env => (semL G es env).bind fun p => if p.1.length ≤ 16777216 then .ok (.nd .own .lst p.1, p.2) else .stuck
  | .ix a i, env => (a.sem G env).bind fun p => (i.sem G p.2).bind fun q => R.of ((ixV p.1 q.1).map fun d => (d, q.2))
  | .slc a lo hi, env => (a.sem G env).bind fun p => (lo.sem G p.2).bind fun q => (R.of (bndN lo q.1)).bind fun l => (hi.sem G q.2).bind fun r => (R.of (bndN hi r.1)).bind fun h => R.of ((slcV p.1 l h).map fun d => (d, r.2))
  | .rev a, env => (a.sem G env).bind fun p => match p.1 with
    | .nd t .lst xs => .ok (.nd .own .lst xs.reverse, p.2)
    | _ => .stuck
  | .fld a f, env => (a.sem G env).bind fun p => match p.1 with
    | .nd _ (.ins _ fs) xs => R.of (((fs.zip xs).lookup f).map fun d => (d, p.2))
    | _ => .stuck
  | .call f es, env => (semL G es env).bind fun p => (G.fn f (p.1.map seen)).called G.frz p.1 p.2
  | .mk C es, env => (semL G es env).bind fun p => (G.mkc C (p.1.map seen)).called G.frz p.1 p.2
  | .cal i es, env => match getL env i with
    | some (.fn f) => (semL G es env).bind fun p => (G.fn f (p.1.map seen)).called G.frz p.1 p.2
    | _ => .stuck
  | .blt b es, env => (semL G es env).bind fun p => R.of ((biV b p.1).map fun d => (d, p.2))
  | .isi a t, env => (a.sem G env).bind fun p => R.of ((isTy t p.1).map fun b => (.bl b, p.2))
  | .isc a C, env => (a.sem G env).bind fun p => R.of ((isCls G.sub C p.1).map fun b => (.bl b, p.2))
  | .lset a, env => (a.sem G env).bind fun p => R.of ((lsetV p.1).map fun d => (d, p.2))
  | .mth m a es, env => (a.sem G env).bind fun p => if mthT m p.1 = true then (semL G es p.2).bind fun q => R.of ((mthV m p.1 q.1).map fun d => (d, q.2)) else .stuck
  | .ump a m es, env => (a.sem G env).bind fun p => match p.1 with
    | .nd _ (.ins c fl) _ => if fl.contains m || !G.hm c m then .stuck else (semL G es p.2).bind fun q => (G.mt c m (p.1 :: q.1 |>.map seen)).called G.frz (p.1 :: q.1) q.2
    | _ => .stuck
  | .comp vs tg k its cond elt, env => (semL G its env).bind fun p =>
    if D.alls notBor p.1 && vs.all (fun i => (getL p.2 i).isNone) then
      (R.of (itemsOf k (D.tags (ownTo G.frz) p.1))).bind fun ds =>
        (compL (fun env1 => (semC G cond env1)) (fun env1 => (elt.sem G env1)) tg p.2 ds []).bind fun acc => .ok (.nd .own .lst acc, p.2)
    else .stuck
def semL (G : Calls) : List E → List D → R (List D × List D)
  | [], env => .ok ([], env)
  | e :: es, env => (e.sem G env).bind fun p => (semL G es p.2).bind fun q => .ok (p.1 :: q.1, q.2)
def semB (G : Calls) : BoolOp → List E → List D → R (D × List D)
  | _, [], _ => .stuck
  | _, [e], env => (e.sem G env).bind fun p => match p.1 with
    | .bl b => .ok (.bl b, p.2)
    | _ => .stuck
  | o, e :: es, env => (e.sem G env).bind fun p => match o, p.1 with
    | .And, .bl false => .ok (.bl false, p.2)
    | .Or, .bl true => .ok (.bl true, p.2)
    | _, .bl _ => semB G o es p.2
    | _, _ => .stuck
def semC (G : Calls) : List E → List D → R Bool
  | [], _ => .ok true
  | [e], env => (e.sem G env).bind fun p => match p.1 with
    | .bl b => .ok b
    | _ => .stuck
  | _, _ => .stuck
end
end VI

set_option maxHeartbeats 4000000
namespace VI
open PySem PySem.Spec L2
open PyProof.Rows hiding St

/-! ### whether a text is what the tree says -/
def visC (sc : Scope) (N : List Str) (i : Nat) (x : Str) : Bool :=
  decide (N[i]? = some x) && (match sc.names.lookup x with | some .local => true | some .cell => true | some .free => true | _ => false) && !(x == ("__debug__" : Str)) && !(x == ("__classdict__" : Str))
def locC (sc : Scope) (N : List Str) (i : Nat) (x : Str) : Bool :=
  decide (N[i]? = some x) && (match sc.names.lookup x with | some .local => true | some .cell => true | _ => false)
def glC (sc : Scope) (x : Str) : Bool := decide (sc.names.lookup x = some .globalImplicit) && !(x == ("__debug__" : Str))
theorem visC_ok {sc : Scope} {N : List Str} {i : Nat} {x : Str} (h : visC sc N i x = true) : N[i]? = some x ∧ Vis sc x ∧ (x == ("__debug__" : Str)) = false ∧ (x == ("__classdict__" : Str)) = false := by
  unfold visC at h
  simp only [Bool.and_eq_true, decide_eq_true_eq, Bool.not_eq_true'] at h
  obtain ⟨⟨⟨h1, h2⟩, h3⟩, h4⟩ := h
  refine ⟨h1, ?_, h3, h4⟩
  unfold Vis
  split at h2 <;> first | exact .inl (by assumption) | exact .inr (.inl (by assumption)) | exact .inr (.inr (by assumption)) | cases h2
theorem locC_ok {sc : Scope} {N : List Str} {i : Nat} {x : Str} (h : locC sc N i x = true) : N[i]? = some x ∧ L2.Loc sc x := by
  unfold locC at h
  simp only [Bool.and_eq_true, decide_eq_true_eq] at h
  obtain ⟨h1, h2⟩ := h
  refine ⟨h1, ?_⟩
  unfold L2.Loc
  split at h2 <;> first | exact .inl (by assumption) | exact .inr (by assumption) | cases h2
theorem glC_ok {sc : Scope} {x : Str} (h : glC sc x = true) : sc.names.lookup x = some .globalImplicit ∧ (x == ("__debug__" : Str)) = false := by
  unfold glC at h
  simp only [Bool.and_eq_true, decide_eq_true_eq, Bool.not_eq_true'] at h
  exact h
/-- names that the text may use: defs, classes, methods, fields -/
structure Nm where
  fs : List Str
  cls : List Str
  mts : List Str
  fld : List Str
  kls : List Str
def biName : Bi → Str
  | .len => "len" | .abs => "abs" | .max2 => "max" | .min2 => "min" | .min3 => "min" | .divmod => "divmod" | .int => "int" | .str => "str" | .list => "list" | .tuple => "tuple"
  | .sum => "sum" | .all => "all" | .any => "any" | .sorted => "sorted" | .max1 => "max" | .min1 => "min" | .dict => "dict" | .lenset => "len"
def mtName : Mt → Str
  | .index => "index" | .count => "count" | .join => "join" | .split => "split" | .endswith => "endswith"
def tyName : Ty → Str
  | .int => "int" | .bool => "bool" | .str => "str" | .list => "list" | .tuple => "tuple"
def noSup : Expr → Bool
  | .Call (.Name _ _) [] [] _ => false
  | _ => true
def noStarB : Expr → Bool
  | .Starred .. => false
  | _ => true
/-- its truth is its value's -/
def plainT : Expr → Bool
  | .UnaryOp .Not _ _ => false
  | .BoolOp .. => false
  | .IfExp .. => false
  | .Compare .. => false
  | _ => true
def T.mat (sc : Scope) (N : List Str) : T → Expr → Bool
  | .nm i, .Name x _ => locC sc N i x
  | .tp is, .Tuple es _ _ => go is es
  | _, _ => false
where
  go : List Nat → List Expr → Bool
    | [], [] => true
    | i :: is, .Name x _ :: es => locC sc N i x && go is es
    | _, _ => false
def T.slots : T → List Nat
  | .nm i => [i]
  | .tp is => is
def T.isTp : T → Bool
  | .tp _ => true
  | _ => false
/-- the sources of a walk -/
def itHead (sc : Scope) (tg : T) : Ik → Expr → Option (List Expr)
  | .lst, a => some [a]
  | .str, a => some [a]
  | .rng, .Call (.Name x _) as [] _ => if decide (x = ("range" : Str)) && glC sc x then some as else none
  | .zipS, .Call (.Name x _) as [] _ => if decide (x = ("zip" : Str)) && glC sc x && tg.isTp then some as else none
  | .zip, .Call (.Name x _) as [] _ => if decide (x = ("zip" : Str)) && glC sc x && tg.isTp then some as else none
  | .enum, .Call (.Name x _) as [] _ => if decide (x = ("enumerate" : Str)) && glC sc x && tg.isTp then some as else none
  | _, _ => none
def lenOk : Ik → Nat → Bool
  | .rng, n => decide (n ≤ 2) && decide (1 ≤ n)
  | .zip, n => decide (n = 2)
  | .zipS, n => decide (n = 2)
  | _, n => decide (n = 1)
mutual
/-- nothing of the slots is turned -/
def E.pure : E → Bool
  | .loc _ m => m == .bor
  | .bin _ a b => a.pure && b.pure
  | .cmp _ a b => a.pure && b.pure
  | .cm2 _ _ a b d => a.pure && b.pure && d.pure
  | .cm3 _ _ _ a b d e => a.pure && b.pure && d.pure && e.pure
  | .bop _ es => pureL es
  | .not a => a.pure
  | .tru a => a.pure
  | .neg a => a.pure
  | .ife t a b => t.pure && a.pure && b.pure
  | .tup es => pureL es
  | .lst es => pureL es
  | .ix a i => a.pure && i.pure
  | .slc a l h => a.pure && l.pure && h.pure
  | .rev a => a.pure
  | .fld a _ => a.pure
  | .call _ es => pureL es
  | .mk _ es => pureL es
  | .cal _ es => pureL es
  | .blt _ es => pureL es
  | .isi a _ => a.pure
  | .isc a _ => a.pure
  | .lset a => a.pure
  | .mth _ a es => a.pure && pureL es
  | .ump a _ es => a.pure && pureL es
  | .comp _ _ _ its _ _ => pureL its
  | .nop => true
  | .lit _ => true
  | .glb _ => true
def pureL : List E → Bool
  | [] => true
  | e :: es => e.pure && pureL es
end
mutual
/-- t: where a test is wanted -/
def E.mat (fs : Nm) (sc : Scope) (N : List Str) (t : Bool) : E → Expr → Bool
  | .lit d, .Constant k _ _ => !t && (match d, k with
    | .non, .none => true
    | .bl b, .bool b' => b == b'
    | .int i, .int j => decide (i = j)
    | .str x, .str y => decide (x = y)
    | _, _ => false)
  | .loc i m, .Name x _ => !t && !(m == .cpc) && visC sc N i x
  | .glb x, .Name y _ => !t && decide (x = y) && glC sc x
  | .bin o a b, .BinOp l p r _ => !t && decide (o = p) && a.mat fs sc N false l && b.mat fs sc N false r
  | .cmp o a b, .Compare l [p] [r] _ => decide (o = p) && a.mat fs sc N false l && b.mat fs sc N false r
  | .cm2 o p a b d, .Compare l [o', p'] [r, q] _ => decide (o = o') && decide (p = p') && a.mat fs sc N false l && b.mat fs sc N false r && d.mat fs sc N false q
  | .cm3 o p q a b d e, .Compare l [o', p', q'] [r, u, v] _ => decide (o = o') && decide (p = p') && decide (q = q') && a.mat fs sc N false l && b.mat fs sc N false r && d.mat fs sc N false u && e.mat fs sc N false v
  | .bop o es, .BoolOp p as _ => decide (o = p) && matL fs sc N t es as
  | .not a, .UnaryOp .Not b _ => a.mat fs sc N t b
  | .tru a, b => t && plainT b && a.mat fs sc N false b
  | .neg a, .UnaryOp .USub b _ => !t && a.mat fs sc N false b
  | .ife c a b, .IfExp c' a' b' _ => !t && c.mat fs sc N true c' && a.mat fs sc N false a' && b.mat fs sc N false b'
  | .tup es, .Tuple as _ _ => !t && matL fs sc N false es as
  | .lst es, .List as _ => !t && matL fs sc N false es as
  | .rev a, .Subscript b (.Slice none none (some (.UnaryOp .USub (.Constant (.int 1) _ _) _)) _) _ => !t && a.mat fs sc N false b
  | .ix a i, .Subscript b j _ => !t && a.mat fs sc N false b && i.mat fs sc N false j
  | .slc a lo hi, .Subscript b (.Slice l h none _) _ => !t && a.mat fs sc N false b && (match l with | none => (match lo with | .nop => true | _ => false) | some l => lo.mat fs sc N false l) && (match h with | none => (match hi with | .nop => true | _ => false) | some h => hi.mat fs sc N false h)
  | .call f es, .Call (.Name x _) (a :: as) [] _ => !t && decide (f = x) && fs.fs.contains f && glC sc x && matL fs sc N false es (a :: as)
  | .blt b es, .Call (.Name x _) (a :: as) [] _ => !t && decide (biName b = x) && glC sc x && matL fs sc N false es (a :: as)
  | .mth m e es, .Call (.Attribute o x apos) (a :: as) [] cpos => !t && decide (x = mtName m) && noSup o && (apos.endLine == cpos.line) && decide ((a :: as).length < 20) && e.mat fs sc N false o && matL fs sc N false es (a :: as)
  | .isi e ty, .Call (.Name x _) [a, .Name y _] [] _ => !t && decide (x = ("isinstance" : Str)) && decide (tyName ty = y) && glC sc x && glC sc y && e.mat fs sc N false a
  | .fld a f, .Attribute b x _ => !t && decide (f = x) && fs.fld.contains f && noSup b && a.mat fs sc N false b
  | .mk C es, .Call (.Name x _) (a :: as) [] _ => !t && decide (C = x) && fs.cls.contains C && glC sc x && matL fs sc N false es (a :: as)
  | .cal i es, .Call (.Name x _) (a :: as) [] _ => !t && visC sc N i x && matL fs sc N false es (a :: as)
  | .ump e m es, .Call (.Attribute o x apos) as [] cpos => !t && decide (m = x) && fs.mts.contains m && noSup o && (apos.endLine == cpos.line) && decide (as.length < 20) && e.mat fs sc N false o && matL fs sc N false es as
  | .isc e C, .Call (.Name x _) [a, .Name y _] [] _ => !t && decide (x = ("isinstance" : Str)) && decide (C = y) && fs.kls.contains C && glC sc x && glC sc y && e.mat fs sc N false a
  | .lset e, .Call (.Name x _) [.Call (.Name y _) [a] [] _] [] _ => !t && decide (x = ("len" : Str)) && decide (y = ("set" : Str)) && glC sc x && glC sc y && noStarB a && e.mat fs sc N false a
  | .comp vs tg k its cond elt, .ListComp el [⟨tga, iter, ifs, 0⟩] scope _ => !t && blkC N sc scope (vs.map fun i => (N.getD i "", i)) && tg.mat scope N tga && tg.slots.all (fun i => vs.contains i)
      && (match itHead sc tg k iter with
        | some as => matL fs sc N false its as && lenOk k its.length
        | none => false)
      && matL fs scope N true cond ifs && decide (cond.length ≤ 1) && elt.mat fs scope N false el && elt.pure && pureL cond
  | _, _ => false
def matL (fs : Nm) (sc : Scope) (N : List Str) (t : Bool) : List E → List Expr → Bool
  | [], [] => true
  | e :: es, a :: as => e.mat fs sc N t a && matL fs sc N t es as
  | _, _ => false
end

/-! ### the wishes -/
def wpE (X : Cx) (a : Expr) : TE := fun σ H Q => ∀ (pins : List (Addr × Obj)) (s : Shared), Inv X pins σ H s → wpAny (model X.prog X.w) X.A (eval a X.env) (EP X pins σ Q) X.xe s
def wpT (X : Cx) (a : Expr) : TT := fun σ H Q => ∀ (pins : List (Addr × Obj)) (s : Shared), Inv X pins σ H s → wpAny (model X.prog X.w) X.A (isTrue a X.env (eval a X.env)) (TP X pins σ Q) X.xe s
def wpA (X : Cx) (as : List Expr) : TA := fun σ H Q => ∀ (pos : Pos) (pins : List (Addr × Obj)) (s : Shared), Inv X pins σ H s → wpAny (model X.prog X.w) X.A (spliced (backTo pos (starEach as X.env))) (AP X pins σ Q) X.xe s
theorem wpE.pe {X : Cx} {a : Expr} : PE X a (wpE X a) := ⟨fun pins s σ H Q I h => h pins s I⟩
theorem wpT.pt {X : Cx} {a : Expr} : PT X a (wpT X a) := ⟨fun pins s σ H Q I h => h pins s I⟩
theorem wpA.pa {X : Cx} {as : List Expr} : PA X as (wpA X as) := ⟨fun pos pins s σ H Q I h => h pos pins s I⟩
theorem wpE.of {X : Cx} {a : Expr} {t : TE} (h : PE X a t) {σ : St} {H : Hp} {Q : VK} (q : t σ H Q) : wpE X a σ H Q := fun pins s I => h.run pins s σ H Q I q
theorem wpT.of {X : Cx} {a : Expr} {t : TT} (h : PT X a t) {σ : St} {H : Hp} {Q : Bool → Hp → Prop} (q : t σ H Q) : wpT X a σ H Q := fun pins s I => h.run pins s σ H Q I q
theorem wpA.of {X : Cx} {as : List Expr} {t : TA} (h : PA X as t) {σ : St} {H : Hp} {Q : List V → Hp → Prop} (q : t σ H Q) : wpA X as σ H Q := fun pos pins s I => h.run pos pins s σ H Q I q

/-- an exception by its class and fields -/
def ExcR (c : Gc) (x : Str) (fs : List D) (cls : Value) (dd : Option Addr) (H : Hp) : Prop :=
  ∃ C, c.cls x = some C ∧ cls = .ref C ∧ ((fs = [] ∧ dd = none) ∨ ∃ a f v, fs = [v] ∧ dd = some a ∧ ∃ u, H a = some (.xd [(f, u)]) ∧ Rep c.c0 (fun _ => none) (fun _ => none) H v u fun _ => 0)
/-- what a def promises: call is what it does -/
def SpF (c : Gc) (call : List D → R D) : Sp := fun vs H Q E => ∃ ds Fa, Reps c.c0 Fa (fun _ => none) H ds vs (fun _ => 0) ∧ D.alls notOwn ds = true ∧ D.alls notBor ds = true ∧ Same Fa H ∧
  match call ds with
  | .ok d => ∀ v H' Fa' Fn' m, Same H H' → Same Fa' H' → Same Fn' Fa' → Same Fa Fa' → (∀ a o, Fa' a = some o → Fa a = some o ∨ H a = none) → (∀ a o, Fn' a = some o → H a = none) →
      Rep c.c0 Fa' Fn' H' d v m → d.clean = true → (∀ a, m a ≤ nwc H a) → (∀ a, m a ≠ 0 → Fa' a = none) → Q v H'
  | .exc x fs _ => ∀ cls dd H', Same H H' → ExcR c x fs cls dd H' → E cls dd H'
  | .stuck => False

/-- what an __init__ promises: call is what it makes -/
def SpI (c : Gc) (Ca : Addr) (call : List D → R D) : Sp := fun us H Q E => ∃ x dx vs H1 ds Fa, us = .ref x :: vs ∧ H = upd (upd H1 dx (.own x)) x (.ins Ca dx []) ∧ H1 x = none ∧ H1 dx = none ∧ dx ≠ x ∧
  Reps c.c0 Fa (fun _ => none) H1 ds vs (fun _ => 0) ∧ D.alls notOwn ds = true ∧ D.alls notBor ds = true ∧ Same Fa H1 ∧
  match call ds with
  | .ok d => ∀ H' Fa' Fn' m, Same H1 H' → Same Fa' H' → Same Fn' Fa' → Same Fa Fa' → (∀ a o, Fa' a = some o → Fa a = some o ∨ H1 a = none) → (∀ a o, Fn' a = some o → H1 a = none) →
      Rep c.c0 Fa' Fn' H' d (.ref x) m → d.clean = true → (∀ a, m a ≤ nwc H1 a) → (∀ a, m a ≠ 0 → Fa' a = none) → Q .non H'
  | .exc x fs _ => ∀ cls dd H', Same H1 H' → ExcR c x fs cls dd H' → E cls dd H'
  | .stuck => False
/-- the names as the tree has them, and as they stand (a comprehension's: a free name may have become a cell) -/
structure ScOk (sc : Scope) (X : Cx) : Prop where
  ix : ∀ x k, sc.names.lookup x = some k → ∃ k', X.env.scope.names.lookup x = some k' ∧ (k' = k ∨ (k = .free ∧ k' = .cell))
  cell : ∀ x, sc.names.lookup x = some .cell → X.fn x = true
theorem ScOk.vis {sc : Scope} {X : Cx} (h : ScOk sc X) {N : List Str} {i : Nat} {x : Str} (hv : visC sc N i x = true) : N[i]? = some x ∧ Vis X.env.scope x ∧ (x == ("__debug__" : Str)) = false ∧ (x == ("__classdict__" : Str)) = false := by
  obtain ⟨h1, h2, h3, h4⟩ := visC_ok hv
  refine ⟨h1, ?_, h3, h4⟩
  rcases h2 with h2 | h2 | h2
  · obtain ⟨k, e, r | ⟨r, _⟩⟩ := h.ix x _ h2
    · exact .inl (r ▸ e)
    · cases r
  · obtain ⟨k, e, r | ⟨r, _⟩⟩ := h.ix x _ h2
    · exact .inr (.inl (r ▸ e))
    · cases r
  · obtain ⟨k, e, r | ⟨_, r⟩⟩ := h.ix x _ h2
    · exact .inr (.inr (r ▸ e))
    · exact .inr (.inl (r ▸ e))
theorem ScOk.loc {sc : Scope} {X : Cx} (h : ScOk sc X) {N : List Str} {i : Nat} {x : Str} (hv : locC sc N i x = true) : N[i]? = some x ∧ L2.Loc X.env.scope x ∧ (X.fn x = true ∨ X.env.scope.names.lookup x = some .local) := by
  obtain ⟨h1, h2⟩ := locC_ok hv
  refine ⟨h1, ?_⟩
  rcases h2 with h2 | h2
  · obtain ⟨k, e, r | ⟨r, _⟩⟩ := h.ix x _ h2
    · exact ⟨.inl (r ▸ e), .inr (r ▸ e)⟩
    · cases r
  · obtain ⟨k, e, r | ⟨r, _⟩⟩ := h.ix x _ h2
    · exact ⟨.inr (r ▸ e), .inl (h.cell x h2)⟩
    · cases r
theorem ScOk.gl {sc : Scope} {X : Cx} (h : ScOk sc X) {x : Str} (hv : glC sc x = true) : X.env.scope.names.lookup x = some .globalImplicit ∧ (x == ("__debug__" : Str)) = false := by
  obtain ⟨h1, h2⟩ := glC_ok hv
  obtain ⟨k, e, r | ⟨r, _⟩⟩ := h.ix x _ h1
  · exact ⟨r ▸ e, h2⟩
  · cases r
theorem ScOk.blk {sc : Scope} {X : Cx} (h : ScOk sc X) {N : List Str} {scope : Scope} {own : List (Str × Nat)} (hb : blkC N sc scope own = true) : BlkOk N X.env.scope scope own := by
  have b := blkOk_by hb
  refine ⟨b.kind, b.uniq, b.ix, fun y hy e => ?_, b.own⟩
  rcases b.free y hy e with q | q
  · obtain ⟨k, e, r | ⟨r, _⟩⟩ := h.ix _ _ q
    · exact .inl (r ▸ e)
    · cases r
  · obtain ⟨k, e, r | ⟨_, r⟩⟩ := h.ix _ _ q
    · exact .inr (r ▸ e)
    · exact .inl (r ▸ e)
/-- what isinstance asks of an instance's class -/
structure InsC (K : PySem.W.Frag) (C : Addr) : Prop where
  cl : Cls K C
  ha : PySem.W.findIn K (.ref C) "__class__" = some (some (.builtin "object.__class__"))
  hn : PySem.W.specialIn K (.builtin "object.__class__") "__get__" = some (some (.builtin "getset_descriptor.__get__"))
  htk : PySem.W.takesIn K (.builtin "object.__class__") = some true
  hm : PySem.W.mroIn K C (.type "object") = some true
/-- where one stands -/
structure XOk (X : Cx) (c : Gc) (G : Calls) (fs : Nm) : Prop where
  w : X.w = c.w
  setn : X.mg "set" = none
  fl : ∀ n C f, c.cls n = some C → f ∈ fs.fld → Cls X.K C ∧ NoAttr X.K C f
  fa : ∀ x a, c.fa x = some a → x ∈ fs.fs ∧ X.mg x = some (.ref a)
  mkc : ∀ x, x ∈ fs.cls → ∃ (C f : Addr) (fd : FuncData) (ps : List Str) (k : Nat), X.mg x = some (.ref C) ∧ c.cls x = some C ∧ Mk X.K C f ∧ Binds X.K fd ps [] ∧ Room (k + 1) X.A ∧ FnOk X.prog X.w X.K X.mg X.base (L2.CX X.prog X.w) k f fd ps (SpI c C (G.mkc x))
  mt : ∀ n C m, c.cls n = some C → m ∈ fs.mts → G.hm n m = true → Cls X.K C ∧ ∃ (f : Addr) (fd : FuncData) (ps : List Str) (k : Nat), Meth X.K C m f ∧ Binds X.K fd ps [] ∧ Room k X.A ∧ FnOk X.prog X.w X.K X.mg X.base (L2.CX X.prog X.w) k f fd ps (SpF c (G.mt n m))
  kls : ∀ x, x ∈ fs.kls → ∃ A : Addr, X.mg x = some (.ref A)
  sub : ∀ n C x b A, c.cls n = some C → X.mg x = some (.ref A) → G.sub n x = some b → PySem.W.kitOne X.K (.ref C) (.ref A) = some b ∧ InsC X.K C
  K : X.K = c.K
  mg : X.mg = c.mg
  calm : X.calm = true
  nd : X.N.Nodup
  un : X.A.units + 65 < cLine
  cst : ∀ x d, G.cst x = some d → ∃ u v, X.mg x = some u ∧ RelV v u ∧ d.clean = true ∧ ∀ Fa Fn H, Rep c.c0 Fa Fn H d v fun _ => 0
  blt : ∀ b : Bi, X.mg (biName b) = none
  tys : ∀ t : Ty, X.mg (tyName t) = none
  rng : X.mg "range" = none ∧ X.mg "zip" = none ∧ X.mg "enumerate" = none ∧ X.mg "isinstance" = none
  fn : ∀ x, x ∈ fs.fs → ∃ (f : Addr) (fd : FuncData) (ps : List Str) (k : Nat), X.mg x = some (.ref f) ∧ PySem.W.keepIn X.K (.ref f) = true ∧ Binds X.K fd ps [] ∧ Room k X.A ∧
    FnOk X.prog X.w X.K X.mg X.base (L2.CX X.prog X.w) k f fd ps (SpF c (G.fn x))
def FzOk (G : Calls) (f : Fr) : Prop := (G.frz = .new ∧ ∀ a, ¬ f.M a) ∨ G.frz = .any

/-- what lies under what may be read -/
def Und (c : Gc) (Fn Fa H : Hp) : Prop := Same Fn Fa ∧ Same c.hb H
section
variable (X : Cx) (c : Gc) (G : Calls) (f : Fr) (W : WX)
def Wp (σ : St) (H : Hp) (ds : List D) (vs : List V) : R (D × List D) → VK → Prop
  | .ok p, Q => ∀ v H', Same H H' → SR c f σ H' p.2 (p.1 :: ds) (v :: vs) → Q v H'
  | .exc x fs env', Q => ∀ cls dd H', Same H H' → SR c f σ H' env' [] [] → ExcR c x fs cls dd H' → W cls dd σ H'
  | .stuck, _ => False
def WpT (σ : St) (H : Hp) (ds : List D) (vs : List V) : R (D × List D) → (Bool → Hp → Prop) → Prop
  | .ok p, Q => ∃ b, p.1 = .bl b ∧ ∀ H', Same H H' → SR c f σ H' p.2 ds vs → Q b H'
  | .exc x fs env', Q => ∀ cls dd H', Same H H' → SR c f σ H' env' [] [] → ExcR c x fs cls dd H' → W cls dd σ H'
  | .stuck, _ => False
def WpA (σ : St) (H : Hp) (ds : List D) (vs : List V) : R (List D × List D) → (List V → Hp → Prop) → Prop
  | .ok p, Q => ∀ us H', us.length = p.1.length → Same H H' → SR c f σ H' p.2 (p.1 ++ ds) (us ++ vs) → Q us H'
  | .exc x fs env', Q => ∀ cls dd H', Same H H' → SR c f σ H' env' [] [] → ExcR c x fs cls dd H' → W cls dd σ H'
  | .stuck, _ => False
def PEc (e : E) (a : Expr) : Prop := ∀ σ H env ds vs Q, SR c f σ H env ds vs → Wp c f W σ H ds vs (e.sem G env) Q → wpE X a σ H Q
def PTc (e : E) (a : Expr) : Prop := ∀ σ H env ds vs Q, SR c f σ H env ds vs → WpT c f W σ H ds vs (e.sem G env) Q → wpT X a σ H Q
def PAc (es : List E) (as : List Expr) : Prop := ∀ σ H env ds vs Q, SR c f σ H env ds vs → WpA c f W σ H ds vs (semL G es env) Q → wpA X as σ H Q
end

section
variable {X : Cx} {c : Gc} {G : Calls} {f : Fr} {W : WX} {σ : St} {H H' : Hp} {env ds : List D} {vs : List V} {Q : VK}
theorem Wp.same (s : Same H H') {r : R (D × List D)} (h : Wp c f W σ H ds vs r Q) : Wp c f W σ H' ds vs r Q := by
  cases r with
  | ok p => exact fun v H'' s' q => h v H'' (s.trans s') q
  | exc x fs e => exact fun a b H'' s' q r => h a b H'' (s.trans s') q r
  | stuck => exact h
/-- a part, then the rest -/
theorem PEc.then {e : E} {a : Expr} (he : PEc X c G f W e a) (S : SR c f σ H env ds vs) {g : D × List D → R (D × List D)} (h : Wp c f W σ H ds vs ((e.sem G env).bind g) Q) {Q' : VK}
    (k : ∀ p v H', Same H H' → SR c f σ H' p.2 (p.1 :: ds) (v :: vs) → Wp c f W σ H' ds vs (g p) Q → Q' v H') : wpE X a σ H Q' := by
  refine he σ H env ds vs Q' S ?_
  cases r : e.sem G env with
  | ok p =>
    rw [r] at h
    intro v H' s q
    exact k p v H' s q (Wp.same s h)
  | exc x fs e' =>
    rw [r] at h
    exact h
  | stuck =>
    rw [r] at h
    exact h.elim
/-- the operands in order, and what may stand in their place -/
theorem SR.use {d1 rest : List D} {v1 rv : List V} (S : SR c f σ H env (d1 ++ rest) (v1 ++ rv)) (hl : d1.length = v1.length) :
    ∃ Fa Fn m1, Same Fa H ∧ Und c Fn Fa H ∧ Reps c Fa Fn H d1 v1 m1 ∧ ∀ d v H' m', Same H H' → Rep c Fa Fn H' d v m' → (∀ a, m' a ≤ m1 a + nwc H a) → SR c f σ H' env (d :: rest) (v :: rv) := by
  obtain ⟨Fa, Fn, mS, mT, S⟩ := S
  obtain ⟨w1, w2, m1, m2, ee, h1, h2, hm⟩ := S.tmps.split
  obtain ⟨rfl, rfl⟩ := List.append_inj ee (by rw [← hl, h1.len])
  exact ⟨Fa, Fn, m1, S.sub, ⟨S.subn, S.hbs⟩, h1, fun d v H' m' s hd hm' => ⟨Fa, Fn, mS, _, S.res h2 hm s hd hm'⟩⟩
theorem SR.pop {d1 rest : List D} {v1 rv : List V} (S : SR c f σ H env (d1 ++ rest) (v1 ++ rv)) (hl : d1.length = v1.length) : SR c f σ H env rest rv := by
  obtain ⟨Fa, Fn, mS, mT, S⟩ := S
  obtain ⟨m2, S⟩ := S.pop hl
  exact ⟨Fa, Fn, mS, m2, S⟩
theorem SR.grow (S : SR c f σ H env ds vs) (s : Same H H') : SR c f σ H' env ds vs := by
  obtain ⟨Fa, Fn, mS, mT, S⟩ := S
  exact ⟨Fa, Fn, mS, mT, S.grow s⟩
/-- two operands -/
theorem SR.use2 {d1 d2 : D} {rest : List D} {v1 v2 : V} {rv : List V} (S : SR c f σ H env (d2 :: d1 :: rest) (v2 :: v1 :: rv)) :
    ∃ Fa Fn m1 m2, Same Fa H ∧ Und c Fn Fa H ∧ Rep c Fa Fn H d1 v1 m1 ∧ Rep c Fa Fn H d2 v2 m2 ∧ ∀ d v H' m', Same H H' → Rep c Fa Fn H' d v m' → (∀ a, m' a ≤ m1 a + m2 a + nwc H a) → SR c f σ H' env (d :: rest) (v :: rv) := by
  obtain ⟨Fa, Fn, m, h1, h2, h3, h4⟩ := SR.use (d1 := [d2, d1]) (v1 := [v2, v1]) S rfl
  obtain ⟨w2, r, n2, n', e, q2, q3, q4⟩ := h3
  obtain ⟨w1, r', n1, n'', e', q1, q5, q6⟩ := q3
  injection e with e1 e2
  subst e1
  subst e2
  injection e' with e3 e4
  subst e3
  have z := q5.2
  exact ⟨Fa, Fn, n1, n2, h1, h2, q1, q2, fun d v H' m' s hd hm => h4 d v H' m' s hd fun a => by have := hm a; have := q4 a; have := q6 a; have := z a; omega⟩
theorem SR.use1 {d1 : D} {rest : List D} {v1 : V} {rv : List V} (S : SR c f σ H env (d1 :: rest) (v1 :: rv)) :
    ∃ Fa Fn m1, Same Fa H ∧ Und c Fn Fa H ∧ Rep c Fa Fn H d1 v1 m1 ∧ ∀ d v H' m', Same H H' → Rep c Fa Fn H' d v m' → (∀ a, m' a ≤ m1 a + nwc H a) → SR c f σ H' env (d :: rest) (v :: rv) := by
  obtain ⟨Fa, Fn, m, h1, h2, h3, h4⟩ := SR.use (d1 := [d1]) (v1 := [v1]) S rfl
  obtain ⟨w1, r', n1, n'', e', q1, q5, q6⟩ := h3
  injection e' with e3 e4
  subst e3
  have z := q5.2
  exact ⟨Fa, Fn, n1, h1, h2, q1, fun d v H' m' s hd hm => h4 d v H' m' s hd fun a => by have := hm a; have := q6 a; have := z a; omega⟩
/-- a scalar comes -/
theorem SR.push {d : D} {v : V} (S : SR c f σ H env ds vs) (h : ∀ Fa Fn, Rep c Fa Fn H d v fun _ => 0) : SR c f σ H env (d :: ds) (v :: vs) := by
  obtain ⟨Fa, Fn, mS, mT, S⟩ := S
  exact ⟨Fa, Fn, mS, mT, S.push (h Fa Fn)⟩
theorem same_upd {p : Addr} {o : HO} (h : H p = none) : Same H (upd H p o) := fun b x e => by
  rw [upd_ne (ne_of_none e h)]
  exact e
theorem Rep.mkl {Fa Fn : Hp} {p : Addr} {xs : List D} {us : List V} {m : Addr → Nat} (h : Reps c Fa Fn H xs us m) (hp : H p = none) :
    Rep c Fa Fn (upd H p (.lst us)) (.nd .own .lst xs) (.ref p) (fun a => m a + if a = p then 1 else 0) :=
  ⟨p, us, m, rfl, h.grow (same_upd hp), upd_same, fun _ => rfl⟩
theorem Rep.mkt {Fa Fn : Hp} {p : Addr} {xs : List D} {us : List V} {m : Addr → Nat} (h : Reps c Fa Fn H xs us m) (hp : H p = none) :
    Rep c Fa Fn (upd H p (.tup us)) (.nd .own .tup xs) (.ref p) (fun a => m a + if a = p then 1 else 0) :=
  ⟨p, us, m, rfl, h.grow (same_upd hp), upd_same, fun _ => rfl⟩
theorem nwc_new {p a : Addr} (hp : H p = none) : (if a = p then 1 else 0) ≤ nwc H a := by
  by_cases e : a = p
  · subst e; unfold nwc; rw [hp, if_pos rfl, if_pos rfl]; exact Nat.le_refl _
  · rw [if_neg e]; exact Nat.zero_le _
end
end VI

set_option maxHeartbeats 4000000
namespace VI
open PySem PySem.Spec L2
open PyProof.Rows hiding St

/-! ### operators on values -/
/-- any rule that serves -/
def rAnyO (X : Cx) (g : Value → Value → Sem Value) : R2 := fun x y H Q => ∃ r, OpR X g r ∧ r x y H Q
theorem opAny {X : Cx} {g : Value → Value → Sem Value} : OpR X g (rAnyO X g) := fun pins s σ H x y v u Q I rx ry ⟨_, ho, h⟩ => ho pins s σ H x y v u Q I rx ry h
def rAnyC (X : Cx) (g : Value) : List V → Hp → VK → Prop := fun vs H Q => ∃ r, CallR X g r ∧ r vs H Q
theorem callAny {X : Cx} {g : Value} : CallR X g (rAnyC X g) := fun pins s σ H xs us Q I r ⟨_, ho, h⟩ => ho pins s σ H xs us Q I r h

def CMulV (i j : Int) : Prop := mulOk i j = true
theorem CMulV.ok {i j : Int} (h : CMulV i j) : IntMulOk i j := by
  unfold CMulV mulOk at h
  simp only [Bool.or_eq_true, decide_eq_true_eq] at h
  rcases h with (h | h) | h3
  · exact CMul.ok (.inl (by omega))
  · exact CMul.ok (.inr (by omega))
  · have b : ∀ x : Int, Builtin.Int.intBits x ≤ x.natAbs.log2 + 1 := fun x => by
      unfold Builtin.Int.intBits
      split <;> omega
    have h1 := b i
    have h2 := b j
    have e : bitsLine = 134217728 := by decide
    unfold IntMulOk
    intro z
    rw [Bool.and_eq_true] at z
    have z2 := z.2
    unfold Builtin.Int.intTooBig at z2
    have z3 := of_decide_eq_true z2
    rw [e] at z3
    omega
theorem op_mulV {X : Cx} : OpR X (binaryOp .Mult) (rI CMulV fun i j => .int (i * j)) := opI fun _ _ _ _ _ _ _ hc q => mul_int q hc.ok
theorem foldl_arr (xs : List (Array Nat)) (a : Array Nat) : xs.foldl (· ++ ·) a = (a.toList ++ (xs.map Array.toList).flatten).toArray := by
  induction xs generalizing a with
  | nil => simp
  | cons x r ih =>
    rw [List.foldl_cons, ih]
    simp
theorem op_repStr {X : Cx} : OpR X (binaryOp .Mult) (fun x y H Q => ∃ z n, x = .str z ∧ y = .int n ∧ 0 ≤ n ∧ n ≤ 1000 ∧ z.length ≤ 1000 ∧ Q (.str (repStr z n)) H) := by
  intro pins s σ H x y v u Q I rx ry h
  obtain ⟨z, n, rfl, rfl, h0, h1, hz, q⟩ := h
  obtain ⟨t, rfl⟩ := rx
  obtain ⟨t', rfl⟩ := ry
  have hb : z.length * n.toNat ≤ 1000000 := Nat.le_trans (Nat.mul_le_mul hz (show n.toNat ≤ 1000 by omega)) (by decide)
  refine PySem.P.mul_str (by
      have e1 : decide (n < -(2 ^ 63 : Int)) = false := decide_eq_false (by omega)
      have e2 : decide (n ≥ 2 ^ 63) = false := decide_eq_false (by omega)
      rw [e1, e2]; rfl) (fun h2 h3 => ?_) (fun _ _ => ?_) ?_
  · have hn : 1 ≤ n := by omega
    have e : (z.length : Int) * n = ((z.length * n.toNat : Nat) : Int) := by
      rw [Int.natCast_mul, Int.toNat_of_nonneg h0]
    have := Int.le_ediv_of_mul_le (a := (z.length : Int)) (b := 2 ^ 63 - 1) (show 0 < n by omega) (by rw [e]; omega)
    omega
  · show decide (_ > sizeLine) = false
    rw [sizeLine_eq]
    exact decide_eq_false (by omega)
  · unfold repStr at q
    by_cases c1 : n < 1
    · rw [if_pos c1] at q ⊢
      exact ⟨by decide, ⟨.str Str.empty, H, I.tok _, ⟨_, rfl⟩, q⟩⟩
    · rw [if_neg c1] at q ⊢
      by_cases c2 : (n == 1 || z.length == 0) = true
      · rw [if_pos c2]
        refine ⟨.str z, H, I, ⟨t, rfl⟩, ?_⟩
        have e : (⟨(List.replicate n.toNat z.cps.toList).flatten.toArray⟩ : Str) = z := by
          rw [Bool.or_eq_true] at c2
          rcases c2 with c2 | c2
          · have e1 : n = 1 := by simpa using c2
            subst e1
            simp
          · have e1 : z.cps.size = 0 := by simpa [Str.length] using c2
            have e2 : z.cps = #[] := Array.eq_empty_of_size_eq_zero e1
            obtain ⟨zc⟩ := z
            simp only at e2
            subst e2
            simp
        rw [e] at q
        exact q
      · rw [if_neg c2]
        have e : (List.replicate n.toNat z.cps).foldl (· ++ ·) #[] = (List.replicate n.toNat z.cps.toList).flatten.toArray := by
          rw [foldl_arr]
          simp
        rw [e]
        refine ⟨?_, ⟨.str _, H, I.tok _, ⟨_, rfl⟩, q⟩⟩
        have hl : ((List.replicate n.toNat z.cps.toList).flatten.toArray).size = z.length * n.toNat := by
          simp [Str.length, Nat.mul_comm]
        first
          | (show Str.length _ ≤ sizeLine; rw [sizeLine_eq]; show (Array.size _) ≤ _; rw [hl]; omega)
          | (rw [sizeLine_eq]; show (Array.size _) ≤ _; rw [hl]; omega)

section
variable {c : Gc} {Fa Fn H : Hp}
theorem Rep.lstAt {t : Tag} {xs : List D} {v : V} {m : Addr → Nat} (h : Rep c Fa Fn H (.nd t .lst xs) v m) (sa : Same Fa H) (sn : Und c Fn Fa H) (ht : t ≠ .sta) :
    ∃ p us m', v = .ref p ∧ H p = some (.lst us) ∧ Reps c Fa Fn H xs us m' ∧ ∀ a, m' a ≤ m a := by
  obtain ⟨p, us, m', rfl, hr, h⟩ := h
  cases t with
  | own => exact ⟨p, us, m', rfl, h.1, hr, fun a => by have := h.2 a; omega⟩
  | new => exact ⟨p, us, m', rfl, sa _ _ (sn.1 _ _ h.1), hr, fun a => by have := h.2.1 a; omega⟩
  | any => exact ⟨p, us, m', rfl, sa _ _ h.1, hr, fun a => by have := h.2.1 a; omega⟩
  | bor => exact ⟨p, us, m', rfl, sn.2 _ _ h.1, hr, fun a => by have := h.2.1 a; omega⟩
  | sta => exact absurd rfl ht
theorem Rep.seqL {t : Tag} {xs : List D} {v : V} {m : Addr → Nat} (h : Rep c Fa Fn H (.nd t .lst xs) v m) (sa : Same Fa H) (sn : Und c Fn Fa H) :
    ∃ p us m', v = .ref p ∧ SqL c.K H p us ∧ Reps c Fa Fn H xs us m' ∧ ∀ a, m' a ≤ m a := by
  by_cases ht : t = .sta
  · subst ht
    obtain ⟨p, us, m', rfl, hr, h⟩ := h
    exact ⟨p, us, m', rfl, sa.seq h.1, hr, fun a => by have := h.2.1 a; omega⟩
  · obtain ⟨p, us, m', e, h1, h2, h3⟩ := h.lstAt sa sn ht
    exact ⟨p, us, m', e, SqL.of h1, h2, h3⟩
theorem Same.sqt {K : PySem.W.Frag} {H H' : Hp} {a : Addr} {xs : List V} (e : Same H H') (h : SqT K H a xs) : SqT K H' a xs := by
  rcases h with (h | ⟨o, h⟩) | h
  · exact .inl (.inl (e _ _ h))
  · exact .inl (.inr ⟨o, e _ _ h⟩)
  · exact .inr h
theorem Rep.seqT {t : Tag} {xs : List D} {v : V} {m : Addr → Nat} (h : Rep c Fa Fn H (.nd t .tup xs) v m) (sa : Same Fa H) (sn : Und c Fn Fa H) :
    ∃ p us m', v = .ref p ∧ SqT c.K H p us ∧ Reps c Fa Fn H xs us m' ∧ ∀ a, m' a ≤ m a := by
  obtain ⟨p, us, m', rfl, hr, h⟩ := h
  cases t with
  | own => exact ⟨p, us, m', rfl, SqT.of h.1, hr, fun a => by have := h.2 a; omega⟩
  | new => exact ⟨p, us, m', rfl, SqT.of (sa _ _ (sn.1 _ _ h.1)), hr, fun a => by have := h.2.1 a; omega⟩
  | any => exact ⟨p, us, m', rfl, SqT.of (sa _ _ h.1), hr, fun a => by have := h.2.1 a; omega⟩
  | bor => exact ⟨p, us, m', rfl, SqT.of (sn.2 _ _ h.1), hr, fun a => by have := h.2.1 a; omega⟩
  | sta => exact ⟨p, us, m', rfl, Same.sqt sa h.1, hr, fun a => by have := h.2.1 a; omega⟩
mutual
theorem Rep.noOwn : ∀ {d : D} {v : V} {m : Addr → Nat}, Rep c Fa Fn H d v m → d.all notOwn = true → ∀ a, m a = 0
  | .und, v, m, h, _, a => h a
  | .non, v, m, h, _, a => h.2 a
  | .bl b, v, m, h, _, a => h.2 a
  | .int i, v, m, h, _, a => h.2 a
  | .str x, v, m, h, _, a => h.2 a
  | .fn x, v, m, h, _, a => h.2 a
  | .nd t k xs, v, m, h, e, a => by
    obtain ⟨p, vs, m', rfl, hr, h⟩ := h
    cases t with
    | own =>
      have e' : (notOwn .own && D.alls notOwn xs) = true := e
      cases e'
    | new => exact h.2.2 a
    | any => exact h.2.2 a
    | bor => exact h.2.2 a
    | sta => exact h.2.2 a
theorem Reps.noOwn : ∀ {ds : List D} {vs : List V} {m : Addr → Nat}, Reps c Fa Fn H ds vs m → D.alls notOwn ds = true → ∀ a, m a = 0
  | [], vs, m, h, _, a => h.2 a
  | d :: ds, vs, m, h, e, a => by
    obtain ⟨v, r, m1, m2, rfl, h1, h2, hm⟩ := h
    have e' : (d.all notOwn && D.alls notOwn ds) = true := e
    rw [Bool.and_eq_true] at e'
    rw [hm a, Rep.noOwn h1 e'.1 a, Reps.noOwn h2 e'.2 a]
end
/-- many copies of what owns nothing -/
theorem Reps.rep {xs : List D} {us : List V} (h : Reps c Fa Fn H xs us fun _ => 0) : ∀ n : Nat, Reps c Fa Fn H (List.replicate n xs).flatten (List.replicate n us).flatten fun _ => 0
  | 0 => ⟨rfl, fun _ => rfl⟩
  | n + 1 => by
    rw [List.replicate_succ, List.replicate_succ, List.flatten_cons, List.flatten_cons]
    exact (h.append (Reps.rep h n)).ext fun _ => rfl
end

section
variable {X : Cx} {c : Gc} {G : Calls} {fs : Nm} {Fa Fn H : Hp} {x y d : D} {v u : V} {m1 m2 : Addr → Nat} {Q : VK}
theorem rep0 {d : D} {v : V} {Fa Fn H : Hp} (h : Rep c Fa Fn H d v fun _ => 0) : Rep c Fa Fn H d v fun _ => 0 := h
theorem binV_ok (hX : XOk X c G fs) {o : Operator} (e : binV o x y = some d) (sa : Same Fa H) (sn : Und c Fn Fa H) (h1 : Rep c Fa Fn H x v m1) (h2 : Rep c Fa Fn H y u m2)
    (q : ∀ w H' m', Same H H' → Rep c Fa Fn H' d w m' → (∀ a, m' a ≤ m1 a + m2 a + nwc H a) → Q w H') : rAnyO X (binaryOp o) v u H Q := by
  have sc : ∀ {d' : D} {w : V}, d = d' → Rep c Fa Fn H d' w (fun _ => 0) → Q w H := fun {d' w} e r => q w H (fun _ => 0) (Same.refl _) (e ▸ r) fun a => Nat.zero_le _
  have sz : sizeLine = 16777216 := sizeLine_eq
  unfold binV at e
  split at e
  · cases e
    obtain ⟨rfl, _⟩ := h1
    obtain ⟨rfl, _⟩ := h2
    exact ⟨_, op_add, _, _, rfl, rfl, sc rfl ⟨rfl, fun _ => rfl⟩⟩
  · split at e
    · rename_i hl
      cases e
      obtain ⟨rfl, _⟩ := h1
      obtain ⟨rfl, _⟩ := h2
      exact ⟨_, op_add_str, _, _, rfl, rfl, by omega, sc rfl ⟨rfl, fun _ => rfl⟩⟩
    · cases e
  · split at e
    · cases e
    · rename_i hs
      split at e
      · rename_i hl
        cases e
        obtain ⟨p, us, n1, rfl, k1, r1, l1⟩ := h1.lstAt sa sn fun z => hs (.inl z)
        obtain ⟨p', us', n2, rfl, k2, r2, l2⟩ := h2.lstAt sa sn fun z => hs (.inr z)
        refine ⟨_, op_cat, p, p', us, us', rfl, rfl, k1, k2, by rw [← r1.len, ← r2.len]; omega, fun a ha => ?_⟩
        refine q _ _ _ (same_upd ha) (Rep.mkl (r1.append r2) ha) fun b => ?_
        have := @nwc_new H a b ha
        have := l1 b; have := l2 b
        show n1 b + n2 b + _ ≤ _
        omega
      · cases e
  · split at e
    · rename_i hl
      obtain ⟨p, us, n1, e1, k1, r1, l1⟩ := h1.seqT sa sn
      obtain ⟨p', us', n2, e2, k2, r2, l2⟩ := h2.seqT sa sn
      refine ⟨_, op_catA, p, p', us, us', e1, e2, by rw [hX.K]; exact k1, by rw [hX.K]; exact k2, by rw [← r1.len, ← r2.len]; omega, fun z => ?_, fun z1 z2 => ?_, fun z1 z2 a ha => ?_⟩
      · subst z
        have l := r1.len
        split at e
        · cases e
          exact q _ H m2 (Same.refl _) (e2 ▸ h2) fun b => by omega
        · simp_all
        · simp_all
      · subst z2
        have l := r2.len
        split at e
        · exact absurd (List.length_eq_zero_iff.mp (by have := r1.len; simpa using this.symm)) z1
        · cases e
          exact q _ H m1 (Same.refl _) (e1 ▸ h1) fun b => by omega
        · simp_all
      · split at e
        · exact absurd (List.length_eq_zero_iff.mp (by have := r1.len; simpa using this.symm)) z1
        · exact absurd (List.length_eq_zero_iff.mp (by have := r2.len; simpa using this.symm)) z2
        · cases e
          refine q _ _ _ (same_upd ha) (Rep.mkt (r1.append r2) ha) fun b => ?_
          have := @nwc_new H a b ha
          have := l1 b; have := l2 b
          show n1 b + n2 b + _ ≤ _
          omega
    · cases e
  · cases e
    obtain ⟨rfl, _⟩ := h1
    obtain ⟨rfl, _⟩ := h2
    exact ⟨_, op_sub, _, _, rfl, rfl, sc rfl ⟨rfl, fun _ => rfl⟩⟩
  · split at e
    · rename_i hc
      cases e
      obtain ⟨rfl, _⟩ := h1
      obtain ⟨rfl, _⟩ := h2
      exact ⟨_, op_mulV, _, _, rfl, rfl, hc, sc rfl ⟨rfl, fun _ => rfl⟩⟩
    · cases e
  · split at e
    · rename_i hc
      cases e
      obtain ⟨rfl, _⟩ := h1
      obtain ⟨rfl, _⟩ := h2
      simp only [Bool.and_eq_true, decide_eq_true_eq] at hc
      exact ⟨_, op_repStr, _, _, rfl, rfl, hc.1.1, hc.1.2, hc.2, sc rfl ⟨rfl, fun _ => rfl⟩⟩
    · cases e
  · split at e
    · cases e
    · rename_i hs
      split at e
      · rename_i hc
        cases e
        simp only [Bool.and_eq_true, decide_eq_true_eq] at hc
        obtain ⟨p, us, n1, rfl, k1, r1, l1⟩ := h1.lstAt sa sn hs
        obtain ⟨rfl, _⟩ := h2
        have z := r1.noOwn hc.1.1.1
        refine ⟨_, op_rep, p, _, us, rfl, rfl, k1, by omega, by omega, by rw [← r1.len]; omega, fun a ha => ?_⟩
        refine q _ _ _ (same_upd ha) (Rep.mkl (Reps.rep (r1.ext fun a => (z a).symm) _) ha) fun b => ?_
        have := @nwc_new H a b ha
        show 0 + _ ≤ _
        omega
      · cases e
  · split at e
    · rename_i hc
      cases e
      obtain ⟨rfl, _⟩ := h1
      obtain ⟨rfl, _⟩ := h2
      unfold divOk at hc
      simp only [Bool.and_eq_true, decide_eq_true_eq] at hc
      exact ⟨_, op_fdiv, _, _, rfl, rfl, hc, sc rfl ⟨rfl, fun _ => rfl⟩⟩
    · cases e
  · split at e
    · rename_i hc
      cases e
      obtain ⟨rfl, _⟩ := h1
      obtain ⟨rfl, _⟩ := h2
      exact ⟨_, op_mod, _, _, rfl, rfl, hc, sc rfl ⟨rfl, fun _ => rfl⟩⟩
    · cases e
  · split at e
    · rename_i hc
      cases e
      obtain ⟨rfl, _⟩ := h1
      obtain ⟨rfl, _⟩ := h2
      simp only [Bool.and_eq_true, decide_eq_true_eq] at hc
      exact ⟨_, op_pow, _, _, rfl, rfl, ⟨hc.1.1, hc.1.2, hc.2⟩, sc rfl ⟨rfl, fun _ => rfl⟩⟩
    · cases e
  · split at e
    · rename_i hc
      cases e
      obtain ⟨rfl, _⟩ := h1
      obtain ⟨rfl, _⟩ := h2
      exact ⟨_, op_shr, _, _, rfl, rfl, hc, sc rfl ⟨rfl, fun _ => rfl⟩⟩
    · cases e
  · cases e
end
end VI

set_option maxHeartbeats 4000000
namespace VI
open PySem PySem.Spec L2
open PyProof.Rows hiding St

section
variable {c : Gc} {Fa Fn H : Hp}
mutual
theorem Rep.dp (sa : Same Fa H) (sn : Und c Fn Fa H) : ∀ {d : D} {v : V} {m : Addr → Nat} {e : PyData}, Rep c Fa Fn H d v m → d.py = some e → Dp c.K H v e
  | .und, v, m, e, h, q => nomatch q
  | .non, v, m, e, h, q => by
    cases q; rw [h.1]; exact .non
  | .bl b, v, m, e, h, q => by
    cases q; rw [h.1]; exact .bl b
  | .int i, v, m, e, h, q => by
    cases q; rw [h.1]; exact .int i
  | .str x, v, m, e, h, q => by
    cases q; rw [h.1]; exact .str x
  | .fn x, v, m, e, h, q => nomatch q
  | .nd t (.dic ks) xs, v, m, e, h, q => nomatch q
  | .nd t (.ins a b) xs, v, m, e, h, q => nomatch q
  | .nd t .lst xs, v, m, e, h, q => by
    obtain ⟨p, us, m', rfl, k, r, _⟩ := h.seqL sa sn
    have q' : (D.pys xs).map PyData.list = some e := q
    cases z : D.pys xs with
    | none => rw [z] at q'; cases q'
    | some es =>
      rw [z] at q'; cases q'
      exact .lst k (Reps.dp sa sn r z)
  | .nd t .tup xs, v, m, e, h, q => by
    obtain ⟨p, us, m', rfl, k, r, _⟩ := h.seqT sa sn
    have q' : (D.pys xs).map PyData.tuple = some e := q
    cases z : D.pys xs with
    | none => rw [z] at q'; cases q'
    | some es =>
      rw [z] at q'; cases q'
      exact .tup k (Reps.dp sa sn r z)
theorem Reps.dp (sa : Same Fa H) (sn : Und c Fn Fa H) : ∀ {ds : List D} {vs : List V} {m : Addr → Nat} {es : List PyData}, Reps c Fa Fn H ds vs m → D.pys ds = some es → DpAll c.K H vs es
  | [], vs, m, es, h, q => by
    cases q; rw [h.1]; exact .nil
  | d :: ds, vs, m, es, h, q => by
    obtain ⟨v, r, m1, m2, rfl, h1, h2, hm⟩ := h
    cases z1 : d.py with
    | none => rw [D.pys, z1] at q; cases q
    | some e =>
      cases z2 : D.pys ds with
      | none => rw [D.pys, z1, z2] at q; cases q
      | some es' =>
        rw [D.pys, z1, z2] at q
        cases q
        exact .cons (Rep.dp sa sn h1 z1) (Reps.dp sa sn h2 z2)
end
end

section
variable {X : Cx} {c : Gc} {G : Calls} {fs : Nm} {Fa Fn H : Hp} {x y d : D} {v u : V} {m1 m2 : Addr → Nat} {Q : VK}
theorem eqD_dp {k : Bool} (e : (match x.py, y.py with | some d, some e => if SeqAt.shaped d && SeqAt.shaped e then some (PyData.eqv d e) else none | _, _ => none) = some k) :
    ∃ d e, x.py = some d ∧ y.py = some e ∧ SeqAt.shaped d = true ∧ SeqAt.shaped e = true ∧ PyData.eqv d e = k := by
  split at e
  · rename_i d' e' z1 z2
    split at e
    · rename_i hs
      rw [Bool.and_eq_true] at hs
      exact ⟨d', e', z1, z2, hs.1, hs.2, Option.some.inj e⟩
    · cases e
  · cases e
theorem eqD_ok (hX : XOk X c G fs) {k : Bool} (e : eqD x y = some k) (sa : Same Fa H) (sn : Und c Fn Fa H) (h1 : Rep c Fa Fn H x v m1) (h2 : Rep c Fa Fn H y u m2) :
    (Q (.bl k) H → rAnyO X (compareOp .Eq) v u H Q) ∧ (Q (.bl (!k)) H → rAnyO X (compareOp .NotEq) v u H Q) := by
  have un : X.A.units + 64 < cLine := by have := hX.un; omega
  have fin : ∀ {k' : Bool}, scal v u = true → decide (v = u) = k' → k = k' → (Q (.bl k) H → rAnyO X (compareOp .Eq) v u H Q) ∧ (Q (.bl (!k)) H → rAnyO X (compareOp .NotEq) v u H Q) :=
    fun {k'} s e1 e2 => ⟨fun q => ⟨_, op_eq, s, by rw [e1, ← e2]; exact q⟩, fun q => ⟨_, op_ne, s, by rw [e1, ← e2]; exact q⟩⟩
  unfold eqD at e
  split at e
  all_goals first
    | (have z1 := h1.1; have z2 := h2.1; subst z1; subst z2; cases e; exact fin rfl dec_bl rfl)
    | (have z1 := h1.1; have z2 := h2.1; subst z1; subst z2; cases e; exact fin rfl (by simp) rfl)
    | (have z1 := h1.1; have z2 := h2.1; subst z1; subst z2; cases e; exact fin rfl (by rw [Bool.eq_iff_iff]; simp) rfl)
    | skip
  obtain ⟨d, e', z1, z2, s1, s2, rfl⟩ := eqD_dp e
  exact ⟨fun q => ⟨_, op_eqD un, d, e', hX.K ▸ h1.dp sa sn z1, hX.K ▸ h2.dp sa sn z2, s1, s2, q⟩, fun q => ⟨_, op_neD un, d, e', hX.K ▸ h1.dp sa sn z1, hX.K ▸ h2.dp sa sn z2, s1, s2, q⟩⟩
theorem flat_of (h1 : Rep c Fa Fn H x v m1) (f : x.flat = true) : flatV v = true := by
  cases x with
  | non => rw [h1.1]; rfl
  | bl b => rw [h1.1]; rfl
  | int i => rw [h1.1]; rfl
  | str z => rw [h1.1]; rfl
  | _ => cases f
theorem eqF_of (h1 : Rep c Fa Fn H x v m1) (f : x.flat = true) (h2 : Rep c Fa Fn H y u m2) (g : y.flat = true) : eqV v u = eqF x y := by
  cases x with
  | non => rw [h1.1]; cases y <;> first | (rw [h2.1]; rfl) | cases g
  | bl b => rw [h1.1]; cases y <;> first | (rw [h2.1]; rfl) | cases g
  | int i => rw [h1.1]; cases y <;> first | (rw [h2.1]; rfl) | (rw [h2.1]; exact Bool.beq_eq_decide_eq _ _) | cases g
  | str z => rw [h1.1]; cases y <;> first | (rw [h2.1]; rfl) | (rw [h2.1]; exact Bool.beq_eq_decide_eq _ _) | cases g
  | _ => cases f
theorem flats_of : ∀ {xs : List D} {us : List V} {m : Addr → Nat}, Reps c Fa Fn H xs us m → xs.all D.flat = true → us.all flatV = true
  | [], us, m, h, _ => by rw [h.1]; rfl
  | x :: xs, us, m, h, f => by
    obtain ⟨v, r, n1, n2, rfl, h1, h2, hm⟩ := h
    rw [List.all_cons, Bool.and_eq_true] at f ⊢
    exact ⟨flat_of h1 f.1, flats_of h2 f.2⟩
theorem inF_of (h1 : Rep c Fa Fn H x v m1) (f : x.flat = true) : ∀ {xs : List D} {us : List V} {m : Addr → Nat}, Reps c Fa Fn H xs us m → xs.all D.flat = true → inV v us = xs.any fun y => eqF y x
  | [], us, m, h, _ => by rw [h.1]; rfl
  | y :: xs, us, m, h, g => by
    obtain ⟨w, r, n1, n2, rfl, k1, k2, hm⟩ := h
    rw [List.all_cons, Bool.and_eq_true] at g
    have ih := inF_of h1 f k2 g.2
    unfold inV at ih ⊢
    rw [List.any_cons, List.any_cons, ih, eqF_of k1 g.1 h1 f]
theorem dic_any {ns : List Str} {us : List V} (h : ns.length = us.length) (z : Str) : ((ns.map Sum.inr : List Key).any fun k => decide (k = .inr z)) = ((ns.zip us).lookup z).isSome := by
  induction ns generalizing us with
  | nil => rfl
  | cons n ns ih =>
    cases us with
    | nil => cases h
    | cons u us =>
      have h' : ns.length = us.length := by simpa using h
      rw [List.map_cons, List.any_cons, ih h', List.zip_cons_cons, List.lookup_cons]
      by_cases e : z = n
      · subst e; simp
      · have e1 : (z == n) = false := by simpa using e
        have e2 : decide ((Sum.inr n : Key) = .inr z) = false := by
          rw [decide_eq_false_iff_not]
          intro q
          exact e (Sum.inr.inj q).symm
        rw [e1, e2, Bool.false_or]
theorem dic_get {d : D} {z : Str} : ∀ {ns : List Str} {xs : List D} {us : List V} {m : Addr → Nat}, Reps c Fa Fn H xs us m → ((((ns.map Sum.inr : List Key).zip xs).find? fun q => decide (q.1 = .inr z)).map (·.2)) = some d →
    ∃ w m', (ns.zip us).lookup z = some w ∧ Rep c Fa Fn H d w m' ∧ ∀ a, m' a ≤ m a
  | [], xs, us, m, _, e => by simp at e
  | n :: ns, [], us, m, _, e => by simp at e
  | n :: ns, x :: xs, us, m, r, e => by
    obtain ⟨w, us', m1, m2, rfl, r1, r2, hm⟩ := r
    rw [List.map_cons, List.zip_cons_cons, List.find?_cons] at e
    rw [List.zip_cons_cons, List.lookup_cons]
    by_cases q : z = n
    · subst q
      have e1 : decide ((Sum.inr z : Key) = .inr z) = true := decide_eq_true rfl
      rw [e1] at e
      cases e
      rw [beq_self_eq_true]
      exact ⟨w, m1, rfl, r1, fun a => by have := hm a; omega⟩
    · have e1 : (z == n) = false := by simpa using q
      have e2 : decide ((Sum.inr n : Key) = .inr z) = false := by
        rw [decide_eq_false_iff_not]
        intro q2
        exact q (Sum.inr.inj q2).symm
      rw [e2] at e
      obtain ⟨w', m', h1, h2, h3⟩ := dic_get (ns := ns) r2 e
      rw [e1]
      exact ⟨w', m', h1, h2, fun a => by have := hm a; have := h3 a; omega⟩
theorem inD_ok (hX : XOk X c G fs) {k : Bool} (e : inD x y = some k) (sa : Same Fa H) (sn : Und c Fn Fa H) (h1 : Rep c Fa Fn H x v m1) (h2 : Rep c Fa Fn H y u m2) :
    (Q (.bl k) H → rAnyO X (compareOp .In) v u H Q) ∧ (Q (.bl (!k)) H → rAnyO X (compareOp .NotIn) v u H Q) := by
  have un : X.A.units + 65 < cLine := hX.un
  unfold inD at e
  split at e
  · split at e
    · rename_i z cc
      split at e
      · rename_i n en
        cases e
        have ec : cc = #[n] := by
          apply Array.toList_inj.mp
          simpa using en
        subst ec
        obtain ⟨rfl, _⟩ := h1
        obtain ⟨rfl, _⟩ := h2
        exact ⟨fun q => ⟨_, op_in_sign, n, _, rfl, rfl, q⟩, fun q => ⟨_, op_notIn_sign, n, _, rfl, rfl, q⟩⟩
      · cases e
    · cases e
  · rename_i xs
    obtain ⟨p, us, m', rfl, k1, r, _⟩ := h2.seqL sa sn
    split at e
    · rename_i hf
      rw [Bool.and_eq_true] at hf
      cases e
      have z := inF_of h1 hf.1 r hf.2
      refine ⟨fun q => ⟨_, op_in_seq, p, us, rfl, .inl (by rw [hX.K]; exact k1), flat_of h1 hf.1, flats_of r hf.2, ?_⟩, fun q => ⟨_, op_notIn_seq, p, us, rfl, .inl (by rw [hX.K]; exact k1), flat_of h1 hf.1, flats_of r hf.2, ?_⟩⟩
      · rw [z]; exact q
      · rw [z]; exact q
    · split at e
      · rename_i d ds z1 z2
        split at e
        · rename_i hs
          rw [Bool.and_eq_true] at hs
          cases e
          exact ⟨fun q => ⟨_, op_inD un, d, ds, hX.K ▸ h1.dp sa sn z1, .lst (hX.K ▸ k1) (hX.K ▸ r.dp sa sn z2), hs.1, hs.2, q⟩,
            fun q => ⟨_, op_notInD un, d, ds, hX.K ▸ h1.dp sa sn z1, .lst (hX.K ▸ k1) (hX.K ▸ r.dp sa sn z2), hs.1, hs.2, q⟩⟩
        · cases e
      · cases e
  · rename_i xs
    obtain ⟨p, us, m', rfl, k1, r, _⟩ := h2.seqT sa sn
    split at e
    · rename_i hf
      rw [Bool.and_eq_true] at hf
      cases e
      have z := inF_of h1 hf.1 r hf.2
      refine ⟨fun q => ⟨_, op_in_seq, p, us, rfl, .inr (by rw [hX.K]; exact k1), flat_of h1 hf.1, flats_of r hf.2, ?_⟩, fun q => ⟨_, op_notIn_seq, p, us, rfl, .inr (by rw [hX.K]; exact k1), flat_of h1 hf.1, flats_of r hf.2, ?_⟩⟩
      · rw [z]; exact q
      · rw [z]; exact q
    · cases e
  · rename_i ks xs
    split at e
    · rename_i z
      cases e
      obtain ⟨p, us, m', rfl, hr, hs, _⟩ := h2
      obtain ⟨ns, rfl, hl, hk⟩ := hs
      obtain ⟨rfl, _⟩ := h1
      have hk' : KDs X.K X.w p (ns.zip us) := by rw [hX.K, hX.w]; exact hk
      rw [dic_any hl z]
      exact ⟨fun q => ⟨_, op_inK, z, p, _, rfl, rfl, hk', q⟩, fun q => ⟨_, op_notinK, z, p, _, rfl, rfl, hk', q⟩⟩
    · cases e
  · cases e
def isNonD : D → Bool | .non => true | _ => false
theorem non_of (h1 : Rep c Fa Fn H x v m1) (hu : x ≠ .und) : decide (v = .non) = isNonD x := by
  cases x with
  | und => exact absurd rfl hu
  | non => have e := h1.1; subst e; rfl
  | bl b => have e := h1.1; subst e; rfl
  | int i => have e := h1.1; subst e; rfl
  | str z => have e := h1.1; subst e; rfl
  | fn z => obtain ⟨⟨a, _, e⟩, _⟩ := h1; subst e; rfl
  | nd t k xs => obtain ⟨p, us, m', e, _⟩ := h1; subst e; rfl
theorem isEmpty_len {α β : Type} {xs : List α} {ys : List β} (l : xs.length = ys.length) : (!xs.isEmpty) = !ys.isEmpty := by
  cases xs <;> cases ys <;> simp_all
theorem cmpV_ok (hX : XOk X c G fs) {o : CmpOp} {k : Bool} (e : cmpV o x y = some k) (sa : Same Fa H) (sn : Und c Fn Fa H) (h1 : Rep c Fa Fn H x v m1) (h2 : Rep c Fa Fn H y u m2)
    (q : Q (.bl k) H) : rAnyO X (compareOp o) v u H Q := by
  unfold cmpV at e
  split at e
  · exact (eqD_ok hX e sa sn h1 h2).1 q
  · cases z : eqD x y with
    | none => rw [z] at e; cases e
    | some k' =>
      rw [z] at e; cases e
      exact (eqD_ok hX z sa sn h1 h2).2 q
  · cases e
    obtain ⟨rfl, _⟩ := h1
    obtain ⟨rfl, _⟩ := h2
    exact ⟨_, op_lt, _, _, rfl, rfl, q⟩
  · cases e
    obtain ⟨rfl, _⟩ := h1
    obtain ⟨rfl, _⟩ := h2
    exact ⟨_, op_le, _, _, rfl, rfl, q⟩
  · cases e
    obtain ⟨rfl, _⟩ := h1
    obtain ⟨rfl, _⟩ := h2
    exact ⟨_, op_gt, _, _, rfl, rfl, q⟩
  · cases e
    obtain ⟨rfl, _⟩ := h1
    obtain ⟨rfl, _⟩ := h2
    exact ⟨_, op_ge, _, _, rfl, rfl, q⟩
  · obtain ⟨rfl, _⟩ := h2
    refine ⟨_, op_isN, rfl, ?_⟩
    have hu : x ≠ .und := by rintro rfl; cases e
    rw [non_of h1 hu]
    cases x <;> first | (cases e; exact q) | cases e
  · obtain ⟨rfl, _⟩ := h2
    refine ⟨_, op_notN, rfl, ?_⟩
    have hu : x ≠ .und := by rintro rfl; cases e
    rw [non_of h1 hu]
    cases x <;> first | (cases e; exact q) | cases e
  · cases e
    obtain ⟨rfl, _⟩ := h1
    obtain ⟨rfl, _⟩ := h2
    refine ⟨_, op_isBl, _, _, rfl, rfl, ?_⟩
    rw [← Bool.beq_eq_decide_eq]; exact q
  · cases e
    obtain ⟨rfl, _⟩ := h1
    obtain ⟨rfl, _⟩ := h2
    refine ⟨_, op_notBl, _, _, rfl, rfl, ?_⟩
    rw [← Bool.beq_eq_decide_eq]; exact q
  · exact (inD_ok hX e sa sn h1 h2).1 q
  · cases z : inD x y with
    | none => rw [z] at e; cases e
    | some k' =>
      rw [z] at e; cases e
      exact (inD_ok hX z sa sn h1 h2).2 q
  · cases e
theorem truD_ok {k : Bool} (e : truD x = some k) (sa : Same Fa H) (sn : Und c Fn Fa H) (h1 : Rep c Fa Fn H x v m1) : TruV c.K v H k := by
  have sz : sizeLine = 16777216 := sizeLine_eq
  unfold truD at e
  split at e
  · cases e; rw [h1.1]; rfl
  · cases e; rw [h1.1]; rfl
  · cases e; rw [h1.1]; rfl
  · split at e
    · cases e; rw [h1.1]; exact ⟨by omega, rfl⟩
    · cases e
  · cases e
    obtain ⟨p, us, m', rfl, k1, r, _⟩ := h1.seqL sa sn
    exact .inl ⟨us, k1, isEmpty_len r.len⟩
  · cases e
    obtain ⟨p, us, m', rfl, k1, r, _⟩ := h1.seqT sa sn
    exact .inr (.inl ⟨us, k1, isEmpty_len r.len⟩)
  · cases e
/-- the item at a place -/
theorem atI_of {xs : List D} {us : List V} {m : Addr → Nat} {i : Int} {d : D} (h : Reps c Fa Fn H xs us m) (e : atI xs i = some d) : ∃ w m', atI us i = some w ∧ Rep c Fa Fn H d w m' ∧ ∀ a, m' a ≤ m a := by
  unfold atI at e ⊢
  rw [← h.len]
  cases z : ixN xs.length i with
  | none => rw [z] at e; cases e
  | some j =>
    rw [z] at e
    obtain ⟨w, m', q1, q2, q3⟩ := h.get (show xs[j]? = some d from e)
    exact ⟨w, m', q1, q2, q3⟩
def rIxA (X : Cx) : R2 := fun x y H Q => ∃ r, IxR X r ∧ r x y H Q
theorem ixAny : IxR X (rIxA X) := fun value slice pins s σ H x y v u Q I rx ry ⟨_, ho, h⟩ hs => ho value slice pins s σ H x y v u Q I rx ry h hs
theorem ixV_ok (hX : XOk X c G fs) (e : ixV x y = some d) (sa : Same Fa H) (sn : Und c Fn Fa H) (h1 : Rep c Fa Fn H x v m1) (h2 : Rep c Fa Fn H y u m2)
    (q : ∀ w H' m', Same H H' → Rep c Fa Fn H' d w m' → (∀ a, m' a ≤ m1 a + m2 a + nwc H a) → Q w H') : rIxA X v u H Q := by
  unfold ixV at e
  split at e
  · obtain ⟨p, us, m', rfl, k1, r, l⟩ := h1.seqL sa sn
    obtain ⟨rfl, _⟩ := h2
    obtain ⟨w, n, e1, r1, l1⟩ := atI_of r e
    refine ⟨_, ix_seq, ?_⟩
    exact .inl ⟨p, us, _, w, rfl, rfl, hX.K ▸ k1, e1, q w H n (Same.refl _) r1 fun a => by have := l a; have := l1 a; omega⟩
  · obtain ⟨p, us, m', rfl, k1, r, l⟩ := h1.seqT sa sn
    obtain ⟨rfl, _⟩ := h2
    obtain ⟨w, n, e1, r1, l1⟩ := atI_of r e
    refine ⟨_, ix_seq, ?_⟩
    exact .inr (.inl ⟨p, us, _, w, rfl, rfl, hX.K ▸ k1, e1, q w H n (Same.refl _) r1 fun a => by have := l a; have := l1 a; omega⟩)
  · rename_i z i
    obtain ⟨rfl, _⟩ := h1
    obtain ⟨rfl, _⟩ := h2
    split at e
    · rename_i hz
      cases z1 : atI z.cps.toList i with
      | none => rw [z1] at e; cases e
      | some n =>
        rw [z1] at e
        cases e
        refine ⟨_, ix_seq, ?_⟩
        exact .inr (.inr ⟨z, i, n, rfl, rfl, by rw [sizeLine_eq]; omega, z1, q _ H (fun _ => 0) (Same.refl _) ⟨rfl, fun _ => rfl⟩ fun a => Nat.zero_le _⟩)
    · cases e
  · rename_i ks xs z
    obtain ⟨p, us, m', rfl, hr, hs, hz, _⟩ := h1
    obtain ⟨ns, rfl, hl, hk⟩ := hs
    obtain ⟨rfl, _⟩ := h2
    have hk' : KDs X.K X.w p (ns.zip us) := by rw [hX.K, hX.w]; exact hk
    obtain ⟨w, m3, e1, r1, l1⟩ := dic_get hr e
    exact ⟨_, ix_kdict, p, z, w, rfl, rfl, hk'.get e1, q w H m3 (Same.refl _) r1 fun a => by have := hz a; have := l1 a; omega⟩
  · cases e
theorem Reps.takeN : ∀ {xs : List D} {us : List V} {m : Addr → Nat} (n : Nat), Reps c Fa Fn H xs us m → ∃ m', Reps c Fa Fn H (xs.take n) (us.take n) m' ∧ ∀ a, m' a ≤ m a
  | xs, us, m, 0, h => ⟨fun _ => 0, ⟨by simp, fun _ => rfl⟩, fun a => Nat.zero_le _⟩
  | [], us, m, n + 1, h => ⟨m, by rw [h.1]; exact ⟨rfl, h.2⟩, fun a => Nat.le_refl _⟩
  | x :: xs, us, m, n + 1, h => by
    obtain ⟨v, r, n1, n2, rfl, h1, h2, hm⟩ := h
    obtain ⟨m', h3, l⟩ := Reps.takeN n h2
    exact ⟨fun a => n1 a + m' a, ⟨v, r.take n, n1, m', rfl, h1, h3, fun _ => rfl⟩, fun a => by have := hm a; have := l a; show n1 a + m' a ≤ m a; omega⟩
theorem Reps.dropN : ∀ {xs : List D} {us : List V} {m : Addr → Nat} (n : Nat), Reps c Fa Fn H xs us m → ∃ m', Reps c Fa Fn H (xs.drop n) (us.drop n) m' ∧ ∀ a, m' a ≤ m a
  | xs, us, m, 0, h => ⟨m, h, fun a => Nat.le_refl _⟩
  | [], us, m, n + 1, h => ⟨m, by rw [h.1]; exact ⟨rfl, h.2⟩, fun a => Nat.le_refl _⟩
  | x :: xs, us, m, n + 1, h => by
    obtain ⟨v, r, n1, n2, rfl, h1, h2, hm⟩ := h
    obtain ⟨m', h3, l⟩ := Reps.dropN n h2
    exact ⟨m', h3, fun a => by have := hm a; have := l a; omega⟩
theorem Reps.cut {xs : List D} {us : List V} {m : Addr → Nat} (h : Reps c Fa Fn H xs us m) (lo hi : Option Int) : ∃ m', Reps c Fa Fn H (cutD xs lo hi) (cutV us lo hi) m' ∧ ∀ a, m' a ≤ m a := by
  unfold cutD cutV
  rw [← h.len]
  obtain ⟨n1, h1, l1⟩ := h.dropN (HT.sIx xs.length 0 lo)
  obtain ⟨n2, h2, l2⟩ := h1.takeN (HT.sIx xs.length xs.length hi - HT.sIx xs.length 0 lo)
  exact ⟨n2, h2, fun a => Nat.le_trans (l2 a) (l1 a)⟩
def rAnyS (X : Cx) : V → Option Int → Option Int → Hp → VK → Prop := fun x lo hi H Q => ∃ r, SlR X r ∧ r x lo hi H Q
theorem slAny : SlR X (rAnyS X) := fun pins s σ H x v vl vu lo hi sl Q I rx hs pl pu ⟨_, ho, h⟩ => ho pins s σ H x v vl vu lo hi sl Q I rx hs pl pu h
theorem slcV_ok (hX : XOk X c G fs) {l h : Option Int} (e : slcV x l h = some d) (sa : Same Fa H) (sn : Und c Fn Fa H) (h1 : Rep c Fa Fn H x v m1)
    (q : ∀ w H' m', Same H H' → Rep c Fa Fn H' d w m' → (∀ a, m' a ≤ m1 a + nwc H a) → Q w H') : rAnyS X v l h H Q := by
  unfold slcV at e
  split at e
  · cases e
    obtain ⟨p, us, m', rfl, k1, r, ll⟩ := h1.seqL sa sn
    obtain ⟨n, r1, l1⟩ := r.cut l h
    refine ⟨_, sl_list, p, us, rfl, hX.K ▸ k1, fun a ha => q _ _ _ (same_upd ha) (Rep.mkl r1 ha) fun b => ?_⟩
    have := @nwc_new H a b ha
    have := ll b; have := l1 b
    show n b + _ ≤ _
    omega
  · obtain ⟨p, us, m', rfl, k1, r, ll⟩ := h1.seqT sa sn
    obtain ⟨n, r1, l1⟩ := r.cut l h
    refine ⟨_, sl_tupA, p, us, rfl, hX.K ▸ k1, fun z => ?_, fun z a ha => ?_⟩
    · rw [← r.len] at z
      rw [if_pos z] at e
      cases e
      exact q _ H m1 (Same.refl _) h1 fun a => Nat.le_add_right _ _
    · rw [← r.len] at z
      rw [if_neg z] at e
      cases e
      refine q _ _ _ (same_upd ha) (Rep.mkt r1 ha) fun b => ?_
      have := @nwc_new H a b ha
      have := ll b; have := l1 b
      show n b + _ ≤ _
      omega
  · split at e
    · rename_i hz
      cases e
      obtain ⟨rfl, _⟩ := h1
      exact ⟨_, sl_str, _, rfl, by rw [sizeLine_eq]; omega, q _ H (fun _ => 0) (Same.refl _) ⟨rfl, fun _ => rfl⟩ fun a => Nat.zero_le _⟩
    · cases e
  · cases e
theorem ints_of : ∀ {xs : List D} {us : List V} {m : Addr → Nat} {ns : List Int}, Reps c Fa Fn H xs us m → ints? xs = some ns → us = ns.map V.int ∧ xs = ns.map D.int
  | [], us, m, ns, h, e => by
    cases e; exact ⟨h.1, rfl⟩
  | .int i :: xs, us, m, ns, h, e => by
    obtain ⟨v, r, n1, n2, rfl, h1, h2, hm⟩ := h
    have e' : (ints? xs).map (i :: ·) = some ns := e
    cases z : ints? xs with
    | none => rw [z] at e'; cases e'
    | some ns' =>
      rw [z] at e'; cases e'
      obtain ⟨q1, q2⟩ := ints_of h2 z
      rw [h1.1, q1, q2]
      exact ⟨rfl, rfl⟩
  | .und :: _, _, _, _, _, e => nomatch e
  | .non :: _, _, _, _, _, e => nomatch e
  | .bl _ :: _, _, _, _, _, e => nomatch e
  | .str _ :: _, _, _, _, _, e => nomatch e
  | .fn _ :: _, _, _, _, _, e => nomatch e
  | .nd _ _ _ :: _, _, _, _, _, e => nomatch e
theorem bls_of : ∀ {xs : List D} {us : List V} {m : Addr → Nat} {ns : List Bool}, Reps c Fa Fn H xs us m → bls? xs = some ns → us = ns.map V.bl ∧ xs = ns.map D.bl
  | [], us, m, ns, h, e => by
    cases e; exact ⟨h.1, rfl⟩
  | .bl i :: xs, us, m, ns, h, e => by
    obtain ⟨v, r, n1, n2, rfl, h1, h2, hm⟩ := h
    have e' : (bls? xs).map (i :: ·) = some ns := e
    cases z : bls? xs with
    | none => rw [z] at e'; cases e'
    | some ns' =>
      rw [z] at e'; cases e'
      obtain ⟨q1, q2⟩ := bls_of h2 z
      rw [h1.1, q1, q2]
      exact ⟨rfl, rfl⟩
  | .und :: _, _, _, _, _, e => nomatch e
  | .non :: _, _, _, _, _, e => nomatch e
  | .int _ :: _, _, _, _, _, e => nomatch e
  | .str _ :: _, _, _, _, _, e => nomatch e
  | .fn _ :: _, _, _, _, _, e => nomatch e
  | .nd _ _ _ :: _, _, _, _, _, e => nomatch e
end
end VI

set_option maxHeartbeats 4000000
namespace VI
open PySem PySem.Spec L2
open PyProof.Rows hiding St

/-! ### no star among the arguments -/
def noStar : Expr → Bool
  | .Starred _ _ => false
  | _ => true
theorem mat_noStar {fs : Nm} {sc : Scope} {N : List Str} {t : Bool} {e : E} {a : Expr} (h : e.mat fs sc N t a = true) : noStar a = true := by
  cases a with
  | Starred b p =>
    cases e <;> simp [E.mat] at h
    all_goals (rename_i x; cases x <;> simp [E.mat, plainT] at h)
  | _ => rfl
theorem star_cons {a : Expr} (h : noStar a = true) (as : List Expr) (env : Env) : starEach (a :: as) env = (false, eval a env) :: starEach as env := by
  cases a <;> first | rfl | cases h
theorem matL_star {fs : Nm} {sc : Scope} {N : List Str} {t : Bool} : ∀ {es : List E} {as : List Expr}, matL fs sc N t es as = true → as.all noStar = true
  | [], [], _ => rfl
  | [], _ :: _, h => by simp [matL] at h
  | _ :: _, [], h => by simp [matL] at h
  | e :: es, a :: as, h => by
    rw [matL, Bool.and_eq_true] at h
    rw [List.all_cons, mat_noStar h.1, matL_star h.2]; rfl
theorem noStar_plain {pos : Pos} {env : Env} : ∀ {as : List Expr}, as.all noStar = true → (backTo pos (starEach as env)).any (·.1) = false
  | [], _ => rfl
  | a :: as, h => by
    rw [List.all_cons, Bool.and_eq_true] at h
    rw [star_cons h.1]
    show (false || (backTo pos (starEach as env)).any (·.1)) = false
    rw [noStar_plain h.2]; rfl
theorem mat_ix {fs : Nm} {sc : Scope} {N : List Str} {t : Bool} {e : E} {a : Expr} (h : e.mat fs sc N t a = true) : PlainIx a := by
  cases a with
  | Slice l u s p =>
    cases e <;> simp [E.mat] at h
    all_goals (rename_i x; cases x <;> simp [E.mat, plainT] at h)
  | _ => intro _ _; rfl

/-! ### the built-in functions -/
def biVal : Bi → Value
  | .len => .builtin "len" | .abs => .builtin "abs" | .max2 => .builtin "max" | .min2 => .builtin "min" | .min3 => .builtin "min" | .divmod => .builtin "divmod"
  | .int => .type "int" | .str => .type "str" | .list => .type "list" | .tuple => .type "tuple"
  | .sum => .builtin "sum" | .all => .builtin "all" | .any => .builtin "any" | .sorted => .builtin "sorted" | .max1 => .builtin "max" | .min1 => .builtin "min" | .dict => .type "dict" | .lenset => .builtin "len"
theorem biBoot : ∀ b : Bi, bootBuiltins (biName b) = some (biVal b) := by
  intro b
  match b with
  | .len => exact boot_len
  | .abs => exact boot_abs
  | .max2 => exact boot_max
  | .min2 => exact boot_min
  | .min3 => exact boot_min
  | .divmod => exact boot_divmod
  | .int => exact boot_int
  | .str => exact boot_str
  | .list => exact boot_list
  | .tuple => exact boot_tuple
  | .sum => exact boot_sum
  | .all => exact boot_all
  | .any => exact boot_any
  | .sorted => exact boot_sorted
  | .max1 => exact boot_max
  | .min1 => exact boot_min
  | .dict => exact boot_dict
  | .lenset => exact boot_len
theorem biNe (b : Bi) : biName b ≠ "__name__" ∧ (biName b == ("__debug__" : Str)) = false := by
  cases b <;> exact ⟨by decide, by decide⟩
section
variable {X : Cx} {c : Gc} {G : Calls} {fs : Nm} {Fa Fn H : Hp} {d : D} {ds : List D} {us : List V} {m1 : Addr → Nat} {Q : VK}
theorem bi_pe (hX : XOk X c G fs) {b : Bi} {p pos : Pos} {e : Expr} {es : List Expr} (hg : Gl X (biName b)) (hs : (e :: es).all noStar = true) :
    PE X (.Call (.Name (biName b) p) (e :: es) [] pos) (tCB (rAnyC X (biVal b)) (wpA X (e :: es))) := by
  rw [List.all_cons, Bool.and_eq_true] at hs
  have h1 := star_cons hs.1 es X.env
  have h2 := noStar_plain (pos := pos) (env := X.env) hs.2
  have hm := hX.blt b
  have hv := biBoot b
  have hn := biNe b
  cases b with
  | int => exact pe_callTy callAny hg hm hv wpA.pa hn.1 hn.2 h1 h2
  | str => exact pe_callTy callAny hg hm hv wpA.pa hn.1 hn.2 h1 h2
  | list => exact pe_callTy callAny hg hm hv wpA.pa hn.1 hn.2 h1 h2
  | tuple => exact pe_callTy callAny hg hm hv wpA.pa hn.1 hn.2 h1 h2
  | dict => exact pe_callTy callAny hg hm hv wpA.pa hn.1 hn.2 h1 h2
  | _ => exact pe_callB callAny hg hm hv wpA.pa hn.1 hn.2 h1 h2
theorem Reps.one {d : D} {us : List V} {m : Addr → Nat} (h : Reps c Fa Fn H [d] us m) : ∃ v, us = [v] ∧ Rep c Fa Fn H d v m := by
  obtain ⟨v, r, n1, n2, rfl, h1, h2, hm⟩ := h
  have z := h2.2
  rw [h2.1]
  exact ⟨v, rfl, h1.ext fun a => by have := hm a; have := z a; omega⟩
theorem Reps.two {d e : D} {us : List V} {m : Addr → Nat} (h : Reps c Fa Fn H [d, e] us m) : ∃ v w m1 m2, us = [v, w] ∧ Rep c Fa Fn H d v m1 ∧ Rep c Fa Fn H e w m2 ∧ ∀ a, m a = m1 a + m2 a := by
  obtain ⟨v, r, n1, n2, rfl, h1, h2, hm⟩ := h
  obtain ⟨w, rfl, h3⟩ := h2.one
  exact ⟨v, w, n1, n2, rfl, h1, h3, hm⟩
theorem foldl_max : ∀ (ns : List Int) (n : Int), (ns.foldl max n = n ∨ ns.foldl max n ∈ ns) ∧ n ≤ ns.foldl max n ∧ ∀ y ∈ ns, y ≤ ns.foldl max n
  | [], n => ⟨.inl rfl, Int.le_refl _, fun _ h => by cases h⟩
  | m :: ns, n => by
    obtain ⟨h1, h2, h3⟩ := foldl_max ns (max n m)
    refine ⟨?_, ?_, fun y hy => ?_⟩
    · rcases h1 with h | h
      · show ns.foldl max (max n m) = n ∨ ns.foldl max (max n m) ∈ m :: ns
        rw [h]
        rcases Int.le_total n m with q | q
        · right; rw [Int.max_eq_right q]; exact List.mem_cons_self
        · left; exact Int.max_eq_left q
      · exact .inr (List.mem_cons_of_mem _ h)
    · exact Int.le_trans (Int.le_max_left n m) h2
    · rcases List.mem_cons.mp hy with rfl | q
      · exact Int.le_trans (Int.le_max_right n _) h2
      · exact h3 y q
theorem foldl_min : ∀ (ns : List Int) (n : Int), (ns.foldl min n = n ∨ ns.foldl min n ∈ ns) ∧ ns.foldl min n ≤ n ∧ ∀ y ∈ ns, ns.foldl min n ≤ y
  | [], n => ⟨.inl rfl, Int.le_refl _, fun _ h => by cases h⟩
  | m :: ns, n => by
    obtain ⟨h1, h2, h3⟩ := foldl_min ns (min n m)
    refine ⟨?_, ?_, fun y hy => ?_⟩
    · rcases h1 with h | h
      · show ns.foldl min (min n m) = n ∨ ns.foldl min (min n m) ∈ m :: ns
        rw [h]
        rcases Int.le_total n m with q | q
        · left; exact Int.min_eq_left q
        · right; rw [Int.min_eq_right q]; exact List.mem_cons_self
      · exact .inr (List.mem_cons_of_mem _ h)
    · exact Int.le_trans h2 (Int.min_le_left n m)
    · rcases List.mem_cons.mp hy with rfl | q
      · exact Int.le_trans h2 (Int.min_le_right n _)
      · exact h3 y q
theorem sort_uniq {xs ys : List Int} (p : xs.Perm ys) (h1 : xs.Pairwise (· ≤ ·)) (h2 : ys.Pairwise (· ≤ ·)) : xs = ys :=
  List.Perm.eq_of_pairwise (fun a b _ _ h h' => Int.le_antisymm h h') h1 h2 p
theorem sortI_sorted (ns : List Int) : (sortI ns).Pairwise (· ≤ ·) := by
  have := List.pairwise_mergeSort (le := fun a b : Int => decide (a ≤ b)) (fun a b c h1 h2 => by simp only [decide_eq_true_eq] at *; omega) (fun a b => by simp only [Bool.or_eq_true, decide_eq_true_eq]; omega) ns
  exact this.imp fun h => of_decide_eq_true h
theorem ints_rep {c : Gc} {Fa Fn H : Hp} : ∀ ns : List Int, Reps c Fa Fn H (ns.map .int) (ns.map V.int) fun _ => 0
  | [] => ⟨rfl, fun _ => rfl⟩
  | n :: ns => ⟨.int n, ns.map V.int, fun _ => 0, fun _ => 0, rfl, ⟨rfl, fun _ => rfl⟩, ints_rep ns, fun _ => rfl⟩
theorem biV_ok (hX : XOk X c G fs) {b : Bi} (e : biV b ds = some d) (sa : Same Fa H) (sn : Und c Fn Fa H) (h1 : Reps c Fa Fn H ds us m1)
    (q : ∀ w H' m', Same H H' → Rep c Fa Fn H' d w m' → (∀ a, m' a ≤ m1 a + nwc H a) → Q w H') : rAnyC X (biVal b) us H Q := by
  have sz : sizeLine = 16777216 := sizeLine_eq
  have sc : ∀ {w : V}, Rep c Fa Fn H d w (fun _ => 0) → Q w H := fun {w} r => q w H (fun _ => 0) (Same.refl _) r fun a => Nat.zero_le _
  unfold biV at e
  split at e
  · cases e
    obtain ⟨v, rfl, g1⟩ := h1.one
    obtain ⟨p, ws, m', rfl, k1, r, l⟩ := g1.seqL sa sn
    exact ⟨_, call_len_seq, p, ws, rfl, .inl (hX.K ▸ k1), sc ⟨by rw [r.len], fun _ => rfl⟩⟩
  · cases e
    obtain ⟨v, rfl, g1⟩ := h1.one
    obtain ⟨p, ws, m', rfl, k1, r, l⟩ := g1.seqT sa sn
    exact ⟨_, call_len_seq, p, ws, rfl, .inr (hX.K ▸ k1), sc ⟨by rw [r.len], fun _ => rfl⟩⟩
  · split at e
    · cases e
      obtain ⟨v, rfl, g1⟩ := h1.one
      obtain ⟨rfl, _⟩ := g1
      exact ⟨_, call_len_str, _, rfl, by omega, sc ⟨rfl, fun _ => rfl⟩⟩
    · cases e
  · cases e
    obtain ⟨v, rfl, g1⟩ := h1.one
    obtain ⟨rfl, _⟩ := g1
    exact ⟨_, call_abs, _, rfl, sc ⟨rfl, fun _ => rfl⟩⟩
  · cases e
    obtain ⟨v, w, n1, n2, rfl, g1, g2, _⟩ := h1.two
    obtain ⟨rfl, _⟩ := g1
    obtain ⟨rfl, _⟩ := g2
    exact ⟨_, call_max2 hX.calm, _, _, rfl, sc ⟨rfl, fun _ => rfl⟩⟩
  · cases e
    obtain ⟨v, w, n1, n2, rfl, g1, g2, _⟩ := h1.two
    obtain ⟨rfl, _⟩ := g1
    obtain ⟨rfl, _⟩ := g2
    exact ⟨_, call_min2 hX.calm, _, _, rfl, sc ⟨rfl, fun _ => rfl⟩⟩
  · split at e
    · rename_i hc
      cases e
      obtain ⟨v, w, n1, n2, rfl, g1, g2, _⟩ := h1.two
      obtain ⟨rfl, _⟩ := g1
      obtain ⟨rfl, _⟩ := g2
      unfold divOk at hc
      simp only [Bool.and_eq_true, decide_eq_true_eq] at hc
      refine ⟨_, call_divmod, _, _, rfl, hc, fun a ha => q _ _ _ (same_upd ha) (Rep.mkt (xs := [.int _, .int _]) (m := fun _ => 0) ⟨_, _, fun _ => 0, fun _ => 0, rfl, ⟨rfl, fun _ => rfl⟩, ⟨_, _, fun _ => 0, fun _ => 0, rfl, ⟨rfl, fun _ => rfl⟩, ⟨rfl, fun _ => rfl⟩, fun _ => rfl⟩, fun _ => rfl⟩ ha) fun b => ?_⟩
      have := @nwc_new H a b ha
      show 0 + _ ≤ _
      omega
    · cases e
  · cases e
    obtain ⟨v, rfl, g1⟩ := h1.one
    obtain ⟨rfl, _⟩ := g1
    exact ⟨_, call_int1, .inl ⟨_, rfl, sc ⟨rfl, fun _ => rfl⟩⟩⟩
  · cases e
    obtain ⟨v, rfl, g1⟩ := h1.one
    obtain ⟨rfl, _⟩ := g1
    exact ⟨_, call_int1, .inr ⟨_, rfl, sc ⟨rfl, fun _ => rfl⟩⟩⟩
  · split at e
    · rename_i hc
      cases e
      obtain ⟨v, rfl, g1⟩ := h1.one
      obtain ⟨rfl, _⟩ := g1
      exact ⟨_, call_str_int, _, rfl, hc, sc ⟨rfl, fun _ => rfl⟩⟩
    · cases e
  · cases e
    obtain ⟨v, rfl, g1⟩ := h1.one
    obtain ⟨p, ws, m', rfl, k1, r, l⟩ := g1.seqL sa sn
    refine ⟨_, call_list_of, p, ws, rfl, .inl (hX.K ▸ k1), fun a ha => q _ _ _ (same_upd ha) (Rep.mkl r ha) fun b => ?_⟩
    have := @nwc_new H a b ha
    have := l b
    show m' b + _ ≤ _
    omega
  · cases e
    obtain ⟨v, rfl, g1⟩ := h1.one
    obtain ⟨p, ws, m', rfl, k1, r, l⟩ := g1.seqT sa sn
    refine ⟨_, call_list_of, p, ws, rfl, .inr (hX.K ▸ k1), fun a ha => q _ _ _ (same_upd ha) (Rep.mkl r ha) fun b => ?_⟩
    have := @nwc_new H a b ha
    have := l b
    show m' b + _ ≤ _
    omega
  · cases e
    obtain ⟨v, rfl, g1⟩ := h1.one
    obtain ⟨p, ws, m', rfl, k1, r, l⟩ := g1.seqL sa sn
    refine ⟨_, call_tuple_of, p, ws, rfl, .inl ⟨hX.K ▸ k1, fun a ha => q _ _ _ (same_upd ha) (Rep.mkt r ha) fun b => ?_⟩⟩
    have := @nwc_new H a b ha
    have := l b
    show m' b + _ ≤ _
    omega
  · cases e
    obtain ⟨v, rfl, g1⟩ := h1.one
    have h1' := g1
    obtain ⟨p, ws, m', rfl, k1, r, l⟩ := g1.seqT sa sn
    exact ⟨_, call_tuple_of, p, ws, rfl, .inr ⟨hX.K ▸ k1, q _ H m1 (Same.refl _) h1' fun a => Nat.le_add_right _ _⟩⟩
  · rename_i xs
    cases z : ints? xs with
    | none => rw [z] at e; cases e
    | some ns =>
      rw [z] at e; cases e
      obtain ⟨v, rfl, g1⟩ := h1.one
      obtain ⟨p, ws, m', rfl, k1, r, l⟩ := g1.seqL sa sn
      exact ⟨_, cr_sum hX.calm, p, ns, rfl, hX.K ▸ (ints_of r z).1 ▸ k1, sc ⟨rfl, fun _ => rfl⟩⟩
  · rename_i xs
    cases z : bls? xs with
    | none => rw [z] at e; cases e
    | some ns =>
      rw [z] at e; cases e
      obtain ⟨v, rfl, g1⟩ := h1.one
      obtain ⟨p, ws, m', rfl, k1, r, l⟩ := g1.seqL sa sn
      exact ⟨_, cr_all hX.calm, p, ns, rfl, hX.K ▸ (bls_of r z).1 ▸ k1, sc ⟨rfl, fun _ => rfl⟩⟩
  · rename_i xs
    cases z : bls? xs with
    | none => rw [z] at e; cases e
    | some ns =>
      rw [z] at e; cases e
      obtain ⟨v, rfl, g1⟩ := h1.one
      obtain ⟨p, ws, m', rfl, k1, r, l⟩ := g1.seqL sa sn
      exact ⟨_, cr_any hX.calm, p, ns, rfl, hX.K ▸ (bls_of r z).1 ▸ k1, sc ⟨rfl, fun _ => rfl⟩⟩
  · split at e
    · rename_i n ns z
      cases e
      obtain ⟨v, rfl, g1⟩ := h1.one
      obtain ⟨p, ws, m', rfl, k1, r, l⟩ := g1.seqL sa sn
      obtain ⟨q1, q2, q3⟩ := foldl_max ns n
      refine ⟨_, cr_max hX.calm, p, n :: ns, rfl, hX.K ▸ (ints_of r z).1 ▸ k1, Nat.succ_pos _, fun m hm hy => ?_⟩
      have : m = ns.foldl max n := by
        have a1 : ns.foldl max n ≤ m := by
          rcases q1 with q | q
          · rw [q]; exact hy n List.mem_cons_self
          · exact hy _ (List.mem_cons_of_mem _ q)
        have a2 : m ≤ ns.foldl max n := by
          rcases List.mem_cons.mp hm with rfl | q
          · exact q2
          · exact q3 m q
        omega
      rw [this]
      exact sc ⟨rfl, fun _ => rfl⟩
    · cases e
  · split at e
    · rename_i n ns z
      cases e
      obtain ⟨v, rfl, g1⟩ := h1.one
      obtain ⟨p, ws, m', rfl, k1, r, l⟩ := g1.seqL sa sn
      obtain ⟨q1, q2, q3⟩ := foldl_min ns n
      refine ⟨_, cr_min hX.calm, p, n :: ns, rfl, hX.K ▸ (ints_of r z).1 ▸ k1, Nat.succ_pos _, fun m hm hy => ?_⟩
      have : m = ns.foldl min n := by
        have a1 : m ≤ ns.foldl min n := by
          rcases q1 with q | q
          · rw [q]; exact hy n List.mem_cons_self
          · exact hy _ (List.mem_cons_of_mem _ q)
        have a2 : ns.foldl min n ≤ m := by
          rcases List.mem_cons.mp hm with rfl | q
          · exact q2
          · exact q3 m q
        omega
      rw [this]
      exact sc ⟨rfl, fun _ => rfl⟩
    · cases e
  · rename_i xs
    cases z : ints? xs with
    | none => rw [z] at e; cases e
    | some ns =>
      rw [z] at e; cases e
      obtain ⟨v, rfl, g1⟩ := h1.one
      obtain ⟨p, ws, m', rfl, k1, r, l⟩ := g1.seqL sa sn
      refine ⟨_, cr_sortedI, p, ns, rfl, hX.K ▸ (ints_of r z).1 ▸ k1, fun ns' a hp hs ha => ?_⟩
      have e1 : ns' = sortI ns := sort_uniq (hp.trans (List.mergeSort_perm _ _).symm) hs (sortI_sorted ns)
      rw [e1]
      refine q _ _ _ (same_upd ha) (Rep.mkl (ints_rep _) ha) fun b => ?_
      have := @nwc_new H a b ha
      show 0 + _ ≤ _
      omega
  · cases e

/-! ### isinstance of built-in types -/
def tyStr : Ty → String
  | .int => "int" | .bool => "bool" | .str => "str" | .list => "list" | .tuple => "tuple"
def dTy : D → String
  | .non => "NoneType" | .bl _ => "bool" | .int _ => "int" | .str _ => "str" | .nd _ .lst _ => "list" | .nd _ .tup _ => "tuple" | .nd _ (.dic _) _ => "dict" | _ => ""
def tyB : Ty → String → Bool
  | .int, "int" => true | .int, "bool" => true | .bool, "bool" => true | .str, "str" => true | .list, "list" => true | .tuple, "tuple" => true | _, _ => false
theorem kits0 : ([.int, .bool, .str, .list, .tuple] : List Ty).all (fun t => (["NoneType", "bool", "int", "str", "list", "tuple", "dict"] : List String).all fun a => decide (kitB a (tyStr t) = some (tyB t a))) = true := by decide +kernel
theorem kits (t : Ty) (a : String) (h : a ∈ ["NoneType", "bool", "int", "str", "list", "tuple", "dict"]) : kitB a (tyStr t) = some (tyB t a) := by
  have z := kits0
  rw [List.all_eq_true] at z
  have z1 := z t (by cases t <;> decide)
  rw [List.all_eq_true] at z1
  exact of_decide_eq_true (z1 a h)
theorem dTy_ok {x : D} {v : V} {t : Ty} {k : Bool} (e : isTy t x = some k) (sa : Same Fa H) (sn : Und c Fn Fa H) (h1 : Rep c Fa Fn H x v m1) : TyX c.K H v (.type (dTy x)) ∧ kitB (dTy x) (tyStr t) = some k := by
  cases x with
  | und => cases t <;> cases e
  | fn z => cases t <;> cases e
  | non => have z := h1.1; subst z; refine ⟨.base .non, ?_⟩; show kitB "NoneType" _ = _; rw [kits t _ (by decide)]; cases t <;> (cases e; rfl)
  | bl b => have z := h1.1; subst z; refine ⟨.base (.bl b), ?_⟩; show kitB "bool" _ = _; rw [kits t _ (by decide)]; cases t <;> (cases e; rfl)
  | int i => have z := h1.1; subst z; refine ⟨.base (.int i), ?_⟩; show kitB "int" _ = _; rw [kits t _ (by decide)]; cases t <;> (cases e; rfl)
  | str y => have z := h1.1; subst z; refine ⟨.base (.str y), ?_⟩; show kitB "str" _ = _; rw [kits t _ (by decide)]; cases t <;> (cases e; rfl)
  | nd tg kd xs =>
    cases kd with
    | lst =>
      obtain ⟨p, us, m', rfl, k1, r, _⟩ := h1.seqL sa sn
      refine ⟨?_, ?_⟩
      · rcases k1 with (k1 | ⟨o, k1⟩) | ⟨o, its, n, k1, k2, _⟩
        · exact .base (.lst k1)
        · exact .base (.frz k1)
        · exact .kList k1 k2
      · show kitB "list" _ = _
        rw [kits t _ (by decide)]; cases t <;> (cases e; rfl)
    | tup =>
      obtain ⟨p, us, m', rfl, k1, r, _⟩ := h1.seqT sa sn
      refine ⟨?_, ?_⟩
      · rcases k1 with (k1 | ⟨o, k1⟩) | ⟨o, its, n, k1, k2, _⟩
        · exact .base (.tup k1)
        · exact .fTuple k1
        · exact .kTuple k1 k2
      · show kitB "tuple" _ = _
        rw [kits t _ (by decide)]; cases t <;> (cases e; rfl)
    | dic ks =>
      obtain ⟨p, us, m', rfl, hr, h⟩ := h1
      have key : TyX c.K H (.ref p) (.type "dict") := by
        cases tg with
        | own => exact .base (.dK h.1.1)
        | new => exact .base (.dK (sa _ _ (sn.1 _ _ h.1.1)))
        | any => exact .base (.dK (sa _ _ h.1.1))
        | bor => exact .base (.dK (sn.2 _ _ h.1.1))
        | sta =>
          obtain ⟨⟨ns, _, _, ⟨es, n, q, _⟩, _⟩, _⟩ := h
          exact .kDict q rfl
      refine ⟨key, ?_⟩
      show kitB "dict" _ = _
      rw [kits t _ (by decide)]; cases t <;> (cases e; rfl)
    | ins a b => cases t <;> cases e
end
end VI

set_option maxHeartbeats 4000000
namespace VI
open PySem PySem.Spec L2
open PyProof.Rows hiding St

section
variable {X : Cx} {c : Gc} {G : Calls} {fs : Nm} {sc : Scope} {f : Fr} {W : WX} {σ : St} {H H' : Hp} {env ds : List D} {vs : List V} {Q : VK}
theorem clean_set {env : List D} {i : Nat} {d : D} (h : D.alls notBor env = true) (hd : d.clean = true) : D.alls notBor (env.set i d) = true := by
  rw [D.alls_all, List.all_eq_true] at h ⊢
  intro x hx
  rcases List.mem_or_eq_of_mem_set hx with q | q
  · exact h x q
  · rw [q]; exact hd
theorem clean_get {env : List D} {i : Nat} {d : D} (h : D.alls notBor env = true) (e : env[i]? = some d) : d.clean = true := by
  rw [D.alls_all, List.all_eq_true] at h
  exact h d (List.mem_of_getElem? e)
theorem getL_some {env : List D} {i : Nat} {d : D} (h : getL env i = some d) : env[i]? = some d ∧ d ≠ .und := by
  unfold getL at h
  split at h
  · cases h
  · rename_i o hn
    refine ⟨h, fun e => hn ?_⟩
    rw [h, e]
/-- what a name gives -/
theorem loc_ok {i : Nat} {m : Md} (hm : m ≠ .cpc) (hfz : FzOk G f) (S : SR c f σ H env ds vs) {p : D × List D} (e : (E.loc i m).sem G env = .ok p) :
    ∃ v, σ[i]? = some (some v) ∧ SR c f σ H p.2 (p.1 :: ds) (v :: vs) := by
  obtain ⟨Fa, Fn, mS, mT, S⟩ := S
  rw [E.sem] at e
  unfold locSem at e
  cases z : getL env i with
  | none => rw [z] at e; cases e
  | some d =>
    obtain ⟨he, hu⟩ := getL_some z
    rw [z] at e
    cases m with
    | bor =>
      cases e
      obtain ⟨v, m1, m2, hv, hd, _, hm⟩ := S.slots.get he hu
      exact ⟨v, hv, Fa, Fn, mS, mT, S.push (hd.view fun a h => S.hbo a (by have := hm a; omega))⟩
    | mv =>
      cases e
      obtain ⟨v, m1, m2, hv, hd, hS, hm⟩ := S.slots.get he hu
      refine ⟨v, hv, Fa, Fn, m2, fun a => m1 a + mT a, { S with slots := hS, tmps := ⟨v, vs, m1, mT, rfl, hd, S.tmps, fun _ => rfl⟩, cl := clean_set S.cl rfl, one := fun a => ?_, free := fun a h => ?_, hbo := fun a h => S.hbo a (by have := hm a; omega) }⟩
      · have := S.one a; have := hm a; show m2 a + (m1 a + mT a) ≤ 1; omega
      · have h' : m2 a + (m1 a + mT a) ≠ 0 := h
        exact S.free a (by have := hm a; omega)
    | cpy =>
      cases e
      have hn : (G.frz = .new ∧ ∀ a, ¬ f.M a) ∨ G.frz = .any := hfz
      obtain ⟨Fa', Fn', mS', v, S', hv, hr, hcl⟩ := S.freeze he hu hn
      exact ⟨v, hv, Fa', Fn', mS', mT, S'.push hr⟩
    | cpc => exact absurd rfl hm
theorem PEc.loc (hX : XOk X c G fs) (hsc : ScOk sc X) (hfz : FzOk G f) {i : Nat} {m : Md} {x : Str} {pos : Pos} (hm : m ≠ .cpc) (hv : visC sc X.N i x = true) : PEc X c G f W (.loc i m) (.Name x pos) := by
  intro σ H env ds vs Q S h
  obtain ⟨h1, h2, h3, h4⟩ := hsc.vis hv
  refine wpE.of (pe_var (i := i) h1 h2 h3 h4) ?_
  cases r : (E.loc i m).sem G env with
  | ok p =>
    rw [r] at h
    obtain ⟨v, e, S'⟩ := loc_ok hm hfz S r
    exact ⟨v, e, h v H (Same.refl _) S'⟩
  | exc x fs e =>
    exfalso
    have hs : (E.loc i m).sem G env ≠ .exc x fs e := by
      rw [E.sem]
      unfold locSem
      cases getL env i with
      | none => intro q; cases q
      | some d => cases m <;> first | (intro q; cases q) | exact absurd rfl hm
    exact hs r
  | stuck => rw [r] at h; exact h.elim
theorem PEc.lit (hX : XOk X c G fs) {d : D} {k : Const} {j : Nat} {pos : Pos} (h : (match d, k with | .non, .none => true | .bl b, .bool b' => b == b' | .int i, .int j => decide (i = j) | .str x, .str y => decide (x = y) | _, _ => false) = true) :
    PEc X c G f W (.lit d) (.Constant k j pos) := by
  intro σ H env ds vs Q S q
  have q' : ∀ v H', Same H H' → SR c f σ H' env (d :: ds) (v :: vs) → Q v H' := by
    rw [E.sem] at q
    exact q
  split at h
  · exact wpE.of pe_non (q' _ H (Same.refl _) (S.push fun Fa Fn => ⟨rfl, fun _ => rfl⟩))
  · have e := eq_of_beq h
    subst e
    exact wpE.of pe_bl (q' _ H (Same.refl _) (S.push fun Fa Fn => ⟨rfl, fun _ => rfl⟩))
  · have e := of_decide_eq_true h
    subst e
    exact wpE.of pe_int (q' _ H (Same.refl _) (S.push fun Fa Fn => ⟨rfl, fun _ => rfl⟩))
  · have e := of_decide_eq_true h
    subst e
    exact wpE.of pe_str (q' _ H (Same.refl _) (S.push fun Fa Fn => ⟨rfl, fun _ => rfl⟩))
  · cases h
theorem PEc.glb (hX : XOk X c G fs) (hsc : ScOk sc X) {x : Str} {pos : Pos} (hg : glC sc x = true) : PEc X c G f W (.glb x) (.Name x pos) := by
  intro σ H env ds vs Q S q
  rw [E.sem] at q
  obtain ⟨h1, h2⟩ := hsc.gl hg
  cases z : G.cst x with
  | none => rw [z] at q; exact q.elim
  | some d =>
    rw [z] at q
    obtain ⟨u, v, e1, e2, ec, e3⟩ := hX.cst x d z
    exact wpE.of (pe_glob h1 e1 e2 h2) (q v H (Same.refl _) (S.push fun Fa Fn => (e3 Fa Fn H).chb (h := c.hb) ec))
/-- two parts -/
theorem PEc.two {a b : E} {l r : Expr} (ha : PEc X c G f W a l) (hb : PEc X c G f W b r) (S : SR c f σ H env ds vs) {g : D → D × List D → R (D × List D)}
    (h : Wp c f W σ H ds vs ((a.sem G env).bind fun p => (b.sem G p.2).bind fun q => g p.1 q) Q) {Q' : V → V → Hp → Prop}
    (k : ∀ p q v u H', Same H H' → SR c f σ H' q.2 (q.1 :: p :: ds) (u :: v :: vs) → Wp c f W σ H' ds vs (g p q) Q → Q' v u H') :
    wpE X l σ H fun v H1 => wpE X r σ H1 fun u H2 => Q' v u H2 := by
  refine ha.then S h fun p v H1 s1 S1 h1 => ?_
  -- run b with what waits
  refine hb σ H1 p.2 (p.1 :: ds) (v :: vs) _ S1 ?_
  cases z : b.sem G p.2 with
  | ok q =>
    rw [z] at h1
    intro u H2 s2 S2
    exact k p.1 q v u H2 (s1.trans s2) S2 (Wp.same s2 h1)
  | exc x fs e =>
    rw [z] at h1
    exact h1
  | stuck =>
    rw [z] at h1
    exact h1.elim
theorem PEc.bin (hX : XOk X c G fs) {o : Operator} {a b : E} {l r : Expr} {pos : Pos} (ha : PEc X c G f W a l) (hb : PEc X c G f W b r) : PEc X c G f W (.bin o a b) (.BinOp l o r pos) := by
  intro σ H env ds vs Q S h
  rw [E.sem] at h
  refine wpE.of (pe_op opAny wpE.pe wpE.pe) (PEc.two ha hb S (g := fun p q => R.of ((binV o p q.1).map fun d => (d, q.2))) h fun p q v u H1 s1 S1 h1 => ?_)
  cases z : binV o p q.1 with
  | none => rw [z] at h1; exact h1.elim
  | some d =>
    rw [z] at h1
    obtain ⟨Fa, Fn, m1, m2, sa, sn, k1, k2, fin⟩ := S1.use2
    exact binV_ok hX z sa sn k1 k2 fun w H' m' s hd hm => h1 w H' s (fin d w H' m' s hd hm)
theorem behind_no {o : CmpOp} {b : Expr} (h : ∀ es k p, b ≠ .Set es k p) : behindInMarks o b = false := by
  cases b <;> first | rfl | exact absurd rfl (h _ _ _)
theorem mat_set {fs : Nm} {sc : Scope} {N : List Str} {t : Bool} {e : E} {a : Expr} (h : e.mat fs sc N t a = true) : ∀ es k p, a ≠ .Set es k p := by
  rintro es k p rfl
  cases e <;> simp [E.mat] at h
  rename_i b
  have h := h.2
  cases b <;> simp [E.mat] at h
theorem PEc.cmp (hX : XOk X c G fs) {o : CmpOp} {a b : E} {l r : Expr} {pos : Pos} (ha : PEc X c G f W a l) (hb : PEc X c G f W b r) (hr : ∀ es k p, r ≠ .Set es k p) : PEc X c G f W (.cmp o a b) (.Compare l [o] [r] pos) := by
  intro σ H env ds vs Q S h
  rw [E.sem] at h
  refine wpE.of (pe_cmpR opAny wpE.pe wpE.pe (behind_no hr)) (PEc.two ha hb S (g := fun p q => R.of ((cmpV o p q.1).map fun d => (.bl d, q.2))) h fun p q v u H1 s1 S1 h1 => ?_)
  cases z : cmpV o p q.1 with
  | none => rw [z] at h1; exact h1.elim
  | some k =>
    rw [z] at h1
    obtain ⟨Fa, Fn, m1, m2, sa, sn, k1, k2, fin⟩ := S1.use2
    exact cmpV_ok hX z sa sn k1 k2 (h1 _ H1 (Same.refl _) (fin _ _ H1 (fun _ => 0) (Same.refl _) ⟨rfl, fun _ => rfl⟩ fun a => Nat.zero_le _))
/-- WpT from Wp of a bool -/
theorem Wp.ofT {r : R (D × List D)} {QT : Bool → Hp → Prop} (h : WpT c f W σ H ds vs r QT) : Wp c f W σ H ds vs r fun v H' => ∃ b, v = .bl b ∧ QT b H' := by
  cases r with
  | ok p =>
    obtain ⟨b, e, q⟩ := h
    intro v H' s S
    obtain ⟨Fa, Fn, m1, _, _, k1, _⟩ := S.use1
    rw [e] at k1
    exact ⟨b, k1.1, q H' s (SR.pop (d1 := [p.1]) (v1 := [v]) S rfl)⟩
  | exc x fs e => exact h
  | stuck => exact h
theorem PTc.cmp (hX : XOk X c G fs) {o : CmpOp} {a b : E} {l r : Expr} {pos : Pos} (ha : PEc X c G f W a l) (hb : PEc X c G f W b r) (hr : ∀ es k p, r ≠ .Set es k p) : PTc X c G f W (.cmp o a b) (.Compare l [o] [r] pos) := by
  intro σ H env ds vs Q S h
  have h := Wp.ofT h
  rw [E.sem] at h
  refine wpT.of (pt_cmpR opAny wpE.pe wpE.pe (behind_no hr)) (PEc.two ha hb S (g := fun p q => R.of ((cmpV o p q.1).map fun d => (.bl d, q.2))) h fun p q v u H1 s1 S1 h1 => ?_)
  cases z : cmpV o p q.1 with
  | none => rw [z] at h1; exact h1.elim
  | some k =>
    rw [z] at h1
    obtain ⟨Fa, Fn, m1, m2, sa, sn, k1, k2, fin⟩ := S1.use2
    refine cmpV_ok hX z sa sn k1 k2 ?_
    obtain ⟨b, e, q⟩ := h1 (.bl k) H1 (Same.refl _) (fin _ _ H1 (fun _ => 0) (Same.refl _) ⟨rfl, fun _ => rfl⟩ fun a => Nat.zero_le _)
    exact ⟨b, e, q⟩
end
end VI

set_option maxHeartbeats 4000000
namespace VI
open PySem PySem.Spec L2
open PyProof.Rows hiding St

def wpW (X : Cx) (a : Expr) : TT := fun σ H Q => ∀ (whole : Sem Value) (pins : List (Addr × Obj)) (s : Shared), Inv X pins σ H s → wpAny (model X.prog X.w) X.A (isTrue a X.env whole) (TP X pins σ Q) X.xe s
theorem wpW.pw {X : Cx} {a : Expr} : PW X a (wpW X a) := ⟨fun whole pins s σ H Q I h => h whole pins s I⟩
theorem wpW.of {X : Cx} {a : Expr} {t : TT} (h : PW X a t) {σ : St} {H : Hp} {Q : Bool → Hp → Prop} (q : t σ H Q) : wpW X a σ H Q := fun whole pins s I => h.run whole pins s σ H Q I q
section
variable (X : Cx) (c : Gc) (G : Calls) (f : Fr) (W : WX)
def PBc (o : BoolOp) (es : List E) (as : List Expr) : Prop := ∀ pos σ H env ds vs Q, SR c f σ H env ds vs → Wp c f W σ H ds vs (semB G o es env) Q → wpE X (.BoolOp o as pos) σ H Q
def PBTc (o : BoolOp) (es : List E) (as : List Expr) : Prop := ∀ pos σ H env ds vs Q, SR c f σ H env ds vs → WpT c f W σ H ds vs (semB G o es env) Q → wpW X (.BoolOp o as pos) σ H Q
end
section
variable {X : Cx} {c : Gc} {G : Calls} {fs : Nm} {f : Fr} {W : WX} {σ : St} {H H' : Hp} {env ds : List D} {vs : List V} {Q : VK}
theorem WpT.same (s : Same H H') {r : R (D × List D)} {QT : Bool → Hp → Prop} (h : WpT c f W σ H ds vs r QT) : WpT c f W σ H' ds vs r QT := by
  cases r with
  | ok p => obtain ⟨b, e, q⟩ := h; exact ⟨b, e, fun H'' s' S => q H'' (s.trans s') S⟩
  | exc x fs e => exact fun a b H'' s' q r => h a b H'' (s.trans s') q r
  | stuck => exact h
/-- a value that is a bool: the item goes -/
theorem SR.bl {d : D} {v : V} {b : Bool} (S : SR c f σ H env (d :: ds) (v :: vs)) (e : d = .bl b) : v = .bl b ∧ SR c f σ H env ds vs := by
  obtain ⟨Fa, Fn, m1, _, _, k1, _⟩ := S.use1
  rw [e] at k1
  exact ⟨k1.1, SR.pop (d1 := [d]) (v1 := [v]) S rfl⟩
theorem SR.bl' {b : Bool} (S : SR c f σ H env ds vs) : SR c f σ H env (.bl b :: ds) (.bl b :: vs) := S.push fun Fa Fn => ⟨rfl, fun _ => rfl⟩
theorem semB_cons (G : Calls) (o : BoolOp) (e e2 : E) (es : List E) (env : List D) : semB G o (e :: e2 :: es) env = (e.sem G env).bind fun p => match o, p.1 with
    | .And, .bl false => .ok (.bl false, p.2)
    | .Or, .bl true => .ok (.bl true, p.2)
    | _, .bl _ => semB G o (e2 :: es) p.2
    | _, _ => .stuck := by
  rw [semB]
  all_goals first | rfl | (intro h; cases h)
theorem semB_one (G : Calls) (o : BoolOp) (e : E) (env : List D) : semB G o [e] env = (e.sem G env).bind fun p => match p.1 with
    | .bl b => .ok (.bl b, p.2)
    | _ => .stuck := by
  rw [semB] <;> rfl
theorem PBc.one {o : BoolOp} {e : E} {a : Expr} (he : PEc X c G f W e a) : PBc X c G f W o [e] [a] := by
  intro pos σ H env ds vs Q S h
  rw [semB_one] at h
  refine wpE.of (pe_one wpE.pe) (he.then S h fun p v H' s S' h' => ?_)
  obtain ⟨d, env'⟩ := p
  cases d with
  | bl b =>
    obtain ⟨rfl, S2⟩ := S'.bl rfl
    exact h' _ H' (Same.refl _) S2.bl'
  | _ => exact h'.elim
theorem PBc.cons {o : BoolOp} {e e2 : E} {es : List E} {a a2 : Expr} {as : List Expr} (he : PEc X c G f W e a) (hr : PBc X c G f W o (e2 :: es) (a2 :: as)) : PBc X c G f W o (e :: e2 :: es) (a :: a2 :: as) := by
  intro pos σ H env ds vs Q S h
  rw [semB_cons] at h
  cases o with
  | And =>
    refine wpE.of (pe_and wpE.pe wpE.pe) (he.then S h fun p v H' s S' h' => ?_)
    obtain ⟨d, env'⟩ := p
    cases d with
    | bl b =>
      obtain ⟨rfl, S2⟩ := S'.bl rfl
      refine ⟨b, rfl, ?_⟩
      cases b with
      | true => exact iteT (hr pos σ H' env' ds vs Q S2 h')
      | false => exact iteF (h' _ H' (Same.refl _) S2.bl')
    | _ => exact h'.elim
  | Or =>
    refine wpE.of (pe_or wpE.pe wpE.pe) (he.then S h fun p v H' s S' h' => ?_)
    obtain ⟨d, env'⟩ := p
    cases d with
    | bl b =>
      obtain ⟨rfl, S2⟩ := S'.bl rfl
      refine ⟨b, rfl, ?_⟩
      cases b with
      | true => exact iteT (h' _ H' (Same.refl _) S2.bl')
      | false => exact iteF (hr pos σ H' env' ds vs Q S2 h')
    | _ => exact h'.elim
/-- a test, then the rest -/
theorem PTc.then {e : E} {a : Expr} (he : PTc X c G f W e a) (S : SR c f σ H env ds vs) {α : Type} {g : D × List D → R α} {P : Hp → R α → Prop} (hP : ∀ x fs e' H', P H' (.exc x fs e') → ∀ cls dd H'', Same H' H'' → SR c f σ H'' e' [] [] → ExcR c x fs cls dd H'' → W cls dd σ H'') (hS : ∀ H', ¬ P H' .stuck)
    (h : P H ((e.sem G env).bind g)) {Q' : Bool → Hp → Prop} (hmono : ∀ H' r, Same H H' → P H r → P H' r) (hnb : ∀ p, (∀ b, p.1 ≠ .bl b) → g p = .stuck)
    (k : ∀ b env' H', Same H H' → SR c f σ H' env' ds vs → P H' (g (.bl b, env')) → Q' b H') : wpT X a σ H Q' := by
  refine he σ H env ds vs Q' S ?_
  cases r : e.sem G env with
  | ok p =>
    rw [r] at h
    obtain ⟨d, env'⟩ := p
    by_cases hb : ∃ b, d = .bl b
    · obtain ⟨b, rfl⟩ := hb
      exact ⟨b, rfl, fun H' s S' => k b env' H' s S' (hmono H' _ s h)⟩
    · have := hnb (d, env') fun b e => hb ⟨b, e⟩
      have h2 : P H (g (d, env')) := h
      rw [this] at h2
      exact absurd h2 (hS H)
  | exc x fs e' =>
    rw [r] at h
    exact fun cls dd H'' s S' x => hP _ _ _ H h cls dd H'' s S' x
  | stuck =>
    rw [r] at h
    exact absurd h (hS H)
theorem PTc.thenT {e : E} {a : Expr} (he : PTc X c G f W e a) (S : SR c f σ H env ds vs) {g : D × List D → R (D × List D)} {QT : Bool → Hp → Prop} (h : WpT c f W σ H ds vs ((e.sem G env).bind g) QT) {Q' : Bool → Hp → Prop}
    (hnb : ∀ p, (∀ b, p.1 ≠ .bl b) → g p = .stuck) (k : ∀ b env' H', Same H H' → SR c f σ H' env' ds vs → WpT c f W σ H' ds vs (g (.bl b, env')) QT → Q' b H') : wpT X a σ H Q' :=
  he.then S (P := fun H r => WpT c f W σ H ds vs r QT) (fun _ _ _ _ h => h) (fun _ h => h) h (fun _ _ s h => WpT.same s h) hnb k
theorem PTc.thenE {e : E} {a : Expr} (he : PTc X c G f W e a) (S : SR c f σ H env ds vs) {g : D × List D → R (D × List D)} (h : Wp c f W σ H ds vs ((e.sem G env).bind g) Q) {Q' : Bool → Hp → Prop}
    (hnb : ∀ p, (∀ b, p.1 ≠ .bl b) → g p = .stuck) (k : ∀ b env' H', Same H H' → SR c f σ H' env' ds vs → Wp c f W σ H' ds vs (g (.bl b, env')) Q → Q' b H') : wpT X a σ H Q' :=
  he.then S (P := fun H r => Wp c f W σ H ds vs r Q) (fun _ _ _ _ h => h) (fun _ h => h) h (fun _ _ s h => Wp.same s h) hnb k
theorem nb_one : ∀ p : D × List D, (∀ b, p.1 ≠ .bl b) → (match p.1 with | .bl b => (.ok (.bl b, p.2) : R (D × List D)) | _ => .stuck) = .stuck := fun p h => by
  obtain ⟨d, e⟩ := p
  cases d <;> first | rfl | exact absurd rfl (h _)
theorem PBTc.one {o : BoolOp} {e : E} {a : Expr} (he : PTc X c G f W e a) : PBTc X c G f W o [e] [a] := by
  intro pos σ H env ds vs Q S h
  rw [semB_one] at h
  have h2 : wpT X a σ H Q := he.thenT S h nb_one fun b env' H' s S' h' => by
    obtain ⟨b', e, q⟩ := h'
    cases e
    exact q H' (Same.refl _) S'
  cases o with
  | And => exact wpW.of (pw_and1 wpT.pt) h2
  | Or => exact wpW.of (pw_or1 wpT.pt) h2
theorem nb_cons (G : Calls) (o : BoolOp) (es : List E) : ∀ p : D × List D, (∀ b, p.1 ≠ .bl b) → (match o, p.1 with
    | .And, .bl false => (.ok (.bl false, p.2) : R (D × List D))
    | .Or, .bl true => .ok (.bl true, p.2)
    | _, .bl _ => semB G o es p.2
    | _, _ => .stuck) = .stuck := fun p h => by
  obtain ⟨d, e⟩ := p
  cases d <;> first | (cases o <;> rfl) | exact absurd rfl (h _)
theorem PBTc.cons {o : BoolOp} {e e2 : E} {es : List E} {a a2 : Expr} {as : List Expr} (he : PTc X c G f W e a) (hr : PBTc X c G f W o (e2 :: es) (a2 :: as)) : PBTc X c G f W o (e :: e2 :: es) (a :: a2 :: as) := by
  intro pos σ H env ds vs Q S h
  rw [semB_cons] at h
  cases o with
  | And =>
    refine wpW.of (pw_and wpT.pt wpW.pw) (he.thenT S h (nb_cons G .And (e2 :: es)) fun b env' H' s S' h' => ?_)
    cases b with
    | true => exact iteT (hr pos σ H' env' ds vs Q S' h')
    | false =>
      obtain ⟨b', e, q⟩ := h'
      cases e
      exact iteF (q H' (Same.refl _) S')
  | Or =>
    refine wpW.of (pw_or wpT.pt wpW.pw) (he.thenT S h (nb_cons G .Or (e2 :: es)) fun b env' H' s S' h' => ?_)
    cases b with
    | false => exact iteF (hr pos σ H' env' ds vs Q S' h')
    | true =>
      obtain ⟨b', e, q⟩ := h'
      cases e
      exact iteT (q H' (Same.refl _) S')
theorem nb_not : ∀ p : D × List D, (∀ b, p.1 ≠ .bl b) → (match p.1 with | .bl b => (.ok (.bl (!b), p.2) : R (D × List D)) | _ => .stuck) = .stuck := fun p h => by
  obtain ⟨d, e⟩ := p
  cases d <;> first | rfl | exact absurd rfl (h _)
theorem PEc.not {e : E} {a : Expr} {pos : Pos} (he : PEc X c G f W e a) : PEc X c G f W (.not e) (.UnaryOp .Not a pos) := by
  intro σ H env ds vs Q S h
  rw [E.sem] at h
  refine wpE.of (pe_not wpE.pe) (he.then S h fun p v H' s S' h' => ?_)
  obtain ⟨d, env'⟩ := p
  cases d with
  | bl b =>
    obtain ⟨rfl, S2⟩ := S'.bl rfl
    exact ⟨b, rfl, h' _ H' (Same.refl _) S2.bl'⟩
  | _ => exact h'.elim
theorem PTc.not {e : E} {a : Expr} {pos : Pos} (he : PTc X c G f W e a) : PTc X c G f W (.not e) (.UnaryOp .Not a pos) := by
  intro σ H env ds vs Q S h
  rw [E.sem] at h
  refine wpT.of (pt_not wpT.pt) (he.thenT S h nb_not fun b env' H' s S' h' => ?_)
  obtain ⟨b', e, q⟩ := h'
  cases e
  exact q H' (Same.refl _) S'
theorem PTc.tru (hX : XOk X c G fs) {e : E} {a : Expr} (he : PEc X c G f W e a) (hp : plainT a = true) : PTc X c G f W (.tru e) a := by
  intro σ H env ds vs Q S h
  have h := Wp.ofT h
  rw [E.sem] at h
  refine wpT.of (pt_truth wpE.pe ?_) (he.then S h fun p v H' s S' h' => ?_)
  · intro whole
    cases a with
    | UnaryOp o b p => cases o <;> first | rfl | cases hp
    | BoolOp => cases hp
    | IfExp => cases hp
    | Compare => cases hp
    | _ => rfl
  · cases z : truD p.1 with
    | none => rw [z] at h'; exact h'.elim
    | some k =>
      rw [z] at h'
      obtain ⟨Fa, Fn, m1, sa, sn, k1, fin⟩ := S'.use1
      obtain ⟨b, e, q⟩ := h' (.bl k) H' (Same.refl _) (fin _ _ H' (fun _ => 0) (Same.refl _) ⟨rfl, fun _ => rfl⟩ fun a => Nat.zero_le _)
      cases e
      exact ⟨k, hX.K ▸ truD_ok z sa sn k1, q⟩
theorem PEc.neg {e : E} {a : Expr} {pos : Pos} (he : PEc X c G f W e a) : PEc X c G f W (.neg e) (.UnaryOp .USub a pos) := by
  intro σ H env ds vs Q S h
  rw [E.sem] at h
  refine wpE.of (pe_un un_neg wpE.pe) (he.then S h fun p v H' s S' h' => ?_)
  obtain ⟨d, env'⟩ := p
  cases d with
  | int i =>
    obtain ⟨Fa, Fn, m1, sa, sn, k1, fin⟩ := S'.use1
    exact ⟨i, k1.1, h' _ H' (Same.refl _) (fin _ _ H' (fun _ => 0) (Same.refl _) ⟨rfl, fun _ => rfl⟩ fun a => Nat.zero_le _)⟩
  | _ => exact h'.elim
theorem nb_ife (G : Calls) (a b : E) : ∀ p : D × List D, (∀ k, p.1 ≠ .bl k) → (match p.1 with | .bl true => a.sem G p.2 | .bl false => b.sem G p.2 | _ => .stuck) = .stuck := fun p h => by
  obtain ⟨d, e⟩ := p
  cases d <;> first | rfl | exact absurd rfl (h _)
theorem PEc.ife {t a b : E} {t' a' b' : Expr} {pos : Pos} (ht : PTc X c G f W t t') (ha : PEc X c G f W a a') (hb : PEc X c G f W b b') : PEc X c G f W (.ife t a b) (.IfExp t' a' b' pos) := by
  intro σ H env ds vs Q S h
  rw [E.sem] at h
  refine wpE.of (pe_ifExp wpT.pt wpE.pe wpE.pe) (ht.thenE S h (nb_ife G a b) fun k env' H' s S' h' => ?_)
  cases k with
  | true => exact iteT (ha σ H' env' ds vs Q S' h')
  | false => exact iteF (hb σ H' env' ds vs Q S' h')
theorem cm2_core (hX : XOk X c G fs) {o p : CmpOp} {a b d : E} {l r q : Expr} (ha : PEc X c G f W a l) (hb : PEc X c G f W b r) (hd : PEc X c G f W d q) (S : SR c f σ H env ds vs)
    (h : Wp c f W σ H ds vs ((E.cm2 o p a b d).sem G env) Q) : tChain (rAnyO X (compareOp o)) (rAnyO X (compareOp p)) (wpE X l) (wpE X r) (wpE X q) σ H Q := by
  rw [E.sem] at h
  refine ha.then S h fun x v H1 s1 S1 h1 => ?_
  refine hb σ H1 x.2 (x.1 :: ds) (v :: vs) _ S1 ?_
  cases zb : b.sem G x.2 with
  | exc x fs e => rw [zb] at h1; exact h1
  | stuck => rw [zb] at h1; exact h1.elim
  | ok y =>
    rw [zb] at h1
    intro u H2 s2 S2
    have h2 := Wp.same s2 h1
    cases z : cmpV o x.1 y.1 with
    | none => rw [R.bind_ok, z] at h2; exact h2.elim
    | some k =>
      rw [R.bind_ok, z] at h2
      obtain ⟨Fa, Fn, m1, m2, sa, sn, k1, k2, fin⟩ := S2.use2
      refine cmpV_ok hX z sa sn k1 k2 ⟨k, rfl, ?_⟩
      cases k with
      | false => exact iteF (h2 _ H2 (Same.refl _) (fin _ _ H2 (fun _ => 0) (Same.refl _) ⟨rfl, fun _ => rfl⟩ fun a => Nat.zero_le _))
      | true =>
        refine iteT (hd σ H2 y.2 (y.1 :: x.1 :: ds) (u :: v :: vs) _ S2 ?_)
        dsimp only at h2
        cases zd : d.sem G y.2 with
        | exc x fs e => rw [zd] at h2; exact h2
        | stuck => rw [zd] at h2; exact h2.elim
        | ok w =>
          rw [zd, R.bind_ok] at h2
          intro w' H3 s3 S3
          have h3 := Wp.same s3 h2
          cases z3 : cmpV p y.1 w.1 with
          | none => rw [z3] at h3; exact h3.elim
          | some k3 =>
            rw [z3] at h3
            obtain ⟨Fa, Fn, m, sa, sn, kk, fin⟩ := SR.use (d1 := [w.1, y.1, x.1]) (v1 := [w', u, v]) S3 rfl
            obtain ⟨w1, r1, n1, n2, e1, q1, q2, q3⟩ := kk
            obtain ⟨w2, r2, n3, n4, e2, q4, q5, q6⟩ := q2
            injection e1 with e3 e4
            subst e3
            subst e4
            injection e2 with e5 e6
            subst e5
            exact cmpV_ok hX z3 sa sn q4 q1 (h3 _ H3 (Same.refl _) (fin _ _ H3 (fun _ => 0) (Same.refl _) ⟨rfl, fun _ => rfl⟩ fun a => Nat.zero_le _))
theorem cm3_core (hX : XOk X c G fs) {o p p2 : CmpOp} {a b d e : E} {l r q q2 : Expr} (ha : PEc X c G f W a l) (hb : PEc X c G f W b r) (hd : PEc X c G f W d q) (he : PEc X c G f W e q2) (S : SR c f σ H env ds vs)
    (h : Wp c f W σ H ds vs ((E.cm3 o p p2 a b d e).sem G env) Q) : tChain3 (rAnyO X (compareOp o)) (rAnyO X (compareOp p)) (rAnyO X (compareOp p2)) (wpE X l) (wpE X r) (wpE X q) (wpE X q2) σ H Q := by
  rw [E.sem] at h
  refine ha.then S h fun x v H1 s1 S1 h1 => ?_
  refine hb σ H1 x.2 (x.1 :: ds) (v :: vs) _ S1 ?_
  cases zb : b.sem G x.2 with
  | exc x fs e => rw [zb] at h1; exact h1
  | stuck => rw [zb] at h1; exact h1.elim
  | ok y =>
    rw [zb] at h1
    intro u H2 s2 S2
    have h2 := Wp.same s2 h1
    cases z : cmpV o x.1 y.1 with
    | none => rw [R.bind_ok, z] at h2; exact h2.elim
    | some k =>
      rw [R.bind_ok, z] at h2
      obtain ⟨Fa, Fn, m1, m2, sa, sn, k1, k2, fin⟩ := S2.use2
      refine cmpV_ok hX z sa sn k1 k2 ⟨k, rfl, ?_⟩
      cases k with
      | false => exact iteF (h2 _ H2 (Same.refl _) (fin _ _ H2 (fun _ => 0) (Same.refl _) ⟨rfl, fun _ => rfl⟩ fun a => Nat.zero_le _))
      | true =>
        refine iteT (hd σ H2 y.2 (y.1 :: x.1 :: ds) (u :: v :: vs) _ S2 ?_)
        dsimp only at h2
        cases zd : d.sem G y.2 with
        | exc x fs e => rw [zd] at h2; exact h2
        | stuck => rw [zd] at h2; exact h2.elim
        | ok w =>
          rw [zd, R.bind_ok] at h2
          intro w' H3 s3 S3
          have h3 := Wp.same s3 h2
          cases z3 : cmpV p y.1 w.1 with
          | none => rw [z3] at h3; exact h3.elim
          | some k3 =>
            rw [z3] at h3
            obtain ⟨Fa, Fn, m, sa, sn, kk, fin⟩ := SR.use (d1 := [w.1, y.1, x.1]) (v1 := [w', u, v]) S3 rfl
            obtain ⟨w1, r1, n1, n2, e1, q1, q2', q3⟩ := kk
            obtain ⟨w2, r2, n3, n4, e2, q4, q5, q6⟩ := q2'
            injection e1 with e3 e4
            subst e3
            subst e4
            injection e2 with e5 e6
            subst e5
            refine cmpV_ok hX z3 sa sn q4 q1 ⟨k3, rfl, ?_⟩
            cases k3 with
            | false => exact iteF (h3 _ H3 (Same.refl _) (fin _ _ H3 (fun _ => 0) (Same.refl _) ⟨rfl, fun _ => rfl⟩ fun a => Nat.zero_le _))
            | true =>
              refine iteT (he σ H3 w.2 (w.1 :: y.1 :: x.1 :: ds) (w' :: u :: v :: vs) _ S3 ?_)
              dsimp only at h3
              cases ze : e.sem G w.2 with
              | exc x fs e => rw [ze] at h3; exact h3
              | stuck => rw [ze] at h3; exact h3.elim
              | ok t =>
                rw [ze, R.bind_ok] at h3
                intro t' H4 s4 S4
                have h4 := Wp.same s4 h3
                cases z4 : cmpV p2 w.1 t.1 with
                | none => rw [z4] at h4; exact h4.elim
                | some k4 =>
                  rw [z4] at h4
                  obtain ⟨Fa, Fn, m, sa, sn, kk, fin⟩ := SR.use (d1 := [t.1, w.1, y.1, x.1]) (v1 := [t', w', u, v]) S4 rfl
                  obtain ⟨w1, r1, n1, n2, e1, q1, q2', q3⟩ := kk
                  obtain ⟨w2, r2, n3, n4, e2, q4, q5, q6⟩ := q2'
                  injection e1 with e3 e4
                  subst e3
                  subst e4
                  injection e2 with e5 e6
                  subst e5
                  exact cmpV_ok hX z4 sa sn q4 q1 (h4 _ H4 (Same.refl _) (fin _ _ H4 (fun _ => 0) (Same.refl _) ⟨rfl, fun _ => rfl⟩ fun a => Nat.zero_le _))
theorem lastMk3 {o p p2 : CmpOp} {a b c : Expr} (h : ∀ es k p, c ≠ .Set es k p) : lastMarks [o, p, p2] [a, b, c] = false := behind_no (o := p2) h
theorem PEc.cm3 (hX : XOk X c G fs) {o p p2 : CmpOp} {a b d e : E} {l r q q2 : Expr} {pos : Pos} (ha : PEc X c G f W a l) (hb : PEc X c G f W b r) (hd : PEc X c G f W d q) (he : PEc X c G f W e q2) (hq : ∀ es k p, q2 ≠ .Set es k p) :
    PEc X c G f W (.cm3 o p p2 a b d e) (.Compare l [o, p, p2] [r, q, q2] pos) := fun σ H env ds vs Q S h =>
  wpE.of (pe_chain3 opAny opAny opAny wpE.pe wpE.pe wpE.pe wpE.pe (lastMk3 hq)) (cm3_core hX ha hb hd he S h)
theorem PTc.cm3 (hX : XOk X c G fs) {o p p2 : CmpOp} {a b d e : E} {l r q q2 : Expr} {pos : Pos} (ha : PEc X c G f W a l) (hb : PEc X c G f W b r) (hd : PEc X c G f W d q) (he : PEc X c G f W e q2) (hq : ∀ es k p, q2 ≠ .Set es k p) :
    PTc X c G f W (.cm3 o p p2 a b d e) (.Compare l [o, p, p2] [r, q, q2] pos) := fun σ H env ds vs Q S h =>
  wpT.of (pt_chain3 opAny opAny opAny wpE.pe wpE.pe wpE.pe wpE.pe (lastMk3 hq)) (cm3_core (Q := fun x H' => ∃ k, x = .bl k ∧ Q k H') hX ha hb hd he S (Wp.ofT h))
theorem PEc.cm2 (hX : XOk X c G fs) {o p : CmpOp} {a b d : E} {l r q : Expr} {pos : Pos} (ha : PEc X c G f W a l) (hb : PEc X c G f W b r) (hd : PEc X c G f W d q) (hq : ∀ es k p, q ≠ .Set es k p) :
    PEc X c G f W (.cm2 o p a b d) (.Compare l [o, p] [r, q] pos) := fun σ H env ds vs Q S h =>
  wpE.of (pe_chain opAny opAny wpE.pe wpE.pe wpE.pe (behind_no (o := p) hq)) (cm2_core hX ha hb hd S h)
theorem PTc.cm2 (hX : XOk X c G fs) {o p : CmpOp} {a b d : E} {l r q : Expr} {pos : Pos} (ha : PEc X c G f W a l) (hb : PEc X c G f W b r) (hd : PEc X c G f W d q) (hq : ∀ es k p, q ≠ .Set es k p) :
    PTc X c G f W (.cm2 o p a b d) (.Compare l [o, p] [r, q] pos) := fun σ H env ds vs Q S h =>
  wpT.of (pt_chain opAny opAny wpE.pe wpE.pe wpE.pe (behind_no (o := p) hq)) (cm2_core hX ha hb hd S (Wp.ofT h))
end
end VI

set_option maxHeartbeats 4000000
namespace VI
open PySem PySem.Spec L2
open PyProof.Rows hiding St

section
variable {X : Cx} {c : Gc} {G : Calls} {fs : Nm} {sc : Scope} {f : Fr} {W : WX} {σ : St} {H H' : Hp} {env ds : List D} {vs : List V} {Q : VK}
theorem PAc.nil : PAc X c G f W [] [] := by
  intro σ H env ds vs Q S h
  rw [semL] at h
  exact wpA.of pa_nil (h [] H rfl (Same.refl _) S)
theorem SR.rot {d1 : List D} {d : D} {us : List V} {v : V} (S : SR c f σ H env (d1 ++ d :: ds) (us ++ v :: vs)) (hl : d1.length = us.length) : SR c f σ H env (d :: (d1 ++ ds)) (v :: (us ++ vs)) := by
  obtain ⟨Fa, Fn, mS, mT, S⟩ := S
  obtain ⟨w1, w2, m1, m2, ee, h1, h2, hm⟩ := S.tmps.split
  obtain ⟨rfl, rfl⟩ := List.append_inj ee (by rw [← hl, h1.len])
  obtain ⟨v', r, n1, n2, e, q1, q2, q3⟩ := h2
  injection e with e1 e2
  subst e1
  subst e2
  exact ⟨Fa, Fn, mS, mT, { S with tmps := ⟨v, us ++ vs, n1, fun a => m1 a + n2 a, rfl, q1, h1.append q2, fun a => by have := hm a; have := q3 a; show mT a = n1 a + (m1 a + n2 a); omega⟩ }⟩
theorem PAc.cons {e : E} {es : List E} {a : Expr} {as : List Expr} (he : PEc X c G f W e a) (hs : PAc X c G f W es as) (hn : noStar a = true) : PAc X c G f W (e :: es) (a :: as) := by
  intro σ H env ds vs Q S h
  rw [semL] at h
  refine wpA.of (pa_cons wpE.pe wpA.pa (star_cons hn as X.env)) ?_
  refine he σ H env ds vs _ S ?_
  cases z : e.sem G env with
  | exc x fs e => rw [z] at h; exact h
  | stuck => rw [z] at h; exact h.elim
  | ok p =>
    rw [z, R.bind_ok] at h
    intro v H1 s1 S1
    refine hs σ H1 p.2 (p.1 :: ds) (v :: vs) _ S1 ?_
    cases z2 : semL G es p.2 with
    | exc x fs e => rw [z2] at h; exact fun cls dd H2 s2 S2 x => h cls dd H2 (s1.trans s2) S2 x
    | stuck => rw [z2] at h; exact h.elim
    | ok q =>
      rw [z2, R.bind_ok] at h
      intro us H2 hl s2 S2
      exact h (v :: us) H2 (by rw [List.length_cons, hl, List.length_cons]) (s1.trans s2) (S2.rot hl.symm)
/-- arguments, then the rest -/
theorem PAc.then {es : List E} {as : List Expr} (hs : PAc X c G f W es as) (S : SR c f σ H env ds vs) {g : List D × List D → R (D × List D)} (h : Wp c f W σ H ds vs ((semL G es env).bind g) Q) {Q' : List V → Hp → Prop}
    (k : ∀ p us H', us.length = p.1.length → Same H H' → SR c f σ H' p.2 (p.1 ++ ds) (us ++ vs) → Wp c f W σ H' ds vs (g p) Q → Q' us H') : wpA X as σ H Q' := by
  refine hs σ H env ds vs Q' S ?_
  cases r : semL G es env with
  | ok p =>
    rw [r] at h
    intro us H' hl s q
    exact k p us H' hl s q (Wp.same s h)
  | exc x fs e' => rw [r] at h; exact h
  | stuck => rw [r] at h; exact h.elim
theorem PEc.tup {es : List E} {as : List Expr} {n : Nat} {pos : Pos} (hs : PAc X c G f W es as) : PEc X c G f W (.tup es) (.Tuple as n pos) := by
  intro σ H env ds vs Q S h
  rw [E.sem] at h
  refine wpE.of (pe_tup wpA.pa) (hs.then S h fun p us H' hl s S' h' => ?_)
  by_cases z : p.1.length ≤ 16777216
  · rw [if_pos z] at h'
    obtain ⟨Fa, Fn, m1, sa, sn, k1, fin⟩ := S'.use hl.symm
    refine ⟨by rw [sizeLine_eq]; omega, fun a ha => h' _ _ (same_upd ha) (fin _ _ _ _ (same_upd ha) (Rep.mkt k1 ha) fun b => ?_)⟩
    have := @nwc_new H' a b ha
    show m1 b + _ ≤ _
    omega
  · rw [if_neg z] at h'; exact h'.elim
theorem PEc.lst {es : List E} {as : List Expr} {pos : Pos} (hs : PAc X c G f W es as) : PEc X c G f W (.lst es) (.List as pos) := by
  intro σ H env ds vs Q S h
  rw [E.sem] at h
  refine wpE.of (pe_lst wpA.pa) (hs.then S h fun p us H' hl s S' h' => ?_)
  by_cases z : p.1.length ≤ 16777216
  · rw [if_pos z] at h'
    obtain ⟨Fa, Fn, m1, sa, sn, k1, fin⟩ := S'.use hl.symm
    refine ⟨by rw [sizeLine_eq]; omega, fun a ha => h' _ _ (same_upd ha) (fin _ _ _ _ (same_upd ha) (Rep.mkl k1 ha) fun b => ?_)⟩
    have := @nwc_new H' a b ha
    show m1 b + _ ≤ _
    omega
  · rw [if_neg z] at h'; exact h'.elim
theorem PEc.ix (hX : XOk X c G fs) {a i : E} {b j : Expr} {pos : Pos} (ha : PEc X c G f W a b) (hi : PEc X c G f W i j) (hp : PlainIx j) : PEc X c G f W (.ix a i) (.Subscript b j pos) := by
  intro σ H env ds vs Q S h
  rw [E.sem] at h
  refine wpE.of (pe_ix ixAny wpE.pe wpE.pe hp) (PEc.two ha hi S (g := fun p q => R.of ((ixV p q.1).map fun d => (d, q.2))) h fun p q v u H1 s1 S1 h1 => ?_)
  cases z : ixV p q.1 with
  | none => rw [z] at h1; exact h1.elim
  | some d =>
    rw [z] at h1
    obtain ⟨Fa, Fn, m1, m2, sa, sn, k1, k2, fin⟩ := S1.use2
    exact ixV_ok hX z sa sn k1 k2 fun w H' m' s hd hm => h1 w H' s (fin d w H' m' s hd hm)
theorem PEc.blt (hX : XOk X c G fs) (hsc : ScOk sc X) {b : Bi} {es : List E} {a : Expr} {as : List Expr} {p pos : Pos} (hs : PAc X c G f W es (a :: as)) (hg : glC sc (biName b) = true) (hn : (a :: as).all noStar = true) :
    PEc X c G f W (.blt b es) (.Call (.Name (biName b) p) (a :: as) [] pos) := by
  intro σ H env ds vs Q S h
  rw [E.sem] at h
  refine wpE.of (bi_pe hX (hsc.gl hg).1 hn) (hs.then S h fun p us H' hl s S' h' => ?_)
  cases z : biV b p.1 with
  | none => rw [z] at h'; exact h'.elim
  | some d =>
    rw [z] at h'
    obtain ⟨Fa, Fn, m1, sa, sn, k1, fin⟩ := S'.use hl.symm
    exact biV_ok hX z sa sn k1 fun w H2 m' s2 hd hm => h' w H2 s2 (fin d w H2 m' s2 hd hm)
def tyV' : Ty → Value := fun t => .type (tyStr t)
theorem tyBoot : ∀ t : Ty, bootBuiltins (tyName t) = some (.type (tyStr t)) := by
  intro t
  match t with
  | .int => exact boot_int
  | .bool => exact boot_bool
  | .str => exact boot_str
  | .list => exact boot_list
  | .tuple => exact boot_tuple
theorem PEc.isi (hX : XOk X c G fs) (hsc : ScOk sc X) {e : E} {t : Ty} {a : Expr} {p p2 pos : Pos} (he : PEc X c G f W e a) (hg : glC sc "isinstance" = true) (hg2 : glC sc (tyName t) = true) (hn : noStar a = true) :
    PEc X c G f W (.isi e t) (.Call (.Name "isinstance" p) [a, .Name (tyName t) p2] [] pos) := by
  intro σ H env ds vs Q S h
  rw [E.sem] at h
  have hty : PE X (.Name (tyName t) p2) (tC (.ty (tyStr t))) := pe_bltn (hsc.gl hg2).1 (hX.tys t) (tyBoot t) rfl (by cases t <;> decide) (by cases t <;> decide)
  have h1 := star_cons hn [.Name (tyName t) p2] X.env
  refine wpE.of (pe_callB call_isi (hsc.gl hg).1 hX.rng.2.2.2 boot_isinstance (pa_cons wpE.pe (pa_cons hty pa_nil) h1) (by decide) (by decide) h1 (noStar_plain (pos := pos) (env := X.env) rfl)) (he.then S h fun q v H' s S' h' => ?_)
  cases z : isTy t q.1 with
  | none => rw [z] at h'; exact h'.elim
  | some k =>
    rw [z] at h'
    obtain ⟨Fa, Fn, m1, sa, sn, k1, fin⟩ := S'.use1
    obtain ⟨y1, y2⟩ := dTy_ok z sa sn k1
    exact ⟨v, .ty (tyStr t), _, _, k, rfl, .ty _, hX.K ▸ y1, kit_ty y2, h' _ H' (Same.refl _) (fin _ _ H' (fun _ => 0) (Same.refl _) ⟨rfl, fun _ => rfl⟩ fun a => Nat.zero_le _)⟩
/-! ### fields, classes, sets -/
theorem zip_lookup {fl : List Str} {us : List V} {xs : List D} {Fa Fn : Hp} {m : Addr → Nat} {x : Str} {d : D} (r : Reps c Fa Fn H xs us m) (e : (fl.zip xs).lookup x = some d) :
    ∃ w m', (fl.zip us).lookup x = some w ∧ Rep c Fa Fn H d w m' ∧ ∀ a, m' a ≤ m a := by
  induction fl generalizing xs us m with
  | nil => cases e
  | cons n fl ih =>
    cases xs with
    | nil => cases e
    | cons y xs =>
      obtain ⟨w, us', m1, m2, rfl, r1, r2, hm⟩ := r
      rw [List.zip_cons_cons, List.lookup_cons] at e
      rw [List.zip_cons_cons, List.lookup_cons]
      cases q : (x == n) with
      | true =>
        rw [q] at e
        cases e
        exact ⟨w, m1, rfl, r1, fun a => by have := hm a; omega⟩
      | false =>
        rw [q] at e
        obtain ⟨w', m', h1, h2, h3⟩ := ih r2 e
        exact ⟨w', m', h1, h2, fun a => by have := hm a; have := h3 a; omega⟩
theorem Rep.insAt {t : Tag} {n : Str} {fl : List Str} {xs : List D} {Fa Fn : Hp} {v : V} {m : Addr → Nat} (h : Rep c Fa Fn H (.nd t (.ins n fl) xs) v m) (sa : Same Fa H) (sn : Und c Fn Fa H) :
    ∃ p us m' C dx, v = .ref p ∧ c.cls n = some C ∧ H p = some (.ins C dx (fl.zip us)) ∧ fl.length = us.length ∧ Reps c Fa Fn H xs us m' ∧ ∀ a, m' a ≤ m a := by
  obtain ⟨p, us, m', rfl, r, h⟩ := h
  cases t with
  | own =>
    obtain ⟨⟨C, dx, e1, e2, e3⟩, hm⟩ := h
    exact ⟨p, us, m', C, dx, rfl, e1, e2, e3, r, fun a => by have := hm a; omega⟩
  | new =>
    obtain ⟨⟨C, dx, e1, e2, e3⟩, hm, _⟩ := h
    exact ⟨p, us, m', C, dx, rfl, e1, sa _ _ (sn.1 _ _ e2), e3, r, fun a => by rw [hm]; exact Nat.zero_le _⟩
  | any =>
    obtain ⟨⟨C, dx, e1, e2, e3⟩, hm, _⟩ := h
    exact ⟨p, us, m', C, dx, rfl, e1, sa _ _ e2, e3, r, fun a => by rw [hm]; exact Nat.zero_le _⟩
  | bor =>
    obtain ⟨⟨C, dx, e1, e2, e3⟩, hm, _⟩ := h
    exact ⟨p, us, m', C, dx, rfl, e1, sn.2 _ _ e2, e3, r, fun a => by rw [hm]; exact Nat.zero_le _⟩
  | sta => exact h.1.elim
theorem noSup_base' {o : Expr} (ho : noSup o = true) (name : Str) : attributeBase o name X.env (eval o X.env) = eval o X.env := by
  unfold attributeBase
  cases o <;> try rfl
  rename_i fn args kws p
  cases fn <;> try rfl
  cases args <;> try rfl
  cases kws <;> first | rfl | cases ho
theorem PEc.fld (hX : XOk X c G fs) {e : E} {x : Str} {a : Expr} {pos : Pos} (he : PEc X c G f W e a) (hf : x ∈ fs.fld) (hs : noSup a = true) : PEc X c G f W (.fld e x) (.Attribute a x pos) := by
  intro σ H env ds vs Q S h
  rw [E.sem] at h
  refine wpE.of (pe_fld wpE.pe (noSup_base' hs x)) (he.then S h fun p v H1 s1 S1 h1 => ?_)
  obtain ⟨d, env'⟩ := p
  cases d with
  | nd t k xs =>
    cases k with
    | ins n fl =>
      have h1 : Wp c f W σ H1 ds vs (R.of (((fl.zip xs).lookup x).map fun d => (d, env'))) Q := h1
      cases z : (fl.zip xs).lookup x with
      | none => rw [z] at h1; exact h1.elim
      | some d =>
        rw [z] at h1
        obtain ⟨Fa, Fn, m1, sa, sn, k1, fin⟩ := S1.use1
        obtain ⟨p, us, m', C, dx, rfl, e1, e2, e3, r, hm⟩ := k1.insAt sa sn
        obtain ⟨w, m'', w1, w2, w3⟩ := zip_lookup r z
        obtain ⟨g1, g2⟩ := hX.fl n C x e1 hf
        exact ⟨p, C, dx, _, w, rfl, e2, g1, g2, w1, h1 w H1 (Same.refl _) (fin d w H1 m'' (Same.refl _) w2 fun a => by have := hm a; have := w3 a; omega)⟩
    | _ => exact h1.elim
  | _ => exact h1.elim
theorem PEc.lset (hX : XOk X c G fs) (hsc : ScOk sc X) {e : E} {a : Expr} {p p2 q pos : Pos} (he : PEc X c G f W e a) (hg : glC sc "len" = true) (hg2 : glC sc "set" = true) (hn : noStarB a = true) : PEc X c G f W (.lset e) (.Call (.Name "len" p) [.Call (.Name "set" p2) [a] [] q] [] pos) := by
  intro σ H env ds vs Q S h
  rw [E.sem] at h
  have hs : starEach [a] X.env = (false, eval a X.env) :: starEach [] X.env := by cases a <;> first | rfl | cases hn
  refine wpE.of (pe_lenSetN hX.calm (hsc.gl hg).1 (hX.blt .len) (hsc.gl hg2).1 hX.setn wpE.pe hs) (he.then S h fun p v H1 s1 S1 h1 => ?_)
  cases z : lsetV p.1 with
  | none => rw [z] at h1; exact h1.elim
  | some d =>
    rw [z] at h1
    obtain ⟨d0, env'⟩ := p
    cases d0 with
    | nd t kd xs =>
      cases kd with
      | lst =>
        have z : (match strs? xs with
          | some ys => if ys.length < 4000 then some (D.int (met ys).length) else none
          | none => none) = some d := z
        cases hy : strs? xs with
        | none => rw [hy] at z; cases z
        | some ys =>
          rw [hy] at z
          have z : (if ys.length < 4000 then some (D.int (met ys).length) else none) = some d := z
          split at z
          · rename_i hl
            cases z
            obtain ⟨Fa, Fn, m1, sa, sn, k1, fin⟩ := S1.use1
            obtain ⟨p, us, m', rfl, k2, r, _⟩ := Rep.seqL k1 sa sn
            have hu : us = ys.map V.str := strs_us r hy
            subst hu
            exact ⟨p, ys, rfl, by rw [hX.K]; exact k2, hl, h1 _ H1 (Same.refl _) (fin _ _ H1 (fun _ => 0) (Same.refl _) ⟨rfl, fun _ => rfl⟩ fun a => Nat.zero_le _)⟩
          · cases z
      | _ => cases z
    | _ => cases z
where
  strs_us {Fa Fn H : Hp} : ∀ {xs : List D} {us : List V} {m : Addr → Nat} {ys : List Str}, Reps c Fa Fn H xs us m → strs? xs = some ys → us = ys.map V.str
    | [], us, m, ys, h, e => by
      obtain ⟨rfl, _⟩ := h
      cases e; rfl
    | d :: xs, us, m, ys, h, e => by
      obtain ⟨v, r, m1, m2, rfl, h1, h2, hm⟩ := h
      cases d with
      | str z =>
        have e : (strs? xs).map (z :: ·) = some ys := e
        cases q : strs? xs with
        | none => rw [q] at e; cases e
        | some ys' =>
          rw [q] at e
          cases e
          rw [strs_us h2 q, h1.1]
          rfl
      | nd t k zs => cases e
      | und => cases e
      | non => cases e
      | bl b => cases e
      | int i => cases e
      | fn z => cases e
theorem PEc.isc (hX : XOk X c G fs) (hsc : ScOk sc X) {e : E} {x : Str} {a : Expr} {p p2 pos : Pos} (he : PEc X c G f W e a) (hk : x ∈ fs.kls) (hg : glC sc "isinstance" = true) (hg2 : glC sc x = true) (hn : noStar a = true) :
    PEc X c G f W (.isc e x) (.Call (.Name "isinstance" p) [a, .Name x p2] [] pos) := by
  intro σ H env ds vs Q S h
  rw [E.sem] at h
  obtain ⟨g1, g2⟩ := hsc.gl hg2
  obtain ⟨A, hA⟩ := hX.kls x hk
  have hty : PE X (.Name x p2) (tC (.ref A)) := pe_glob g1 hA rfl g2
  have h1 := star_cons hn [.Name x p2] X.env
  refine wpE.of (pe_callB call_isi (hsc.gl hg).1 hX.rng.2.2.2 boot_isinstance (pa_cons wpE.pe (pa_cons hty pa_nil) h1) (by decide) (by decide) h1 (noStar_plain (pos := pos) (env := X.env) rfl)) (he.then S h fun q v H' s S' h' => ?_)
  cases z : isCls G.sub x q.1 with
  | none => rw [z] at h'; exact h'.elim
  | some k =>
    rw [z] at h'
    obtain ⟨d0, env'⟩ := q
    cases d0 with
    | nd t kd xs =>
      cases kd with
      | ins n fl =>
        have z : G.sub n x = some k := z
        obtain ⟨Fa, Fn, m1, sa, sn, k1, fin⟩ := S'.use1
        obtain ⟨p, us, m', C, dx, rfl, e1, e2, e3, r, hm⟩ := Rep.insAt k1 sa sn
        obtain ⟨y1, y2⟩ := hX.sub n C x k A e1 hA z
        exact ⟨.ref p, .ref A, .ref C, _, k, rfl, .own A, .base (.ins e2 y2.cl y2.ha y2.hn y2.htk y2.hm), y1, h' _ H' (Same.refl _) (fin _ _ H' (fun _ => 0) (Same.refl _) ⟨rfl, fun _ => rfl⟩ fun a => Nat.zero_le _)⟩
      | _ => cases z
    | _ => cases z
/-- a slice's bound -/
def PBnd (X : Cx) (c : Gc) (G : Calls) (f : Fr) (W : WX) (e : E) (o : Option Expr) : Prop :=
  (e = .nop ∧ o = none) ∨ ∃ a, e ≠ .nop ∧ o = some a ∧ PEc X c G f W e a
def WpB (c : Gc) (f : Fr) (W : WX) (σ : St) (H : Hp) (e : E) (ds : List D) (vs : List V) : R (D × List D) → (Option Int → Hp → Prop) → Prop
  | .ok p, Q => ∀ v H', Same H H' → SR c f σ H' p.2 (p.1 :: ds) (v :: vs) → ∃ l, bndN e p.1 = some l ∧ Q l H'
  | .exc x fs env', Q => ∀ cls dd H', Same H H' → SR c f σ H' env' [] [] → ExcR c x fs cls dd H' → W cls dd σ H'
  | .stuck, _ => False
theorem PBnd.to {e : E} {o : Option Expr} (hb : PBnd X c G f W e o) : ∃ t, PO X o t ∧ ∀ σ H env ds vs (Q : Option Int → Hp → Prop), SR c f σ H env ds vs → WpB c f W σ H e ds vs (e.sem G env) Q → t σ H Q := by
  rcases hb with ⟨rfl, rfl⟩ | ⟨a, hne, rfl, he⟩
  · refine ⟨_, po_none, fun σ H env ds vs Q S h => ?_⟩
    rw [E.sem] at h
    obtain ⟨l, e, q⟩ := h .non H (Same.refl _) (S.push fun Fa Fn => fun _ => rfl)
    cases e
    exact q
  · refine ⟨_, po_some wpE.pe, fun σ H env ds vs Q S h => ?_⟩
    refine he σ H env ds vs _ S ?_
    cases z : e.sem G env with
    | exc x fs e => rw [z] at h; exact h
    | stuck => rw [z] at h; exact h.elim
    | ok p =>
      rw [z] at h
      intro v H' s S'
      obtain ⟨l, e1, q⟩ := h v H' s S'
      obtain ⟨Fa, Fn, m1, sa, sn, k1, _⟩ := S'.use1
      unfold bndN at e1
      split at e1
      · exact absurd rfl hne
      · split at e1
        · rename_i i hi
          cases e1
          rw [hi] at k1
          exact ⟨i, k1.1, q⟩
        · cases e1
theorem PEc.slc (hX : XOk X c G fs) {a lo hi : E} {b : Expr} {l h : Option Expr} {pos p2 : Pos} (ha : PEc X c G f W a b) (hl : PBnd X c G f W lo l) (hh : PBnd X c G f W hi h) :
    PEc X c G f W (.slc a lo hi) (.Subscript b (.Slice l h none p2) pos) := by
  intro σ H env ds vs Q S hq
  rw [E.sem] at hq
  obtain ⟨tl, hpl, kl⟩ := hl.to
  obtain ⟨th, hph, kh⟩ := hh.to
  refine wpE.of (pe_slice slAny wpE.pe hpl hph) (ha.then S hq fun x v H1 s1 S1 h1 => ?_)
  refine kl σ H1 x.2 (x.1 :: ds) (v :: vs) _ S1 ?_
  cases zl : lo.sem G x.2 with
  | exc x fs e => rw [zl] at h1; exact h1
  | stuck => rw [zl] at h1; exact h1.elim
  | ok q =>
    rw [zl, R.bind_ok] at h1
    intro u H2 s2 S2
    have h2 := Wp.same s2 h1
    cases y1 : bndN lo q.1 with
    | none => rw [y1] at h2; exact h2.elim
    | some l =>
      rw [y1, R.of_some, R.bind_ok] at h2
      refine ⟨l, rfl, kh σ H2 q.2 (q.1 :: x.1 :: ds) (u :: v :: vs) _ S2 ?_⟩
      cases zh : hi.sem G q.2 with
      | exc x fs e => rw [zh] at h2; exact h2
      | stuck => rw [zh] at h2; exact h2.elim
      | ok r =>
        rw [zh, R.bind_ok] at h2
        intro w H3 s3 S3
        have h3 := Wp.same s3 h2
        cases y2 : bndN hi r.1 with
        | none => rw [y2] at h3; exact h3.elim
        | some h =>
          rw [y2, R.of_some, R.bind_ok] at h3
          refine ⟨h, rfl, ?_⟩
          cases y3 : slcV x.1 l h with
          | none => rw [y3] at h3; exact h3.elim
          | some d =>
            rw [y3] at h3
            obtain ⟨Fa, Fn, m, sa, sn, kk, fin⟩ := SR.use (d1 := [r.1, q.1, x.1]) (v1 := [w, u, v]) S3 rfl
            obtain ⟨w1, r1, n1, n2, e1, q1, q2, q3⟩ := kk
            obtain ⟨w2, r2, n3, n4, e2, q4, q5, q6⟩ := q2
            obtain ⟨w3, r3, n5, n6, e5, q7, q8, q9⟩ := q5
            injection e1 with e3 e4
            subst e3
            subst e4
            injection e2 with e6 e7
            subst e6
            subst e7
            injection e5 with e8 e9
            subst e8
            exact slcV_ok hX y3 sa sn q7 fun z H4 m' s4 hd hm => h3 z H4 s4 (fin d z H4 m' s4 hd fun a => by have := hm a; have := q3 a; have := q6 a; have := q9 a; omega)
end
end VI

set_option maxHeartbeats 4000000
namespace VI
open PySem PySem.Spec L2
open PyProof.Rows hiding St

mutual
theorem D.tag_comp (f g : Tag → Tag) : ∀ d : D, (d.tag f).tag g = d.tag fun t => g (f t)
  | .nd t k xs => by
    show D.nd (g (f t)) k (D.tags g (D.tags f xs)) = D.nd (g (f t)) k (D.tags (fun t => g (f t)) xs)
    rw [D.tags_comp f g xs]
  | .und => rfl
  | .non => rfl
  | .bl b => rfl
  | .int i => rfl
  | .str x => rfl
  | .fn x => rfl
theorem D.tags_comp (f g : Tag → Tag) : ∀ ds : List D, D.tags g (D.tags f ds) = D.tags (fun t => g (f t)) ds
  | [] => rfl
  | d :: ds => by
    show (d.tag f).tag g :: D.tags g (D.tags f ds) = _
    rw [D.tag_comp f g d, D.tags_comp f g ds]
    rfl
end
mutual
theorem D.all_tag (p : Tag → Bool) (f : Tag → Tag) : ∀ d : D, (d.tag f).all p = d.all fun t => p (f t)
  | .nd t k xs => by
    show (p (f t) && D.alls p (D.tags f xs)) = (p (f t) && D.alls (fun t => p (f t)) xs)
    rw [D.alls_tags p f xs]
  | .und => rfl
  | .non => rfl
  | .bl b => rfl
  | .int i => rfl
  | .str x => rfl
  | .fn x => rfl
theorem D.alls_tags (p : Tag → Bool) (f : Tag → Tag) : ∀ ds : List D, D.alls p (D.tags f ds) = D.alls (fun t => p (f t)) ds
  | [] => rfl
  | d :: ds => by
    show ((d.tag f).all p && D.alls p (D.tags f ds)) = (d.all _ && D.alls _ ds)
    rw [D.all_tag p f d, D.alls_tags p f ds]
end
mutual
theorem D.all_imp {p q : Tag → Bool} (h : ∀ t, p t = true → q t = true) : ∀ d : D, d.all p = true → d.all q = true
  | .nd t k xs => fun e => by
    have e' : (p t && D.alls p xs) = true := e
    rw [Bool.and_eq_true] at e'
    show (q t && D.alls q xs) = true
    rw [h t e'.1, D.alls_imp h xs e'.2]; rfl
  | .und => fun _ => rfl
  | .non => fun _ => rfl
  | .bl b => fun _ => rfl
  | .int i => fun _ => rfl
  | .str x => fun _ => rfl
  | .fn x => fun _ => rfl
theorem D.alls_imp {p q : Tag → Bool} (h : ∀ t, p t = true → q t = true) : ∀ ds : List D, D.alls p ds = true → D.alls q ds = true
  | [] => fun _ => rfl
  | d :: ds => fun e => by
    have e' : (d.all p && D.alls p ds) = true := e
    rw [Bool.and_eq_true] at e'
    show (d.all q && D.alls q ds) = true
    rw [D.all_imp h d e'.1, D.alls_imp h ds e'.2]; rfl
end
theorem D.alls_true : ∀ (ds : List D) {p : Tag → Bool}, (∀ t, p t = true) → D.alls p ds = true
  | [], _, _ => rfl
  | d :: ds, p, h => by
    show (d.all p && D.alls p ds) = true
    have : d.all p = true := D.all_imp (p := p) (q := p) (fun t e => e) d (allT d h)
    rw [this, D.alls_true ds h]; rfl
where
  allT : ∀ (d : D) {p : Tag → Bool}, (∀ t, p t = true) → d.all p = true
    | .nd t k xs, p, h => by
      show (p t && D.alls p xs) = true
      rw [h t, D.alls_true xs h]; rfl
    | .und, _, _ => rfl
    | .non, _, _ => rfl
    | .bl b, _, _ => rfl
    | .int i, _, _ => rfl
    | .str x, _, _ => rfl
    | .fn x, _, _ => rfl
theorem seen_map (ds : List D) : ds.map seen = D.tags toAny ds := by rw [D.tags_map]; rfl
theorem At.pt {c : Gc} {F F' : Hp} {p : Addr} {k : Kd} {vs : List V} (h : ∀ o, F p = Option.some o → F' p = Option.some o) (q : At c F p k vs) : At c F' p k vs := by
  obtain ⟨o, e⟩ := q.some
  exact q.cong (by rw [e, h o e])

mutual
/-- what is owned is told by the value -/
theorem Rep.uniq {c : Gc} {Fa Fn H : Hp} : ∀ {d : D} {v : V} {m n : Addr → Nat}, Rep c Fa Fn H d v m → Rep c Fa Fn H d v n → ∀ a, m a = n a
  | .und, v, m, n, h, h', a => (h a).trans (h' a).symm
  | .non, v, m, n, h, h', a => (h.2 a).trans (h'.2 a).symm
  | .bl b, v, m, n, h, h', a => (h.2 a).trans (h'.2 a).symm
  | .int i, v, m, n, h, h', a => (h.2 a).trans (h'.2 a).symm
  | .str x, v, m, n, h, h', a => (h.2 a).trans (h'.2 a).symm
  | .fn x, v, m, n, h, h', a => (h.2 a).trans (h'.2 a).symm
  | .nd t k xs, v, m, n, h, h', a => by
    obtain ⟨p, vs, m', rfl, hr, h⟩ := h
    obtain ⟨p', vs', n', e, hr', h'⟩ := h'
    cases e
    cases t with
    | own =>
      have e : vs = vs' := by
        have h1 := h.1
        have h2 := h'.1
        have lz := hr.len
        have lz' := hr'.len
        cases k with
        | lst => have h1 : H p = some (.lst vs) := h1; rw [show H p = some (.lst vs') from h2] at h1; cases h1; rfl
        | tup => have h1 : H p = some (.tup vs) := h1; rw [show H p = some (.tup vs') from h2] at h1; cases h1; rfl
        | dic ks =>
          have e1 := h1.1
          rw [h2.1] at e1
          have e2 : ks.zip vs' = ks.zip vs := by injection e1 with e1; injection e1
          have l1 := h1.2
          have l2 := h2.2
          have := congrArg (List.map Prod.snd) e2
          rw [List.map_snd_zip (by omega), List.map_snd_zip (by omega)] at this
          exact this.symm
        | ins x fs =>
          obtain ⟨C, dx, z1, z2, z3⟩ := h1
          obtain ⟨C', dx', y1, y2, y3⟩ := h2
          rw [y2] at z2
          have e2 : fs.zip vs' = fs.zip vs := by injection z2 with e1; injection e1
          have := congrArg (List.map Prod.snd) e2
          rw [List.map_snd_zip (by omega), List.map_snd_zip (by omega)] at this
          exact this.symm
      subst e
      have := h.2 a
      have := h'.2 a
      have := Reps.uniq hr hr' a
      omega
    | new => exact (h.2.2 a).trans (h'.2.2 a).symm
    | any => exact (h.2.2 a).trans (h'.2.2 a).symm
    | bor => exact (h.2.2 a).trans (h'.2.2 a).symm
    | sta => exact (h.2.2 a).trans (h'.2.2 a).symm
theorem Reps.uniq {c : Gc} {Fa Fn H : Hp} : ∀ {ds : List D} {vs : List V} {m n : Addr → Nat}, Reps c Fa Fn H ds vs m → Reps c Fa Fn H ds vs n → ∀ a, m a = n a
  | [], vs, m, n, h, h', a => (h.2 a).trans (h'.2 a).symm
  | d :: ds, vs, m, n, h, h', a => by
    obtain ⟨v, r, m1, m2, rfl, h1, h2, hm⟩ := h
    obtain ⟨v', r', n1, n2, e, k1, k2, hn⟩ := h'
    injection e with e1 e2
    subst e1
    subst e2
    have := Rep.uniq h1 k1 a
    have := Reps.uniq h2 k2 a
    have := hm a
    have := hn a
    omega
end
section
variable {X : Cx} {c : Gc} {G : Calls} {f : Fr} {W : WX} {σ : St} {H H' : Hp} {env ds : List D} {vs : List V} {Q : VK} {fs : Nm}
/-- a def is called: the promise's own asking -/
theorem call_ok (hfz : FzOk G f) {ds0 : List D} {us : List V} (S : SR c f σ H env (ds0 ++ ds) (us ++ vs)) (hl : ds0.length = us.length) {call : List D → R D} {E : XK}
    (h : match call (ds0.map seen) with
      | .ok d => ∃ d', called G.frz ds0 d = some d' ∧ ∀ v H', Same H H' → SR c f σ H' env (d' :: ds) (v :: vs) → Q v H'
      | .exc x fl _ => ∀ cls dd H', Same H H' → SR c f σ H' env [] [] → ExcR c x fl cls dd H' → E cls dd H'
      | .stuck => False) : SpF c call us H Q E := by
  obtain ⟨Fa, Fn, mS, mT, S⟩ := S
  obtain ⟨Fa, Fn, m2, S, r0, r2⟩ := S.frzT hl hfz
  have hu : ∀ t, toAny (ownTo G.frz t) = toAny t := fun t => by
    rcases hfz with ⟨e, _⟩ | e <;> rw [e] <;> cases t <;> rfl
  have hcomp : D.tags toAny (D.tags (ownTo G.frz) ds0) = ds0.map seen := by
    rw [D.tags_comp, seen_map]
    congr 1
    funext t
    exact hu t
  have hbor : D.alls notBor (D.tags (ownTo G.frz) ds0) = D.alls notBor ds0 := by
    rw [D.alls_tags]
    congr 1
    funext t
    rcases hfz with ⟨e, _⟩ | e <;> rw [e] <;> cases t <;> rfl
  -- what the callee may read
  have pick : ∃ Fc : Hp, Same Fc H ∧ Reps c.c0 Fc (fun _ => none) H (ds0.map seen) us (fun _ => 0) ∧
      ((D.alls notBor ds0 = false) ∨ (D.alls notBor ds0 = true ∧ D.alls notOld ds0 = true ∧ ((G.frz = .new ∧ Fc = Fn) ∨ (G.frz = .any ∧ Fc = Fa))) ∨ (D.alls notBor ds0 = true ∧ D.alls notOld ds0 = false ∧ Fc = Fa)) := by
    have mk : ∀ Fc : Hp, Same Fn Fc → (D.alls notAny (D.tags (ownTo G.frz) ds0) = false → Same Fa Fc) → (D.alls notSta (D.tags (ownTo G.frz) ds0) = false → Same Fa Fc) → (D.alls notBor (D.tags (ownTo G.frz) ds0) = false → Same c.hb Fc) → Reps c.c0 Fc (fun _ => none) H (ds0.map seen) us (fun _ => 0) := fun Fc h1 h2 h3 h4 => by
      rw [← hcomp]
      refine Reps.chb (h := fun _ => none) ?_ (by rw [D.alls_tags]; exact D.alls_true _ fun t => by cases t <;> rfl)
      exact (Reps.conv (f := toAny) (Fa' := Fc) (Fn' := fun _ => none) (H' := H) (fun t => by cases t <;> decide) r0 (fun p k vs z => absurd rfl z) (fun p k vs q => q.mono h1) (fun e p k vs q => q.mono (h2 e)) (fun e p k vs q => q.mono (h3 e)) (fun e p k vs q => q.mono (h4 e))).ext fun a => (cnt_no (by decide) _ a).symm
    cases hb : D.alls notBor ds0 with
    | false => exact ⟨H, Same.refl _, mk H (S.subn.trans S.sub) (fun _ => S.sub) (fun _ => S.sub) (fun _ => S.hbs), .inl rfl⟩
    | true =>
      have nb : ∀ {A : Prop}, D.alls notBor (D.tags (ownTo G.frz) ds0) = false → A := fun {A} e => by rw [hbor, hb] at e; cases e
      cases ho : D.alls notOld ds0 with
      | false => exact ⟨Fa, S.sub, mk Fa S.subn (fun _ => Same.refl _) (fun _ => Same.refl _) nb, .inr (.inr ⟨rfl, rfl, rfl⟩)⟩
      | true =>
        rcases hfz with ⟨hz, hM⟩ | hz
        · have n1 : D.alls notAny (D.tags (ownTo G.frz) ds0) = true := by
            rw [D.alls_tags]
            exact D.alls_imp (fun t => by rw [hz]; cases t <;> decide) ds0 ho
          have n2 : D.alls notSta (D.tags (ownTo G.frz) ds0) = true := by
            rw [D.alls_tags]
            exact D.alls_imp (fun t => by rw [hz]; cases t <;> decide) ds0 ho
          exact ⟨Fn, S.subn.trans S.sub, mk Fn (Same.refl _) (fun e => by rw [n1] at e; cases e) (fun e => by rw [n2] at e; cases e) nb, .inr (.inl ⟨rfl, rfl, .inl ⟨hz, rfl⟩⟩)⟩
        · exact ⟨Fa, S.sub, mk Fa S.subn (fun _ => Same.refl _) (fun _ => Same.refl _) nb, .inr (.inl ⟨rfl, rfl, .inr ⟨hz, rfl⟩⟩)⟩
  obtain ⟨Fc, sc, rc, hc⟩ := pick
  refine ⟨ds0.map seen, Fc, rc, ?_, ?_, sc, ?_⟩
  · rw [seen_map, D.alls_tags]
    exact D.alls_true _ fun t => by cases t <;> rfl
  · rw [seen_map, D.alls_tags]
    exact D.alls_true _ fun t => by cases t <;> rfl
  · cases z : call (ds0.map seen) with
    | stuck => rw [z] at h; exact h
    | exc x fl e =>
      rw [z] at h
      intro cls dd H' s x
      refine h cls dd H' s ?_ x
      obtain ⟨m3, S3⟩ := SRc.pop (ds := D.tags (ownTo G.frz) ds0 ++ ds) (rest := []) (vs := us ++ vs) (rv := []) (by rw [List.append_nil, List.append_nil]; exact S) (by rw [List.length_append, List.length_append, r0.len, r2.len])
      exact ⟨Fa, Fn, mS, m3, S3.grow s⟩
    | ok d =>
      rw [z] at h
      obtain ⟨d', hd', k⟩ := h
      intro v H' Fa' Fn' m s1 s2 s3 s4 new1 new2 hr hcl hm hdis
      have hr : Rep c Fa' Fn' H' d v m := hr.chb (h := c.hb) hcl
      -- what is frozen behind the call
      let Fx : Hp := fun a => if H a = none then Fa' a else none
      let Fa2 : Hp := fun a => match Fa a with | some o => some o | none => Fx a
      let Fn2 : Hp := fun a => match Fn a with | some o => some o | none => Fx a
      have xe : ∀ {a o}, H a = none → Fa' a = some o → Fx a = some o := fun {a o} h1 h2 => by show (if H a = none then Fa' a else none) = some o; rw [if_pos h1]; exact h2
      have xd : ∀ {a o}, Fx a = some o → H a = none ∧ Fa' a = some o := fun {a o} h1 => by
        have h1' : (if H a = none then Fa' a else none) = some o := h1
        split at h1'
        · exact ⟨by assumption, h1'⟩
        · cases h1'
      have sa : Same Fa Fa2 := fun a o e => by show (match Fa a with | some o => some o | none => Fx a) = some o; rw [e]
      have sn : Same Fn Fn2 := fun a o e => by show (match Fn a with | some o => some o | none => Fx a) = some o; rw [e]
      have hnone : ∀ {a}, H a = none → Fa a = none ∧ Fn a = none := fun {a} e => ⟨S.sub.free e, (S.subn.trans S.sub).free e⟩
      have a2x : ∀ {a o}, H a = none → Fa' a = some o → Fa2 a = some o := fun {a o} h1 h2 => by show (match Fa a with | some o => some o | none => Fx a) = some o; rw [(hnone h1).1]; exact xe h1 h2
      have n2x : ∀ {a o}, H a = none → Fa' a = some o → Fn2 a = some o := fun {a o} h1 h2 => by show (match Fn a with | some o => some o | none => Fx a) = some o; rw [(hnone h1).2]; exact xe h1 h2
      have a2d : ∀ {a o}, Fa2 a = some o → Fa a = some o ∨ (H a = none ∧ Fa' a = some o) := fun {a o} e => by
        have e' : (match Fa a with | some o => some o | none => Fx a) = some o := e
        cases q : Fa a with
        | some o' => rw [q] at e'; exact .inl e'
        | none => rw [q] at e'; exact .inr (xd e')
      have n2d : ∀ {a o}, Fn2 a = some o → Fn a = some o ∨ (H a = none ∧ Fa' a = some o) := fun {a o} e => by
        have e' : (match Fn a with | some o => some o | none => Fx a) = some o := e
        cases q : Fn a with
        | some o' => rw [q] at e'; exact .inl e'
        | none => rw [q] at e'; exact .inr (xd e')
      have sub2 : Same Fa2 H' := fun a o e => by
        rcases a2d e with q | ⟨_, q⟩
        · exact s1 a o (S.sub a o q)
        · exact s2 a o q
      have subn2 : Same Fn2 Fa2 := fun a o e => by
        rcases n2d e with q | ⟨q1, q2⟩
        · exact sa a o (S.subn a o q)
        · exact a2x q1 q2
      -- the result there
      have res : Rep c Fa2 Fn2 H' d' v m := by
        have fin : ∀ g : Tag → Tag, (∀ t, g t = .own → t = .own) → g .own = .own → g .new = .new → d' = d.tag g →
            (d.all notAny = false → ∀ p k vs, At c Fa' p k vs → TagP c Fa2 Fn2 H' (g .any) p k vs) → (d.all notSta = false → ∀ p k vs, Sta c Fa' p k vs → TagP c Fa2 Fn2 H' (g .sta) p k vs) → Rep c Fa2 Fn2 H' d' v m := fun g g0 g1 g2 e hA hS => by
          rw [e]
          have q := Rep.conv (f := g) (Fa' := Fa2) (Fn' := Fn2) (H' := H') g0 hr (fun p k vs _ q => by rw [g1]; exact q) (fun p k vs q => by
            rw [g2]
            exact At.pt (fun o e => n2x (new2 p o e) (s3 p o e)) q) hA hS (fun e => by have e' : d.clean = false := e; rw [hcl] at e'; cases e')
          exact q.ext fun a => (cnt_yes g1 m a).symm
        unfold called at hd'
        by_cases o1 : d.all notOld = true
        · rw [if_pos o1] at hd'
          cases hd'
          have b1 : d.all notAny = true := D.all_imp (fun t => by cases t <;> decide) d o1
          have b2 : d.all notSta = true := D.all_imp (fun t => by cases t <;> decide) d o1
          exact fin (fun t => t) (fun _ e => e) rfl rfl (D.tag_id d).symm (fun e => by rw [b1] at e; cases e) (fun e => by rw [b2] at e; cases e)
        · rw [if_neg o1] at hd'
          by_cases o2 : D.alls notBor ds0 = true
          · rw [if_pos o2] at hd'
            have hc' : (D.alls notOld ds0 = true ∧ ((G.frz = .new ∧ Fc = Fn) ∨ (G.frz = .any ∧ Fc = Fa))) ∨ (D.alls notOld ds0 = false ∧ Fc = Fa) := by
              rcases hc with h1 | ⟨_, h2, h3⟩ | ⟨_, h2, h3⟩
              · rw [o2] at h1; cases h1
              · exact .inl ⟨h2, h3⟩
              · exact .inr ⟨h2, h3⟩
            -- Fa' into Fa2
            have big : Same Fa' Fa2 := fun a o e => by
              rcases new1 a o e with q | q
              · rcases hc' with ⟨_, ⟨_, h4⟩ | ⟨_, h4⟩⟩ | ⟨_, h4⟩
                · rw [h4] at q; exact sa a o (S.subn a o q)
                · rw [h4] at q; exact sa a o q
                · rw [h4] at q; exact sa a o q
              · exact a2x q e
            by_cases o3 : D.alls notOld ds0 = true
            · rw [if_pos o3] at hd'
              cases hd'
              have hz2 : G.frz = .new ∨ G.frz = .any := by
                rcases hfz with ⟨h1, _⟩ | h1
                · exact .inl h1
                · exact .inr h1
              refine fin (anyTo G.frz) (fun t => ?_) rfl rfl rfl (fun _ p k vs q => ?_) (fun _ p k vs q => q.mono big)
              · rcases hz2 with h1 | h1 <;> rw [h1] <;> cases t <;> decide
              · rcases hz2 with h1 | h1
                · show TagP c Fa2 Fn2 H' G.frz p k vs
                  rw [h1]
                  refine At.pt (fun o e => ?_) q
                  rcases new1 p o e with q | q
                  · rcases hc' with ⟨_, ⟨_, h4⟩ | ⟨h4, _⟩⟩ | ⟨h4, _⟩
                    · rw [h4] at q; exact sn p o q
                    · rw [h1] at h4; cases h4
                    · rw [o3] at h4; cases h4
                  · exact n2x q e
                · show TagP c Fa2 Fn2 H' G.frz p k vs
                  rw [h1]
                  exact q.mono big
            · rw [if_neg o3] at hd'
              cases hd'
              exact fin (fun t => t) (fun _ e => e) rfl rfl (D.tag_id d).symm (fun _ p k vs q => q.mono big) (fun _ p k vs q => q.mono big)
          · rw [if_neg o2] at hd'; cases hd'
      have live2 : ∀ a, mS a + m2 a ≠ 0 → ∃ o, H a = some o := fun a h => by
        by_cases e : mS a = 0
        · exact r2.live a (by omega)
        · exact S.slots.live a e
      have mnew : ∀ a, m a ≠ 0 → H a = none ∧ m a ≤ 1 := fun a h => by
        have := hm a
        have z := @nwc_le H a
        cases e : H a with
        | none => exact ⟨rfl, by omega⟩
        | some o => rw [nwc_some e] at this; omega
      have one2 : ∀ a, mS a + m2 a ≤ 1 := fun a => by
        by_cases e : mS a + m2 a = 0
        · omega
        · obtain ⟨w1, w2, n1, n2, ee, q1, q2, q3⟩ := S.tmps.split
          have := S.one a
          have z : n2 a = m2 a := by
            obtain ⟨rfl, rfl⟩ := List.append_inj ee (by rw [← q1.len, r0.len])
            exact Reps.uniq q2 r2 a
          have := q3 a
          omega
      have free2 : ∀ a, mS a + m2 a ≠ 0 → Fa a = none ∧ (f.H0 a = none ∨ f.M a) := fun a h => by
        obtain ⟨w1, w2, n1, n2, ee, q1, q2, q3⟩ := S.tmps.split
        have z : n2 a = m2 a := by
          obtain ⟨rfl, rfl⟩ := List.append_inj ee (by rw [← q1.len, r0.len])
          exact Reps.uniq q2 r2 a
        exact S.free a (by have := q3 a; omega)
      have hbo : ∀ a, mS a ≠ 0 → c.hb a = H' a := fun a h => by
        obtain ⟨o, e⟩ := S.slots.live a h
        rw [S.hbo a h, e, s1 a o e]
      refine k v H' s1 ⟨Fa2, Fn2, mS, fun a => m a + m2 a, { slots := S.slots.to (fun _ _ _ _ q => q.mono s1) sn sa, tmps := ⟨v, vs, m, m2, rfl, res, r2.to (fun _ _ _ _ q => q.mono s1) sn sa, fun _ => rfl⟩, cl := S.cl, one := fun a => ?_, free := fun a h => ?_, sub := sub2, subn := subn2, nw := fun a o e => ?_, an := fun a o e => ?_, fa0 := S.fa0.trans sa, dom := fun a h => S.dom a (s1.free h), keep := fun a o h n => s1 a o (S.keep a o h n), hbs := S.hbs.trans s1, hbo := hbo }⟩
      · show mS a + (m a + m2 a) ≤ 1
        by_cases e : m a = 0
        · have := one2 a; omega
        · obtain ⟨e1, e2⟩ := mnew a e
          have : mS a + m2 a = 0 := by
            by_cases z : mS a + m2 a = 0
            · exact z
            · obtain ⟨o, q⟩ := live2 a z
              rw [e1] at q; cases q
          omega
      · have h' : mS a + (m a + m2 a) ≠ 0 := h
        by_cases e : m a = 0
        · have q := free2 a (by omega)
          refine ⟨?_, q.2⟩
          obtain ⟨o, hl⟩ := live2 a (by omega)
          cases z : Fa2 a with
          | none => rfl
          | some o' =>
            rcases a2d z with y | ⟨y, _⟩
            · rw [q.1] at y; cases y
            · rw [hl] at y; cases y
        · obtain ⟨e1, e2⟩ := mnew a e
          refine ⟨?_, .inl (S.dom a e1)⟩
          cases z : Fa2 a with
          | none => rfl
          | some o' =>
            rcases a2d z with y | ⟨_, y⟩
            · rw [(hnone e1).1] at y; cases y
            · rw [hdis a e] at y; cases y
      · rcases n2d e with q | ⟨q, _⟩
        · exact S.nw a o q
        · exact S.dom a q
      · rcases a2d e with q | ⟨q, _⟩
        · exact S.an a o q
        · exact .inr (.inl (S.dom a q))
end
end VI

set_option maxHeartbeats 4000000
namespace VI
open PySem PySem.Spec L2
open PyProof.Rows hiding St

section
variable {X : Cx} {c : Gc} {G : Calls} {f : Fr} {W : WX} {σ : St} {H H' : Hp} {env ds : List D} {vs : List V} {Q : VK} {fs : Nm} {sc : Scope}
/-! ### slots set and forgotten -/
theorem SR.len (S : SR c f σ H env ds vs) : σ.length = env.length := by
  obtain ⟨Fa, Fn, mS, mT, S⟩ := S
  obtain ⟨_, _, l, _⟩ := S.slots
  exact l
theorem SR.drop (S : SR c f σ H env ds vs) (i : Nat) (o : Option V) : SR c f (σ.set i o) H (env.set i .und) ds vs := by
  obtain ⟨Fa, Fn, mS, mT, S⟩ := S
  obtain ⟨m2, hS, hm⟩ := S.slots.drop (i := i) (o := o)
  exact ⟨Fa, Fn, m2, mT, { S with slots := hS, cl := clean_set S.cl rfl, one := fun a => by have := S.one a; have := hm a; omega, free := fun a h => S.free a (by have := hm a; omega), hbo := fun a h => S.hbo a (by have := hm a; omega) }⟩
theorem SR.set {d : D} {v : V} (S : SR c f σ H env (d :: ds) (v :: vs)) {i : Nat} (hi : i < env.length) (hd : d.clean = true) (hw : d.all notOwn = true ∨ c.hb = H) : SR c f (σ.set i (some v)) H (env.set i d) ds vs := by
  obtain ⟨Fa, Fn, mS, mT, S⟩ := S.drop i none
  obtain ⟨w, r, m1, m2, e, h1, h2, hm⟩ := S.tmps
  injection e with e1 e2
  subst e1
  subst e2
  have hP := S.slots.put (i := i) (by rw [List.getElem?_set_self hi]) h1
  rw [List.set_set, List.set_set] at hP
  have hbo : ∀ a, m1 a + mS a ≠ 0 → c.hb a = H a := fun a h => by
    rcases hw with hw | hw
    · exact S.hbo a (by have := h1.noOwn hw a; omega)
    · rw [hw]
  refine ⟨Fa, Fn, fun a => m1 a + mS a, m2, { S with slots := hP, tmps := h2, cl := ?_, one := fun a => ?_, free := fun a h => ?_, hbo := hbo }⟩
  · have := clean_set (i := i) S.cl hd
    rw [List.set_set] at this
    exact this
  · have := S.one a; have := hm a; show m1 a + mS a + m2 a ≤ 1; omega
  · have h' : m1 a + mS a + m2 a ≠ 0 := h
    exact S.free a (by have := hm a; omega)
theorem SR.drops (S : SR c f σ H env ds vs) : ∀ is : List Nat, SR c f (wipe σ is) H (wipeD env is) ds vs
  | [] => S
  | i :: is => (SR.drops S is).drop i none
theorem wipe_get (σ : St) (j : Nat) : ∀ is : List Nat, (wipe σ is)[j]? = if j ∈ is ∧ j < σ.length then some none else σ[j]?
  | [] => by simp [wipe]
  | i :: is => by
    show ((wipe σ is).set i none)[j]? = _
    rw [List.getElem?_set, wipe_length, wipe_get σ j is]
    by_cases e : i = j
    · subst e
      by_cases h : i < σ.length
      · simp [h]
      · simp [h]
    · rw [if_neg e]
      simp [Ne.symm e]
theorem wipeD_length (env : List D) : ∀ is : List Nat, (wipeD env is).length = env.length
  | [] => rfl
  | i :: is => by
    show ((wipeD env is).set i .und).length = _
    rw [List.length_set, wipeD_length env is]
theorem wipeD_get (σ : List D) (j : Nat) : ∀ is : List Nat, (wipeD σ is)[j]? = if j ∈ is ∧ j < σ.length then some .und else σ[j]?
  | [] => by simp [wipeD]
  | i :: is => by
    show ((wipeD σ is).set i .und)[j]? = _
    rw [List.getElem?_set, wipeD_length, wipeD_get σ j is]
    by_cases e : i = j
    · subst e
      by_cases h : i < σ.length
      · simp [h]
      · simp [h]
    · rw [if_neg e]
      simp [Ne.symm e]
/-- slots but these are as they were -/
def But (is : List Nat) {α : Type} (σ σ' : List α) : Prop := σ'.length = σ.length ∧ ∀ j, j ∉ is → σ'[j]? = σ[j]?
theorem But.refl {is : List Nat} {α : Type} {σ : List α} : But is σ σ := ⟨rfl, fun _ _ => rfl⟩
theorem But.set {is : List Nat} {α : Type} {σ σ' : List α} {i : Nat} {a : α} (h : But is (σ.set i a) σ') (hi : i ∈ is) : But is σ σ' := by
  refine ⟨by rw [h.1, List.length_set], fun j hj => ?_⟩
  rw [h.2 j hj, List.getElem?_set_ne (fun (e : i = j) => hj (e ▸ hi))]
theorem But.mono {is js : List Nat} {α : Type} {σ σ' : List α} (h : But is σ σ') (s : ∀ i ∈ is, i ∈ js) : But js σ σ' := ⟨h.1, fun j hj => h.2 j fun q => hj (s j q)⟩
theorem But.wipe {is : List Nat} {σ σ' : St} (h : But is σ σ') : wipe σ' is = wipe σ is := by
  apply List.ext_getElem?
  intro j
  rw [wipe_get, wipe_get, h.1]
  by_cases e : j ∈ is
  · by_cases q : j < σ.length
    · rw [if_pos ⟨e, q⟩, if_pos ⟨e, q⟩]
    · rw [if_neg (fun z => q z.2), if_neg (fun z => q z.2), List.getElem?_eq_none (by rw [h.1]; omega), List.getElem?_eq_none (by omega)]
  · rw [if_neg (fun z => e z.1), if_neg (fun z => e z.1), h.2 j e]
theorem But.wipeD {is : List Nat} {σ σ' : List D} (h : But is σ σ') (hu : ∀ i ∈ is, getL σ i = none) : wipeD σ' is = σ := by
  apply List.ext_getElem?
  intro j
  rw [wipeD_get, h.1]
  by_cases e : j ∈ is
  · have := hu j e
    unfold getL at this
    by_cases q : j < σ.length
    · rw [if_pos ⟨e, q⟩]
      split at this
      · rename_i z; exact z.symm
      · rw [List.getElem?_eq_getElem q] at this; cases this
    · rw [if_neg (fun z => q z.2), List.getElem?_eq_none (by rw [h.1]; omega), List.getElem?_eq_none (by omega)]
  · rw [if_neg (fun z => e z.1), h.2 j e]
/-- a slot that says nothing may hold anything -/
theorem SR.wiped (S : SR c f (wipe σ is) H env ds vs) : SR c f σ H env ds vs := by
  obtain ⟨Fa, Fn, mS, mT, S⟩ := S
  obtain ⟨ws, r, l, q⟩ := S.slots
  refine ⟨Fa, Fn, mS, mT, { S with slots := ⟨ws, r, by rw [← l, wipe_length], fun i d v e1 e2 e3 => ?_⟩ }⟩
  have := q i d v e1 e2 e3
  rw [wipe_get] at this
  split at this
  · cases this
  · exact this

/-- a statement begins anew -/
theorem SR.rebase (S : SR c f σ H env ds vs) (h : D.alls notBor ds = true) : SR (c.wh H) f σ H env ds vs := by
  obtain ⟨Fa, Fn, mS, mT, S⟩ := S
  obtain ⟨ws, r, l, q⟩ := S.slots
  exact ⟨Fa, Fn, mS, mT, { S with slots := ⟨ws, r.chb S.cl, l, q⟩, tmps := S.tmps.chb h, hbs := Same.refl H, hbo := fun _ _ => rfl }⟩

/-! ### targets -/
def wpG (X : Cx) (tg : Expr) : TG := fun v σ H Q => ∀ (pins : List (Addr × Obj)) (s : Shared) (u : Value), Inv X pins σ H s → RelV v u → wpAny (model X.prog X.w) X.A (assign tg X.env u) (fun _ s' => ∃ σ' H', Inv X pins σ' H' s' ∧ Q σ' H') X.xe s
theorem wpG.pg {X : Cx} {tg : Expr} : PG X tg (wpG X tg) := ⟨fun pins s σ H v u Q I r h => h pins s u I r⟩
theorem wpG.of {X : Cx} {tg : Expr} {g : TG} (h : PG X tg g) {v : V} {σ : St} {H : Hp} {Q : St → Hp → Prop} (q : g v σ H Q) : wpG X tg v σ H Q := fun pins s u I r => h.run pins s σ H v u Q I r q
theorem pg_nm (hX : XOk X c G fs) (hsc : ScOk sc X) {i : Nat} {x : Str} {pos : Pos} (h : locC sc X.N i x = true) : PG X (.Name x pos) (gName i) := by
  obtain ⟨h1, h2, h3⟩ := hsc.loc h
  exact pg_name hX.nd h1 h2 h3
def gNames : List Nat → TGs
  | [] => gNil
  | i :: is => gCons (gName i) (gNames is)
theorem names_go (hX : XOk X c G fs) (hsc : ScOk sc X) : ∀ {is : List Nat} {es : List Expr}, T.mat.go sc X.N is es = true → PGs X es (gNames is) ∧ (assignEach es X.env).length = is.length ∧ (assignEach es X.env).findIdx? (·.1) = none
  | [], [], _ => ⟨pgs_nil, rfl, rfl⟩
  | [], _ :: _, h => by cases h
  | _ :: _, [], h => by cases h
  | i :: is, e :: es, h => by
    cases e with
    | Name x pos =>
      have h' : (locC sc X.N i x && T.mat.go sc X.N is es) = true := h
      rw [Bool.and_eq_true] at h'
      obtain ⟨h1, h2, h3⟩ := names_go hX hsc h'.2
      refine ⟨pgs_cons (pg_nm hX hsc h'.1) h1, ?_, ?_⟩
      · show (assignEach es X.env).length + 1 = is.length + 1
        rw [h2]
      · show List.findIdx? (·.1) ((false, assign (.Name x pos) X.env) :: assignEach es X.env) = none
        rw [List.findIdx?_cons, if_neg Bool.false_ne_true, h3]
        rfl
    | _ => cases h
theorem set_go {H : Hp} : ∀ {is : List Nat} {xs : List D} {us : List V} {σ : St} {env : List D} {Q : St → Hp → Prop}, SR c f σ H env (xs ++ ds) (us ++ vs) → xs.length = is.length → us.length = is.length → D.alls notBor xs = true → (D.alls notOwn xs = true ∨ c.hb = H) → (∀ i ∈ is, i < env.length) →
    (∀ σ', SR c f σ' H (T.set.go is xs env) ds vs → But is σ σ' → But is env (T.set.go is xs env) → Q σ' H) → gNames is us σ H Q
  | [], [], [], σ, env, Q, S, _, _, _, _, _, k => ⟨rfl, k σ S But.refl But.refl⟩
  | [], _ :: _, _, _, _, _, _, h, _, _, _, _, _ => by cases h
  | [], [], _ :: _, _, _, _, _, _, h, _, _, _, _ => by cases h
  | _ :: _, [], _, _, _, _, _, h, _, _, _, _, _ => by cases h
  | _ :: _, _ :: _, [], _, _, _, _, _, h, _, _, _, _ => by cases h
  | i :: is, x :: xs, u :: us, σ, env, Q, S, h1, h2, h3, hw, h4, k => by
    have h3' : (x.clean && D.alls notBor xs) = true := h3
    rw [Bool.and_eq_true] at h3'
    have hw1 : x.all notOwn = true ∨ c.hb = H := hw.imp_left fun w => by
      have w' : (x.all notOwn && D.alls notOwn xs) = true := w
      rw [Bool.and_eq_true] at w'
      exact w'.1
    have hw2 : D.alls notOwn xs = true ∨ c.hb = H := hw.imp_left fun w => by
      have w' : (x.all notOwn && D.alls notOwn xs) = true := w
      rw [Bool.and_eq_true] at w'
      exact w'.2
    have S' := SR.set (ds := xs ++ ds) (vs := us ++ vs) S (h4 i List.mem_cons_self) h3'.1 hw1
    refine ⟨u, us, rfl, set_go (σ := σ.set i (some u)) (env := env.set i x) S' (by simpa using h1) (by simpa using h2) h3'.2 hw2 (fun j hj => by rw [List.length_set]; exact h4 j (List.mem_cons_of_mem _ hj)) fun σ' S2 b1 b2 => ?_⟩
    exact k σ' S2 ((b1.mono fun j hj => List.mem_cons_of_mem _ hj).set List.mem_cons_self) ((b2.mono fun j hj => List.mem_cons_of_mem _ hj).set List.mem_cons_self)
/-- a target's reading -/
def tgG (K : PySem.W.Frag) : T → TG
  | .nm i => gName i
  | .tp is => gTup K is.length (gNames is)
theorem tg_pg (hX : XOk X c G fs) (hsc : ScOk sc X) {tg : T} {tga : Expr} (hm : tg.mat sc X.N tga = true) : PG X tga (tgG c.K tg) := by
  cases tg with
  | nm i =>
    cases tga with
    | Name x pos => exact pg_nm hX hsc hm
    | _ => cases hm
  | tp is =>
    cases tga with
    | Tuple es n pos =>
      obtain ⟨h1, h2, h3⟩ := names_go hX hsc hm
      rw [← hX.K]
      exact pg_tup hX.calm h1 h2 h3
    | _ => cases hm
theorem T_ok {tg : T} {d : D} {v : V} (S : SR c f σ H env (d :: ds) (v :: vs)) {env' : List D} (e : tg.set d env = .ok env') (hw : tg.nown d = true ∨ c.hb = H) {Q : St → Hp → Prop}
    (k : ∀ σ', SR c f σ' H env' ds vs → But tg.slots σ σ' → But tg.slots env env' → Q σ' H) : tgG c.K tg v σ H Q := by
  cases tg with
  | nm i =>
    have e' : (if d.clean && decide (i < env.length) then R.ok (env.set i d) else .stuck) = .ok env' := e
    by_cases hc : (d.clean && decide (i < env.length)) = true
    · rw [if_pos hc] at e'
      cases e'
      rw [Bool.and_eq_true, decide_eq_true_eq] at hc
      refine k _ (S.set hc.2 hc.1 hw) ?_ ?_
      · exact But.set But.refl List.mem_cons_self
      · exact But.set But.refl List.mem_cons_self
    · rw [if_neg hc] at e'; cases e'
  | tp is =>
    have e' : (match d.ltup? with
      | some xs => if xs.length = is.length && D.alls notBor xs && is.all (fun i => decide (i < env.length)) then R.ok (T.set.go is xs env) else .stuck
      | none => .stuck) = .ok env' := e
    cases d with
    | nd t kd xs =>
      cases kd with
      | tup =>
        have e2 : (if xs.length = is.length && D.alls notBor xs && is.all (fun i => decide (i < env.length)) then R.ok (T.set.go is xs env) else .stuck) = .ok env' := e'
        by_cases hc : (decide (xs.length = is.length) && D.alls notBor xs && is.all (fun i => decide (i < env.length))) = true
        · rw [if_pos hc] at e2
          cases e2
          rw [Bool.and_eq_true, Bool.and_eq_true, decide_eq_true_eq, List.all_eq_true] at hc
          obtain ⟨Fa, Fn, mS, mT, S⟩ := S
          obtain ⟨w, r, m1, m2, ee, q1, q2, q3⟩ := S.tmps
          injection ee with e3 e4
          subst e3
          subst e4
          obtain ⟨p, us, m', rfl, kk, rr, ll⟩ := q1.seqT S.sub ⟨S.subn, S.hbs⟩
          refine ⟨p, us, rfl, kk, by rw [← rr.len]; exact hc.1.1, ?_⟩
          have S2 : SR c f σ H env (xs ++ ds) (us ++ vs) := ⟨Fa, Fn, mS, fun a => m' a + m2 a, { S with tmps := rr.append q2, one := fun a => by have := S.one a; have := q3 a; have := ll a; show mS a + (m' a + m2 a) ≤ 1; omega, free := fun a h => S.free a (by have h' : mS a + (m' a + m2 a) ≠ 0 := h; have := q3 a; have := ll a; omega) }⟩
          exact set_go S2 hc.1.1 (by rw [← rr.len]; exact hc.1.1) hc.1.2 hw (fun i hi => of_decide_eq_true (hc.2 i hi)) k
        · rw [if_neg hc] at e2; cases e2
      | lst => cases e'
      | dic ks => cases e'
      | ins a b => cases e'
    | _ => cases e'

/-! ### what is walked -/
def wiAny (X : Cx) (tg iter : Expr) : TI := fun σ H R => ∃ wi, PI X tg iter wi ∧ wi σ H R
theorem piAny {X : Cx} {tg iter : Expr} : PI X tg iter (wiAny X tg iter) := ⟨fun pins s σ H R I ⟨wi, h, q⟩ => h.run pins s σ H R I q⟩
theorem Reps.zero {c : Gc} {Fa Fn H : Hp} {ds : List D} {vs : List V} {m : Addr → Nat} (h : Reps c Fa Fn H ds vs m) (z : ∀ a, m a = 0) : Reps c Fa Fn H ds vs fun _ => 0 := h.ext fun a => (z a).symm
theorem Reps.get0 {c : Gc} {Fa Fn H : Hp} {ds : List D} {vs : List V} {i : Nat} {d : D} (h : Reps c Fa Fn H ds vs fun _ => 0) (e : ds[i]? = some d) : ∃ v, vs[i]? = some v ∧ Rep c Fa Fn H d v fun _ => 0 := by
  obtain ⟨v, m1, h1, h2, h3⟩ := h.get e
  exact ⟨v, h1, h2.ext fun a => by have := h3 a; omega⟩
end
end VI

set_option maxHeartbeats 4000000
namespace VI
open PySem PySem.Spec L2
open PyProof.Rows hiding St

section
variable {X : Cx} {c : Gc} {G : Calls} {f : Fr} {W : WX} {σ : St} {H H' : Hp} {env ds : List D} {vs : List V} {Q : VK} {fs : Nm} {sc : Scope}
/-! ### the walks -/
/-- what a walk is known to do: at any heap where its sources stand -/
def WalkR (c : Gc) (ds : List D) (us : List V) (items : List D) (J : It) : Prop := ∀ Fa Fn H, Same Fa H → Und c Fn Fa H → Reps c Fa Fn H ds us (fun _ => 0) → ∀ i,
  (items.length = i → J.stop i H) ∧ ∀ d, items[i]? = some d → J.go i H ∧ ∀ x H', J.yld i H x H' → Same H H' ∧ ∃ m', Rep c Fa Fn H' d x m' ∧ ∀ b, m' b ≤ nwc H b
/-- a list at a -/
theorem WalkR.lst {t : Tag} {a : Addr} {xs : List D} : WalkR c [.nd t .lst xs] [.ref a] xs (Itl c.K a) := by
  intro Fa Fn H sa sn hr i
  obtain ⟨v, e, g⟩ := hr.one
  cases e
  obtain ⟨p, us, m', e, k, r, l⟩ := g.seqL sa sn
  cases e
  have r0 := r.zero fun b => Nat.le_zero.mp (l b)
  refine ⟨fun h => ⟨us, k, by rw [← r.len]; exact Nat.le_of_eq h⟩, fun d hd => ?_⟩
  obtain ⟨w, hw, rw0⟩ := r0.get0 hd
  refine ⟨⟨us, w, k, hw⟩, fun x H' ⟨e, y⟩ => ?_⟩
  subst e
  have := y us k
  rw [hw] at this
  cases this
  exact ⟨Same.refl _, _, rw0, fun b => Nat.zero_le _⟩
theorem WalkR.tup {t : Tag} {a : Addr} {xs : List D} : WalkR c [.nd t .tup xs] [.ref a] xs (Itt c.K a) := by
  intro Fa Fn H sa sn hr i
  obtain ⟨v, e, g⟩ := hr.one
  cases e
  obtain ⟨p, us, m', e, k, r, l⟩ := g.seqT sa sn
  cases e
  have r0 := r.zero fun b => Nat.le_zero.mp (l b)
  refine ⟨fun h => ⟨us, k, by rw [← r.len]; exact Nat.le_of_eq h⟩, fun d hd => ?_⟩
  obtain ⟨w, hw, rw0⟩ := r0.get0 hd
  refine ⟨⟨us, w, k, hw⟩, fun x H' ⟨e, y⟩ => ?_⟩
  subst e
  have := y us k
  rw [hw] at this
  cases this
  exact ⟨Same.refl _, _, rw0, fun b => Nat.zero_le _⟩
theorem WalkR.rng {lo : Int} {n : Nat} {us : List V} {ds : List D} : WalkR c ds us ((List.range n).map fun (k : Nat) => D.int (lo + (k : Int))) (Itr lo n) := by
  intro Fa Fn H sa sn hr i
  refine ⟨fun h => by rw [List.length_map, List.length_range] at h; exact Nat.le_of_eq h, fun d hd => ?_⟩
  rw [List.getElem?_map] at hd
  by_cases h : i < n
  · rw [List.getElem?_range h] at hd
    cases hd
    refine ⟨h, fun x H' ⟨e1, e2⟩ => ?_⟩
    subst e1
    exact ⟨Same.refl _, _, ⟨e2, fun _ => rfl⟩, fun b => Nat.zero_le _⟩
  · rw [List.getElem?_eq_none (by rw [List.length_range]; omega)] at hd
    cases hd
theorem WalkR.str {z : Str} {us : List V} {ds : List D} : WalkR c ds us (z.cps.toList.map fun n => D.str ⟨#[n]⟩) (Its z) := by
  intro Fa Fn H sa sn hr i
  refine ⟨fun h => by rw [List.length_map, Array.length_toList] at h; exact Nat.le_of_eq h, fun d hd => ?_⟩
  rw [List.getElem?_map] at hd
  cases e : z.cps.toList[i]? with
  | none => rw [e] at hd; cases hd
  | some n =>
    rw [e] at hd
    cases hd
    have hi : i < z.cps.size := by
      have := (List.getElem?_eq_some_iff.mp e).1
      rwa [Array.length_toList] at this
    refine ⟨hi, fun x H' ⟨e1, cc, e2, e3⟩ => ?_⟩
    subst e1
    rw [Array.getElem?_toList] at e
    rw [e] at e2
    cases e2
    exact ⟨Same.refl _, _, ⟨e3, fun _ => rfl⟩, fun b => Nat.zero_le _⟩
theorem WalkR.zip {a b : Addr} {t u : Tag} {xs ys : List D} : WalkR c [.nd t .lst xs, .nd u .lst ys] [.ref a, .ref b] ((xs.zip ys).map fun p => .nd .own .tup [p.1, p.2]) (Itz c.K a b) := by
  intro Fa Fn H sa sn hr i
  obtain ⟨v, w, n1, n2, e, g1, g2, hm⟩ := hr.two
  injection e with e1 e2
  injection e2 with e2 _
  subst e1
  subst e2
  obtain ⟨p, us, m1, e, k1, r1, l1⟩ := g1.seqL sa sn
  cases e
  obtain ⟨p', us', m2, e, k2, r2, l2⟩ := g2.seqL sa sn
  cases e
  have z1 := r1.zero fun b => by have := hm b; have := l1 b; omega
  have z2 := r2.zero fun b => by have := hm b; have := l2 b; omega
  refine ⟨fun h => ⟨us, us', k1, k2, ?_⟩, fun d hd => ?_⟩
  · rw [List.length_map, List.length_zip] at h
    have := r1.len
    have := r2.len
    omega
  · rw [List.getElem?_map] at hd
    cases e : (xs.zip ys)[i]? with
    | none => rw [e] at hd; cases hd
    | some q =>
      rw [e] at hd
      cases hd
      obtain ⟨q1, q2⟩ := q
      rw [List.getElem?_zip_eq_some] at e
      obtain ⟨v1, hv1, rv1⟩ := z1.get0 e.1
      obtain ⟨v2, hv2, rv2⟩ := z2.get0 e.2
      refine ⟨⟨us, us', v1, v2, k1, k2, hv1, hv2⟩, fun x H' ⟨T, x1, x2, e1, nT, e2, f1, f2⟩ => ?_⟩
      subst e1
      subst e2
      have h1 := f1 us k1
      have h2 := f2 us' k2
      rw [hv1] at h1
      rw [hv2] at h2
      cases h1
      cases h2
      refine ⟨same_upd nT, _, Rep.mkt (xs := [q1, q2]) (m := fun _ => 0) ⟨_, _, fun _ => 0, fun _ => 0, rfl, rv1, ⟨_, _, fun _ => 0, fun _ => 0, rfl, rv2, ⟨rfl, fun _ => rfl⟩, fun _ => rfl⟩, fun _ => rfl⟩ nT, fun b => ?_⟩
      have := @nwc_new H T b nT
      show 0 + _ ≤ _
      omega
theorem WalkR.zipS {a : Addr} {t : Tag} {xs : List D} {z : Str} {vz : V} : WalkR c [.nd t .lst xs, .str z] [.ref a, vz] ((xs.zip z.cps.toList).map fun p => .nd .own .tup [p.1, .str ⟨#[p.2]⟩]) (ItzS c.K a z) := by
  intro Fa Fn H sa sn hr i
  obtain ⟨v, w, n1, n2, e, g1, g2, hm⟩ := hr.two
  injection e with e1 e2
  subst e1
  obtain ⟨p, us, m1, e, k1, r1, l1⟩ := g1.seqL sa sn
  cases e
  have z1 := r1.zero fun b => by have := hm b; have := l1 b; omega
  refine ⟨fun h => ⟨us, k1, ?_⟩, fun d hd => ?_⟩
  · rw [List.length_map, List.length_zip] at h
    have hz : z.cps.toList.length = z.cps.size := Array.length_toList
    have := r1.len
    refine ⟨by omega, by omega, by omega⟩
  · rw [List.getElem?_map] at hd
    cases e : (xs.zip z.cps.toList)[i]? with
    | none => rw [e] at hd; cases hd
    | some q =>
      rw [e] at hd
      cases hd
      obtain ⟨q1, q2⟩ := q
      rw [List.getElem?_zip_eq_some] at e
      obtain ⟨v1, hv1, rv1⟩ := z1.get0 e.1
      have hc : z.cps[i]? = some q2 := by rw [← Array.getElem?_toList]; exact e.2
      refine ⟨⟨us, v1, q2, k1, hv1, hc⟩, fun x H' ⟨T, x1, x2, e1, nT, e2, f1, f2⟩ => ?_⟩
      subst e1
      subst e2
      have h1 := f1 us k1
      rw [hv1] at h1
      rw [hc] at f2
      cases h1
      cases f2
      refine ⟨same_upd nT, _, Rep.mkt (xs := [q1, .str ⟨#[q2]⟩]) (m := fun _ => 0) ⟨_, _, fun _ => 0, fun _ => 0, rfl, rv1, ⟨_, _, fun _ => 0, fun _ => 0, rfl, ⟨rfl, fun _ => rfl⟩, ⟨rfl, fun _ => rfl⟩, fun _ => rfl⟩, fun _ => rfl⟩ nT, fun b => ?_⟩
      have := @nwc_new H T b nT
      show 0 + _ ≤ _
      omega
theorem WalkR.enum {a : Addr} {t : Tag} {xs : List D} : WalkR c [.nd t .lst xs] [.ref a] ((xs.zipIdx).map fun p => .nd .own .tup [.int (p.2 : Int), p.1]) (Ite c.K a) := by
  intro Fa Fn H sa sn hr i
  obtain ⟨v, e, g1⟩ := hr.one
  cases e
  obtain ⟨p, us, m1, e, k1, r1, l1⟩ := g1.seqL sa sn
  cases e
  have z1 := r1.zero fun b => by have := l1 b; omega
  refine ⟨fun h => ⟨us, k1, ?_⟩, fun d hd => ?_⟩
  · rw [List.length_map, List.length_zipIdx] at h
    have := r1.len
    omega
  · rw [List.getElem?_map] at hd
    cases e : (xs.zipIdx)[i]? with
    | none => rw [e] at hd; cases hd
    | some q =>
      rw [e] at hd
      cases hd
      obtain ⟨q1, q2⟩ := q
      rw [List.getElem?_zipIdx] at e
      cases e3 : xs[i]? with
      | none => rw [e3] at e; cases e
      | some d =>
        rw [e3] at e
        simp only [Option.map_some, Nat.zero_add, Option.some.injEq, Prod.mk.injEq] at e
        obtain ⟨rfl, rfl⟩ := e
        obtain ⟨v1, hv1, rv1⟩ := z1.get0 e3
        refine ⟨⟨us, v1, k1, hv1⟩, fun x H' ⟨T, x1, e1, nT, e2, f1⟩ => ?_⟩
        subst e1
        subst e2
        have h1 := f1 us k1
        rw [hv1] at h1
        cases h1
        refine ⟨same_upd nT, _, Rep.mkt (xs := [.int _, d]) (m := fun _ => 0) ⟨_, _, fun _ => 0, fun _ => 0, rfl, ⟨rfl, fun _ => rfl⟩, ⟨_, _, fun _ => 0, fun _ => 0, rfl, rv1, ⟨rfl, fun _ => rfl⟩, fun _ => rfl⟩, fun _ => rfl⟩ nT, fun b => ?_⟩
        have := @nwc_new H T b nT
        show 0 + _ ≤ _
        omega
/-- what is said of a walked thing -/
def matIt (fs : Nm) (sc : Scope) (N : List Str) (tg : T) (its : List E) (k : Ik) (iter : Expr) : Bool := match itHead sc tg k iter with
  | some as => matL fs sc N false its as && lenOk k its.length
  | none => false
theorem len2 {α : Type} {xs : List α} (h : xs.length = 2) : ∃ a b, xs = [a, b] := by
  match xs, h with
  | [a, b], _ => exact ⟨a, b, rfl⟩
theorem matL_len {N : List Str} {t : Bool} : ∀ {es : List E} {as : List Expr}, matL fs sc N t es as = true → es.length = as.length
  | [], [], _ => rfl
  | [], _ :: _, h => by simp [matL] at h
  | _ :: _, [], h => by simp [matL] at h
  | e :: es, a :: as, h => by
    rw [matL, Bool.and_eq_true] at h
    rw [List.length_cons, List.length_cons, matL_len h.2]
theorem ifM {b : Bool} {as : List Expr} {g : List Expr → Bool} {l : Bool} (h : (match (if b then some as else none) with | some as => g as && l | none => false) = true) : b = true ∧ g as = true ∧ l = true := by
  cases b with
  | false => cases h
  | true =>
    have h' : (g as && l) = true := h
    rw [Bool.and_eq_true] at h'
    exact ⟨rfl, h'.1, h'.2⟩
theorem semL_one (G : Calls) (e : E) (env : List D) : semL G [e] env = (e.sem G env).bind fun p => .ok ([p.1], p.2) := by
  rw [semL]
  congr 1
theorem semL_len (G : Calls) : ∀ (es : List E) (env : List D) (p : List D × List D), semL G es env = .ok p → p.1.length = es.length
  | [], env, p, h => by
    rw [semL] at h
    cases h; rfl
  | e :: es, env, p, h => by
    rw [semL] at h
    cases z : e.sem G env with
    | exc x fl e => rw [z] at h; cases h
    | stuck => rw [z] at h; cases h
    | ok q =>
      rw [z, R.bind_ok] at h
      cases z2 : semL G es q.2 with
      | exc x fl e => rw [z2] at h; cases h
      | stuck => rw [z2] at h; cases h
      | ok r =>
        rw [z2, R.bind_ok] at h
        cases h
        rw [List.length_cons, List.length_cons, semL_len G es q.2 r z2]
/-- a walk begins -/
theorem PI_ok (hX : XOk X c G fs) (hsc : ScOk sc X) (hfz : FzOk G f) {k : Ik} {its : List E} {tg : T} {tga iter : Expr} (hm : matIt fs sc X.N tg its k iter = true) (htup : tg.isTp = true → ∃ es n p, tga = .Tuple es n p)
    (hA : ∀ as, matL fs sc X.N false its as = true → PAc X c G f W its as) (hE : ∀ e a, its = [e] → e.mat fs sc X.N false a = true → PEc X c G f W e a) (S : SR c f σ H env ds vs) {R : It → Hp → Prop}
    (h : match semL G its env with
      | .ok p => ∃ items, itemsOf k (D.tags (ownTo G.frz) p.1) = some items ∧ ∀ us H' J, Same H H' → SR c f σ H' p.2 (D.tags (ownTo G.frz) p.1 ++ ds) (us ++ vs) → us.length = p.1.length →
          (∃ Fa Fn, Same Fa H' ∧ Und c Fn Fa H' ∧ Reps c Fa Fn H' (D.tags (ownTo G.frz) p.1) us fun _ => 0) → (∀ h, WalkR (c.wh h) (D.tags (ownTo G.frz) p.1) us items J) → R J H'
      | .exc x fl e => ∀ cls dd H', Same H H' → SR c f σ H' e [] [] → ExcR c x fl cls dd H' → W cls dd σ H'
      | .stuck => False) : wiAny X tga iter σ H R := by
  -- the source is evaluated, then frozen
  have frz : ∀ {p : List D × List D} {us : List V} {H' : Hp}, SR c f σ H' p.2 (p.1 ++ ds) (us ++ vs) → p.1.length = us.length → SR c f σ H' p.2 (D.tags (ownTo G.frz) p.1 ++ ds) (us ++ vs) ∧ ∃ Fa Fn, Same Fa H' ∧ Und c Fn Fa H' ∧ Reps c Fa Fn H' (D.tags (ownTo G.frz) p.1) us fun _ => 0 := fun {p us H'} S hl => by
    obtain ⟨Fa, Fn, mS, mT, S⟩ := S
    obtain ⟨Fa', Fn', m2, S', r0, r2⟩ := S.frzT hl hfz
    exact ⟨⟨Fa', Fn', mS, m2, S'⟩, Fa', Fn', S'.sub, ⟨S'.subn, S'.hbs⟩, r0⟩
  have one : ∀ {e : E} {a : Expr}, its = [e] → e.mat fs sc X.N false a = true → ∀ (P : V → Hp → Prop), (∀ p us H', Same H H' → us.length = p.1.length → semL G its env = .ok p → SR c f σ H' p.2 (p.1 ++ ds) (us ++ vs) → ∃ v, us = [v] ∧ P v H') → wpE X a σ H P := fun {e a} e1 e2 P hP => by
    refine hE e a e1 e2 σ H env ds vs P S ?_
    subst e1
    rw [semL_one] at h hP
    cases z : e.sem G env with
    | exc x fl e => rw [z] at h; exact h
    | stuck => rw [z] at h; exact h
    | ok q =>
      intro v H' s S'
      rw [z] at hP
      obtain ⟨v', e3, q3⟩ := hP ([q.1], q.2) [v] H' s rfl rfl S'
      cases e3
      exact q3
  cases k with
  | lst =>
    have hm' : matL fs sc X.N false its [iter] = true := by
      have h0 : (matL fs sc X.N false its [iter] && lenOk _ its.length) = true := hm
      rw [Bool.and_eq_true] at h0
      exact h0.1
    cases its with
    | nil => simp [matL] at hm'
    | cons e r =>
      cases r with
      | cons _ _ => simp [matL] at hm'
      | nil =>
        have he : e.mat fs sc X.N false iter = true := by simpa [matL] using hm'
        -- which of the two
        cases z : semL G [e] env with
        | stuck => rw [z] at h; exact h.elim
        | exc x fl e' =>
          rw [z] at h
          refine ⟨_, pi_list (wpE.pe), one rfl he _ fun p us H' s hl e q => ?_⟩
          rw [z] at e; cases e
        | ok p =>
          have z' := z
          rw [semL_one] at z'
          cases z2 : e.sem G env with
          | stuck => rw [z2] at z'; cases z'
          | exc x fl e' => rw [z2] at z'; cases z'
          | ok q =>
            rw [z2] at z'
            cases z'
            rw [z] at h
            obtain ⟨items, hi, hk⟩ := h
            obtain ⟨d, env'⟩ := q
            cases d with
            | nd t kd xs =>
              cases kd with
              | lst =>
                cases hi
                refine ⟨_, pi_list (wpE.pe), one rfl he _ fun p us H' s hl e q => ?_⟩
                rw [z] at e; cases e
                obtain ⟨S2, Fa, Fn, sa, sn, r0⟩ := frz q hl.symm
                obtain ⟨v, rfl, g⟩ := r0.one
                obtain ⟨a, ws, m', rfl, k1, _, _⟩ := g.seqL sa sn
                exact ⟨_, rfl, a, rfl, ⟨ws, hX.K ▸ k1⟩, hX.K ▸ hk _ H' _ s S2 rfl ⟨Fa, Fn, sa, sn, r0⟩ fun _ => WalkR.lst⟩
              | tup =>
                cases hi
                refine ⟨_, pi_tup (wpE.pe), one rfl he _ fun p us H' s hl e q => ?_⟩
                rw [z] at e; cases e
                obtain ⟨S2, Fa, Fn, sa, sn, r0⟩ := frz q hl.symm
                obtain ⟨v, rfl, g⟩ := r0.one
                obtain ⟨a, ws, m', rfl, k1, _, _⟩ := g.seqT sa sn
                exact ⟨_, rfl, a, rfl, ⟨ws, hX.K ▸ k1⟩, hX.K ▸ hk _ H' _ s S2 rfl ⟨Fa, Fn, sa, sn, r0⟩ fun _ => WalkR.tup⟩
              | dic ks => cases hi
              | ins a b => cases hi
            | _ => cases hi
  | str =>
    have hm' : matL fs sc X.N false its [iter] = true := by
      have h0 : (matL fs sc X.N false its [iter] && lenOk _ its.length) = true := hm
      rw [Bool.and_eq_true] at h0
      exact h0.1
    cases its with
    | nil => simp [matL] at hm'
    | cons e r =>
      cases r with
      | cons _ _ => simp [matL] at hm'
      | nil =>
        have he : e.mat fs sc X.N false iter = true := by simpa [matL] using hm'
        refine ⟨_, pi_str (wpE.pe), one rfl he _ fun p us H' s hl e q => ?_⟩
        rw [e] at h
        obtain ⟨items, hi, hk⟩ := h
        obtain ⟨S2, Fa, Fn, sa, sn, r0⟩ := frz q hl.symm
        have e' := e
        rw [semL_one] at e'
        cases z2 : (E.sem G ‹E› env) with
        | stuck => rw [z2] at e'; cases e'
        | exc x fl e'' => rw [z2] at e'; cases e'
        | ok q2 =>
          rw [z2] at e'
          cases e'
          obtain ⟨d, env'⟩ := q2
          cases d with
          | str zz =>
            cases hi
            have r0' : Reps c Fa Fn H' [.str zz] us (fun _ => 0) := r0
            obtain ⟨v, rfl, g⟩ := r0'.one
            exact ⟨v, rfl, zz, g.1, hk [v] H' (Its zz) s S2 rfl ⟨Fa, Fn, sa, sn, r0⟩ fun _ => WalkR.str⟩
          | nd t kd xs => cases hi
          | _ => cases hi
  | rng =>
    cases iter with
    | Call fn as kws pos =>
      cases fn with
      | Name x p =>
        cases kws with
        | cons _ _ => cases hm
        | nil =>
          have hm' : (match (if decide (x = ("range" : Str)) && glC sc x then some as else none) with | some as => matL fs sc X.N false its as && lenOk .rng its.length | none => false) = true := hm
          obtain ⟨hc, hl, hlo⟩ := ifM hm'
          simp only [Bool.and_eq_true, decide_eq_true_eq] at hc
          obtain ⟨rfl, hg⟩ := hc
          have hlo' : (decide (its.length ≤ 2) && decide (1 ≤ its.length)) = true := hlo
          simp only [Bool.and_eq_true, decide_eq_true_eq] at hlo'
          obtain ⟨h2, h1⟩ := hlo'
          have hlen := matL_len hl
          have hst := matL_star hl
          have hPA := hA as hl
          cases as with
          | nil => rw [hlen] at h1; simp at h1
          | cons a as =>
            rw [List.all_cons, Bool.and_eq_true] at hst
            have s1 := star_cons hst.1 as X.env
            cases as with
            | nil =>
              refine ⟨_, pi_range1 (hsc.gl hg).1 hX.rng.1 wpA.pa s1, hPA σ H env ds vs _ S ?_⟩
              cases z : semL G its env with
              | stuck => rw [z] at h; exact h
              | exc x fl e => rw [z] at h; exact h
              | ok q =>
                rw [z] at h
                obtain ⟨items, hi, hk⟩ := h
                intro us H' hl' s S'
                obtain ⟨S2, Fa, Fn, sa, sn, r0⟩ := frz S' hl'.symm
                have hql : q.1.length = 1 := by
                  have := semL_len G its env q z
                  rw [this, hlen]; rfl
                obtain ⟨d1, hd1⟩ := List.length_eq_one_iff.mp hql
                rw [hd1] at hi r0
                cases d1 with
                | int j =>
                  have hi' : (if decide (-4611686018427387904 ≤ j) && decide (j < 4611686018427387904) then some ((List.range j.toNat).map fun (n : Nat) => D.int (n : Int)) else none) = some items := hi
                  split at hi'
                  · rename_i hb
                    cases hi'
                    rw [Bool.and_eq_true, decide_eq_true_eq, decide_eq_true_eq] at hb
                    have r0' : Reps c Fa Fn H' [.int j] us (fun _ => 0) := r0
                    obtain ⟨v, rfl, g⟩ := r0'.one
                    refine ⟨j, by rw [g.1], by omega, by omega, hk [v] H' (Itr 0 j.toNat) s S2 hl' ⟨Fa, Fn, sa, sn, by rw [hd1]; exact r0⟩ ?_⟩
                    intro h
                    have := WalkR.rng (c := c.wh h) (lo := 0) (n := j.toNat) (us := [v]) (ds := D.tags (ownTo G.frz) q.1)
                    simpa using this
                  · cases hi'
                | nd t kd xs => cases kd <;> cases hi
                | _ => cases hi
            | cons b as =>
              cases as with
              | cons _ _ => rw [hlen] at h2; simp at h2
              | nil =>
                rw [List.all_cons, Bool.and_eq_true] at hst
                have s2 := star_cons hst.2.1 [] X.env
                refine ⟨_, pi_range2 (hsc.gl hg).1 hX.rng.1 wpA.pa (by rw [s1, s2]; rfl) s2, hPA σ H env ds vs _ S ?_⟩
                cases z : semL G its env with
                | stuck => rw [z] at h; exact h
                | exc x fl e => rw [z] at h; exact h
                | ok q =>
                  rw [z] at h
                  obtain ⟨items, hi, hk⟩ := h
                  intro us H' hl' s S'
                  obtain ⟨S2, Fa, Fn, sa, sn, r0⟩ := frz S' hl'.symm
                  have hql : q.1.length = 2 := by
                    have := semL_len G its env q z
                    rw [this, hlen]; rfl
                  obtain ⟨d1, d2, hd1⟩ := len2 hql
                  rw [hd1] at hi r0
                  cases d1 with
                  | int i =>
                    cases d2 with
                    | int j =>
                      have hi' : (if decide (-4611686018427387904 ≤ i) && decide (i < 4611686018427387904) && decide (-4611686018427387904 ≤ j) && decide (j < 4611686018427387904) then some ((List.range (j - i).toNat).map fun (n : Nat) => D.int (i + (n : Int))) else none) = some items := hi
                      split at hi'
                      · rename_i hb
                        cases hi'
                        simp only [Bool.and_eq_true, decide_eq_true_eq] at hb
                        have r0' : Reps c Fa Fn H' [.int i, .int j] us (fun _ => 0) := r0
                        obtain ⟨v, w, _, _, rfl, g1, g2, _⟩ := r0'.two
                        exact ⟨i, j, by rw [g1.1, g2.1], ⟨by omega, by omega, by omega, by omega⟩, hk [v, w] H' (Itr i (j - i).toNat) s S2 hl' ⟨Fa, Fn, sa, sn, by rw [hd1]; exact r0⟩ fun _ => WalkR.rng⟩
                      · cases hi'
                    | nd t kd xs => cases kd <;> cases hi
                    | _ => cases hi
                  | nd t kd xs => cases kd <;> cases hi
                  | _ => cases hi
      | _ => cases hm
    | _ => cases hm
  | zip =>
    cases iter with
    | Call fn as kws pos =>
      cases fn with
      | Name x p =>
        cases kws with
        | cons _ _ => cases hm
        | nil =>
          have hm' : (match (if decide (x = ("zip" : Str)) && glC sc x && tg.isTp then some as else none) with | some as => matL fs sc X.N false its as && lenOk .zip its.length | none => false) = true := hm
          obtain ⟨hc, hl, hlo⟩ := ifM hm'
          simp only [Bool.and_eq_true, decide_eq_true_eq] at hc
          obtain ⟨⟨rfl, hg⟩, h1⟩ := hc
          have h2 : its.length = 2 := of_decide_eq_true hlo
          obtain ⟨tes, tn, tp, rfl⟩ := htup h1
          have hlen := matL_len hl
          have hst := matL_star hl
          have hPA := hA as hl
          obtain ⟨a, b, rfl⟩ := len2 (hlen ▸ h2)
          rw [List.all_cons, List.all_cons, Bool.and_eq_true, Bool.and_eq_true] at hst
          refine ⟨_, pi_zip (hsc.gl hg).1 hX.rng.2.1 wpA.pa (star_cons hst.1 [b] X.env) (noStar_plain (pos := pos) (env := X.env) (by rw [List.all_cons, hst.2.1]; rfl)), hPA σ H env ds vs _ S ?_⟩
          cases z : semL G its env with
          | stuck => rw [z] at h; exact h
          | exc x fl e => rw [z] at h; exact h
          | ok q =>
            rw [z] at h
            obtain ⟨items, hi, hk⟩ := h
            intro us H' hl' s S'
            obtain ⟨S2, Fa, Fn, sa, sn, r0⟩ := frz S' hl'.symm
            have hql : q.1.length = 2 := by
              have := semL_len G its env q z
              rw [this, h2]
            obtain ⟨d1, d2, hd1⟩ := len2 hql
            have r0c := r0
            rw [hd1] at hi r0
            cases d1 with
            | nd t kd xs =>
              cases kd with
              | lst =>
                cases d2 with
                | nd t2 kd2 ys =>
                  cases kd2 with
                  | lst =>
                    cases hi
                    obtain ⟨v, w, n1, n2, rfl, g1, g2, _⟩ := Reps.two (d := (D.nd t .lst xs).tag (ownTo G.frz)) (e := (D.nd t2 .lst ys).tag (ownTo G.frz)) r0
                    obtain ⟨p1, us1, _, rfl, k1, _, _⟩ := Rep.seqL (t := ownTo G.frz t) (xs := D.tags (ownTo G.frz) xs) g1 sa sn
                    obtain ⟨p2, us2, _, rfl, k2, _, _⟩ := Rep.seqL (t := ownTo G.frz t2) (xs := D.tags (ownTo G.frz) ys) g2 sa sn
                    exact ⟨p1, p2, us1, us2, rfl, hX.K ▸ k1, hX.K ▸ k2, hX.K ▸ hk _ H' (Itz c.K p1 p2) s S2 hl' ⟨Fa, Fn, sa, sn, r0c⟩ (fun _ => by rw [hd1]; exact WalkR.zip)⟩
                  | _ => cases hi
                | _ => cases hi
              | _ => cases d2 <;> cases hi
            | _ => cases d2 <;> cases hi
      | _ => cases hm
    | _ => cases hm
  | zipS =>
    cases iter with
    | Call fn as kws pos =>
      cases fn with
      | Name x p =>
        cases kws with
        | cons _ _ => cases hm
        | nil =>
          have hm' : (match (if decide (x = ("zip" : Str)) && glC sc x && tg.isTp then some as else none) with | some as => matL fs sc X.N false its as && lenOk .zipS its.length | none => false) = true := hm
          obtain ⟨hc, hl, hlo⟩ := ifM hm'
          simp only [Bool.and_eq_true, decide_eq_true_eq] at hc
          obtain ⟨⟨rfl, hg⟩, h1⟩ := hc
          have h2 : its.length = 2 := of_decide_eq_true hlo
          obtain ⟨tes, tn, tp, rfl⟩ := htup h1
          have hlen := matL_len hl
          have hst := matL_star hl
          have hPA := hA as hl
          obtain ⟨a, b, rfl⟩ := len2 (hlen ▸ h2)
          rw [List.all_cons, List.all_cons, Bool.and_eq_true, Bool.and_eq_true] at hst
          refine ⟨_, pi_zipS (hsc.gl hg).1 hX.rng.2.1 wpA.pa (star_cons hst.1 [b] X.env) (noStar_plain (pos := pos) (env := X.env) (by rw [List.all_cons, hst.2.1]; rfl)), hPA σ H env ds vs _ S ?_⟩
          cases z : semL G its env with
          | stuck => rw [z] at h; exact h
          | exc x fl e => rw [z] at h; exact h
          | ok q =>
            rw [z] at h
            obtain ⟨items, hi, hk⟩ := h
            intro us H' hl' s S'
            obtain ⟨S2, Fa, Fn, sa, sn, r0⟩ := frz S' hl'.symm
            have hql : q.1.length = 2 := by
              have := semL_len G its env q z
              rw [this, h2]
            obtain ⟨d1, d2, hd1⟩ := len2 hql
            have r0c := r0
            rw [hd1] at hi r0
            cases d1 with
            | nd t kd xs =>
              cases kd with
              | lst =>
                cases d2 with
                | str zt =>
                  cases hi
                  obtain ⟨v, w, n1, n2, rfl, g1, g2, _⟩ := Reps.two (d := (D.nd t .lst xs).tag (ownTo G.frz)) (e := (D.str zt).tag (ownTo G.frz)) r0
                  obtain ⟨p1, us1, _, rfl, k1, _, _⟩ := Rep.seqL (t := ownTo G.frz t) (xs := D.tags (ownTo G.frz) xs) g1 sa sn
                  obtain ⟨rfl, _⟩ := (show w = V.str zt ∧ _ from g2)
                  exact ⟨p1, zt, us1, rfl, hX.K ▸ k1, hX.K ▸ hk _ H' (ItzS c.K p1 zt) s S2 hl' ⟨Fa, Fn, sa, sn, r0c⟩ (fun _ => by rw [hd1]; exact WalkR.zipS)⟩
                | _ => cases hi
              | _ => cases d2 <;> cases hi
            | _ => cases d2 <;> cases hi
      | _ => cases hm
    | _ => cases hm
  | enum =>
    cases iter with
    | Call fn as kws pos =>
      cases fn with
      | Name x p =>
        cases kws with
        | cons _ _ => cases hm
        | nil =>
          have hm' : (match (if decide (x = ("enumerate" : Str)) && glC sc x && tg.isTp then some as else none) with | some as => matL fs sc X.N false its as && lenOk .enum its.length | none => false) = true := hm
          obtain ⟨hc, hl, hlo⟩ := ifM hm'
          simp only [Bool.and_eq_true, decide_eq_true_eq] at hc
          obtain ⟨⟨rfl, hg⟩, h1⟩ := hc
          have h2 : its.length = 1 := of_decide_eq_true hlo
          obtain ⟨tes, tn, tp, rfl⟩ := htup h1
          have hlen := matL_len hl
          have hst := matL_star hl
          have hPA := hA as hl
          obtain ⟨a, rfl⟩ := List.length_eq_one_iff.mp (hlen ▸ h2)
          rw [List.all_cons, Bool.and_eq_true] at hst
          refine ⟨_, pi_enum (hsc.gl hg).1 hX.rng.2.2.1 wpA.pa (star_cons hst.1 [] X.env), hPA σ H env ds vs _ S ?_⟩
          cases z : semL G its env with
          | stuck => rw [z] at h; exact h
          | exc x fl e => rw [z] at h; exact h
          | ok q =>
            rw [z] at h
            obtain ⟨items, hi, hk⟩ := h
            intro us H' hl' s S'
            obtain ⟨S2, Fa, Fn, sa, sn, r0⟩ := frz S' hl'.symm
            have hql : q.1.length = 1 := by
              have := semL_len G its env q z
              rw [this, h2]
            obtain ⟨d1, hd1⟩ := List.length_eq_one_iff.mp hql
            have r0c := r0
            rw [hd1] at hi r0
            cases d1 with
            | nd t kd xs =>
              cases kd with
              | lst =>
                cases hi
                obtain ⟨v, rfl, g1⟩ := Reps.one (d := (D.nd t .lst xs).tag (ownTo G.frz)) r0
                obtain ⟨p1, us1, _, rfl, k1, _, _⟩ := Rep.seqL (t := ownTo G.frz t) (xs := D.tags (ownTo G.frz) xs) g1 sa sn
                exact ⟨p1, us1, rfl, hX.K ▸ k1, hX.K ▸ hk _ H' (Ite c.K p1) s S2 hl' ⟨Fa, Fn, sa, sn, r0c⟩ (fun _ => by rw [hd1]; exact WalkR.enum)⟩
              | _ => cases hi
            | _ => cases hi
      | _ => cases hm
    | _ => cases hm
end
end VI

set_option maxHeartbeats 4000000
namespace VI
open PySem PySem.Spec L2
open PyProof.Rows hiding St

/-! ### what turns no slot -/
theorem R.inv {α β : Type} {r : R α} {g : α → R β} {p : β} (h : r.bind g = .ok p) : ∃ a, r = .ok a ∧ g a = .ok p := by
  cases r with
  | ok a => exact ⟨a, rfl, h⟩
  | exc x fl e => cases h
  | stuck => cases h
theorem R.of_inv {α : Type} {o : Option α} {p : α} (h : R.of o = .ok p) : o = some p := by
  cases o with
  | none => cases h
  | some a => cases h; rfl
theorem map_env {α : Type} {o : Option α} {g : α → D} {env : List D} {p : D × List D} (h : R.of (o.map fun d => (g d, env)) = .ok p) : p.2 = env := by
  have h := R.of_inv h
  cases o with
  | none => cases h
  | some a => cases h; rfl
theorem called_env {r : R D} {fz : Tag} {ds env : List D} {p : D × List D} (h : r.called fz ds env = .ok p) : p.2 = env := by
  cases r with
  | ok d => exact map_env (g := fun d => d) h
  | exc x fl e => cases h
  | stuck => cases h
mutual
theorem E.pure_ok (G : Calls) : ∀ (e : E) (env : List D) (p : D × List D), e.pure = true → e.sem G env = .ok p → p.2 = env
  | .nop, env, p, h, q => by rw [E.sem] at q; cases q; rfl
  | .lit d, env, p, h, q => by rw [E.sem] at q; cases q; rfl
  | .loc i m, env, p, h, q => by
    rw [E.sem] at q
    unfold locSem at q
    have h' : (m == .bor) = true := h
    have e : m = .bor := by simpa using h'
    subst e
    cases z : getL env i with
    | none => rw [z] at q; cases q
    | some d => rw [z] at q; cases q; rfl
  | .glb x, env, p, h, q => by rw [E.sem] at q; exact map_env (g := fun d => d) q
  | .bin o a b, env, p, h, q => by
    rw [E.sem] at q
    rw [E.pure, Bool.and_eq_true] at h
    obtain ⟨x, q1, q2⟩ := R.inv q
    obtain ⟨y, q3, q4⟩ := R.inv q2
    rw [map_env (g := fun d => d) q4, E.pure_ok G b _ _ h.2 q3, E.pure_ok G a _ _ h.1 q1]
  | .cmp o a b, env, p, h, q => by
    rw [E.sem] at q
    rw [E.pure, Bool.and_eq_true] at h
    obtain ⟨x, q1, q2⟩ := R.inv q
    obtain ⟨y, q3, q4⟩ := R.inv q2
    rw [map_env q4, E.pure_ok G b _ _ h.2 q3, E.pure_ok G a _ _ h.1 q1]
  | .cm2 o p' a b d, env, p, h, q => by
    rw [E.sem] at q
    rw [E.pure, Bool.and_eq_true, Bool.and_eq_true] at h
    obtain ⟨x, q1, q2⟩ := R.inv q
    obtain ⟨y, q3, q4⟩ := R.inv q2
    have e1 := E.pure_ok G b _ _ h.1.2 q3
    have e2 := E.pure_ok G a _ _ h.1.1 q1
    cases z : cmpV o x.1 y.1 with
    | none => rw [z] at q4; cases q4
    | some k =>
      rw [z] at q4
      cases k with
      | false => cases q4; show y.2 = env; rw [e1, e2]
      | true =>
        obtain ⟨w, q5, q6⟩ := R.inv q4
        rw [map_env q6, E.pure_ok G d _ _ h.2 q5, e1, e2]
  | .bop o es, env, p, h, q => by
    rw [E.sem] at q
    exact semB_pure G o es env p h q
  | .not a, env, p, h, q => by
    rw [E.sem] at q
    obtain ⟨x, q1, q2⟩ := R.inv q
    have e := E.pure_ok G a _ _ h q1
    split at q2
    · cases q2; exact e
    · cases q2
  | .tru a, env, p, h, q => by
    rw [E.sem] at q
    obtain ⟨x, q1, q2⟩ := R.inv q
    rw [map_env q2, E.pure_ok G a _ _ h q1]
  | .neg a, env, p, h, q => by
    rw [E.sem] at q
    obtain ⟨x, q1, q2⟩ := R.inv q
    have e := E.pure_ok G a _ _ h q1
    split at q2
    · cases q2; exact e
    · cases q2
  | .ife t a b, env, p, h, q => by
    rw [E.sem] at q
    rw [E.pure, Bool.and_eq_true, Bool.and_eq_true] at h
    obtain ⟨x, q1, q2⟩ := R.inv q
    have e := E.pure_ok G t _ _ h.1.1 q1
    split at q2
    · rw [E.pure_ok G a _ _ h.1.2 q2, e]
    · rw [E.pure_ok G b _ _ h.2 q2, e]
    · cases q2
  | .tup es, env, p, h, q => by
    rw [E.sem] at q
    obtain ⟨x, q1, q2⟩ := R.inv q
    have e := semL_pure G es env x h q1
    split at q2
    · cases q2; exact e
    · cases q2
  | .lst es, env, p, h, q => by
    rw [E.sem] at q
    obtain ⟨x, q1, q2⟩ := R.inv q
    have e := semL_pure G es env x h q1
    split at q2
    · cases q2; exact e
    · cases q2
  | .ix a i, env, p, h, q => by
    rw [E.sem] at q
    rw [E.pure, Bool.and_eq_true] at h
    obtain ⟨x, q1, q2⟩ := R.inv q
    obtain ⟨y, q3, q4⟩ := R.inv q2
    rw [map_env (g := fun d => d) q4, E.pure_ok G i _ _ h.2 q3, E.pure_ok G a _ _ h.1 q1]
  | .slc a lo hi, env, p, h, q => by
    rw [E.sem] at q
    rw [E.pure, Bool.and_eq_true, Bool.and_eq_true] at h
    obtain ⟨x, q1, q2⟩ := R.inv q
    obtain ⟨y, q3, q4⟩ := R.inv q2
    obtain ⟨l, _, q5⟩ := R.inv q4
    obtain ⟨w, q6, q7⟩ := R.inv q5
    obtain ⟨h', _, q8⟩ := R.inv q7
    rw [map_env (g := fun d => d) q8, E.pure_ok G hi _ _ h.2 q6, E.pure_ok G lo _ _ h.1.2 q3, E.pure_ok G a _ _ h.1.1 q1]
  | .rev a, env, p, h, q => by
    rw [E.sem] at q
    obtain ⟨x, q1, q2⟩ := R.inv q
    have e := E.pure_ok G a _ _ h q1
    split at q2
    · cases q2; exact e
    · cases q2
  | .fld a f, env, p, h, q => by
    rw [E.sem] at q
    obtain ⟨x, q1, q2⟩ := R.inv q
    have e := E.pure_ok G a _ _ h q1
    split at q2
    · rw [map_env (g := fun d => d) q2, e]
    · cases q2
  | .call f es, env, p, h, q => by
    rw [E.sem] at q
    obtain ⟨x, q1, q2⟩ := R.inv q
    rw [called_env q2, semL_pure G es env x h q1]
  | .mk f es, env, p, h, q => by
    rw [E.sem] at q
    obtain ⟨x, q1, q2⟩ := R.inv q
    rw [called_env q2, semL_pure G es env x h q1]
  | .cal i es, env, p, h, q => by
    rw [E.sem] at q
    split at q
    · obtain ⟨x, q1, q2⟩ := R.inv q
      rw [called_env q2, semL_pure G es env x h q1]
    · cases q
  | .blt b es, env, p, h, q => by
    rw [E.sem] at q
    obtain ⟨x, q1, q2⟩ := R.inv q
    rw [map_env (g := fun d => d) q2, semL_pure G es env x h q1]
  | .isi a t, env, p, h, q => by
    rw [E.sem] at q
    obtain ⟨x, q1, q2⟩ := R.inv q
    rw [map_env q2, E.pure_ok G a _ _ h q1]
  | .isc a t, env, p, h, q => by
    rw [E.sem] at q
    obtain ⟨x, q1, q2⟩ := R.inv q
    rw [map_env q2, E.pure_ok G a _ _ h q1]
  | .lset a, env, p, h, q => by
    rw [E.sem] at q
    obtain ⟨x, q1, q2⟩ := R.inv q
    rw [map_env (g := fun d => d) q2, E.pure_ok G a _ _ h q1]
  | .cm3 o p' p2 a b d e, env, p, h, q => by
    rw [E.sem] at q
    rw [E.pure, Bool.and_eq_true, Bool.and_eq_true, Bool.and_eq_true] at h
    obtain ⟨x, q1, q2⟩ := R.inv q
    obtain ⟨y, q3, q4⟩ := R.inv q2
    have e1 := E.pure_ok G a _ _ h.1.1.1 q1
    have e2 := E.pure_ok G b _ _ h.1.1.2 q3
    split at q4
    · obtain ⟨w, q5, q6⟩ := R.inv q4
      have e3 := E.pure_ok G d _ _ h.1.2 q5
      split at q6
      · obtain ⟨u, q7, q8⟩ := R.inv q6
        rw [map_env q8, E.pure_ok G e _ _ h.2 q7, e3, e2, e1]
      · cases q6
        show w.2 = env
        rw [e3, e2, e1]
      · cases q6
    · cases q4
      show y.2 = env
      rw [e2, e1]
    · cases q4
  | .mth m a es, env, p, h, q => by
    rw [E.sem] at q
    rw [E.pure, Bool.and_eq_true] at h
    obtain ⟨x, q1, q2⟩ := R.inv q
    split at q2
    · obtain ⟨y, q3, q4⟩ := R.inv q2
      rw [map_env (g := fun d => d) q4, semL_pure G es _ y h.2 q3, E.pure_ok G a _ _ h.1 q1]
    · cases q2
  | .ump a m es, env, p, h, q => by
    rw [E.sem] at q
    rw [E.pure, Bool.and_eq_true] at h
    obtain ⟨x, q1, q2⟩ := R.inv q
    have e := E.pure_ok G a _ _ h.1 q1
    split at q2
    · split at q2
      · cases q2
      · obtain ⟨y, q3, q4⟩ := R.inv q2
        rw [called_env q4, semL_pure G es _ y h.2 q3, e]
    · cases q2
  | .comp vs tg k its cond elt, env, p, h, q => by
    rw [E.sem] at q
    obtain ⟨x, q1, q2⟩ := R.inv q
    have e := semL_pure G its env x h q1
    split at q2
    · obtain ⟨y, q3, q4⟩ := R.inv q2
      obtain ⟨z, q5, q6⟩ := R.inv q4
      cases q6
      exact e
    · cases q2
theorem semL_pure (G : Calls) : ∀ (es : List E) (env : List D) (p : List D × List D), pureL es = true → semL G es env = .ok p → p.2 = env
  | [], env, p, h, q => by rw [semL] at q; cases q; rfl
  | e :: es, env, p, h, q => by
    rw [semL] at q
    rw [pureL, Bool.and_eq_true] at h
    obtain ⟨x, q1, q2⟩ := R.inv q
    obtain ⟨y, q3, q4⟩ := R.inv q2
    cases q4
    show y.2 = env
    rw [semL_pure G es _ y h.2 q3, E.pure_ok G e _ _ h.1 q1]
theorem semB_pure (G : Calls) (o : BoolOp) : ∀ (es : List E) (env : List D) (p : D × List D), pureL es = true → semB G o es env = .ok p → p.2 = env
  | [], env, p, h, q => by rw [semB] at q; cases q
  | [e], env, p, h, q => by
    rw [semB_one] at q
    rw [pureL, Bool.and_eq_true] at h
    obtain ⟨x, q1, q2⟩ := R.inv q
    have e := E.pure_ok G e _ _ h.1 q1
    split at q2
    · cases q2; exact e
    · cases q2
  | e :: e2 :: es, env, p, h, q => by
    rw [semB_cons] at q
    rw [pureL, Bool.and_eq_true] at h
    obtain ⟨x, q1, q2⟩ := R.inv q
    have e := E.pure_ok G e _ _ h.1 q1
    split at q2
    · cases q2; exact e
    · cases q2; exact e
    · rw [semB_pure G _ (e2 :: es) _ p h.2 q2, e]
    · cases q2
end

section
variable {X : Cx} {c : Gc} {G : Calls} {f : Fr} {W : WX} {σ : St} {H H' : Hp} {env ds : List D} {vs : List V} {Q : VK} {fs : Nm} {sc : Scope}
theorem PEc.call (hX : XOk X c G fs) (hsc : ScOk sc X) (hfz : FzOk G f) (tk : Takes X W) {x : Str} {es : List E} {a : Expr} {as : List Expr} {p pos : Pos} (hs : PAc X c G f W es (a :: as)) (hf : x ∈ fs.fs) (hg : glC sc x = true) (hn : (a :: as).all noStar = true) :
    PEc X c G f W (.call x es) (.Call (.Name x p) (a :: as) [] pos) := by
  intro σ H env ds vs Q S h
  rw [E.sem] at h
  obtain ⟨fa, fd, ps, k, h1, h2, h3, h4, h5⟩ := hX.fn x hf
  obtain ⟨g1, g2⟩ := hsc.gl hg
  rw [List.all_cons, Bool.and_eq_true] at hn
  refine wpE.of (pe_callSD (dvs := []) (ds := []) (E := WE W) h5 h4 g1 h1 h2 h3 .nil (fun σ => passAt tk σ) wpA.pa g2 (star_cons hn.1 as X.env) (noStar_plain hn.2)) (hs.then S h fun p us H' hl s S' h' => ?_)
  rw [List.append_nil]
  refine call_ok hfz S' hl.symm ?_
  cases z : G.fn x (p.1.map seen) with
  | stuck => rw [z] at h'; exact h'
  | exc y fl e => rw [z] at h'; exact fun cls dd H2 s2 S2 xx => h' cls dd H2 s2 S2 xx
  | ok d =>
    rw [z] at h'
    have h2 : Wp c f W σ H' ds vs (R.of ((called G.frz p.1 d).map fun d' => (d', p.2))) Q := h'
    cases z2 : called G.frz p.1 d with
    | none => rw [z2] at h2; exact h2.elim
    | some d' =>
      rw [z2] at h2
      exact ⟨d', z2, fun v H2 s2 S2 => h2 v H2 s2 S2⟩
theorem WpC (hfz : FzOk G f) {r : R D} {ds0 : List D} {env' : List D} (S : SR c f σ H env' (ds0 ++ ds) (us ++ vs)) (hl : us.length = ds0.length) {call : List D → R D} (hr : call (ds0.map seen) = r) (h : Wp c f W σ H ds vs (r.called G.frz ds0 env') Q) : SpF c call us H Q (WE W σ) := by
  refine call_ok hfz S hl.symm ?_
  rw [hr]
  cases r with
  | stuck => exact h
  | exc y fl e => exact fun cls dd H2 s2 S2 xx => h cls dd H2 s2 S2 xx
  | ok d =>
    have h2 : Wp c f W σ H ds vs (R.of ((VI.called G.frz ds0 d).map fun d' => (d', env'))) Q := h
    cases z2 : VI.called G.frz ds0 d with
    | none => rw [z2] at h2; exact h2.elim
    | some d' =>
      rw [z2] at h2
      exact ⟨d', z2, fun v H2 s2 S2 => h2 v H2 s2 S2⟩
theorem SpF.ini {Ca x dx : Addr} {call : List D → R D} {us : List V} {E : XK} (h : SpF c call us H Q E) (h1 : H x = none) (h2 : H dx = none) (h3 : dx ≠ x) : SpI c Ca call (.ref x :: us) (upd (upd H dx (.own x)) x (.ins Ca dx [])) (fun v H2 => v = .non ∧ Q (.ref x) H2) E := by
  obtain ⟨ds, Fa, q1, q2, q3, q4, q5⟩ := h
  refine ⟨x, dx, us, H, ds, Fa, rfl, rfl, h1, h2, h3, q1, q2, q3, q4, ?_⟩
  cases z : call ds with
  | stuck => rw [z] at q5; exact q5
  | exc y fl e => rw [z] at q5; exact q5
  | ok d =>
    rw [z] at q5
    exact fun H' Fa' Fn' m a1 a2 a3 a4 a5 a6 a7 a8 a9 a10 => ⟨rfl, q5 (.ref x) H' Fa' Fn' m a1 a2 a3 a4 a5 a6 a7 a8 a9 a10⟩
theorem PEc.mk (hX : XOk X c G fs) (hsc : ScOk sc X) (hfz : FzOk G f) (tk : Takes X W) {x : Str} {es : List E} {a : Expr} {as : List Expr} {p pos : Pos} (hs : PAc X c G f W es (a :: as)) (hf : x ∈ fs.cls) (hg : glC sc x = true) (hn : (a :: as).all noStar = true) :
    PEc X c G f W (.mk x es) (.Call (.Name x p) (a :: as) [] pos) := by
  intro σ H env ds vs Q S h
  rw [E.sem] at h
  obtain ⟨Ca, fa, fd, ps, k, h1, h2, h3, h4, h5, h6⟩ := hX.mkc x hf
  obtain ⟨g1, g2⟩ := hsc.gl hg
  rw [List.all_cons, Bool.and_eq_true] at hn
  refine wpE.of (pe_makeSD (E := WE W) h3 h6 h5 g1 h1 h4 (fun σ => passAt tk σ) wpA.pa g2 (star_cons hn.1 as X.env) (noStar_plain hn.2)) (hs.then S h fun p us H' hl s S' h' => ?_)
  exact fun x dx n1 n2 n3 => SpF.ini (WpC hfz S' hl rfl h') n1 n2 n3
theorem PEc.cal (hX : XOk X c G fs) (hsc : ScOk sc X) (hfz : FzOk G f) (tk : Takes X W) {i : Nat} {es : List E} {x : Str} {a : Expr} {as : List Expr} {p pos : Pos} (hs : PAc X c G f W es (a :: as)) (hv : visC sc X.N i x = true) (hn : (a :: as).all noStar = true) :
    PEc X c G f W (.cal i es) (.Call (.Name x p) (a :: as) [] pos) := by
  intro σ H env ds vs Q S h
  rw [E.sem] at h
  cases z : getL env i with
  | none => rw [z] at h; exact h.elim
  | some d =>
    rw [z] at h
    cases d with
    | fn g =>
      have h : Wp c f W σ H ds vs ((semL G es env).bind fun p => (G.fn g (p.1.map seen)).called G.frz p.1 p.2) Q := h
      obtain ⟨e1, e2⟩ := getL_some z
      obtain ⟨v, hv', hr⟩ := (by
        obtain ⟨Fa, Fn, mS, mT, S⟩ := S
        obtain ⟨v, m1, m2, q1, q2, _⟩ := S.slots.get e1 e2
        exact ⟨v, q1, q2.1⟩ : ∃ v, σ[i]? = some (some v) ∧ ∃ a, c.fa g = some a ∧ v = .ref a)
      obtain ⟨ga, hg, rfl⟩ := hr
      obtain ⟨k1, k2⟩ := hX.fa g ga hg
      obtain ⟨fa, fd, ps, k, h1, h2, h3, h4, h5⟩ := hX.fn g k1
      rw [k2] at h1
      cases h1
      obtain ⟨w1, w2, w3, w4⟩ := hsc.vis hv
      rw [List.all_cons, Bool.and_eq_true] at hn
      refine wpE.of (pe_callLSD (E := WE W) h5 h4 w1 w2 h2 h3 (fun σ => passAt tk σ) wpA.pa w3 w4 (star_cons hn.1 as X.env) (noStar_plain hn.2)) ⟨hv', hs.then S h fun p us H' hl s S' h' => WpC hfz S' hl rfl h'⟩
    | _ => exact h.elim
theorem lookup_none {fl : List Str} {us : List V} {m : Str} (h : fl.contains m = false) : (fl.zip us).lookup m = none := by
  induction fl generalizing us with
  | nil => rfl
  | cons n fl ih =>
    cases us with
    | nil => rfl
    | cons u us =>
      rw [List.contains_cons, Bool.or_eq_false_iff] at h
      rw [List.zip_cons_cons, List.lookup_cons, h.1]
      exact ih h.2
theorem few_ok' {cpos : Pos} {as : List Expr} (h1 : as.all noStar = true) (h2 : as.length < 20) : ((backTo cpos (starEach as X.env)).all (fun x => !x.1) && (backToKw cpos (keywordEach [] X.env)).all (fun x => x.1.isSome) && decide (as.length + ([] : List Keyword).length + (if ([] : List Keyword).isEmpty then 0 else 1) < 30)) = true := by
  have e1 : (backTo cpos (starEach as X.env)).all (fun x => !x.1) = true := by
    have := noStar_plain (pos := cpos) (env := X.env) h1
    rw [List.any_eq_false] at this
    rw [List.all_eq_true]
    intro y hy
    have := this y hy
    cases q : y.1 with
    | true => exact absurd q this
    | false => rfl
  rw [e1]
  have e2 : decide (as.length + ([] : List Keyword).length + (if ([] : List Keyword).isEmpty then 0 else 1) < 30) = true := by
    rw [decide_eq_true_eq]
    show as.length + 0 + 0 < 30
    omega
  rw [e2]
  rfl
theorem PEc.ump (hX : XOk X c G fs) (hfz : FzOk G f) (tk : Takes X W) {e : E} {m : Str} {es : List E} {o : Expr} {as : List Expr} {apos pos : Pos} (he : PEc X c G f W e o) (hs : PAc X c G f W es as) (hf : m ∈ fs.mts) (ho : noSup o = true) (hl : (apos.endLine == pos.line) = true) (hn : as.all noStar = true) (hlen : as.length < 20) (hes : es.length = as.length) :
    PEc X c G f W (.ump e m es) (.Call (.Attribute o m apos) as [] pos) := by
  intro σ H env ds vs Q S h
  rw [E.sem] at h
  obtain ⟨pl, ht⟩ := meth_tree (env := X.env) (args := as) (noSup_base' ho m) (few_ok' (cpos := pos) hn hlen) hl
  -- nothing comes of the receiver
  have noRec : (∀ Q', wpE X o σ H Q') → wpE X (.Call (.Attribute o m apos) as [] pos) σ H Q := fun hw pins s I =>
    PySem.W.methodCall_KW (pl := pl) (thn (hw (fun _ _ => False) pins s I) fun _ _ ⟨_, _, _, _, z⟩ => z.elim) ht
  cases zz : e.sem G env with
  | stuck => rw [zz] at h; exact h.elim
  | exc y fl e' =>
    rw [zz] at h
    exact noRec fun Q' => he σ H env ds vs Q' S (by rw [zz]; exact h)
  | ok q =>
    obtain ⟨d0, env0⟩ := q
    rw [zz, R.bind_ok] at h
    cases d0 with
    | nd t kd xs =>
      cases kd with
      | ins n fl =>
        have h : Wp c f W σ H ds vs (if (fl.contains m || !G.hm n m) = true then .stuck else (semL G es env0).bind fun q => (G.mt n m ((D.nd t (.ins n fl) xs) :: q.1 |>.map seen)).called G.frz ((D.nd t (.ins n fl) xs) :: q.1) q.2) Q := h
        by_cases hm : (fl.contains m || !G.hm n m) = true
        · rw [if_pos hm] at h; exact h.elim
        · rw [if_neg hm] at h
          have hm : (fl.contains m || !G.hm n m) = false := by simpa using hm
          rw [Bool.or_eq_false_iff, Bool.not_eq_false'] at hm
          obtain ⟨hm, hmm⟩ := hm
          -- the receiver as it comes
          have rec_ : ∀ Q' : VK, (∀ p us m' C dx H1, Same H H1 → SR c f σ H1 env0 (.nd t (.ins n fl) xs :: ds) (.ref p :: vs) → c.cls n = some C → H1 p = some (.ins C dx (fl.zip us)) → Q' (.ref p) H1) → wpE X o σ H Q' := fun Q' k => by
            refine he σ H env ds vs Q' S ?_
            rw [zz]
            intro v H1 s1 S1
            obtain ⟨Fa, Fn, m1, sa, sn, k1, fin⟩ := S1.use1
            obtain ⟨p, us, m', C, dx, rfl, e1, e2, e3, r, hm⟩ := Rep.insAt k1 sa sn
            exact k p us m' C dx H1 s1 S1 e1 e2
          have args : ∀ p H1, Same H H1 → SR c f σ H1 env0 (.nd t (.ins n fl) xs :: ds) (.ref p :: vs) → wpA X as σ H1 fun us H2 => SpF c (G.mt n m) (.ref p :: us) H2 Q (WE W σ) := fun p H1 s1 S1 => by
            have h1 := Wp.same s1 h
            refine hs σ H1 env0 _ _ _ S1 ?_
            cases za : semL G es env0 with
            | stuck => rw [za] at h1; exact h1.elim
            | exc y fl e' => rw [za] at h1; exact h1
            | ok q =>
              rw [za] at h1
              intro us H2 hl2 s2 S2
              exact WpC (ds0 := .nd t (.ins n fl) xs :: q.1) (us := .ref p :: us) hfz (SR.rot S2 hl2.symm) (by rw [List.length_cons, List.length_cons, hl2]) rfl (Wp.same s2 h1)
          by_cases hc : ∃ C, c.cls n = some C
          · obtain ⟨C, hC⟩ := hc
            obtain ⟨hcl, fa, fd, ps, k, M, B, hr, F⟩ := hX.mt n C m hC hf hmm
            cases as with
              | nil =>
                refine wpE.of (pe_methSD0 (E := WE W) (ta := wpE X o) wpE.pe hcl M F hr B (fun σ => passAt tk σ) ht) (rec_ _ fun p us m' C' dx H1 s1 S1 e1 e2 => ?_)
                rw [hC] at e1
                cases e1
                refine ⟨p, dx, _, rfl, e2, lookup_none hm, ?_⟩
                cases es with
                | nil =>
                  refine WpC (ds0 := [.nd t (.ins n fl) xs]) (us := [.ref p]) hfz S1 rfl rfl ?_
                  rw [semL] at h
                  exact Wp.same s1 h
                | cons _ _ => cases hes
              | cons a as =>
                rw [List.all_cons, Bool.and_eq_true] at hn
                refine wpE.of (pe_methSD (E := WE W) (ta := wpE X o) wpE.pe hcl M F hr B (fun σ => passAt tk σ) wpA.pa (star_cons hn.1 as X.env) (noStar_plain hn.2) ht) (rec_ _ fun p us m' C' dx H1 s1 S1 e1 e2 => ?_)
                rw [hC] at e1
                cases e1
                exact ⟨p, dx, _, rfl, e2, lookup_none hm, args p H1 s1 S1⟩
          · exact noRec fun Q' => rec_ Q' fun p us m' C dx H1 s1 S1 e1 e2 => absurd ⟨C, e1⟩ hc
      | _ => exact h.elim
    | _ => exact h.elim
theorem SR.unbox {d : D} {v : V} (S : SR c f σ H env (d :: ds) (v :: vs)) : SR c f σ H env ds vs := SR.pop (d1 := [d]) (v1 := [v]) S rfl
/-! ### methods that write nothing -/
def mtTy : Mt → String
  | .index => "list"
  | _ => "str"
theorem noSup_base {o : Expr} (ho : noSup o = true) (name : Str) : attributeBase o name X.env (eval o X.env) = eval o X.env := by
  unfold attributeBase
  cases o <;> try rfl
  rename_i fn args kws p
  cases fn <;> try rfl
  cases args <;> try rfl
  cases kws <;> first | rfl | cases ho
theorem few_ok {cpos : Pos} {as : List Expr} (h1 : as.all noStar = true) (h2 : as.length < 20) : ((backTo cpos (starEach as X.env)).all (fun x => !x.1) && (backToKw cpos (keywordEach [] X.env)).all (fun x => x.1.isSome) && decide (as.length + ([] : List Keyword).length + (if ([] : List Keyword).isEmpty then 0 else 1) < 30)) = true := by
  have e1 : (backTo cpos (starEach as X.env)).all (fun x => !x.1) = true := by
    have := noStar_plain (pos := cpos) (env := X.env) h1
    rw [List.any_eq_false] at this
    rw [List.all_eq_true]
    intro y hy
    have := this y hy
    cases q : y.1 with
    | true => exact absurd q this
    | false => rfl
  rw [e1]
  have e2 : decide (as.length + ([] : List Keyword).length + (if ([] : List Keyword).isEmpty then 0 else 1) < 30) = true := by
    rw [decide_eq_true_eq]
    show as.length + 0 + 0 < 30
    omega
  rw [e2]
  rfl
theorem bm_pe {T id : String} {name : Str} {r : V → List V → Hp → VK → Prop} {o a : Expr} {as : List Expr} {apos cpos : Pos} (pa : PlainAttrs T) (slot : Slot T name id) (hty : typeOf (.builtin id) = pure (.type "method_descriptor")) (hm : MtR X id r)
    (ho : noSup o = true) (hl : (apos.endLine == cpos.line) = true) (hs : (a :: as).all noStar = true) (hlen : (a :: as).length < 20) : PE X (.Call (.Attribute o name apos) (a :: as) [] cpos) (tBM X.K T r (wpE X o) (wpA X (a :: as))) := by
  have hs' := hs
  rw [List.all_cons, Bool.and_eq_true] at hs'
  exact pe_bm pa slot hty hm wpE.pe wpA.pa (noSup_base ho name) (few_ok hs hlen) hl (star_cons hs'.1 as X.env) (noStar_plain hs'.2)
theorem strs_of {Fa Fn H : Hp} {xs : List D} {us : List V} {m : Addr → Nat} {ys : List Str} (h : Reps c Fa Fn H xs us m) (e : strs? xs = some ys) : us = ys.map V.str := by
  induction xs generalizing us m ys with
  | nil =>
    obtain ⟨rfl, _⟩ := h
    cases e; rfl
  | cons d xs ih =>
    obtain ⟨v, r, m1, m2, rfl, h1, h2, hm⟩ := h
    cases d with
    | str z =>
      have e : (strs? xs).map (z :: ·) = some ys := e
      cases q : strs? xs with
      | none => rw [q] at e; cases e
      | some ys' =>
        rw [q] at e
        cases e
        rw [ih h2 q, h1.1]
        rfl
    | nd t k zs => cases e
    | _ => cases e
theorem strs_reps {Fa Fn H : Hp} : ∀ ys : List Str, Reps c Fa Fn H (ys.map D.str) (ys.map V.str) fun _ => 0
  | [] => ⟨rfl, fun _ => rfl⟩
  | y :: ys => ⟨.str y, ys.map V.str, fun _ => 0, fun _ => 0, rfl, ⟨rfl, fun _ => rfl⟩, strs_reps ys, fun _ => rfl⟩
theorem idx_of {x : D} {v : V} {Fa Fn H : Hp} {m0 : Addr → Nat} (h1 : Rep c Fa Fn H x v m0) (f : x.flat = true) : ∀ {xs : List D} {us : List V} {m : Addr → Nat} {n j : Nat}, Reps c Fa Fn H xs us m → xs.all D.flat = true → idxF x xs n = some j →
    ∃ k z, j = n + k ∧ us[k]? = some z ∧ eqV z v = true ∧ ∀ (i : Nat) (z' : V), i < k → us[i]? = some z' → eqV z' v = false
  | [], us, m, n, j, h, g, e => by cases e
  | y :: xs, us, m, n, j, h, g, e => by
    obtain ⟨u, r, n1, n2, rfl, g1, g2, gm⟩ := h
    rw [List.all_cons, Bool.and_eq_true] at g
    have he : eqV u v = eqF y x := eqF_of g1 g.1 h1 f
    have e : (if eqF y x = true then some n else idxF x xs (n + 1)) = some j := e
    by_cases q : eqF y x = true
    · rw [if_pos q] at e
      cases e
      exact ⟨0, u, rfl, rfl, by rw [he, q], fun i z' hi => absurd hi (Nat.not_lt_zero i)⟩
    · rw [if_neg q] at e
      obtain ⟨k, z, k1, k2, k3, k4⟩ := idx_of h1 f g2 g.2 e
      refine ⟨k + 1, z, by omega, by simpa using k2, k3, fun i z' hi hz => ?_⟩
      cases i with
      | zero =>
        have : u = z' := by simpa using hz
        rw [← this, he]
        cases w : eqF y x with
        | true => exact absurd w q
        | false => rfl
      | succ i => exact k4 i z' (by omega) (by simpa using hz)
theorem PEc.mth (hX : XOk X c G fs) {m : Mt} {e : E} {es : List E} {o a : Expr} {as : List Expr} {apos cpos : Pos} (he : PEc X c G f W e o) (hs : PAc X c G f W es (a :: as)) (ho : noSup o = true) (hl : (apos.endLine == cpos.line) = true) (hn : (a :: as).all noStar = true) (hlen : (a :: as).length < 20) :
    PEc X c G f W (.mth m e es) (.Call (.Attribute o (mtName m) apos) (a :: as) [] cpos) := by
  intro σ H env ds vs Q S h
  rw [E.sem] at h
  -- the object, then the arguments
  have run : ∀ {T : String} {r : V → List V → Hp → VK → Prop}, (∀ (p : D) (q : List D × List D) (v : V) (us : List V) (H2 : Hp) (d : D) (Fa Fn : Hp) (m1 m2 : Addr → Nat), mthV m p q.1 = some d → Same Fa H2 → Und c Fn Fa H2 → Reps c Fa Fn H2 q.1 us m1 → Rep c Fa Fn H2 p v m2 →
      (∀ w H3 m', Same H2 H3 → Rep c Fa Fn H3 d w m' → (∀ a, m' a ≤ m1 a + m2 a + nwc H2 a) → Q w H3) → r v us H2 Q) → (∀ (p : D) (v : V) (H1 Fa Fn : Hp) (m2 : Addr → Nat), mthT m p = true → Same Fa H1 → Und c Fn Fa H1 → Rep c Fa Fn H1 p v m2 → tyV X.K T v H1) →
      tBM X.K T r (wpE X o) (wpA X (a :: as)) σ H Q := fun {T r} hr hty => by
    refine he.then S h fun p v H1 s1 S1 h1 => ?_
    by_cases ht : mthT m p.1 = true
    case neg => rw [if_neg ht] at h1; exact h1.elim
    rw [if_pos ht] at h1
    obtain ⟨Fa, Fn, m1, sa, sn, k1, _⟩ := S1.use1
    refine ⟨hty p.1 v H1 Fa Fn m1 ht sa sn k1, ?_⟩
    refine hs σ H1 p.2 (p.1 :: ds) (v :: vs) _ S1 ?_
    cases z : semL G es p.2 with
    | exc x fl e' => rw [z] at h1; exact h1
    | stuck => rw [z] at h1; exact h1.elim
    | ok q =>
      rw [z] at h1
      intro us H2 hl2 s2 S2
      have h1 : Wp c f W σ H1 ds vs (R.of ((mthV m p.1 q.1).map fun d => (d, q.2))) Q := h1
      cases z2 : mthV m p.1 q.1 with
      | none => rw [z2] at h1; exact h1.elim
      | some d =>
        rw [z2] at h1
        have S3 : SR c f σ H2 q.2 ((q.1 ++ [p.1]) ++ ds) ((us ++ [v]) ++ vs) := by
          rw [List.append_assoc, List.append_assoc]; exact S2
        obtain ⟨Fa, Fn, mt, sa, sn, k1, fin⟩ := SR.use S3 (by rw [List.length_append, List.length_append, hl2]; rfl)
        obtain ⟨w1, w2, n1, n2, ee, g1, g2, gm⟩ := k1.split
        obtain ⟨rfl, rfl⟩ := List.append_inj ee (by rw [← g1.len, hl2])
        obtain ⟨v', g3, g4⟩ := g2.one
        cases g3
        exact hr p.1 q v us H2 d Fa Fn n1 n2 z2 sa sn g1 g4 fun w H3 m' s3 hd hm => h1 w H3 (s2.trans s3) (fin d w H3 m' s3 hd fun a => by have := hm a; have := gm a; omega)
  have str : ∀ (p : D) (v : V) (H1 Fa Fn : Hp) (m2 : Addr → Nat), (∃ z, p = .str z) → Rep c Fa Fn H1 p v m2 → tyV X.K "str" v H1 := fun p v H1 Fa Fn m2 ⟨z, hz⟩ hr => by
    subst hz
    rw [hr.1]
    rfl
  have zero : ∀ {H : Hp} {m1 m2 : Addr → Nat} (a : Addr), (0 : Nat) ≤ m1 a + m2 a + nwc H a := fun a => Nat.zero_le _
  cases m with
  | join =>
    refine wpE.of (bm_pe PySem.F.plainAttrs_str PySem.F.slot_str_join PySem.F.type_str_join mt_join ho hl hn hlen) (run (fun p q v us H2 d Fa Fn m1 m2 hv sa sn r1 r2 k => ?_) fun p v H1 Fa Fn m2 ht sa sn r => ?_)
    · unfold mthV at hv
      split at hv
      · rename_i hm hp hq
        rw [hq] at r1
        obtain ⟨w, rfl, g⟩ := r1.one
        split at hv
        · rename_i hys
          split at hv
          · rename_i hlim
            cases hv
            obtain ⟨p', ws, m', rfl, k1, rr, _⟩ := g.seqL sa sn
            rw [strs_of rr hys] at k1
            exact ⟨_, p', _, r2.1, rfl, .inl (hX.K ▸ k1), hlim, k _ H2 (fun _ => 0) (Same.refl _) ⟨rfl, fun _ => rfl⟩ zero⟩
          · cases hv
        · cases hv
      · rename_i hm hp hq
        rw [hq] at r1
        obtain ⟨w, rfl, g⟩ := r1.one
        split at hv
        · rename_i hys
          split at hv
          · rename_i hlim
            cases hv
            obtain ⟨p', ws, m', rfl, k1, rr, _⟩ := g.seqT sa sn
            rw [strs_of rr hys] at k1
            exact ⟨_, p', _, r2.1, rfl, .inr (hX.K ▸ k1), hlim, k _ H2 (fun _ => 0) (Same.refl _) ⟨rfl, fun _ => rfl⟩ zero⟩
          · cases hv
        · cases hv
      all_goals first | contradiction | (cases hv)
    · exact str p v H1 Fa Fn m2 (by cases p <;> first | exact ⟨_, rfl⟩ | cases ht) r
  | split =>
    refine wpE.of (bm_pe PySem.F.plainAttrs_str PySem.F.slot_str_split PySem.F.type_str_split mt_split ho hl hn hlen) (run (fun p q v us H2 d Fa Fn m1 m2 hv sa sn r1 r2 k => ?_) fun p v H1 Fa Fn m2 ht sa sn r => ?_)
    · unfold mthV at hv
      split at hv
      all_goals first | contradiction | skip
      · rename_i hm hp hq
        rw [hq] at r1
        obtain ⟨w, rfl, g⟩ := r1.one
        split at hv
        · rename_i hlim
          cases hv
          refine ⟨_, _, r2.1, by rw [g.1], hlim.1, hlim.2, fun b hb => k _ _ _ (same_upd hb) (Rep.mkl (strs_reps _) hb) fun x => ?_⟩
          have := @nwc_new H2 b x hb
          show 0 + _ ≤ _
          omega
        · cases hv
      all_goals (cases hv)
    · exact str p v H1 Fa Fn m2 (by cases p <;> first | exact ⟨_, rfl⟩ | cases ht) r
  | count =>
    refine wpE.of (bm_pe PySem.F.plainAttrs_str PySem.F.slot_str_count PySem.F.type_str_count mt_count ho hl hn hlen) (run (fun p q v us H2 d Fa Fn m1 m2 hv sa sn r1 r2 k => ?_) fun p v H1 Fa Fn m2 ht sa sn r => ?_)
    · unfold mthV at hv
      split at hv
      all_goals first | contradiction | skip
      · rename_i hm hp hq
        rw [hq] at r1
        obtain ⟨w, rfl, g⟩ := r1.one
        cases hv
        exact ⟨_, _, r2.1, by rw [g.1], k _ H2 (fun _ => 0) (Same.refl _) ⟨rfl, fun _ => rfl⟩ zero⟩
      all_goals (cases hv)
    · exact str p v H1 Fa Fn m2 (by cases p <;> first | exact ⟨_, rfl⟩ | cases ht) r
  | endswith =>
    refine wpE.of (bm_pe PySem.F.plainAttrs_str PySem.F.slot_str_endswith PySem.F.type_str_endswith mt_endswith ho hl hn hlen) (run (fun p q v us H2 d Fa Fn m1 m2 hv sa sn r1 r2 k => ?_) fun p v H1 Fa Fn m2 ht sa sn r => ?_)
    · unfold mthV at hv
      split at hv
      all_goals first | contradiction | skip
      · rename_i hm hp hq
        rw [hq] at r1
        obtain ⟨w, rfl, g⟩ := r1.one
        cases hv
        exact ⟨_, _, r2.1, by rw [g.1], k _ H2 (fun _ => 0) (Same.refl _) ⟨rfl, fun _ => rfl⟩ zero⟩
      all_goals (cases hv)
    · exact str p v H1 Fa Fn m2 (by cases p <;> first | exact ⟨_, rfl⟩ | cases ht) r
  | index =>
    refine wpE.of (bm_pe PySem.F.plainAttrs_list PySem.F.slot_list_index PySem.F.type_list_index mt_index ho hl hn hlen) (run (fun p q v us H2 d Fa Fn m1 m2 hv sa sn r1 r2 k => ?_) fun p v H1 Fa Fn m2 ht sa sn r => ?_)
    · unfold mthV at hv
      split at hv
      all_goals first | contradiction | skip
      · rename_i hm hp hq
        rw [hq] at r1
        obtain ⟨w, rfl, g⟩ := r1.one
        split at hv
        · rename_i hfl
          rw [Bool.and_eq_true] at hfl
          obtain ⟨p', ws, m', rfl, k1, rr, _⟩ := r2.seqL sa sn
          cases z : idxF _ _ 0 with
          | none => rw [z] at hv; cases hv
          | some j =>
            rw [z] at hv
            cases hv
            obtain ⟨j', z', e1, e2, e3, e4⟩ := idx_of g hfl.1 rr hfl.2 z
            have e1 : j = j' := by omega
            subst e1
            exact ⟨p', ws, w, j, z', rfl, rfl, hX.K ▸ k1, flat_of g hfl.1, flats_of rr hfl.2, e2, e3, e4, k _ H2 (fun _ => 0) (Same.refl _) ⟨rfl, fun _ => rfl⟩ zero⟩
        · cases hv
      all_goals (cases hv)
    · cases p with
      | nd t kd xs =>
        cases kd with
        | lst =>
          obtain ⟨p', ws, m', rfl, k1, rr, _⟩ := r.seqL sa sn
          exact .inl ⟨rfl, ws, hX.K ▸ k1⟩
        | _ => cases ht
      | _ => cases ht
theorem Reps.rv {Fa Fn H : Hp} : ∀ {ds : List D} {vs : List V} {m : Addr → Nat}, Reps c Fa Fn H ds vs m → Reps c Fa Fn H ds.reverse vs.reverse m
  | [], vs, m, h => by
    obtain ⟨rfl, hz⟩ := h
    exact ⟨rfl, hz⟩
  | d :: ds, vs, m, h => by
    obtain ⟨v, r, m1, m2, rfl, h1, h2, hm⟩ := h
    rw [List.reverse_cons, List.reverse_cons]
    exact (h2.rv.append (es := [d]) (us := [v]) ⟨v, [], m1, fun _ => 0, rfl, h1, ⟨rfl, fun _ => rfl⟩, fun _ => rfl⟩).ext fun a => by have := hm a; show m a = m2 a + m1 a; omega
theorem PEc.rev (hX : XOk X c G fs) {e : E} {a : Expr} {k : Nat} {p1 p2 p3 pos : Pos} (he : PEc X c G f W e a) : PEc X c G f W (.rev e) (.Subscript a (.Slice none none (some (.UnaryOp .USub (.Constant (.int 1) k p1) p2)) p3) pos) := by
  intro σ H env ds vs Q S h
  rw [E.sem] at h
  refine wpE.of (pe_revL wpE.pe) (he.then S h fun p v H' s S' h' => ?_)
  obtain ⟨d, env'⟩ := p
  cases d with
  | nd t kd xs =>
    cases kd with
    | lst =>
      obtain ⟨Fa, Fn, m1, sa, sn, k1, fin⟩ := S'.use1
      obtain ⟨q, ws, m', rfl, k2, r, l⟩ := k1.seqL sa sn
      refine ⟨q, ws, rfl, hX.K ▸ k2, fun b hb => h' _ _ (same_upd hb) (fin _ _ _ _ (same_upd hb) (Rep.mkl r.rv hb) fun x => ?_)⟩
      have := @nwc_new H' b x hb
      have := l x
      show m' x + _ ≤ _
      omega
    | _ => exact h'.elim
  | _ => exact h'.elim
end
end VI

set_option maxHeartbeats 4000000
namespace VI
open PySem PySem.Spec L2
open PyProof.Rows hiding St

/-! ### a comprehension's block -/
theorem relabel_lookup {env : Env} {x : Str} {k : NameKind} : ∀ {names : List (Str × NameKind)}, names.lookup x = some k →
    ∃ k', (names.map fun (n, k) => if (k == NameKind.free && env.scope.kind == .function && env.kindOf n == some .cell) then (n, NameKind.cell) else (n, k)).lookup x = some k' ∧ (k' = k ∨ (k = .free ∧ k' = .cell))
  | [], h => by simp at h
  | (n, k0) :: r, h => by
    show ∃ k', List.lookup x ((if (k0 == NameKind.free && env.scope.kind == .function && env.kindOf n == some .cell) = true then (n, NameKind.cell) else (n, k0)) :: _) = some k' ∧ _
    cases hx : x == n with
    | true =>
      simp only [List.lookup_cons, hx] at h
      cases h
      by_cases hc : (k == NameKind.free && env.scope.kind == .function && env.kindOf n == some .cell) = true
      · rw [if_pos hc, List.lookup_cons, hx]
        refine ⟨_, rfl, .inr ⟨?_, rfl⟩⟩
        rw [Bool.and_eq_true, Bool.and_eq_true] at hc
        have := hc.1.1
        cases k <;> first | rfl | cases this
      · rw [if_neg hc, List.lookup_cons, hx]
        exact ⟨_, rfl, .inl rfl⟩
    | false =>
      simp only [List.lookup_cons, hx] at h
      obtain ⟨k', h1, h2⟩ := relabel_lookup (env := env) h
      refine ⟨k', ?_, h2⟩
      by_cases hc : (k0 == NameKind.free && env.scope.kind == .function && env.kindOf n == some .cell) = true
      · rw [if_pos hc, List.lookup_cons, hx]; exact h1
      · rw [if_neg hc, List.lookup_cons, hx]; exact h1
theorem ScOk.ofBlk {X : Cx} {s : Shared} {H : Hp} {scope : Scope} {C : Addr} {cl : List (Str × Addr)} {fp : List Addr} : ScOk scope (X.blk s H scope (compEnvC scope cl C X.env) fp) :=
  ⟨fun x k h => relabel_lookup h, fun x h => by
    show (scope.names.lookup x == some NameKind.cell) = true
    rw [h]; rfl⟩
section
variable {X : Cx} {c : Gc} {G : Calls} {f : Fr} {W : WX} {σ : St} {H H' : Hp} {env ds : List D} {vs : List V} {Q : VK} {fs : Nm} {sc : Scope}
theorem XOk.ofBlk (h : XOk X c G fs) {s : Shared} {scope : Scope} {cenv : Env} {fp : List Addr} : XOk (X.blk s H scope cenv fp) c G fs :=
  ⟨h.w, h.setn, h.fl, h.fa, h.mkc, h.mt, h.kls, h.sub, h.K, h.mg, h.calm, h.nd, h.un, h.cst, h.blt, h.tys, h.rng, h.fn⟩
/-- an item to a list that one holds -/
theorem SR.app {x : D} {acc : List D} {v : V} {p : Addr} {t : V} (S : SR c f σ H env (x :: .nd .own .lst acc :: ds) (v :: .ref p :: vs)) (hn : c.hb p = none) (hl : acc.length < 16777216) :
    ∃ us, H p = some (.lst us) ∧ us.length < sizeLine ∧ SR c f σ (upd H p (.lst (us ++ [v]))) env (.nd .own .lst (acc ++ [x]) :: ds) (.ref p :: vs) := by
  obtain ⟨Fa, Fn, mS, mT, S⟩ := S
  obtain ⟨v', r, m1, m2, e, h1, h2, hm⟩ := S.tmps
  injection e with e1 e2
  subst e1
  subst e2
  obtain ⟨v', r, n1, n2, e, g1, g2, gm⟩ := h2
  injection e with e1 e2
  subst e1
  subst e2
  obtain ⟨q, us, m', e, hr, at1, hc⟩ := g1
  cases e
  have hp1 : n1 p = m' p + 1 := by rw [hc p, if_pos rfl]
  have hone := S.one
  have at1 : H p = some (.lst us) := at1
  have fp : Fa p = none := (S.free p (by have := hm p; have := gm p; omega)).1
  have oth : ∀ {q : Addr} {k : Kd} {vs : List V}, q ≠ p → At c H q k vs → At c (upd H p (.lst (us ++ [v]))) q k vs := fun hq a => a.cong (upd_ne hq)
  have nz : ∀ q, mS q + m1 q + m' q + n2 q ≠ 0 → q ≠ p := fun q h e => by
    subst e
    have := hone q; have := hm q; have := gm q
    omega
  have lu : us.length < sizeLine := by
    rw [← hr.len]
    exact Nat.lt_of_lt_of_le hl (by decide)
  have hr' : Reps c Fa Fn (upd H p (.lst (us ++ [v]))) (acc ++ [x]) (us ++ [v]) fun a => m' a + m1 a := by
    have r1 := hr.to (H' := upd H p (.lst (us ++ [v]))) (fun q k vs h a => oth (nz q (by omega)) a) (Same.refl Fn) (Same.refl Fa)
    have r2 := h1.to (H' := upd H p (.lst (us ++ [v]))) (fun q k vs h a => oth (nz q (by omega)) a) (Same.refl Fn) (Same.refl Fa)
    exact r1.append (es := [x]) (us := [v]) ⟨v, [], m1, fun _ => 0, rfl, r2, ⟨rfl, fun _ => rfl⟩, fun _ => rfl⟩
  have hacc : Rep c Fa Fn (upd H p (.lst (us ++ [v]))) (.nd .own .lst (acc ++ [x])) (.ref p) (fun a => (m' a + m1 a) + if a = p then 1 else 0) := ⟨p, us ++ [v], _, rfl, hr', upd_same, fun _ => rfl⟩
  have hrest := g2.to (H' := upd H p (.lst (us ++ [v]))) (fun q k vs h a => oth (nz q (by omega)) a) (Same.refl Fn) (Same.refl Fa)
  have hsl := S.slots.to (H' := upd H p (.lst (us ++ [v]))) (fun q k vs h a => oth (nz q (by omega)) a) (Same.refl Fn) (Same.refl Fa)
  have cnt : ∀ a, ((m' a + m1 a) + if a = p then 1 else 0) + n2 a = mT a := fun a => by
    have := hm a; have := gm a; have := hc a
    omega
  have kp : ∀ a, (upd H p (.lst (us ++ [v]))) a = none → H a = none := fun a h => by
    by_cases e : a = p
    · subst e; rw [upd_same] at h; cases h
    · rw [upd_ne e] at h; exact h
  have hfM := (S.free p (by have := hm p; have := gm p; omega)).2
  refine ⟨us, at1, lu, Fa, Fn, mS, _, { S with slots := hsl, tmps := ⟨_, _, _, n2, rfl, hacc, hrest, fun _ => rfl⟩, one := fun a => ?_, free := fun a h => S.free a (by have := cnt a; omega), sub := fun a o h => ?_, dom := fun a h => S.dom a (kp a h), keep := fun a o h n => ?_, hbs := fun a o h => ?_, hbo := fun a h => ?_ }⟩
  · have := cnt a; have := hone a; show mS a + (((m' a + m1 a) + if a = p then 1 else 0) + n2 a) ≤ 1; omega
  · rw [upd_ne (fun e => by subst e; rw [fp] at h; cases h)]
    exact S.sub a o h
  · rw [upd_ne (fun e => by subst e; rcases hfM with z | z; (rw [z] at h; cases h); exact n z)]
    exact S.keep a o h n
  · rw [upd_ne (fun e => by subst e; rw [hn] at h; cases h)]
    exact S.hbs a o h
  · rw [upd_ne (nz a (by omega))]
    exact S.hbo a h
theorem But.wipes {is : List Nat} {σ : St} : But is σ (L2.wipe σ is) := ⟨wipe_length σ is, fun j hj => by rw [wipe_get, if_neg (fun z => hj z.1)]⟩
theorem But.trans {is : List Nat} {α : Type} {σ σ' σ'' : List α} (h : But is σ σ') (h' : But is σ' σ'') : But is σ σ'' := ⟨h'.1.trans h.1, fun j hj => (h'.2 j hj).trans (h.2 j hj)⟩
theorem SR.hbn (S : SR c f σ H env ds vs) {p : Addr} (h : H p = none) : c.hb p = none := by
  obtain ⟨Fa, Fn, mS, mT, S⟩ := S
  exact S.hbs.free h
/-- an item comes -/
theorem SR.item {srcs items : List D} {us : List V} {J : It} (hw : WalkR c srcs us items J) (ho : D.alls notOwn srcs = true) (hlen : srcs.length = us.length) {a : D} {b : V} (S : SR c f σ H env (a :: (srcs ++ ds)) (b :: (us ++ vs))) {i : Nat} :
    (items.length = i → J.stop i H) ∧ ∀ d, items[i]? = some d → J.go i H ∧ ∀ x H', J.yld i H x H' → Same H H' ∧ SR c f σ H' env (d :: a :: (srcs ++ ds)) (x :: b :: (us ++ vs)) := by
  obtain ⟨Fa, Fn, mS, mT, S⟩ := S
  have ht := S.tmps
  obtain ⟨v', r, m1, m2, e, h1, h2, hm⟩ := ht
  injection e with e1 e2
  subst e1
  subst e2
  obtain ⟨w1, w2, n1, n2, ee, g1, g2, gm⟩ := h2.split
  obtain ⟨rfl, rfl⟩ := List.append_inj ee (by rw [← g1.len, hlen])
  obtain ⟨k1, k2⟩ := hw Fa Fn H S.sub ⟨S.subn, S.hbs⟩ (g1.zero (g1.noOwn ho)) i
  refine ⟨k1, fun d hd => ⟨(k2 d hd).1, fun x H' y => ?_⟩⟩
  obtain ⟨s, m', hr, hm'⟩ := (k2 d hd).2 x H' y
  exact ⟨s, Fa, Fn, mS, _, SRc.res (ds := []) (vs := []) (m1 := fun _ => 0) (m2 := mT) S S.tmps (fun a => (Nat.zero_add _).symm) s hr (fun a => by have := hm' a; omega)⟩
/-- turned tags own nothing -/
theorem FzOk.notOwn (h : FzOk G f) : ∀ ds : List D, D.alls notOwn (D.tags (ownTo G.frz) ds) = true := fun ds => by
  rw [D.alls_tags]
  refine D.alls_true ds fun t => ?_
  rcases h with ⟨e, _⟩ | e <;> rw [e] <;> cases t <;> rfl
theorem FzOk.clean (h : FzOk G f) {ds : List D} (hc : D.alls notBor ds = true) : D.alls notBor (D.tags (ownTo G.frz) ds) = true := by
  rw [D.alls_tags]
  refine D.alls_imp (fun t => ?_) ds hc
  rcases h with ⟨e, _⟩ | e <;> rw [e] <;> cases t <;> decide
theorem drop_cons {α : Type} {l : List α} {i : Nat} {a : α} (h : l[i]? = some a) : l.drop i = a :: l.drop (i + 1) := by
  obtain ⟨h1, h2⟩ := List.getElem?_eq_some_iff.mp h
  rw [← h2]
  exact List.drop_eq_getElem_cons h1
theorem own_map (N : List Str) (vs : List Nat) : (vs.map fun i => (N.getD i "", i)).map (·.2) = vs := by
  rw [List.map_map]
  exact List.map_id vs
theorem R.bind_assoc {α β γ : Type} {r : R α} {g : α → R β} {k : β → R γ} : (r.bind g).bind k = r.bind fun a => (g a).bind k := by cases r <;> rfl
theorem R.if_bind {α β : Type} {b : Prop} [Decidable b] {r s : R α} {k : α → R β} : (if b then r else s).bind k = if b then r.bind k else s.bind k := by split <;> rfl
theorem SR.nip {srcs : List D} {us : List V} {a : D} {b : V} (S : SR c f σ H env (a :: (srcs ++ ds)) (b :: (us ++ vs))) (hl : srcs.length = us.length) : SR c f σ H env (a :: ds) (b :: vs) := by
  obtain ⟨Fa, Fn, m1, sa, sn, k1, fin⟩ := SR.use (d1 := a :: srcs) (v1 := b :: us) (rest := ds) (rv := vs) S (by rw [List.length_cons, List.length_cons, hl])
  obtain ⟨v, r, n1, n2, e, g1, g2, gm⟩ := k1
  injection e with e1 e2
  subst e1
  exact fin a b H n1 (Same.refl _) g1 fun q => by have := gm q; omega
/-- the test of a comprehension -/
def wpC (X : Cx) : List Expr → TT
  | [a] => wpT X a
  | _ => tYes
theorem Wp.noexc {α : Type} {r : R α} {g : α → R (D × List D)} (h : Wp c f W σ H ds vs ((R.noexc r).bind g) Q) : ∃ a, r = .ok a ∧ Wp c f W σ H ds vs (g a) Q := by
  cases r with
  | ok a => exact ⟨a, rfl, h⟩
  | exc x fl e => exact h.elim
  | stuck => exact h.elim
theorem comp_all (hX : XOk X c G fs) (hsc : ScOk sc X) (hfz : FzOk G f) {ws : List Nat} {tg : T} {k : Ik} {its cond : List E} {elt : E} {el tga iter : Expr} {ifs : List Expr} {scope : Scope} {pos : Pos}
    (hb : blkC X.N sc scope (ws.map fun i => (X.N.getD i "", i)) = true) (htg : tg.mat scope X.N tga = true) (hsl : tg.slots.all (fun i => ws.contains i) = true) (hm : matIt fs sc X.N tg its k iter = true)
    (hA : ∀ as, matL fs sc X.N false its as = true → PAc X c G f W its as) (hE : ∀ e a, its = [e] → e.mat fs sc X.N false a = true → PEc X c G f W e a)
    (hset : ∀ es k p, iter ≠ .Set es k p)
    (hcond : ∀ X', X'.N = X.N → XOk X' c G fs → ScOk scope X' → (cond = [] ∧ ifs = []) ∨ ∃ e a, cond = [e] ∧ ifs = [a] ∧ PTc X' c G f (fun _ _ _ _ => False) e a)
    (helt : ∀ X', X'.N = X.N → XOk X' c G fs → ScOk scope X' → PEc X' c G f (fun _ _ _ _ => False) elt el)
    (hp : elt.pure = true) (hpc : pureL cond = true) :
    ∃ te : TE, PE X (.ListComp el [⟨tga, iter, ifs, 0⟩] scope pos) te ∧ (∀ (i : Nat) (y : Str) (py spos : Pos), X.N[i]? = some y → X.env.scope.names.lookup y = some .local → swapsWith (.ListComp el [⟨tga, iter, ifs, 0⟩] scope pos) (some (.Name y py)) spos.line X.env = pure true →
      PS X (.Assign [.Name y py] (.ListComp el [⟨tga, iter, ifs, 0⟩] scope pos) spos) (tAsg te (gName i))) ∧
    ∀ σ H env ds vs Q, SR c f σ H env ds vs → Wp c f W σ H ds vs ((E.comp ws tg k its cond elt).sem G env) Q → te σ H Q := by
  have hfs : ∀ x, foldedSetIterable iter X.env x = pure x := fun x => by
    cases iter <;> first | rfl | exact absurd rfl (hset _ _ _)
  have hg : ∀ (s : Shared) (H : Hp) (C : Addr) (cl : List (Str × Addr)) (fp : List Addr), PG (X.blk s H scope (compEnvC scope cl C X.env) fp) tga (tgG c.K tg) := fun s H C cl fp => tg_pg (X := X.blk s H scope (compEnvC scope cl C X.env) fp) hX.ofBlk ScOk.ofBlk htg
  have hts : ∀ (s : Shared) (H : Hp) (C : Addr) (cl : List (Str × Addr)) (fp : List Addr), PTs (X.blk s H scope (compEnvC scope cl C X.env) fp) ifs (fun σ H Q => ∀ s H0 C cl fp, wpC (X.blk s H0 scope (compEnvC scope cl C X.env) fp) ifs σ H Q) := fun s H C cl fp => by
    rcases hcond (X.blk s H scope (compEnvC scope cl C X.env) fp) rfl hX.ofBlk ScOk.ofBlk with ⟨_, e⟩ | ⟨_, a, _, e, _⟩
    · subst e
      exact ⟨fun pins s' σ H' Q I h' => (pts_nil.run pins s' σ H' Q I (h' s H C cl fp))⟩
    · subst e
      exact ⟨fun pins s' σ H' Q I h' => ((pts_one wpT.pt).run pins s' σ H' Q I (h' s H C cl fp))⟩
  have he : ∀ (s : Shared) (H : Hp) (C : Addr) (cl : List (Str × Addr)) (fp : List Addr), PE (X.blk s H scope (compEnvC scope cl C X.env) fp) el (fun σ H Q => ∀ s H0 C cl fp, wpE (X.blk s H0 scope (compEnvC scope cl C X.env) fp) el σ H Q) := fun s H C cl fp =>
    ⟨fun pins s' σ H' Q I h => h s H C cl fp pins s' I⟩
  refine ⟨_, pe_lc hX.calm hX.nd piAny (hsc.blk hb) hg hts he hfs, fun i y py spos hy hyl hsw => ps_setLc hX.calm hX.nd hy hyl hsw piAny (hsc.blk hb) hg hts he hfs, fun σ H env ds vs Q S h => ?_⟩
  rw [E.sem] at h
  have htup : tg.isTp = true → ∃ es n p, tga = .Tuple es n p := fun e => by
    cases tg with
    | nm i => cases e
    | tp is => cases tga <;> first | exact ⟨_, _, _, rfl⟩ | cases htg
  show wiAny X tga iter σ H _
  refine PI_ok hX hsc hfz hm htup hA hE S ?_
  rw [own_map]
  cases z : semL G its env with
  | exc x fl e => rw [z] at h; exact h
  | stuck => rw [z] at h; exact h
  | ok p =>
  rw [z] at h
  have h : Wp c f W σ H ds vs (if (D.alls notBor p.1 && ws.all (fun i => (getL p.2 i).isNone)) = true then
      (R.of (itemsOf k (D.tags (ownTo G.frz) p.1))).bind fun ds =>
        (compL (fun env1 => (semC G cond env1)) (fun env1 => (elt.sem G env1)) tg p.2 ds []).bind fun acc => .ok (.nd .own .lst acc, p.2)
    else .stuck) Q := h
  by_cases hc : (D.alls notBor p.1 && ws.all (fun i => (getL p.2 i).isNone)) = true
  case neg => rw [if_neg hc] at h; exact h.elim
  rw [if_pos hc] at h
  rw [Bool.and_eq_true, List.all_eq_true] at hc
  have hu : ∀ i ∈ ws, getL p.2 i = none := fun i hi => by
    have := hc.2 i hi
    rwa [Option.isNone_iff_eq_none] at this
  cases z2 : itemsOf k (D.tags (ownTo G.frz) p.1) with
  | none => rw [z2] at h; exact h.elim
  | some items =>
  rw [z2, R.of_some, R.bind_ok] at h
  refine ⟨items, z2, fun us H1 J s1 S1 hl1 _ hW L hL => ?_⟩
  have hW : WalkR c (D.tags (ownTo G.frz) p.1) us items J := hW c.hb
  have hlen : (D.tags (ownTo G.frz) p.1).length = us.length := by rw [D.tags_map, List.length_map, hl1]
  have hHL : H L = none := s1.free hL
  have hLb : c.hb L = none := S.hbn hHL
  have hno := hfz.notOwn p.1
  -- the loop
  refine ⟨fun i m H3 => m = items.length - i ∧ i ≤ items.length ∧ ∃ acc, Same H H3 ∧ SR c f (wipe σ ws) H3 p.2 (.nd .own .lst acc :: (D.tags (ownTo G.frz) p.1 ++ ds)) (.ref L :: (us ++ vs)) ∧
    Wp c f W σ H ds vs ((compL (fun env1 => (semC G cond env1)) (fun env1 => (elt.sem G env1)) tg p.2 (items.drop i) acc).bind fun acc => .ok (.nd .own .lst acc, p.2)) Q, ⟨items.length, by simp, Nat.zero_le _, [], ?_, ?_, h⟩, ?_⟩
  · exact s1.trans (same_upd hL)
  · have S2 : SR c f (wipe σ ws) H1 (wipeD p.2 ws) (D.tags (ownTo G.frz) p.1 ++ ds) (us ++ vs) := S1.drops ws
    rw [But.wipeD But.refl hu] at S2
    obtain ⟨Fa, Fn, mS, mT, S2⟩ := S2
    exact ⟨Fa, Fn, mS, _, SRc.res (ds := []) (vs := []) (m1 := fun _ => 0) (m2 := mT) S2 S2.tmps (fun a => (Nat.zero_add _).symm) (same_upd hL) (Rep.mkl (xs := []) (us := []) (m := fun _ => 0) ⟨rfl, fun _ => rfl⟩ hL) (fun a => by have := @nwc_new H1 L a hL; show 0 + _ ≤ 0 + _; omega)⟩
  · rintro i m H3 ⟨rfl, hi, acc, s3, S3, h3⟩
    obtain ⟨w1, w2⟩ := SR.item hW hno hlen S3 (i := i)
    by_cases hlt : i < items.length
    case neg =>
      refine .inl ⟨w1 (by omega), ?_⟩
      rw [List.drop_eq_nil_of_le (by omega)] at h3
      have h3 : Wp c f W σ H ds vs (.ok (.nd .own .lst acc, p.2)) Q := h3
      exact h3 (.ref L) H3 s3 (SR.nip (SR.wiped S3) hlen)
    case pos =>
      have hd : items[i]? = some items[i] := List.getElem?_eq_getElem hlt
      rw [drop_cons hd, compL] at h3
      obtain ⟨go, yl⟩ := w2 _ hd
      by_cases hn : (!tg.nown items[i]) = true
      case pos => rw [if_pos hn] at h3; exact h3.elim
      rw [if_neg hn] at h3
      have hn' : tg.nown items[i] = true := by
        cases e : tg.nown items[i] with
        | true => rfl
        | false => rw [e] at hn; exact absurd rfl hn
      rw [R.bind_assoc] at h3
      obtain ⟨env1, e1, h3⟩ := Wp.noexc h3
      rw [R.bind_assoc] at h3
      obtain ⟨b, e2, h3⟩ := Wp.noexc h3
      refine .inr ⟨go, fun H' => ∃ acc, Same H H' ∧ SR c f (wipe σ ws) H' p.2 (.nd .own .lst acc :: (D.tags (ownTo G.frz) p.1 ++ ds)) (.ref L :: (us ++ vs)) ∧
        Wp c f W σ H ds vs ((compL (fun env1 => (semC G cond env1)) (fun env1 => (elt.sem G env1)) tg p.2 (items.drop (i + 1)) acc).bind fun acc => .ok (.nd .own .lst acc, p.2)) Q, fun H' ⟨acc', a1, a2, a3⟩ => ⟨_, by omega, rfl, hlt, acc', a1, a2, a3⟩, fun x H4 y4 => ?_⟩
      obtain ⟨s4, S4⟩ := yl x H4 y4
      refine T_ok S4 e1 (.inl hn') fun σ2 S5 b1 b2 => ?_
      have hin : ∀ i ∈ tg.slots, i ∈ ws := fun i hi => by
        rw [List.all_eq_true] at hsl
        have := hsl i hi
        rwa [List.contains_iff_mem] at this
      have b1 := b1.mono hin
      have b2 := b2.mono hin
      have hw2 : wipe σ2 ws = wipe σ ws := by rw [(But.trans But.wipes b1 : But ws σ σ2).wipe]
      have back : ∀ {H' : Hp} {ds' : List D} {vs' : List V}, SR c f σ2 H' env1 ds' vs' → SR c f (wipe σ ws) H' p.2 ds' vs' := fun {H' ds' vs'} S' => by
        have := SR.drops S' ws
        rw [hw2, b2.wipeD hu] at this
        exact this
      refine ⟨hw2, ?_⟩
      -- the test
      have tst : ∀ (P : Bool → Hp → Prop), (∀ H5, Same H4 H5 → SR c f σ2 H5 env1 (.nd .own .lst acc :: (D.tags (ownTo G.frz) p.1 ++ ds)) (.ref L :: (us ++ vs)) → P b H5) → ∀ s H0 C cl fp, wpC (X.blk s H0 scope (compEnvC scope cl C X.env) fp) ifs σ2 H4 P := fun P k s H0 C cl fp => by
        rcases hcond (X.blk s H0 scope (compEnvC scope cl C X.env) fp) rfl hX.ofBlk ScOk.ofBlk with ⟨e3, e4⟩ | ⟨e, a, e3, e4, ht⟩
        · subst e3
          subst e4
          rw [semC] at e2
          cases e2
          exact k H4 (Same.refl _) S5
        · subst e3
          subst e4
          show wpT _ a σ2 H4 P
          refine ht σ2 H4 env1 _ _ P S5 ?_
          rw [semC] at e2
          obtain ⟨q, e5, e6⟩ := R.inv e2
          rw [e5]
          have hpe : e.pure = true := by
            rw [pureL, Bool.and_eq_true] at hpc
            exact hpc.1
          have e7 := E.pure_ok G e _ _ hpe e5
          split at e6
          · rename_i b' e8
            cases e6
            refine ⟨_, e8, fun H' s' S' => k H' s' (e7 ▸ S')⟩
          · cases e6
      refine tst _ fun H5 s5 S6 => ?_
      cases b with
      | false =>
        rw [if_neg (by decide)] at h3 ⊢
        exact ⟨acc, ((s3.trans s4).trans s5), back S6, h3⟩
      | true =>
        rw [if_pos rfl] at h3 ⊢
        rw [R.bind_assoc] at h3
        obtain ⟨r, e3, h3⟩ := Wp.noexc h3
        by_cases hcl : (r.1.clean && decide (acc.length < 16777216)) = true
        case neg => rw [if_neg hcl] at h3; exact h3.elim
        rw [if_pos hcl] at h3
        rw [Bool.and_eq_true, decide_eq_true_eq] at hcl
        intro s H0 C cl fp
        refine helt (X.blk s H0 scope (compEnvC scope cl C X.env) fp) rfl hX.ofBlk ScOk.ofBlk σ2 H5 env1 _ _ _ S6 ?_
        rw [e3]
        intro y H6 s6 S7
        rw [E.pure_ok G elt _ _ hp e3] at S7
        obtain ⟨us', a1, a2, a3⟩ := SR.app (t := y) S7 hLb hcl.2
        refine ⟨us', a1, a2, acc ++ [r.1], ?_, back a3, h3⟩
        have q := (((s3.trans s4).trans s5).trans s6)
        intro a o ho
        rw [upd_ne (fun e => by subst e; rw [hHL] at ho; cases ho)]
        exact q a o ho
end
end VI

set_option maxHeartbeats 4000000
namespace VI
open PySem PySem.Spec L2
open PyProof.Rows hiding St

section
variable {c : Gc} {G : Calls} {f : Fr} {fs : Nm}
theorem mat_nop {sc : Scope} {N : List Str} {t : Bool} {a : Expr} (h : E.mat fs sc N t .nop a = true) : False := by
  cases a <;> simp [E.mat] at h
theorem bnd_some {sc : Scope} {N : List Str} {e : E} {a : Expr} (h : e.mat fs sc N false a = true) : e ≠ .nop := fun q => by
  subst q
  exact mat_nop h
def EOk (c : Gc) (G : Calls) (f : Fr) (fs : Nm) (e : E) : Prop := ∀ (X : Cx) (W : WX) (sc : Scope) (a : Expr), XOk X c G fs → ScOk sc X → Takes X W →
  (e.mat fs sc X.N false a = true → PEc X c G f W e a) ∧ (e.mat fs sc X.N true a = true → PTc X c G f W e a)
def LOk (c : Gc) (G : Calls) (f : Fr) (fs : Nm) (es : List E) : Prop := ∀ (X : Cx) (W : WX) (sc : Scope) (as : List Expr), XOk X c G fs → ScOk sc X → Takes X W →
  (matL fs sc X.N false es as = true → PAc X c G f W es as ∧ (∀ o, PBc X c G f W o es as) ∧ ∀ e a, es = [e] → as = [a] → PEc X c G f W e a) ∧
  (matL fs sc X.N true es as = true → (∀ o, PBTc X c G f W o es as) ∧ ∀ e a, es = [e] → as = [a] → PTc X c G f W e a)
theorem PBc.nil {X : Cx} {W : WX} {o : BoolOp} : PBc X c G f W o [] [] := fun pos σ H env ds vs Q S h => by
  rw [semB] at h; exact h.elim
theorem PBTc.nil {X : Cx} {W : WX} {o : BoolOp} : PBTc X c G f W o [] [] := fun pos σ H env ds vs Q S h => by
  rw [semB] at h; exact h.elim
theorem LOk.nil : LOk c G f fs [] := fun X W sc as hX hsc tk => by
  cases as with
  | nil => exact ⟨fun _ => ⟨PAc.nil, fun o => PBc.nil, fun _ _ h => by cases h⟩, fun _ => ⟨fun o => PBTc.nil, fun _ _ h => by cases h⟩⟩
  | cons a as => exact ⟨fun h => by simp [matL] at h, fun h => by simp [matL] at h⟩
theorem LOk.cons {e : E} {es : List E} (he : EOk c G f fs e) (hs : LOk c G f fs es) : LOk c G f fs (e :: es) := fun X W sc as hX hsc tk => by
  cases as with
  | nil => exact ⟨fun h => by simp [matL] at h, fun h => by simp [matL] at h⟩
  | cons a as =>
    constructor
    · intro h
      rw [matL, Bool.and_eq_true] at h
      have h1 := (he X W sc a hX hsc tk).1 h.1
      have h2 := (hs X W sc as hX hsc tk).1 h.2
      refine ⟨PAc.cons h1 h2.1 (mat_noStar h.1), fun o => ?_, fun e' a' q q' => by cases q; cases q'; exact h1⟩
      cases es with
      | nil =>
        cases as with
        | nil => exact PBc.one h1
        | cons _ _ => simp [matL] at h
      | cons e2 es =>
        cases as with
        | nil => simp [matL] at h
        | cons a2 as => exact PBc.cons h1 (h2.2.1 o)
    · intro h
      rw [matL, Bool.and_eq_true] at h
      have h1 := (he X W sc a hX hsc tk).2 h.1
      have h2 := (hs X W sc as hX hsc tk).2 h.2
      refine ⟨fun o => ?_, fun e' a' q q' => by cases q; cases q'; exact h1⟩
      cases es with
      | nil =>
        cases as with
        | nil => exact PBTc.one h1
        | cons _ _ => simp [matL] at h
      | cons e2 es =>
        cases as with
        | nil => simp [matL] at h
        | cons a2 as => exact PBTc.cons h1 (h2.1 o)
theorem EOk.lit {d : D} : EOk c G f fs (.lit d) := fun X W sc a hX hsc tk => by
  constructor <;> intro h
  · cases a <;> simp only [E.mat, Bool.false_eq_true, Bool.not_false, Bool.true_and] at h
    exact PEc.lit hX h
  · cases a <;> simp [E.mat] at h
theorem EOk.loc (hfz : FzOk G f) {i : Nat} {m : Md} : EOk c G f fs (.loc i m) := fun X W sc a hX hsc tk => by
  constructor <;> intro h
  · cases a <;> simp only [E.mat, Bool.false_eq_true, Bool.not_false, Bool.true_and] at h
    rw [Bool.and_eq_true] at h
    refine PEc.loc hX hsc hfz (fun e => ?_) h.2
    subst e
    exact absurd h.1 (by decide)
  · cases a <;> simp [E.mat] at h
theorem EOk.glb {x : Str} : EOk c G f fs (.glb x) := fun X W sc a hX hsc tk => by
  constructor <;> intro h
  · cases a <;> simp only [E.mat, Bool.false_eq_true, Bool.not_false, Bool.true_and] at h
    rw [Bool.and_eq_true, decide_eq_true_eq] at h
    obtain ⟨rfl, h2⟩ := h
    exact PEc.glb hX hsc h2
  · cases a <;> simp [E.mat] at h
theorem EOk.bin {o : Operator} {x y : E} (hx : EOk c G f fs x) (hy : EOk c G f fs y) : EOk c G f fs (.bin o x y) := fun X W sc a hX hsc tk => by
  constructor <;> intro h
  · cases a <;> simp only [E.mat, Bool.false_eq_true, Bool.not_false, Bool.true_and] at h
    simp only [Bool.and_eq_true, decide_eq_true_eq] at h
    obtain ⟨⟨rfl, h2⟩, h3⟩ := h
    exact PEc.bin hX ((hx X W sc _ hX hsc tk).1 h2) ((hy X W sc _ hX hsc tk).1 h3)
  · cases a <;> simp [E.mat] at h
theorem EOk.cmp {o : CmpOp} {x y : E} (hx : EOk c G f fs x) (hy : EOk c G f fs y) : EOk c G f fs (.cmp o x y) := fun X W sc a hX hsc tk => by
  constructor <;> intro h
  all_goals
    cases a <;> try (simp only [E.mat, Bool.false_eq_true] at h; done)
    rename_i l ops rs pos
    match ops, rs, h with
    | [p], [r], h =>
      simp only [E.mat, Bool.and_eq_true, decide_eq_true_eq] at h
      obtain ⟨⟨rfl, h2⟩, h3⟩ := h
      first
        | exact PEc.cmp hX ((hx X W sc _ hX hsc tk).1 h2) ((hy X W sc _ hX hsc tk).1 h3) (mat_set h3)
        | exact PTc.cmp hX ((hx X W sc _ hX hsc tk).1 h2) ((hy X W sc _ hX hsc tk).1 h3) (mat_set h3)
    | [], _, h => simp [E.mat] at h
    | _ :: _ :: _, _, h => simp [E.mat] at h
    | [_], [], h => simp [E.mat] at h
    | [_], _ :: _ :: _, h => simp [E.mat] at h
theorem EOk.cm2 {o p : CmpOp} {x y z : E} (hx : EOk c G f fs x) (hy : EOk c G f fs y) (hz : EOk c G f fs z) : EOk c G f fs (.cm2 o p x y z) := fun X W sc a hX hsc tk => by
  constructor <;> intro h
  all_goals
    cases a <;> try (simp only [E.mat, Bool.false_eq_true] at h; done)
    rename_i l ops rs pos
    match ops, rs, h with
    | [o', p'], [r, q], h =>
      simp only [E.mat, Bool.and_eq_true, decide_eq_true_eq] at h
      obtain ⟨⟨⟨⟨rfl, rfl⟩, h2⟩, h3⟩, h4⟩ := h
      first
        | exact PEc.cm2 hX ((hx X W sc _ hX hsc tk).1 h2) ((hy X W sc _ hX hsc tk).1 h3) ((hz X W sc _ hX hsc tk).1 h4) (mat_set h4)
        | exact PTc.cm2 hX ((hx X W sc _ hX hsc tk).1 h2) ((hy X W sc _ hX hsc tk).1 h3) ((hz X W sc _ hX hsc tk).1 h4) (mat_set h4)
    | [], _, h => simp [E.mat] at h
    | [_], _, h => simp [E.mat] at h
    | _ :: _ :: _ :: _, _, h => simp [E.mat] at h
    | [_, _], [], h => simp [E.mat] at h
    | [_, _], [_], h => simp [E.mat] at h
    | [_, _], _ :: _ :: _ :: _, h => simp [E.mat] at h
theorem EOk.bop {o : BoolOp} {es : List E} (hs : LOk c G f fs es) : EOk c G f fs (.bop o es) := fun X W sc a hX hsc tk => by
  constructor <;> intro h
  · cases a <;> simp only [E.mat, Bool.false_eq_true, Bool.and_eq_true, decide_eq_true_eq] at h
    obtain ⟨rfl, h2⟩ := h
    intro σ H env ds vs Q S q
    rw [E.sem] at q
    exact ((hs X W sc _ hX hsc tk).1 h2).2.1 o _ σ H env ds vs Q S q
  · cases a <;> simp only [E.mat, Bool.false_eq_true, Bool.and_eq_true, decide_eq_true_eq] at h
    obtain ⟨rfl, h2⟩ := h
    intro σ H env ds vs Q S q
    rw [E.sem] at q
    exact wpT.of (PW.pt wpW.pw) (((hs X W sc _ hX hsc tk).2 h2).1 o _ σ H env ds vs Q S q)
theorem EOk.not {x : E} (hx : EOk c G f fs x) : EOk c G f fs (.not x) := fun X W sc a hX hsc tk => by
  constructor <;> intro h
  all_goals
    cases a <;> try (simp only [E.mat, Bool.false_eq_true] at h; done)
    rename_i o b pos
    cases o <;> simp only [E.mat, Bool.false_eq_true] at h
    first
      | exact PEc.not ((hx X W sc _ hX hsc tk).1 h)
      | exact PTc.not ((hx X W sc _ hX hsc tk).2 h)
theorem EOk.tru {x : E} (hx : EOk c G f fs x) : EOk c G f fs (.tru x) := fun X W sc a hX hsc tk => by
  constructor <;> intro h
  · rw [E.mat] at h
    simp at h
  · rw [E.mat] at h
    simp only [Bool.true_and, Bool.and_eq_true] at h
    exact PTc.tru hX ((hx X W sc _ hX hsc tk).1 h.2) h.1
theorem EOk.neg {x : E} (hx : EOk c G f fs x) : EOk c G f fs (.neg x) := fun X W sc a hX hsc tk => by
  constructor <;> intro h
  · cases a <;> try (simp only [E.mat, Bool.false_eq_true] at h; done)
    rename_i o b pos
    cases o <;> simp only [E.mat, Bool.false_eq_true, Bool.not_false, Bool.true_and] at h
    exact PEc.neg ((hx X W sc _ hX hsc tk).1 h)
  · cases a <;> try (simp only [E.mat, Bool.false_eq_true] at h; done)
    rename_i o b pos
    cases o <;> simp [E.mat] at h
theorem EOk.ife {x y z : E} (hx : EOk c G f fs x) (hy : EOk c G f fs y) (hz : EOk c G f fs z) : EOk c G f fs (.ife x y z) := fun X W sc a hX hsc tk => by
  constructor <;> intro h
  · cases a <;> simp only [E.mat, Bool.false_eq_true, Bool.not_false, Bool.true_and] at h
    simp only [Bool.and_eq_true] at h
    exact PEc.ife ((hx X W sc _ hX hsc tk).2 h.1.1) ((hy X W sc _ hX hsc tk).1 h.1.2) ((hz X W sc _ hX hsc tk).1 h.2)
  · cases a <;> simp [E.mat] at h
theorem EOk.tup {es : List E} (hs : LOk c G f fs es) : EOk c G f fs (.tup es) := fun X W sc a hX hsc tk => by
  constructor <;> intro h
  · cases a <;> simp only [E.mat, Bool.false_eq_true, Bool.not_false, Bool.true_and] at h
    exact PEc.tup ((hs X W sc _ hX hsc tk).1 h).1
  · cases a <;> simp [E.mat] at h
theorem EOk.lst {es : List E} (hs : LOk c G f fs es) : EOk c G f fs (.lst es) := fun X W sc a hX hsc tk => by
  constructor <;> intro h
  · cases a <;> simp only [E.mat, Bool.false_eq_true, Bool.not_false, Bool.true_and] at h
    exact PEc.lst ((hs X W sc _ hX hsc tk).1 h).1
  · cases a <;> simp [E.mat] at h
theorem EOk.ix {x y : E} (hx : EOk c G f fs x) (hy : EOk c G f fs y) : EOk c G f fs (.ix x y) := fun X W sc a hX hsc tk => by
  constructor <;> intro h
  · cases a <;> simp only [E.mat, Bool.false_eq_true, Bool.not_false, Bool.true_and] at h
    simp only [Bool.and_eq_true] at h
    exact PEc.ix hX ((hx X W sc _ hX hsc tk).1 h.1) ((hy X W sc _ hX hsc tk).1 h.2) (mat_ix h.2)
  · cases a <;> simp [E.mat] at h
theorem mat_slc {sc : Scope} {N : List Str} {x lo hi : E} {a : Expr} {t : Bool} (h : E.mat fs sc N t (.slc x lo hi) a = true) : ∃ b l h p q, a = .Subscript b (.Slice l h none p) q ∧ t = false ∧ x.mat fs sc N false b = true ∧
      (match (generalizing := false) l with | none => (match (generalizing := false) lo with | .nop => true | _ => false) | some l => lo.mat fs sc N false l) = true ∧ (match (generalizing := false) h with | none => (match (generalizing := false) hi with | .nop => true | _ => false) | some h => hi.mat fs sc N false h) = true := by
    cases a <;> try (simp only [E.mat, Bool.false_eq_true] at h; done)
    rename_i b s q
    cases s <;> try (simp only [E.mat, Bool.false_eq_true] at h; done)
    rename_i l u st p
    cases st <;> simp only [E.mat, Bool.false_eq_true] at h
    rw [Bool.and_eq_true, Bool.and_eq_true, Bool.and_eq_true] at h
    obtain ⟨⟨⟨h1, h2⟩, h3⟩, h4⟩ := h
    refine ⟨b, l, u, p, q, rfl, by simpa using h1, h2, ?_, ?_⟩
    · cases l <;> exact h3
    · cases u <;> exact h4
theorem mat_bnd {X : Cx} {W : WX} {sc : Scope} (hX : XOk X c G fs) (hsc : ScOk sc X) (tk : Takes X W) {e : E} {l : Option Expr} (he : EOk c G f fs e) (h : (match (generalizing := false) l with | none => (match (generalizing := false) e with | .nop => true | _ => false) | some l => e.mat fs sc X.N false l) = true) : PBnd X c G f W e l := by
    cases l with
    | none =>
      refine .inl ⟨?_, rfl⟩
      clear he
      cases e <;> first | rfl | cases h
    | some b => exact .inr ⟨b, bnd_some h, rfl, (he X W sc b hX hsc tk).1 h⟩
theorem EOk.slc {x lo hi : E} (hx : EOk c G f fs x) (hl : EOk c G f fs lo) (hh : EOk c G f fs hi) : EOk c G f fs (.slc x lo hi) := fun X W sc a hX hsc tk => by
  constructor <;> intro h
  · obtain ⟨b, l, u, p, q, rfl, _, h2, h3, h4⟩ := mat_slc h
    exact PEc.slc hX ((hx X W sc _ hX hsc tk).1 h2) (mat_bnd hX hsc tk hl h3) (mat_bnd hX hsc tk hh h4)
  · obtain ⟨_, _, _, _, _, _, h, _⟩ := mat_slc h
    cases h
theorem EOk.call (hfz : FzOk G f) {x : Str} {es : List E} (hs : LOk c G f fs es) : EOk c G f fs (.call x es) := fun X W sc a hX hsc tk => by
  have key : ∀ t, E.mat fs sc X.N t (.call x es) a = true → ∃ b bs p q, a = .Call (.Name x p) (b :: bs) [] q ∧ t = false ∧ x ∈ fs.fs ∧ glC sc x = true ∧ matL fs sc X.N false es (b :: bs) = true := fun t h => by
    cases a <;> try (simp only [E.mat, Bool.false_eq_true] at h; done)
    rename_i fn as kws q
    cases fn <;> try (simp only [E.mat, Bool.false_eq_true] at h; done)
    cases as <;> try (simp only [E.mat, Bool.false_eq_true] at h; done)
    cases kws <;> simp only [E.mat, Bool.false_eq_true] at h
    simp only [Bool.and_eq_true, decide_eq_true_eq] at h
    obtain ⟨⟨⟨⟨h1, rfl⟩, h3⟩, h4⟩, h5⟩ := h
    exact ⟨_, _, _, _, rfl, by simpa using h1, by simpa using h3, h4, h5⟩
  constructor <;> intro h
  · obtain ⟨b, bs, p, q, rfl, _, h2, h3, h4⟩ := key false h
    exact PEc.call hX hsc hfz tk ((hs X W sc _ hX hsc tk).1 h4).1 h2 h3 (matL_star h4)
  · obtain ⟨_, _, _, _, _, h, _⟩ := key true h
    cases h
theorem EOk.blt {x : Bi} {es : List E} (hs : LOk c G f fs es) : EOk c G f fs (.blt x es) := fun X W sc a hX hsc tk => by
  have key : ∀ t, E.mat fs sc X.N t (.blt x es) a = true → ∃ b bs p q, a = .Call (.Name (biName x) p) (b :: bs) [] q ∧ t = false ∧ glC sc (biName x) = true ∧ matL fs sc X.N false es (b :: bs) = true := fun t h => by
    cases a <;> try (simp only [E.mat, Bool.false_eq_true] at h; done)
    rename_i fn as kws q
    cases fn <;> try (simp only [E.mat, Bool.false_eq_true] at h; done)
    cases as <;> try (simp only [E.mat, Bool.false_eq_true] at h; done)
    cases kws <;> simp only [E.mat, Bool.false_eq_true] at h
    simp only [Bool.and_eq_true, decide_eq_true_eq] at h
    obtain ⟨⟨⟨h1, rfl⟩, h4⟩, h5⟩ := h
    exact ⟨_, _, _, _, rfl, by simpa using h1, h4, h5⟩
  constructor <;> intro h
  · obtain ⟨b, bs, p, q, rfl, _, h3, h4⟩ := key false h
    exact PEc.blt hX hsc ((hs X W sc _ hX hsc tk).1 h4).1 h3 (matL_star h4)
  · obtain ⟨_, _, _, _, _, h, _⟩ := key true h
    cases h
theorem mat_rev {sc : Scope} {N : List Str} {t : Bool} {x : E} {a : Expr} (h : E.mat fs sc N t (.rev x) a = true) : ∃ b k p1 p2 p3 pos, a = .Subscript b (.Slice none none (some (.UnaryOp .USub (.Constant (.int 1) k p1) p2)) p3) pos ∧ t = false ∧ x.mat fs sc N false b = true := by
  cases a <;> try (simp only [E.mat, Bool.false_eq_true] at h; done)
  rename_i b s q
  cases s <;> try (simp only [E.mat, Bool.false_eq_true] at h; done)
  rename_i l u st p
  cases l <;> try (simp only [E.mat, Bool.false_eq_true] at h; done)
  cases u <;> try (simp only [E.mat, Bool.false_eq_true] at h; done)
  cases st <;> try (simp only [E.mat, Bool.false_eq_true] at h; done)
  rename_i st
  cases st <;> try (simp only [E.mat, Bool.false_eq_true] at h; done)
  rename_i o y p4
  cases o <;> try (simp only [E.mat, Bool.false_eq_true] at h; done)
  cases y <;> try (simp only [E.mat, Bool.false_eq_true] at h; done)
  rename_i kc j p5
  cases kc <;> try (simp only [E.mat, Bool.false_eq_true] at h; done)
  rename_i i
  have hi : i = 1 := by
    by_cases e : i = 1
    · exact e
    · rw [E.mat] at h
      · cases h
      all_goals (intros; simp_all)
  subst hi
  simp only [E.mat, Bool.and_eq_true] at h
  exact ⟨b, j, p5, p4, p, q, rfl, by simpa using h.1, h.2⟩
theorem EOk.rev {x : E} (hx : EOk c G f fs x) : EOk c G f fs (.rev x) := fun X W sc a hX hsc tk => by
  constructor <;> intro h
  · obtain ⟨b, k, p1, p2, p3, pos, rfl, _, h2⟩ := mat_rev h
    exact PEc.rev hX ((hx X W sc _ hX hsc tk).1 h2)
  · obtain ⟨_, _, _, _, _, _, _, h, _⟩ := mat_rev h
    cases h
theorem mat_noSup {sc : Scope} {N : List Str} {t : Bool} {m : Mt} {x : E} {es : List E} {a : Expr} (h : E.mat fs sc N t (.mth m x es) a = true) : ∃ o b bs ap q, a = .Call (.Attribute o (mtName m) ap) (b :: bs) [] q ∧ t = false ∧ noSup o = true ∧ (ap.endLine == q.line) = true ∧ (b :: bs).length < 20 ∧ x.mat fs sc N false o = true ∧ matL fs sc N false es (b :: bs) = true := by
  cases a <;> try (simp only [E.mat, Bool.false_eq_true] at h; done)
  rename_i fn as kws q
  cases fn <;> try (simp only [E.mat, Bool.false_eq_true] at h; done)
  cases as <;> try (simp only [E.mat, Bool.false_eq_true] at h; done)
  cases kws <;> simp only [E.mat, Bool.false_eq_true] at h
  simp only [Bool.and_eq_true, decide_eq_true_eq] at h
  obtain ⟨⟨⟨⟨⟨⟨h1, rfl⟩, h3⟩, h4⟩, h5⟩, h6⟩, h7⟩ := h
  exact ⟨_, _, _, _, _, rfl, by simpa using h1, h3, h4, h5, h6, h7⟩
theorem EOk.mth {m : Mt} {x : E} {es : List E} (hx : EOk c G f fs x) (hs : LOk c G f fs es) : EOk c G f fs (.mth m x es) := fun X W sc a hX hsc tk => by
  constructor <;> intro h
  · obtain ⟨o, b, bs, ap, q, rfl, _, h3, h4, h5, h6, h7⟩ := mat_noSup h
    exact PEc.mth hX ((hx X W sc _ hX hsc tk).1 h6) ((hs X W sc _ hX hsc tk).1 h7).1 h3 h4 (matL_star h7) h5
  · obtain ⟨_, _, _, _, _, _, h, _⟩ := mat_noSup h
    cases h
theorem EOk.isi {x : E} {ty : Ty} (hx : EOk c G f fs x) : EOk c G f fs (.isi x ty) := fun X W sc a hX hsc tk => by
  have key : ∀ t, E.mat fs sc X.N t (.isi x ty) a = true → ∃ b p p2 q, a = .Call (.Name "isinstance" p) [b, .Name (tyName ty) p2] [] q ∧ t = false ∧ glC sc "isinstance" = true ∧ glC sc (tyName ty) = true ∧ x.mat fs sc X.N false b = true := fun t h => by
    cases a <;> try (simp only [E.mat, Bool.false_eq_true] at h; done)
    rename_i fn as kws q
    cases fn <;> try (simp only [E.mat, Bool.false_eq_true] at h; done)
    match as, kws, h with
    | [a1, .Name y p2], [], h =>
      simp only [E.mat, Bool.and_eq_true, decide_eq_true_eq] at h
      obtain ⟨⟨⟨⟨⟨h1, rfl⟩, rfl⟩, h4⟩, h5⟩, h6⟩ := h
      exact ⟨_, _, _, _, rfl, by simpa using h1, h4, h5, h6⟩
    | [], _, h => simp [E.mat] at h
    | [_], _, h => simp [E.mat] at h
    | _ :: _ :: _ :: _, _, h => simp [E.mat] at h
    | [_, b], _ :: _, h => cases b <;> simp [E.mat] at h
    | [_, .BoolOp .., ], [], h | [_, .NamedExpr .., ], [], h | [_, .BinOp .., ], [], h | [_, .UnaryOp .., ], [], h | [_, .Lambda .., ], [], h | [_, .IfExp .., ], [], h | [_, .Dict .., ], [], h
    | [_, .Set .., ], [], h | [_, .ListComp .., ], [], h | [_, .SetComp .., ], [], h | [_, .DictComp .., ], [], h | [_, .GeneratorExp .., ], [], h | [_, .Await .., ], [], h | [_, .Yield .., ], [], h
    | [_, .YieldFrom .., ], [], h | [_, .Compare .., ], [], h | [_, .Call .., ], [], h | [_, .FormattedValue .., ], [], h | [_, .JoinedStr .., ], [], h | [_, .Constant .., ], [], h | [_, .Attribute .., ], [], h
    | [_, .Subscript .., ], [], h | [_, .Starred .., ], [], h | [_, .List .., ], [], h | [_, .Tuple .., ], [], h | [_, .Slice .., ], [], h => simp [E.mat] at h
  constructor <;> intro h
  · obtain ⟨b, p, p2, q, rfl, _, h3, h4, h5⟩ := key false h
    exact PEc.isi hX hsc ((hx X W sc _ hX hsc tk).1 h5) h3 h4 (mat_noStar h5)
  · obtain ⟨_, _, _, _, _, h, _⟩ := key true h
    cases h
theorem EOk.cm3 {o p p2 : CmpOp} {x y z u : E} (hx : EOk c G f fs x) (hy : EOk c G f fs y) (hz : EOk c G f fs z) (hu : EOk c G f fs u) : EOk c G f fs (.cm3 o p p2 x y z u) := fun X W sc a hX hsc tk => by
  constructor <;> intro h
  all_goals
    cases a <;> try (simp only [E.mat, Bool.false_eq_true] at h; done)
    rename_i l ops rs pos
    match ops, rs, h with
    | [o', p', p2'], [r, q, q2], h =>
      simp only [E.mat, Bool.and_eq_true, decide_eq_true_eq] at h
      obtain ⟨⟨⟨⟨⟨⟨rfl, rfl⟩, rfl⟩, h2⟩, h3⟩, h4⟩, h5⟩ := h
      first
        | exact PEc.cm3 hX ((hx X W sc _ hX hsc tk).1 h2) ((hy X W sc _ hX hsc tk).1 h3) ((hz X W sc _ hX hsc tk).1 h4) ((hu X W sc _ hX hsc tk).1 h5) (mat_set h5)
        | exact PTc.cm3 hX ((hx X W sc _ hX hsc tk).1 h2) ((hy X W sc _ hX hsc tk).1 h3) ((hz X W sc _ hX hsc tk).1 h4) ((hu X W sc _ hX hsc tk).1 h5) (mat_set h5)
    | [], _, h => simp [E.mat] at h
    | [_], _, h => simp [E.mat] at h
    | [_, _], _, h => simp [E.mat] at h
    | _ :: _ :: _ :: _ :: _, _, h => simp [E.mat] at h
    | [_, _, _], [], h => simp [E.mat] at h
    | [_, _, _], [_], h => simp [E.mat] at h
    | [_, _, _], [_, _], h => simp [E.mat] at h
    | [_, _, _], _ :: _ :: _ :: _ :: _, h => simp [E.mat] at h
theorem EOk.fld {x : E} {y : Str} (hx : EOk c G f fs x) : EOk c G f fs (.fld x y) := fun X W sc a hX hsc tk => by
  constructor <;> intro h
  · cases a <;> try (simp only [E.mat, Bool.false_eq_true] at h; done)
    simp only [E.mat, Bool.and_eq_true, decide_eq_true_eq, Bool.not_false, true_and] at h
    obtain ⟨⟨⟨rfl, h2⟩, h3⟩, h4⟩ := h
    exact PEc.fld hX ((hx X W sc _ hX hsc tk).1 h4) (by simpa using h2) h3
  · cases a <;> simp [E.mat] at h
theorem mat_mk {sc : Scope} {N : List Str} {t : Bool} {x : Str} {es : List E} {a : Expr} (h : E.mat fs sc N t (.mk x es) a = true) : ∃ b bs p q, a = .Call (.Name x p) (b :: bs) [] q ∧ t = false ∧ x ∈ fs.cls ∧ glC sc x = true ∧ matL fs sc N false es (b :: bs) = true := by
  cases a <;> try (simp only [E.mat, Bool.false_eq_true] at h; done)
  rename_i fn as kws q
  cases fn <;> try (simp only [E.mat, Bool.false_eq_true] at h; done)
  cases as <;> try (simp only [E.mat, Bool.false_eq_true] at h; done)
  cases kws <;> simp only [E.mat, Bool.false_eq_true] at h
  simp only [Bool.and_eq_true, decide_eq_true_eq] at h
  obtain ⟨⟨⟨⟨h1, rfl⟩, h3⟩, h4⟩, h5⟩ := h
  exact ⟨_, _, _, _, rfl, by simpa using h1, by simpa using h3, h4, h5⟩
theorem EOk.mk (hfz : FzOk G f) {x : Str} {es : List E} (hs : LOk c G f fs es) : EOk c G f fs (.mk x es) := fun X W sc a hX hsc tk => by
  constructor <;> intro h
  · obtain ⟨b, bs, p, q, rfl, _, h2, h3, h4⟩ := mat_mk h
    exact PEc.mk hX hsc hfz tk ((hs X W sc _ hX hsc tk).1 h4).1 h2 h3 (matL_star h4)
  · obtain ⟨_, _, _, _, _, h, _⟩ := mat_mk h
    cases h
theorem mat_cal {sc : Scope} {N : List Str} {t : Bool} {i : Nat} {es : List E} {a : Expr} (h : E.mat fs sc N t (.cal i es) a = true) : ∃ x b bs p q, a = .Call (.Name x p) (b :: bs) [] q ∧ t = false ∧ visC sc N i x = true ∧ matL fs sc N false es (b :: bs) = true := by
  cases a <;> try (simp only [E.mat, Bool.false_eq_true] at h; done)
  rename_i fn as kws q
  cases fn <;> try (simp only [E.mat, Bool.false_eq_true] at h; done)
  cases as <;> try (simp only [E.mat, Bool.false_eq_true] at h; done)
  cases kws <;> simp only [E.mat, Bool.false_eq_true] at h
  simp only [Bool.and_eq_true] at h
  obtain ⟨⟨h1, h4⟩, h5⟩ := h
  exact ⟨_, _, _, _, _, rfl, by simpa using h1, h4, h5⟩
theorem EOk.cal (hfz : FzOk G f) {i : Nat} {es : List E} (hs : LOk c G f fs es) : EOk c G f fs (.cal i es) := fun X W sc a hX hsc tk => by
  constructor <;> intro h
  · obtain ⟨x, b, bs, p, q, rfl, _, h3, h4⟩ := mat_cal h
    exact PEc.cal hX hsc hfz tk ((hs X W sc _ hX hsc tk).1 h4).1 h3 (matL_star h4)
  · obtain ⟨_, _, _, _, _, _, h, _⟩ := mat_cal h
    cases h
theorem mat_ump {sc : Scope} {N : List Str} {t : Bool} {m : Str} {x : E} {es : List E} {a : Expr} (h : E.mat fs sc N t (.ump x m es) a = true) : ∃ o as ap q, a = .Call (.Attribute o m ap) as [] q ∧ t = false ∧ m ∈ fs.mts ∧ noSup o = true ∧ (ap.endLine == q.line) = true ∧ as.length < 20 ∧ x.mat fs sc N false o = true ∧ matL fs sc N false es as = true := by
  cases a <;> try (simp only [E.mat, Bool.false_eq_true] at h; done)
  rename_i fn as kws q
  cases fn <;> try (simp only [E.mat, Bool.false_eq_true] at h; done)
  cases kws <;> try (simp only [E.mat, Bool.false_eq_true] at h; done)
  rw [E.mat] at h
  simp only [Bool.and_eq_true, decide_eq_true_eq] at h
  obtain ⟨⟨⟨⟨⟨⟨⟨h1, rfl⟩, h2⟩, h3⟩, h4⟩, h5⟩, h6⟩, h7⟩ := h
  exact ⟨_, _, _, _, rfl, by simpa using h1, by simpa using h2, h3, h4, h5, h6, h7⟩
theorem EOk.ump (hfz : FzOk G f) {m : Str} {x : E} {es : List E} (hx : EOk c G f fs x) (hs : LOk c G f fs es) : EOk c G f fs (.ump x m es) := fun X W sc a hX hsc tk => by
  constructor <;> intro h
  · obtain ⟨o, as, ap, q, rfl, _, h2, h3, h4, h5, h6, h7⟩ := mat_ump h
    exact PEc.ump hX hfz tk ((hx X W sc _ hX hsc tk).1 h6) ((hs X W sc _ hX hsc tk).1 h7).1 h2 h3 h4 (matL_star h7) h5 (matL_len h7)
  · obtain ⟨_, _, _, _, _, h, _⟩ := mat_ump h
    cases h
theorem mat_isc {sc : Scope} {N : List Str} {t : Bool} {x : E} {C : Str} {a : Expr} (h : E.mat fs sc N t (.isc x C) a = true) : ∃ b p p2 q, a = .Call (.Name "isinstance" p) [b, .Name C p2] [] q ∧ t = false ∧ C ∈ fs.kls ∧ glC sc "isinstance" = true ∧ glC sc C = true ∧ x.mat fs sc N false b = true := by
  cases a <;> try (simp only [E.mat, Bool.false_eq_true] at h; done)
  rename_i fn as kws q
  cases fn <;> try (simp only [E.mat, Bool.false_eq_true] at h; done)
  cases kws <;> try (rcases as with _ | ⟨_, _ | ⟨b, _ | ⟨_, _⟩⟩⟩ <;> first | (simp [E.mat] at h; done) | (cases b <;> simp [E.mat] at h; done))
  rcases as with _ | ⟨b0, _ | ⟨b, _ | ⟨_, _⟩⟩⟩ <;> try (simp [E.mat] at h; done)
  cases b <;> try (simp [E.mat] at h; done)
  simp only [E.mat, Bool.and_eq_true, decide_eq_true_eq] at h
  obtain ⟨⟨⟨⟨⟨⟨h1, rfl⟩, rfl⟩, h3⟩, h4⟩, h5⟩, h6⟩ := h
  exact ⟨_, _, _, _, rfl, by simpa using h1, by simpa using h3, h4, h5, h6⟩
theorem EOk.isc {x : E} {C : Str} (hx : EOk c G f fs x) : EOk c G f fs (.isc x C) := fun X W sc a hX hsc tk => by
  constructor <;> intro h
  · obtain ⟨b, p, p2, q, rfl, _, h2, h3, h4, h5⟩ := mat_isc h
    exact PEc.isc hX hsc ((hx X W sc _ hX hsc tk).1 h5) h2 h3 h4 (mat_noStar h5)
  · obtain ⟨_, _, _, _, _, h, _⟩ := mat_isc h
    cases h
theorem mat_lset {sc : Scope} {N : List Str} {t : Bool} {x : E} {a : Expr} (h : E.mat fs sc N t (.lset x) a = true) : ∃ b p p2 q q2, a = .Call (.Name "len" p) [.Call (.Name "set" p2) [b] [] q] [] q2 ∧ t = false ∧ glC sc "len" = true ∧ glC sc "set" = true ∧ noStarB b = true ∧ x.mat fs sc N false b = true := by
  cases a <;> try (simp only [E.mat, Bool.false_eq_true] at h; done)
  rename_i fn as kws q
  cases fn <;> try (simp only [E.mat, Bool.false_eq_true] at h; done)
  cases kws with
  | cons _ _ =>
    rcases as with _ | ⟨b, _ | ⟨_, _⟩⟩ <;> first | (simp [E.mat] at h; done) | (cases b <;> first | (simp [E.mat] at h; done) | skip)
  | nil =>
    rcases as with _ | ⟨b, _ | ⟨_, _⟩⟩ <;> try (simp [E.mat] at h; done)
    cases b <;> try (simp [E.mat] at h; done)
    rename_i g bs ks q2
    cases g <;> try (simp [E.mat] at h; done)
    rcases bs with _ | ⟨b, _ | ⟨_, _⟩⟩ <;> try (simp [E.mat] at h; done)
    cases ks <;> try (simp [E.mat] at h; done)
    simp only [E.mat, Bool.and_eq_true, decide_eq_true_eq] at h
    obtain ⟨⟨⟨⟨⟨⟨h1, rfl⟩, rfl⟩, h4⟩, h5⟩, h6⟩, h7⟩ := h
    exact ⟨_, _, _, _, _, rfl, by simpa using h1, h4, h5, h6, h7⟩
theorem EOk.lset {x : E} (hx : EOk c G f fs x) : EOk c G f fs (.lset x) := fun X W sc a hX hsc tk => by
  constructor <;> intro h
  · obtain ⟨b, p, p2, q, q2, rfl, _, h3, h4, h5, h6⟩ := mat_lset h
    exact PEc.lset hX hsc ((hx X W sc _ hX hsc tk).1 h6) h3 h4 h5
  · obtain ⟨_, _, _, _, _, _, h, _⟩ := mat_lset h
    cases h
/-- a comprehension: as a value, and as what a name is set to -/
theorem lc_all (hfz : FzOk G f) {ws : List Nat} {tg : T} {k : Ik} {its cond : List E} {elt : E} (hi : LOk c G f fs its) (hc : LOk c G f fs cond) (he : EOk c G f fs elt) {X : Cx} {W : WX} {sc : Scope} {a : Expr} (hX : XOk X c G fs) (hsc : ScOk sc X) (tk : Takes X W) {t : Bool} (hmat : E.mat fs sc X.N t (.comp ws tg k its cond elt) a = true) :
    t = false ∧ ∃ te : TE, PE X a te ∧ (∀ (i : Nat) (y : Str) (py spos : Pos), X.N[i]? = some y → X.env.scope.names.lookup y = some .local → swapsWith a (some (.Name y py)) spos.line X.env = pure true →
      PS X (.Assign [.Name y py] a spos) (tAsg te (gName i))) ∧
    ∀ σ H env ds vs Q, SR c f σ H env ds vs → Wp c f W σ H ds vs ((E.comp ws tg k its cond elt).sem G env) Q → te σ H Q := by
  have key : ∀ t, E.mat fs sc X.N t (.comp ws tg k its cond elt) a = true → ∃ el tga iter ifs scope p, a = .ListComp el [⟨tga, iter, ifs, 0⟩] scope p ∧ t = false ∧ blkC X.N sc scope (ws.map fun i => (X.N.getD i "", i)) = true ∧ tg.mat scope X.N tga = true ∧ tg.slots.all (fun i => ws.contains i) = true ∧
      matIt fs sc X.N tg its k iter = true ∧ matL fs scope X.N true cond ifs = true ∧ cond.length ≤ 1 ∧ elt.mat fs scope X.N false el = true ∧ elt.pure = true ∧ pureL cond = true := fun t h => by
    cases a <;> try (simp only [E.mat, Bool.false_eq_true] at h; done)
    rename_i el gens scope pos
    match gens, h with
    | [⟨tga, iter, ifs, n⟩], h =>
      have hn : n = 0 := by
        by_cases e : n = 0
        · exact e
        · rw [E.mat] at h
          · cases h
          all_goals (intros; simp_all)
      subst hn
      rw [E.mat] at h
      simp only [Bool.and_eq_true, decide_eq_true_eq] at h
      obtain ⟨⟨⟨⟨⟨⟨⟨⟨⟨h1, h2⟩, h3⟩, h4⟩, h5⟩, h6⟩, h7⟩, h8⟩, h9⟩, h10⟩ := h
      exact ⟨_, _, _, _, _, _, rfl, by simpa using h1, h2, h3, h4, h5, h6, h7, h8, h9, h10⟩
    | [], h => simp [E.mat] at h
    | ⟨_, _, _, _⟩ :: _ :: _, h => simp [E.mat] at h
  · obtain ⟨el, tga, iter, ifs, scope, p, rfl, ht, h2, h3, h4, h5, h6, h7, h8, h9, h10⟩ := key t hmat
    refine ⟨ht, ?_⟩
    refine comp_all (W := W) hX hsc hfz h2 h3 h4 h5 (fun as h => ((hi X W sc as hX hsc tk).1 h).1) (fun e a q q2 => ?_) ?_ (fun X' hN hX' hsc' => ?_) (fun X' hN hX' hsc' => ?_) h9 h10
    · subst q
      exact ((hi X W sc [a] hX hsc tk).1 (by rw [matL, matL, q2]; rfl)).2.2 e a rfl rfl
    · rintro es k' p' rfl
      unfold matIt at h5
      cases k with
      | lst =>
        have h5' : (matL fs sc X.N false its [.Set es k' p'] && lenOk .lst its.length) = true := h5
        rw [Bool.and_eq_true] at h5'
        cases its with
        | nil => simp [matL] at h5'
        | cons e r =>
          rw [matL, Bool.and_eq_true] at h5'
          exact mat_set h5'.1.1 es k' p' rfl
      | str =>
        have h5' : (matL fs sc X.N false its [.Set es k' p'] && lenOk .str its.length) = true := h5
        rw [Bool.and_eq_true] at h5'
        cases its with
        | nil => simp [matL] at h5'
        | cons e r =>
          rw [matL, Bool.and_eq_true] at h5'
          exact mat_set h5'.1.1 es k' p' rfl
      | rng => cases h5
      | zip => cases h5
      | zipS => cases h5
      | enum => cases h5
    · rw [← hN] at h6
      match cond, ifs, h6, h7 with
      | [], [], _, _ => exact .inl ⟨rfl, rfl⟩
      | [e], [a], h6, _ => exact .inr ⟨e, a, rfl, rfl, ((hc X' _ scope [a] hX' hsc' takes0).2 h6).2 e a rfl rfl⟩
      | [], _ :: _, h6, _ => simp [matL] at h6
      | [_], [], h6, _ => simp [matL] at h6
      | [_], _ :: _ :: _, h6, _ => simp [matL] at h6
      | _ :: _ :: _, _, _, h7 => simp at h7
    · rw [← hN] at h8
      exact (he X' _ scope el hX' hsc' takes0).1 h8
theorem EOk.comp (hfz : FzOk G f) {ws : List Nat} {tg : T} {k : Ik} {its cond : List E} {elt : E} (hi : LOk c G f fs its) (hc : LOk c G f fs cond) (he : EOk c G f fs elt) : EOk c G f fs (.comp ws tg k its cond elt) := fun X W sc a hX hsc tk =>
  ⟨fun h σ H env ds vs Q S q => by
    obtain ⟨_, te, h1, _, h3⟩ := lc_all hfz hi hc he hX hsc tk h
    exact wpE.of h1 (h3 σ H env ds vs Q S q), fun h => by
    obtain ⟨e, _⟩ := lc_all hfz hi hc he hX hsc tk h
    cases e⟩
theorem EOk.no {e : E} (h : ∀ sc N t a, e.mat fs sc N t a = false) : EOk c G f fs e := fun X W sc a hX hsc tk =>
  ⟨fun q => absurd ((h sc X.N false a).symm.trans q) (by decide), fun q => absurd ((h sc X.N true a).symm.trans q) (by decide)⟩
mutual
theorem E_ok (hfz : FzOk G f) : ∀ e : E, EOk c G f fs e
  | .nop => .no fun _ _ _ a => by cases a <;> simp [E.mat]
  | .lit d => .lit
  | .loc i m => .loc hfz
  | .glb x => .glb
  | .bin o a b => .bin (E_ok hfz a) (E_ok hfz b)
  | .cmp o a b => .cmp (E_ok hfz a) (E_ok hfz b)
  | .cm2 o p a b d => .cm2 (E_ok hfz a) (E_ok hfz b) (E_ok hfz d)
  | .bop o es => .bop (L_ok hfz es)
  | .not a => .not (E_ok hfz a)
  | .tru a => .tru (E_ok hfz a)
  | .neg a => .neg (E_ok hfz a)
  | .ife t a b => .ife (E_ok hfz t) (E_ok hfz a) (E_ok hfz b)
  | .tup es => .tup (L_ok hfz es)
  | .lst es => .lst (L_ok hfz es)
  | .ix a i => .ix (E_ok hfz a) (E_ok hfz i)
  | .slc a l h => .slc (E_ok hfz a) (E_ok hfz l) (E_ok hfz h)
  | .rev a => .rev (E_ok hfz a)
  | .fld a x => .fld (E_ok hfz a)
  | .cm3 o p q a b d e => .cm3 (E_ok hfz a) (E_ok hfz b) (E_ok hfz d) (E_ok hfz e)
  | .isc a C => .isc (E_ok hfz a)
  | .lset a => .lset (E_ok hfz a)
  | .call x es => .call hfz (L_ok hfz es)
  | .mk x es => .mk hfz (L_ok hfz es)
  | .cal i es => .cal hfz (L_ok hfz es)
  | .blt b es => .blt (L_ok hfz es)
  | .isi a t => .isi (E_ok hfz a)
  | .mth m a es => .mth (E_ok hfz a) (L_ok hfz es)
  | .ump a m es => .ump hfz (E_ok hfz a) (L_ok hfz es)
  | .comp ws tg k its cond elt => .comp hfz (L_ok hfz its) (L_ok hfz cond) (E_ok hfz elt)
theorem L_ok (hfz : FzOk G f) : ∀ es : List E, LOk c G f fs es
  | [] => .nil
  | e :: es => .cons (E_ok hfz e) (L_ok hfz es)
end
end
end VI

set_option maxHeartbeats 4000000
namespace VI
open PySem PySem.Spec L2
open PyProof.Rows hiding St

/-! ### statements -/
inductive Mm where | append | extend | insert | pop | popAt | clear | reverse
  deriving DecidableEq
inductive S where
  | asg (t : T) (e : E)
  | six (i : Nat) (ps : List E) (j : E) (e : E)
  | mut (m : Mm) (i : Nat) (ps : List E) (es : List E)
  | ret (e : E)
  | retN
  | exp (e : E)
  | ifs (c : E) (a b : List S)
  | for (t : T) (k : Ik) (its : List E) (body : List S)
  | whl (n : Nat) (c : E) (body : List S)
  | brk
  | cnt
  | pas
  /-- self.f = e, in an __init__ -/
  | fset (i : Nat) (f : Str) (e : E)
  /-- a statement that is not to be reached -/
  | bad
  /-- no statement: what slots held is forgotten -/
  | fgt (is : List Nat)
  /-- no statement: what slots own is frozen -/
  | frz (is : List Nat)
/-- how a block ends -/
inductive Oc where
  | nx (env : List D) | bk (env : List D) | ct (env : List D) | rt (d : D) (env : List D)

/-! ### places -/
/-- the node at a path, written -/
def D.updAt (g : List D → Option (List D)) : List Int → D → Option D
  | [], .nd .own .lst xs => (g xs).map (.nd .own .lst)
  | k :: r, .nd .own .lst xs => (ixN xs.length k).bind fun j => (xs[j]?).bind fun d => (D.updAt g r d).map fun d' => .nd .own .lst (xs.set j d')
  | k :: r, .nd .own .tup xs => (ixN xs.length k).bind fun j => (xs[j]?).bind fun d => (D.updAt g r d).map fun d' => .nd .own .tup (xs.set j d')
  | _, _ => none
/-- the path's steps: the last first -/
def semPl (G : Calls) : List E → List D → R (List Int)
  | [], _ => .ok []
  | e :: r, env => if e.pure then (semPl G r env).bind fun ks => (e.sem G env).noexc.bind fun p => match p.1 with
    | .int k => .ok (ks ++ [k])
    | _ => .stuck
    else .stuck
/-- what a method does to a list's items -/
def mutV : Mm → List D → List D → Option (List D)
  | .append, [d], xs => if xs.length < 16777216 then some (xs ++ [d]) else none
  | .extend, [.nd t .lst ys], xs => if t = .sta then none else if xs.length + ys.length ≤ 16777216 then some (xs ++ ys) else none
  | .insert, [.int i, d], xs => if decide (xs.length < 16777216) && decide (0 ≤ i) && decide (i < 9223372036854775808) then some (xs.take i.toNat ++ [d] ++ xs.drop i.toNat) else none
  | .pop, [], xs => if xs.isEmpty then none else some xs.dropLast
  | .popAt, [.int i], xs => if xs.length ≤ 16777216 then (ixN xs.length i).map fun k => xs.eraseIdx k else none
  | .clear, [], _ => some []
  | .reverse, [], xs => some xs.reverse
  | _, _, _ => none
/-- a slot's tree, written -/
def updEnv (g : List D → Option (List D)) (i : Nat) (ks : List Int) (env : List D) : R (List D) :=
  R.of ((env[i]?).bind fun d => (D.updAt g ks d).map fun d' => env.set i d')

/-- a field more -/
def setF (i : Nat) (x : Str) (d : D) (env : List D) : R (List D) := match env[i]? with
  | some (.nd .own (.ins n fl) xs) => if fl.contains x || !(decide (fl.length < 900)) || !(decide (fl.length = xs.length)) then .stuck else .ok (env.set i (.nd .own (.ins n (fl ++ [x])) (xs ++ [d])))
  | _ => .stuck
/-! ### what statements do -/
def forL (body : List D → R Oc) (tg : T) : List D → List D → R Oc
  | [], env => .ok (.nx env)
  | d :: ds, env => if !d.clean then .stuck else (tg.set d env).noexc.bind fun env1 => (body env1).bind fun o => match o with
    | .nx e => forL body tg ds e
    | .ct e => forL body tg ds e
    | .bk e => .ok (.nx e)
    | .rt d e => .ok (.rt d e)
def whlL (c : List D → R (D × List D)) (body : List D → R Oc) : Nat → List D → R Oc
  | 0, _ => .stuck
  | n + 1, env => (c env).bind fun p => match p.1 with
    | .bl false => .ok (.nx p.2)
    | .bl true => (body p.2).bind fun o => match o with
      | .nx e => whlL c body n e
      | .ct e => whlL c body n e
      | .bk e => .ok (.nx e)
      | .rt d e => .ok (.rt d e)
    | _ => .stuck
def frzD (fz : Tag) (env : List D) : List Nat → List D
  | [] => env
  | i :: is => match getL env i with
    | some d => frzD fz (env.set i (d.tag (ownTo fz))) is
    | none => frzD fz env is
mutual
def S.sem (G : Calls) : S → List D → R Oc
  | .asg t e, env => (e.sem G env).bind fun p => if p.1.clean || t.nown p.1 then (t.set p.1 p.2).noexc.bind fun env' => .ok (.nx env') else .stuck
  | .six i ps j e, env => (e.sem G env).bind fun p => if p.1.clean then (semPl G ps p.2).noexc.bind fun ks => (j.sem G p.2).noexc.bind fun q => match q.1 with
      | .int k => if j.pure then (updEnv (fun xs => (ixN xs.length k).map fun n => xs.set n p.1) i ks p.2).bind fun env' => .ok (.nx env') else .stuck
      | _ => .stuck
    else .stuck
  | .mut m i ps es, env => (semPl G ps env).noexc.bind fun ks => (updEnv some i ks env).noexc.bind fun _ => (semL G es env).bind fun p =>
      if D.alls notBor p.1 then (updEnv (mutV m p.1) i ks p.2).bind fun env' => .ok (.nx env') else .stuck
  | .ret e, env => (e.sem G env).bind fun p => if p.1.clean then .ok (.rt p.1 p.2) else .stuck
  | .retN, env => .ok (.rt .non env)
  | .exp e, env => (e.sem G env).bind fun p => .ok (.nx p.2)
  | .ifs c a b, env => (c.sem G env).bind fun p => match p.1 with
    | .bl true => semSs G a p.2
    | .bl false => semSs G b p.2
    | _ => .stuck
  | .for t k its body, env => (semL G its env).bind fun p => if D.alls notBor p.1 then (R.of (itemsOf k (D.tags (ownTo G.frz) p.1))).bind fun ds => forL (fun env => semSs G body env) t ds p.2 else .stuck
  | .whl n c body, env => whlL (fun env => c.sem G env) (fun env => semSs G body env) n env
  | .brk, env => .ok (.bk env)
  | .cnt, env => .ok (.ct env)
  | .pas, env => .ok (.nx env)
  | .fset i x e, env => (e.sem G env).bind fun p => if p.1.clean then (setF i x p.1 p.2).bind fun env' => .ok (.nx env') else .stuck
  | .bad, _ => .stuck
  | .fgt is, env => .ok (.nx (wipeD env is))
  | .frz is, env => .ok (.nx (frzD G.frz env is))
def semSs (G : Calls) : List S → List D → R Oc
  | [], env => .ok (.nx env)
  | s :: r, env => (s.sem G env).bind fun o => match o with
    | .nx e => semSs G r e
    | o => .ok o
end

/-! ### whether a text is what the tree says -/
def matPl (fs : Nm) (sc : Scope) (N : List Str) (i : Nat) : List E → Expr → Bool
  | [], .Name x _ => visC sc N i x
  | e :: r, .Subscript b j _ => matPl fs sc N i r b && e.mat fs sc N false j
  | _, _ => false
def mmName : Mm → Str
  | .append => "append" | .extend => "extend" | .insert => "insert" | .pop => "pop" | .popAt => "pop" | .clear => "clear" | .reverse => "reverse"
/-- a comprehension's value goes into the name with no swap (a cell), or with one (a local) -/
def swB (sc : Scope) (value : Expr) (y : Str) (py : Pos) : Option Bool := match value with
  | .ListComp _ _ s pos => match sc.names.lookup y with
    | some .local => if py.line == pos.line && !(s.names.any fun (n, k) => n == y && (k == .local || k == .cell)) then some true else none
    | some .cell => some false
    | _ => none
  | .SetComp .. => none
  | .DictComp .. => none
  | _ => some false
def isLc : Expr → Bool
  | .ListComp .. => true | .SetComp .. => true | .DictComp .. => true | _ => false
def isTup : Expr → Bool
  | .Tuple .. => true | _ => false
def mmN : Mm → Nat → Bool
  | .pop, n => decide (n = 0)
  | .clear, n => decide (n = 0)
  | .reverse, n => decide (n = 0)
  | _, n => decide (1 ≤ n)
def asgOk (sc : Scope) (v : Expr) : T → Expr → Bool
  | .nm _, .Name y py => (swB sc v y py).isSome
  | .tp _, _ => !isLc v && !isTup v
  | _, _ => false
def fgtOnly : List S → Bool
  | [] => true
  | .fgt _ :: r => fgtOnly r
  | .frz _ :: r => fgtOnly r
  | _ :: _ => false
mutual
def S.mat (fs : Nm) (sc : Scope) (N : List Str) : S → Stmt → Bool
  | .asg t e, .Assign [tga] v pos => t.mat sc N tga && e.mat fs sc N false v && asgOk sc v t tga
  | .six i ps j e, .Assign [.Subscript o k _] v _ => e.mat fs sc N false v && !isLc v && !isTup v && matPl fs sc N i ps o && j.mat fs sc N false k
  | .mut m i ps es, .Expr (.Call (.Attribute o x apos) as [] cpos) _ => decide (x = mmName m) && matPl fs sc N i ps o && matL fs sc N false es as && (apos.endLine == cpos.line) && decide (as.length < 20) && mmN m as.length
  | .ret e, .Return (some v) _ => e.mat fs sc N false v
  | .retN, .Return none _ => true
  | .exp e, .Expr v _ => e.mat fs sc N false v && !isLc v
  | .ifs c a b, .If v p q _ => c.mat fs sc N true v && matSs fs sc N a p && matSs fs sc N b q
  | .for t k its body, .For tga iter p [] _ => t.mat sc N tga && matIt fs sc N t its k iter && matSs fs sc N body p
  | .whl _ c body, .While v p [] _ => c.mat fs sc N true v && matSs fs sc N body p
  | .brk, .Break _ => true
  | .cnt, .Continue _ => true
  | .pas, .Pass _ => true
  | .fset i x e, .Assign [.Attribute (.Name y _) z _] v _ => decide (x = z) && fs.fld.contains x && visC sc N i y && e.mat fs sc N false v && !isLc v
  | .bad, _ => true
  | _, _ => false
def matSs (fs : Nm) (sc : Scope) (N : List Str) : List S → List Stmt → Bool
  | [], [] => true
  | s :: r, [] => fgtOnly (s :: r)
  | .fgt _ :: r, sts => matSs fs sc N r sts
  | .frz _ :: r, sts => matSs fs sc N r sts
  | s :: r, st :: sts => s.mat fs sc N st && matSs fs sc N r sts
  | _, _ => false
end

/-! ### values along a path -/
/-- u stands behind v by the path -/
def PathV (H : Hp) : List Int → V → V → Prop
  | [], v, u => u = v
  | k :: r, v, u => ∃ p us j w, v = .ref p ∧ (H p = some (.lst us) ∨ H p = some (.tup us)) ∧ ixN us.length k = some j ∧ us[j]? = some w ∧ PathV H r w u
theorem PathV.mono {H H' : Hp} (s : Same H H') : ∀ {ks : List Int} {v u : V}, PathV H ks v u → PathV H' ks v u
  | [], v, u, h => h
  | k :: r, v, u, ⟨p, us, j, w, h1, h2, h3, h4, h5⟩ => ⟨p, us, j, w, h1, h2.imp (s _ _) (s _ _), h3, h4, h5.mono s⟩
theorem PathV.snoc {H : Hp} : ∀ {ks : List Int} {k : Int} {v u : V}, PathV H (ks ++ [k]) v u → ∃ p us j, PathV H ks v (.ref p) ∧ (H p = some (.lst us) ∨ H p = some (.tup us)) ∧ ixN us.length k = some j ∧ us[j]? = some u
  | [], k, v, u, ⟨p, us, j, w, h1, h2, h3, h4, h5⟩ => by
    have h5 : u = w := h5
    subst h5
    exact ⟨p, us, j, h1.symm, h2, h3, h4⟩
  | k' :: r, k, v, u, ⟨p, us, j, w, h1, h2, h3, h4, h5⟩ => by
    obtain ⟨p', us', j', q1, q2, q3, q4⟩ := PathV.snoc h5
    exact ⟨p', us', j', ⟨p, us, j, w, h1, h2, h3, h4, q1⟩, q2, q3, q4⟩
section
variable {c : Gc} {Fa Fn H : Hp}
theorem Reps.set {d d' : D} : ∀ {ds : List D} {vs : List V} {m : Addr → Nat} {j : Nat}, Reps c Fa Fn H ds vs m → ds[j]? = some d → ∃ (v : V) (m1 m2 : Addr → Nat), vs[j]? = some v ∧ Rep c Fa Fn H d v m1 ∧ (∀ a, m a = m1 a + m2 a) ∧
    ∀ {H' : Hp} {m1' : Addr → Nat}, (∀ q, m2 q ≠ 0 → H' q = H q) → Rep c Fa Fn H' d' v m1' → Reps c Fa Fn H' (ds.set j d') vs fun a => m1' a + m2 a
  | [], vs, m, j, h, e => by simp at e
  | x :: ds, vs, m, 0, h, e => by
    obtain ⟨v, r, m1, m2, rfl, h1, h2, hm⟩ := h
    simp at e; subst e
    refine ⟨v, m1, m2, rfl, h1, hm, fun {H' m1'} ho hr => ⟨v, r, m1', m2, rfl, hr, h2.to (fun q k vs z a => a.cong (ho q z)) (Same.refl _) (Same.refl _), fun a => rfl⟩⟩
  | x :: ds, vs, m, j + 1, h, e => by
    obtain ⟨v, r, m1, m2, rfl, h1, h2, hm⟩ := h
    obtain ⟨u, n1, n2, q1, q2, q3, q4⟩ := Reps.set (d' := d') (j := j) h2 (by simpa using e)
    refine ⟨u, n1, fun a => m1 a + n2 a, by simpa using q1, q2, fun a => by have := hm a; have := q3 a; show m a = n1 a + (m1 a + n2 a); omega, fun {H' m1'} ho hr => ?_⟩
    have r2 := q4 (fun q z => ho q (by show m1 q + n2 q ≠ 0; omega)) hr
    exact ⟨v, r, m1, _, rfl, h1.to (fun q k vs z a => a.cong (ho q (by show m1 q + n2 q ≠ 0; omega))) (Same.refl _) (Same.refl _), r2, fun a => by show m1' a + (m1 a + n2 a) = m1 a + (m1' a + n2 a); omega⟩
/-- a list within, all of it owned on the way -/
theorem Rep.lens {g : List D → Option (List D)} : ∀ {ks : List Int} {d d' : D} {v : V} {m : Addr → Nat}, Rep c Fa Fn H d v m → D.updAt g ks d = some d' →
    ∃ (p : Addr) (us : List V) (xs xs' : List D) (m1 m2 : Addr → Nat), PathV H ks v (.ref p) ∧ H p = some (.lst us) ∧ Reps c Fa Fn H xs us m1 ∧ g xs = some xs' ∧ (∀ a, m a = m1 a + m2 a + if a = p then 1 else 0) ∧
    ∀ {H' : Hp} {us' : List V} {m1' : Addr → Nat}, H' p = some (.lst us') → (∀ q, m2 q ≠ 0 → H' q = H q) → Reps c Fa Fn H' xs' us' m1' → Rep c Fa Fn H' d' v fun a => m1' a + m2 a + if a = p then 1 else 0
  | [], .nd .own .lst xs, d', v, m, h, e => by
    obtain ⟨p, us, m', rfl, hr, hA, hm⟩ := h
    have e : (g xs).map (D.nd .own .lst) = some d' := e
    cases z : g xs with
    | none => rw [z] at e; cases e
    | some xs' =>
      rw [z] at e
      cases e
      refine ⟨p, us, xs, xs', m', fun _ => 0, rfl, hA, hr, z, fun a => by have := hm a; omega, fun {H' us' m1'} hp ho hr' => ⟨p, us', m1', rfl, hr', hp, fun a => rfl⟩⟩
  | k :: r, .nd .own .lst xs, d', v, m, h, e => by
    obtain ⟨p, us, m', rfl, hr, hA, hm⟩ := h
    have e : ((ixN xs.length k).bind fun j => (xs[j]?).bind fun d => (D.updAt g r d).map fun d' => D.nd .own .lst (xs.set j d')) = some d' := e
    cases z : ixN xs.length k with
    | none => rw [z] at e; cases e
    | some j =>
      rw [z] at e
      have e : ((xs[j]?).bind fun d => (D.updAt g r d).map fun d' => D.nd .own .lst (xs.set j d')) = some d' := e
      cases z2 : xs[j]? with
      | none => rw [z2] at e; cases e
      | some x =>
        rw [z2] at e
        have e : ((D.updAt g r x).map fun d' => D.nd .own .lst (xs.set j d')) = some d' := e
        cases z3 : D.updAt g r x with
        | none => rw [z3] at e; cases e
        | some x' =>
          rw [z3] at e
          cases e
          obtain ⟨u, n1, n2, q1, q2, q3, q4⟩ := Reps.set (d' := x') hr z2
          obtain ⟨p', us', ys, ys', l1, l2, w1, w2, w3, w4, w5, w6⟩ := Rep.lens q2 z3
          have hA : H p = some (.lst us) := hA
          refine ⟨p', us', ys, ys', l1, fun a => l2 a + n2 a + if a = p then 1 else 0, ⟨p, us, j, u, rfl, .inl hA, by rw [← hr.len]; exact z, q1, w1⟩, w2, w3, w4, fun a => by have := hm a; have := q3 a; have := w5 a; show m a = l1 a + (l2 a + n2 a + if a = p then 1 else 0) + (if a = p' then 1 else 0); omega, fun {H' us'' m1'} hp ho hr' => ?_⟩
          have r1 := w6 hp (fun q hq => ho q (by show l2 q + n2 q + _ ≠ 0; omega)) hr'
          have r2 := q4 (fun q hq => ho q (by show l2 q + n2 q + _ ≠ 0; omega)) r1
          refine ⟨p, us, _, rfl, r2, ?_, fun a => ?_⟩
          · exact (ho p (by show l2 p + n2 p + (if p = p then 1 else 0) ≠ 0; rw [if_pos rfl]; omega)).trans hA
          · show m1' a + (l2 a + n2 a + if a = p then 1 else 0) + (if a = p' then 1 else 0) = (m1' a + l2 a + if a = p' then 1 else 0) + n2 a + if a = p then 1 else 0
            omega
  | k :: r, .nd .own .tup xs, d', v, m, h, e => by
    obtain ⟨p, us, m', rfl, hr, hA, hm⟩ := h
    have e : ((ixN xs.length k).bind fun j => (xs[j]?).bind fun d => (D.updAt g r d).map fun d' => D.nd .own .tup (xs.set j d')) = some d' := e
    cases z : ixN xs.length k with
    | none => rw [z] at e; cases e
    | some j =>
      rw [z] at e
      have e : ((xs[j]?).bind fun d => (D.updAt g r d).map fun d' => D.nd .own .tup (xs.set j d')) = some d' := e
      cases z2 : xs[j]? with
      | none => rw [z2] at e; cases e
      | some x =>
        rw [z2] at e
        have e : ((D.updAt g r x).map fun d' => D.nd .own .tup (xs.set j d')) = some d' := e
        cases z3 : D.updAt g r x with
        | none => rw [z3] at e; cases e
        | some x' =>
          rw [z3] at e
          cases e
          obtain ⟨u, n1, n2, q1, q2, q3, q4⟩ := Reps.set (d' := x') hr z2
          obtain ⟨p', us', ys, ys', l1, l2, w1, w2, w3, w4, w5, w6⟩ := Rep.lens q2 z3
          have hA : H p = some (.tup us) := hA
          refine ⟨p', us', ys, ys', l1, fun a => l2 a + n2 a + if a = p then 1 else 0, ⟨p, us, j, u, rfl, .inr hA, by rw [← hr.len]; exact z, q1, w1⟩, w2, w3, w4, fun a => by have := hm a; have := q3 a; have := w5 a; show m a = l1 a + (l2 a + n2 a + if a = p then 1 else 0) + (if a = p' then 1 else 0); omega, fun {H' us'' m1'} hp ho hr' => ?_⟩
          have r1 := w6 hp (fun q hq => ho q (by show l2 q + n2 q + _ ≠ 0; omega)) hr'
          have r2 := q4 (fun q hq => ho q (by show l2 q + n2 q + _ ≠ 0; omega)) r1
          refine ⟨p, us, _, rfl, r2, ?_, fun a => ?_⟩
          · exact (ho p (by show l2 p + n2 p + (if p = p then 1 else 0) ≠ 0; rw [if_pos rfl]; omega)).trans hA
          · show m1' a + (l2 a + n2 a + if a = p then 1 else 0) + (if a = p' then 1 else 0) = (m1' a + l2 a + if a = p' then 1 else 0) + n2 a + if a = p then 1 else 0
            omega
  | [], .und, _, _, _, _, e => by cases e
  | [], .non, _, _, _, _, e => by cases e
  | [], .bl _, _, _, _, _, e => by cases e
  | [], .int _, _, _, _, _, e => by cases e
  | [], .str _, _, _, _, _, e => by cases e
  | [], .fn _, _, _, _, _, e => by cases e
  | _ :: _, .und, _, _, _, _, e => by cases e
  | _ :: _, .non, _, _, _, _, e => by cases e
  | _ :: _, .bl _, _, _, _, _, e => by cases e
  | _ :: _, .int _, _, _, _, _, e => by cases e
  | _ :: _, .str _, _, _, _, _, e => by cases e
  | _ :: _, .fn _, _, _, _, _, e => by cases e
  | [], .nd .new _ _, _, _, _, _, e => by cases e
  | [], .nd .any _ _, _, _, _, _, e => by cases e
  | [], .nd .bor _ _, _, _, _, _, e => by cases e
  | [], .nd .sta _ _, _, _, _, _, e => by cases e
  | [], .nd .own .tup _, _, _, _, _, e => by cases e
  | [], .nd .own (.dic _) _, _, _, _, _, e => by cases e
  | [], .nd .own (.ins _ _) _, _, _, _, _, e => by cases e
  | _ :: _, .nd .new _ _, _, _, _, _, e => by cases e
  | _ :: _, .nd .any _ _, _, _, _, _, e => by cases e
  | _ :: _, .nd .bor _ _, _, _, _, _, e => by cases e
  | _ :: _, .nd .sta _ _, _, _, _, _, e => by cases e
  | _ :: _, .nd .own (.dic _) _, _, _, _, _, e => by cases e
  | _ :: _, .nd .own (.ins _ _) _, _, _, _, _, e => by cases e
end
end VI

set_option maxHeartbeats 4000000
namespace VI
open PySem PySem.Spec L2
open PyProof.Rows hiding St

theorem alls_get {xs : List D} {p : Tag → Bool} (h : D.alls p xs = true) {j : Nat} {d : D} (e : xs[j]? = some d) : d.all p = true := by
  rw [D.alls_all, List.all_eq_true] at h
  exact h d (List.mem_of_getElem? e)
theorem alls_set {xs : List D} {p : Tag → Bool} (h : D.alls p xs = true) {j : Nat} {d : D} (hd : d.all p = true) : D.alls p (xs.set j d) = true := by
  rw [D.alls_all, List.all_eq_true] at h ⊢
  intro x hx
  rcases List.mem_or_eq_of_mem_set hx with q | q
  · exact h x q
  · rw [q]; exact hd
theorem alls_sub {xs ys : List D} {p : Tag → Bool} (h : D.alls p xs = true) (s : ∀ x ∈ ys, x ∈ xs) : D.alls p ys = true := by
  rw [D.alls_all, List.all_eq_true] at h ⊢
  exact fun x hx => h x (s x hx)
theorem alls_app {xs ys : List D} {p : Tag → Bool} (h1 : D.alls p xs = true) (h2 : D.alls p ys = true) : D.alls p (xs ++ ys) = true := by
  rw [D.alls_all, List.all_append, Bool.and_eq_true, ← D.alls_all, ← D.alls_all]
  exact ⟨h1, h2⟩
theorem updAt_clean {g : List D → Option (List D)} (hg : ∀ xs xs', g xs = some xs' → D.alls notBor xs = true → D.alls notBor xs' = true) : ∀ {ks : List Int} {d d' : D}, D.updAt g ks d = some d' → d.clean = true → d'.clean = true
  | [], .nd .own .lst xs, d', e, h => by
    have e : (g xs).map (D.nd .own .lst) = some d' := e
    cases z : g xs with
    | none => rw [z] at e; cases e
    | some xs' =>
      rw [z] at e
      cases e
      exact hg xs xs' z h
  | k :: r, .nd .own .lst xs, d', e, h => by
    have e : ((ixN xs.length k).bind fun j => (xs[j]?).bind fun d => (D.updAt g r d).map fun d' => D.nd .own .lst (xs.set j d')) = some d' := e
    cases z : ixN xs.length k with
    | none => rw [z] at e; cases e
    | some j =>
      rw [z] at e
      have e : ((xs[j]?).bind fun d => (D.updAt g r d).map fun d' => D.nd .own .lst (xs.set j d')) = some d' := e
      cases z2 : xs[j]? with
      | none => rw [z2] at e; cases e
      | some x =>
        rw [z2] at e
        have e : ((D.updAt g r x).map fun d' => D.nd .own .lst (xs.set j d')) = some d' := e
        cases z3 : D.updAt g r x with
        | none => rw [z3] at e; cases e
        | some x' =>
          rw [z3] at e
          cases e
          have h' : D.alls notBor xs = true := h
          exact alls_set h' (updAt_clean hg z3 (alls_get h' z2))
  | k :: r, .nd .own .tup xs, d', e, h => by
    have e : ((ixN xs.length k).bind fun j => (xs[j]?).bind fun d => (D.updAt g r d).map fun d' => D.nd .own .tup (xs.set j d')) = some d' := e
    cases z : ixN xs.length k with
    | none => rw [z] at e; cases e
    | some j =>
      rw [z] at e
      have e : ((xs[j]?).bind fun d => (D.updAt g r d).map fun d' => D.nd .own .tup (xs.set j d')) = some d' := e
      cases z2 : xs[j]? with
      | none => rw [z2] at e; cases e
      | some x =>
        rw [z2] at e
        have e : ((D.updAt g r x).map fun d' => D.nd .own .tup (xs.set j d')) = some d' := e
        cases z3 : D.updAt g r x with
        | none => rw [z3] at e; cases e
        | some x' =>
          rw [z3] at e
          cases e
          have h' : D.alls notBor xs = true := h
          exact alls_set h' (updAt_clean hg z3 (alls_get h' z2))
  | [], .und, _, e, _ => by cases e
  | [], .non, _, e, _ => by cases e
  | [], .bl _, _, e, _ => by cases e
  | [], .int _, _, e, _ => by cases e
  | [], .str _, _, e, _ => by cases e
  | [], .fn _, _, e, _ => by cases e
  | _ :: _, .und, _, e, _ => by cases e
  | _ :: _, .non, _, e, _ => by cases e
  | _ :: _, .bl _, _, e, _ => by cases e
  | _ :: _, .int _, _, e, _ => by cases e
  | _ :: _, .str _, _, e, _ => by cases e
  | _ :: _, .fn _, _, e, _ => by cases e
  | [], .nd .new _ _, _, e, _ => by cases e
  | [], .nd .any _ _, _, e, _ => by cases e
  | [], .nd .bor _ _, _, e, _ => by cases e
  | [], .nd .sta _ _, _, e, _ => by cases e
  | [], .nd .own .tup _, _, e, _ => by cases e
  | [], .nd .own (.dic _) _, _, e, _ => by cases e
  | [], .nd .own (.ins _ _) _, _, e, _ => by cases e
  | _ :: _, .nd .new _ _, _, e, _ => by cases e
  | _ :: _, .nd .any _ _, _, e, _ => by cases e
  | _ :: _, .nd .bor _ _, _, e, _ => by cases e
  | _ :: _, .nd .sta _ _, _, e, _ => by cases e
  | _ :: _, .nd .own (.dic _) _, _, e, _ => by cases e
  | _ :: _, .nd .own (.ins _ _) _, _, e, _ => by cases e

section
variable {X : Cx} {c : Gc} {G : Calls} {f : Fr} {W : WX} {σ : St} {H H' : Hp} {env ds : List D} {vs : List V} {Q : VK} {fs : Nm} {sc : Scope}
theorem updEnv_inv {g : List D → Option (List D)} {i : Nat} {ks : List Int} {env' : List D} (h : updEnv g i ks env = .ok env') : ∃ d d', env[i]? = some d ∧ D.updAt g ks d = some d' ∧ env' = env.set i d' := by
  have h := R.of_inv h
  cases z : env[i]? with
  | none => rw [z] at h; cases h
  | some d =>
    rw [z] at h
    have h : ((D.updAt g ks d).map fun d' => env.set i d') = some env' := h
    cases z2 : D.updAt g ks d with
    | none => rw [z2] at h; cases h
    | some d' =>
      rw [z2] at h
      cases h
      exact ⟨d, d', rfl, z2, rfl⟩
theorem updAt_und {g : List D → Option (List D)} {ks : List Int} {d' : D} : D.updAt g ks .und = some d' → False := fun h => by
  cases ks <;> cases h
/-- a list that a slot holds is written -/
theorem SR.mut {g : List D → Option (List D)} {i : Nat} {ks : List Int} {env' tds : List D} {tus : List V} (S : SR c f σ H env (tds ++ ds) (tus ++ vs)) (hl : tds.length = tus.length) (hc : D.alls notBor ds = true)
    (hg : ∀ xs xs', g xs = some xs' → D.alls notBor xs = true → D.alls notBor xs' = true) (e : updEnv g i ks env = .ok env') :
    ∃ (v : V) (p : Addr) (us : List V) (xs xs' : List D), σ[i]? = some (some v) ∧ PathV H ks v (.ref p) ∧ H p = some (.lst us) ∧ g xs = some xs' ∧ us.length = xs.length ∧ ∀ us' : List V,
      (∀ Fa Fn m1 mt, Same Fa H → Und c Fn Fa H → Reps c Fa Fn H xs us m1 → Reps c Fa Fn H tds tus mt → ∃ m1', Reps c Fa Fn H xs' us' m1' ∧ ∀ a, m1' a ≤ m1 a + mt a) →
      SR (c.wh (upd H p (.lst us'))) f σ (upd H p (.lst us')) env' ds vs := by
  obtain ⟨d, d', e1, e2, rfl⟩ := updEnv_inv e
  have hu : d ≠ .und := fun q => by subst q; exact updAt_und e2
  obtain ⟨Fa, Fn, mS, mT, S⟩ := S
  obtain ⟨v, n1, n2, hv, hd, hS, hm⟩ := S.slots.get e1 hu
  obtain ⟨p, us, xs, xs', m1, m2, w1, w2, w3, w4, w5, w6⟩ := Rep.lens hd e2
  obtain ⟨z1, z2, mt, mr, ee, k1, k2, k3⟩ := S.tmps.split
  obtain ⟨rfl, rfl⟩ := List.append_inj ee (by rw [← hl, k1.len])
  refine ⟨v, p, us, xs, xs', hv, w1, w2, w4, w3.len.symm, fun us' hx => ?_⟩
  obtain ⟨m1', r', hle⟩ := hx Fa Fn m1 mt S.sub ⟨S.subn, S.hbs⟩ w3 k1
  have hone := S.one
  have tot : ∀ a, mS a + mT a = m1 a + m2 a + (if a = p then 1 else 0) + n2 a + mt a + mr a := fun a => by have := hm a; have := w5 a; have := k3 a; omega
  have fp := S.free p (by have := tot p; rw [if_pos rfl] at this; omega)
  have np : ∀ {q : Addr}, m1 q + m2 q + n2 q + mt q + mr q ≠ 0 → q ≠ p := fun {q} h e => by
    subst e
    have := tot q
    have := hone q
    rw [if_pos rfl] at *
    omega
  have hm2p : ∀ q, m2 q ≠ 0 → (upd H p (.lst us')) q = H q := fun q h => upd_ne (np (by omega))
  have r2 : Reps c Fa Fn (upd H p (.lst us')) xs' us' m1' := r'.to (fun q k vs h a => a.cong (upd_ne (np (by have := hle q; omega)))) (Same.refl _) (Same.refl _)
  have rd : Rep c Fa Fn (upd H p (.lst us')) d' v fun a => m1' a + m2 a + if a = p then 1 else 0 := w6 upd_same hm2p r2
  have hS2 : Slots c Fa Fn (upd H p (.lst us')) (env.set i .und) σ n2 := hS.to (fun q k vs h a => a.cong (upd_ne (np (by omega)))) (Same.refl _) (Same.refl _)
  have hlt : i < env.length := (List.getElem?_eq_some_iff.mp e1).1
  have hP := hS2.put (i := i) (by rw [List.getElem?_set_self hlt]) rd
  rw [List.set_set] at hP
  have hσ : σ.set i (some v) = σ := by
    have hlt2 : i < σ.length := (List.getElem?_eq_some_iff.mp hv).1
    have q2 : σ[i] = some v := (List.getElem?_eq_some_iff.mp hv).2
    rw [← q2]
    exact List.set_getElem_self hlt2
  rw [hσ] at hP
  have hcl : D.alls notBor (env.set i d') = true := clean_set S.cl (updAt_clean hg e2 (clean_get S.cl e1))
  have k2' : Reps c Fa Fn (upd H p (.lst us')) ds vs mr := k2.to (fun q k vs h a => a.cong (upd_ne (np (by omega)))) (Same.refl _) (Same.refl _)
  obtain ⟨ws, rr, ll, qq⟩ := hP
  have kp : ∀ a, (upd H p (.lst us')) a = none → H a = none := fun a h => by
    by_cases e : a = p
    · subst e; rw [upd_same] at h; cases h
    · rw [upd_ne e] at h; exact h
  refine ⟨Fa, Fn, _, mr, { S with slots := ⟨ws, rr.chb hcl, ll, qq⟩, tmps := k2'.chb hc, cl := hcl, one := fun a => ?_, free := fun a h => S.free a ?_, sub := fun a o h => ?_, dom := fun a h => S.dom a (kp a h), keep := fun a o h n => ?_, hbs := Same.refl _, hbo := fun a h => rfl }⟩
  · have := tot a; have := hone a; have := hle a
    show (m1' a + m2 a + if a = p then 1 else 0) + n2 a + mr a ≤ 1
    omega
  · have h' : (m1' a + m2 a + if a = p then 1 else 0) + n2 a + mr a ≠ 0 := h
    have := tot a; have := hle a
    omega
  · rw [upd_ne (fun e => by subst e; rw [fp.1] at h; cases h)]
    exact S.sub a o h
  · rw [upd_ne (fun e => by subst e; rcases fp.2 with z | z; (rw [z] at h; cases h); exact n z)]
    exact S.keep a o h n
theorem putF_app {x : Str} {y : V} : ∀ {fl : List Str} {us : List V}, fl.contains x = false → fl.length = us.length → putF x y (fl.zip us) = (fl ++ [x]).zip (us ++ [y])
  | [], [], _, _ => rfl
  | n :: fl, u :: us, h, hl => by
    rw [List.contains_cons, Bool.or_eq_false_iff] at h
    have hne : ¬ n = x := fun e => by subst e; simp at h
    show putF x y ((n, u) :: fl.zip us) = _
    rw [putF, if_neg hne, putF_app h.2 (by simpa using hl)]
    rfl
  | [], _ :: _, _, hl => by cases hl
  | _ :: _, [], _, hl => by cases hl
/-- self takes a field -/
theorem SR.fset {i : Nat} {x : Str} {env' : List D} {d : D} {y : V} (S : SR c f σ H env (d :: ds) (y :: vs)) (hc : D.alls notBor ds = true) (hd : d.clean = true) (e : setF i x d env = .ok env') :
    ∃ (p : Addr) (n : Str) (fl : List Str) (us : List V) (C dx : Addr), σ[i]? = some (some (.ref p)) ∧ c.cls n = some C ∧ H p = some (.ins C dx (fl.zip us)) ∧ (fl.zip us).length < 1000 ∧ SR (c.wh (upd H p (.ins C dx (putF x y (fl.zip us))))) f σ (upd H p (.ins C dx (putF x y (fl.zip us)))) env' ds vs := by
  unfold setF at e
  split at e
  case h_2 => cases e
  rename_i n fl xs e1
  split at e
  · cases e
  rename_i hb
  cases e
  have hb : (fl.contains x || !(decide (fl.length < 900)) || !(decide (fl.length = xs.length))) = false := by simpa using hb
  simp only [Bool.or_eq_false_iff, Bool.not_eq_false', decide_eq_true_eq] at hb
  obtain ⟨⟨hx, h9⟩, hlx⟩ := hb
  obtain ⟨Fa, Fn, mS, mT, S⟩ := S
  obtain ⟨v, n1, n2, hv, hr, hS, hm⟩ := S.slots.get e1 (by intro q; cases q)
  obtain ⟨p, us, m', rfl, r, at1, hp⟩ := hr
  obtain ⟨C, dx, c1, c2, c3⟩ := at1
  obtain ⟨y', rr, t1, t2, ee, k1, k2, k3⟩ := S.tmps
  injection ee with ee1 ee2
  subst ee1
  subst ee2
  have hone := S.one
  have tot : ∀ a, mS a + mT a = m' a + (if a = p then 1 else 0) + n2 a + t1 a + t2 a := fun a => by have := hm a; have := hp a; have := k3 a; omega
  have fp := S.free p (by have := tot p; rw [if_pos rfl] at this; omega)
  have np : ∀ {q : Addr}, m' q + n2 q + t1 q + t2 q ≠ 0 → q ≠ p := fun {q} h e => by
    subst e
    have := tot q
    have := hone q
    rw [if_pos rfl] at *
    omega
  refine ⟨p, n, fl, us, C, dx, hv, c1, c2, by rw [List.length_zip]; omega, ?_⟩
  rw [putF_app hx c3]
  generalize hH : upd H p (.ins C dx ((fl ++ [x]).zip (us ++ [y]))) = H'
  have uo : ∀ {q : Addr}, q ≠ p → H' q = H q := fun {q} h => by rw [← hH]; exact upd_ne h
  have us_ : H' p = some (.ins C dx ((fl ++ [x]).zip (us ++ [y]))) := by rw [← hH]; exact upd_same
  have r1 : Reps c Fa Fn H' xs us m' := r.to (fun q k vs h a => a.cong (uo (np (by omega)))) (Same.refl _) (Same.refl _)
  have r2 : Rep c Fa Fn H' d y t1 := k1.to (fun q k vs h a => a.cong (uo (np (by omega)))) (Same.refl _) (Same.refl _)
  have r3 : Reps c Fa Fn H' (xs ++ [d]) (us ++ [y]) fun a => m' a + t1 a := r1.append (es := [d]) (us := [y]) ⟨y, [], t1, fun _ => 0, rfl, r2, ⟨rfl, fun _ => rfl⟩, fun _ => rfl⟩
  have rd : Rep c Fa Fn H' (.nd .own (.ins n (fl ++ [x])) (xs ++ [d])) (.ref p) fun a => (m' a + t1 a) + if a = p then 1 else 0 :=
    ⟨p, us ++ [y], _, rfl, r3, ⟨C, dx, c1, us_, by rw [List.length_append, List.length_append, c3]; rfl⟩, fun _ => rfl⟩
  have hS2 : Slots c Fa Fn H' (env.set i .und) σ n2 := hS.to (fun q k vs h a => a.cong (uo (np (by omega)))) (Same.refl _) (Same.refl _)
  have hlt : i < env.length := (List.getElem?_eq_some_iff.mp e1).1
  have hP := hS2.put (i := i) (by rw [List.getElem?_set_self hlt]) rd
  rw [List.set_set] at hP
  have hσ : σ.set i (some (.ref p)) = σ := by
    have hlt2 : i < σ.length := (List.getElem?_eq_some_iff.mp hv).1
    have q2 : σ[i] = some (.ref p) := (List.getElem?_eq_some_iff.mp hv).2
    rw [← q2]
    exact List.set_getElem_self hlt2
  rw [hσ] at hP
  have hcx : D.alls notBor xs = true := by
    have q : (D.nd .own (.ins n fl) xs).clean = true := clean_get S.cl e1
    exact q
  have hcl : D.alls notBor (env.set i (.nd .own (.ins n (fl ++ [x])) (xs ++ [d]))) = true := clean_set S.cl (by
    show (true && D.alls notBor (xs ++ [d])) = true
    rw [Bool.true_and]
    exact alls_app hcx (by show (d.all notBor && true) = true; rw [Bool.and_true]; exact hd))
  have k2' : Reps c Fa Fn H' ds vs t2 := k2.to (fun q k vs h a => a.cong (uo (np (by omega)))) (Same.refl _) (Same.refl _)
  obtain ⟨ws, rr, ll, qq⟩ := hP
  have kp : ∀ a, H' a = none → H a = none := fun a h => by
    by_cases e : a = p
    · subst e; rw [us_] at h; cases h
    · rw [uo e] at h; exact h
  refine ⟨Fa, Fn, _, t2, { S with slots := ⟨ws, rr.chb hcl, ll, qq⟩, tmps := k2'.chb hc, cl := hcl, one := fun a => ?_, free := fun a h => S.free a ?_, sub := fun a o h => ?_, dom := fun a h => S.dom a (kp a h), keep := fun a o h n => ?_, hbs := Same.refl _, hbo := fun a h => rfl }⟩
  · have := tot a; have := hone a
    show ((m' a + t1 a) + if a = p then 1 else 0) + n2 a + t2 a ≤ 1
    omega
  · have h' : ((m' a + t1 a) + if a = p then 1 else 0) + n2 a + t2 a ≠ 0 := h
    have := tot a
    omega
  · rw [uo (fun e => by subst e; rw [fp.1] at h; cases h)]
    exact S.sub a o h
  · rw [uo (fun e => by subst e; rcases fp.2 with z | z; (rw [z] at h; cases h); exact n z)]
    exact S.keep a o h n
/-- an expression for a place, its slot's value at hand -/
theorem Pl_ok (hX : XOk X c G fs) (hsc : ScOk sc X) (hfz : FzOk G f) (tk : Takes X W) {i : Nat} {v w : V} (hv : σ[i]? = some (some v)) : ∀ {ps : List E} {a : Expr} {ks : List Int} {H : Hp} {Q : VK}, matPl fs sc X.N i ps a = true → semPl G ps env = .ok ks → SR c f σ H env ds vs → PathV H ks v w →
    (∀ H', Same H H' → SR c f σ H' env ds vs → Q w H') → wpE X a σ H Q
  | [], a, ks, H, Q, hm, hs, S, hp, k => by
    cases a with
    | Name x pos =>
      have hm : visC sc X.N i x = true := hm
      obtain ⟨h1, h2, h3, h4⟩ := hsc.vis hm
      rw [semPl] at hs
      cases hs
      have hp : w = v := hp
      subst hp
      exact wpE.of (pe_var (i := i) h1 h2 h3 h4) ⟨w, hv, k H (Same.refl _) S⟩
    | _ => cases hm
  | e :: r, a, ks, H, Q, hm, hs, S, hp, k => by
    cases a with
    | Subscript b j pos =>
      have hm : (matPl fs sc X.N i r b && e.mat fs sc X.N false j) = true := hm
      rw [Bool.and_eq_true] at hm
      rw [semPl] at hs
      by_cases hpure : e.pure = true
      · rw [if_pos hpure] at hs
        obtain ⟨ks', q1, q2⟩ := R.inv hs
        obtain ⟨p, q3, q4⟩ := R.inv q2
        have q3 : e.sem G env = .ok p := by
          cases z : e.sem G env with
          | ok a => rw [z] at q3; exact q3
          | exc x fl e => rw [z] at q3; cases q3
          | stuck => rw [z] at q3; cases q3
        have hpe := E.pure_ok G e _ _ hpure q3
        obtain ⟨d, env2⟩ := p
        cases d with
        | int n =>
          cases q4
          have hpe : env2 = env := hpe
          rw [hpe] at q3
          obtain ⟨a', us, jj, p1, p2, p3, p4⟩ := PathV.snoc hp
          refine wpE.of (pe_ix ix_seq wpE.pe wpE.pe (mat_ix hm.2)) (Pl_ok hX hsc hfz tk hv hm.1 q1 S p1 fun H1 s1 S1 => ?_)
          refine (E_ok hfz e X W sc j hX hsc tk).1 hm.2 σ H1 env ds vs _ S1 ?_
          rw [q3]
          intro u H2 s2 S2
          obtain ⟨Fa, Fn, m, _, _, kk, _⟩ := S2.use1
          have hu : u = .int n := kk.1
          subst hu
          have fin : atI us n = some w := by
            unfold atI
            rw [p3]
            exact p4
          rcases p2 with p2 | p2
          · exact .inl ⟨a', us, n, w, rfl, rfl, .inl (.inl (s2 _ _ (s1 _ _ p2))), fin, k H2 (s1.trans s2) S2.unbox⟩
          · exact .inr (.inl ⟨a', us, n, w, rfl, rfl, .inl (.inl (s2 _ _ (s1 _ _ p2))), fin, k H2 (s1.trans s2) S2.unbox⟩)
        | nd t kd xs => cases q4
        | _ => cases q4
      · rw [if_neg hpure] at hs; cases hs
    | _ => cases hm
end
end VI

set_option maxHeartbeats 4000000
namespace VI
open PySem PySem.Spec L2
open PyProof.Rows hiding St

def wpS (X : Cx) (st : Stmt) : TS := fun D σ H => ∀ (pins : List (Addr × Obj)) (s : Shared), Inv X pins σ H s → wpAny (model X.prog X.w) X.A (exec st X.env) (SP X pins D) X.xe s
def wpSs (X : Cx) (st : List Stmt) : TS := fun D σ H => ∀ (pins : List (Addr × Obj)) (s : Shared), Inv X pins σ H s → wpAny (model X.prog X.w) X.A (execs st X.env) (SP X pins D) X.xe s
theorem wpS.ps {X : Cx} {st : Stmt} : PS X st (wpS X st) := ⟨fun pins s σ H D I h => h pins s I⟩
theorem wpSs.pss {X : Cx} {st : List Stmt} : PSs X st (wpSs X st) := ⟨fun pins s σ H D I h => h pins s I⟩
theorem wpS.of {X : Cx} {st : Stmt} {t : TS} (h : PS X st t) {D : Ends} {σ : St} {H : Hp} (q : t D σ H) : wpS X st D σ H := fun pins s I => h.run pins s σ H D I q
theorem wpSs.of {X : Cx} {st : List Stmt} {t : TS} (h : PSs X st t) {D : Ends} {σ : St} {H : Hp} (q : t D σ H) : wpSs X st D σ H := fun pins s I => h.run pins s σ H D I q

structure XSt (X : Cx) (c : Gc) (G : Calls) (fs : Nm) (sc : Scope) (W : WX) : Prop where
  ok : XOk X c G fs
  sco : ScOk sc X
  scp : X.env.scope = sc
  kd : sc.kind = .function
  tk : Takes X W
  own : PassesOwn (model X.prog X.w) X.A X.env X.xe
theorem XOk.wh {X : Cx} {c : Gc} {G : Calls} {fs : Nm} (h : XOk X c G fs) (hb : Hp) : XOk X (c.wh hb) G fs :=
  ⟨h.w, h.setn, h.fl, h.fa, h.mkc, h.mt, h.kls, h.sub, h.K, h.mg, h.calm, h.nd, h.un, h.cst, h.blt, h.tys, h.rng, h.fn⟩
section
variable (c : Gc) (f : Fr) (W : WX)
/-- how a block is to end -/
def WpS (EE : Ends) (ds : List D) (vs : List V) : R Oc → Prop
  | .ok (.nx e) => ∀ σ' H', SR (c.wh H') f σ' H' e ds vs → EE.nx σ' H'
  | .ok (.bk e) => ∀ σ' H', SR (c.wh H') f σ' H' e ds vs → EE.bk σ' H'
  | .ok (.ct e) => ∀ σ' H', SR (c.wh H') f σ' H' e ds vs → EE.ct σ' H'
  | .ok (.rt d e) => ∀ v σ' H', d.clean = true → SR (c.wh H') f σ' H' e (d :: ds) (v :: vs) → EE.rt v H'
  | .exc x fl e => ∀ cls dd σ' H', SR (c.wh H') f σ' H' e [] [] → ExcR c x fl cls dd H' → W cls dd σ' H'
  | .stuck => False
end
section
variable {X : Cx} {c : Gc} {G : Calls} {f : Fr} {W : WX} {σ : St} {H H' : Hp} {env ds : List D} {vs : List V} {Q : VK} {fs : Nm} {sc : Scope} {E : Ends}
theorem SR.reb {h : Hp} (S : SR (c.wh h) f σ H env ds vs) (hc : D.alls notBor ds = true) : SR (c.wh H) f σ H env ds vs := SR.rebase (c := c.wh h) S hc
theorem WpS.exc {x : Str} {fl e : List D} {H' : Hp} (h : WpS c f W E ds vs (.exc x fl e)) {cls : Value} {dd : Option Addr} (S : SR (c.wh H) f σ H' e [] []) (q : ExcR (c.wh H) x fl cls dd H') : W cls dd σ H' :=
  h cls dd σ H' (SR.reb S rfl) q
/-- an expression, then the rest -/
theorem bindE (hX : XSt X c G fs sc W) (hfz : FzOk G f) {e : VI.E} {a : Expr} (hm : e.mat fs sc X.N false a = true) (S : SR (c.wh H) f σ H env ds vs) {g : D × List D → R Oc} (h : WpS c f W E ds vs ((e.sem G env).bind g)) {Q' : VK}
    (k : ∀ p v H', Same H H' → SR (c.wh H) f σ H' p.2 (p.1 :: ds) (v :: vs) → WpS c f W E ds vs (g p) → Q' v H') : wpE X a σ H Q' := by
  refine (E_ok hfz e X W sc a (hX.ok.wh H) hX.sco hX.tk).1 hm σ H env ds vs Q' S ?_
  cases r : e.sem G env with
  | ok p =>
    rw [r] at h
    exact fun v H' s q => k p v H' s q h
  | exc x fl e' =>
    rw [r] at h
    exact fun cls dd H' s q x => h.exc q x
  | stuck => rw [r] at h; exact h.elim
theorem bindT (hX : XSt X c G fs sc W) (hfz : FzOk G f) {e : VI.E} {a : Expr} (hm : e.mat fs sc X.N true a = true) (S : SR (c.wh H) f σ H env ds vs) {g : D × List D → R Oc} (h : WpS c f W E ds vs ((e.sem G env).bind g)) {Q' : Bool → Hp → Prop}
    (hnb : ∀ p, (∀ b, p.1 ≠ .bl b) → g p = .stuck) (k : ∀ b env' H', Same H H' → SR (c.wh H) f σ H' env' ds vs → WpS c f W E ds vs (g (.bl b, env')) → Q' b H') : wpT X a σ H Q' := by
  refine (E_ok hfz e X W sc a (hX.ok.wh H) hX.sco hX.tk).2 hm σ H env ds vs Q' S ?_
  cases r : e.sem G env with
  | ok p =>
    rw [r] at h
    obtain ⟨d, env'⟩ := p
    have h : WpS c f W E ds vs (g (d, env')) := h
    by_cases hb : ∃ b, d = .bl b
    · obtain ⟨b, rfl⟩ := hb
      exact ⟨b, rfl, fun H' s q => k b env' H' s q h⟩
    · rw [hnb (d, env') fun b e => hb ⟨b, e⟩] at h
      exact h.elim
  | exc x fl e' =>
    rw [r] at h
    exact fun cls dd H' s q x => h.exc q x
  | stuck => rw [r] at h; exact h.elim
theorem bindA (hX : XSt X c G fs sc W) (hfz : FzOk G f) {es : List VI.E} {as : List Expr} (hm : matL fs sc X.N false es as = true) (S : SR (c.wh H) f σ H env ds vs) {g : List D × List D → R Oc} (h : WpS c f W E ds vs ((semL G es env).bind g)) {Q' : List V → Hp → Prop}
    (k : ∀ p us H', us.length = p.1.length → Same H H' → SR (c.wh H) f σ H' p.2 (p.1 ++ ds) (us ++ vs) → WpS c f W E ds vs (g p) → Q' us H') : wpA X as σ H Q' := by
  refine ((L_ok hfz es X W sc as (hX.ok.wh H) hX.sco hX.tk).1 hm).1 σ H env ds vs Q' S ?_
  cases r : semL G es env with
  | ok p =>
    rw [r] at h
    exact fun us H' hl s q => k p us H' hl s q h
  | exc x fl e' =>
    rw [r] at h
    exact fun cls dd H' s q x => h.exc q x
  | stuck => rw [r] at h; exact h.elim
theorem noexcS {α : Type} {r : R α} {g : α → R Oc} (h : WpS c f W E ds vs ((R.noexc r).bind g)) : ∃ a, r = .ok a ∧ WpS c f W E ds vs (g a) := by
  cases r with
  | ok a => exact ⟨a, rfl, h⟩
  | exc x fl e => exact h.elim
  | stuck => exact h.elim
theorem ofS {α : Type} {o : Option α} {g : α → R Oc} (h : WpS c f W E ds vs ((R.of o).bind g)) : ∃ a, o = some a ∧ WpS c f W E ds vs (g a) := by
  cases o with
  | some a => exact ⟨a, rfl, h⟩
  | none => exact h.elim
theorem ifS {b : Bool} {r : R Oc} (h : WpS c f W E ds vs (if b = true then r else .stuck)) : b = true ∧ WpS c f W E ds vs r := by
  cases b with
  | true => exact ⟨rfl, h⟩
  | false => exact h.elim
theorem updEnv_noexc {g : List D → Option (List D)} {i : Nat} {ks : List Int} {k : List D → R Oc} (h : WpS c f W E ds vs ((updEnv g i ks env).bind k)) : ∃ env', updEnv g i ks env = .ok env' ∧ WpS c f W E ds vs (k env') := by
  unfold updEnv at h ⊢
  obtain ⟨a, e, q⟩ := ofS h
  exact ⟨a, by rw [e]; rfl, q⟩
variable (X c G f W fs) in
def PSc (s : VI.S) (st : Stmt) : Prop := ∀ σ H env ds vs E, SR (c.wh H) f σ H env ds vs → D.alls notBor ds = true → WpS c f W E ds vs (s.sem G env) → wpS X st E σ H
variable (X c G f W fs) in
def PSsc (s : List VI.S) (sts : List Stmt) : Prop := ∀ σ H env ds vs E, SR (c.wh H) f σ H env ds vs → D.alls notBor ds = true → WpS c f W E ds vs (semSs G s env) → wpSs X sts E σ H

theorem swB_ok {v : Expr} {y : Str} {py : Pos} {l : Nat} {b : Bool} (hs : X.env.scope = sc) (hk : sc.kind = .function) (h : swB sc v y py = some b) : swapsWith v (some (.Name y py)) l X.env = pure b := by
  subst hs
  have hb : X.env.blockKind = .function := by unfold Env.blockKind; rw [hk]; rfl
  unfold swB at h
  split at h
  · rename_i el gs s pos
    split at h
    · rename_i hy
      have ky : X.env.kindOf y = some .local := hy
      split at h
      · rename_i hc
        cases h
        rw [Bool.and_eq_true] at hc
        unfold swapsWith
        simp only [hb, ky, hc.2, Expr.pos, hc.1]
        rfl
      · cases h
    · rename_i hy
      cases h
      have ky : X.env.kindOf y = some .cell := hy
      unfold swapsWith
      simp only [hb, ky, Expr.pos]
      rfl
    · cases h
  · cases h
  · cases h
  · rename_i hn1 hn2 hn3
    cases h
    cases v <;> first | rfl | exact absurd rfl (hn1 _ _ _ _) | exact absurd rfl (hn2 _ _ _ _) | exact absurd rfl (hn3 _ _ _ _ _)
theorem swSub {v : Expr} (h : isLc v = false) {tg : Expr} {l : Nat} : swapsWithSole [tg] v l X.env = pure false := by
  cases v <;> first | rfl | cases h
theorem swNone {v : Expr} (h : isLc v = false) {l : Nat} : swapsWith v none l X.env = pure false := by
  cases v <;> first | rfl | cases h
theorem swStore {v tg : Expr} (h : isTup v = false) : swappedStores [tg] v X.env = pure none := by
  cases v <;> first | (cases h; done) | (cases tg <;> rfl)
theorem swStoreN {v : Expr} {y : Str} {p : Pos} : swappedStores [.Name y p] v X.env = pure none := by
  cases v <;> rfl
theorem T.mat_assign {tg : T} {tga : Expr} {N : List Str} (h : tg.mat sc N tga = true) : (assignEach [tga] X.env).map (·.2) = [assign tga X.env] := by
  cases tg <;> cases tga <;> first | rfl | cases h

/-! ### one by one -/
theorem PSc.asg (hX : XSt X c G fs sc W) (hfz : FzOk G f) {t : T} {e : VI.E} {tga v : Expr} {pos : Pos} (hm : VI.S.mat fs sc X.N (.asg t e) (.Assign [tga] v pos) = true) : PSc X c G f W (.asg t e) (.Assign [tga] v pos) := by
  intro σ H env ds vs E S hcl h
  have hm : (t.mat sc X.N tga && e.mat fs sc X.N false v && asgOk sc v t tga) = true := hm
  rw [Bool.and_eq_true, Bool.and_eq_true] at hm
  obtain ⟨⟨h1, h2⟩, h3⟩ := hm
  rw [VI.S.sem] at h
  -- the store
  have store : ∀ (p : D × List D) (u : V) (H' : Hp), SR (c.wh H) f σ H' p.2 (p.1 :: ds) (u :: vs) → WpS c f W E ds vs (if (p.1.clean || t.nown p.1) = true then (t.set p.1 p.2).noexc.bind fun env' => .ok (.nx env') else .stuck) → tgG c.K t u σ H' E.nx := fun p u H' S' h' => by
    obtain ⟨hb, h'⟩ := ifS h'
    obtain ⟨env', e1, h'⟩ := noexcS h'
    by_cases hc : p.1.clean = true
    · have hcd : D.alls notBor (p.1 :: ds) = true := by
        show (p.1.clean && D.alls notBor ds) = true
        rw [hc, hcl]; rfl
      exact T_ok (c := c.wh H') (SR.reb S' hcd) e1 (.inr rfl) fun σ' S2 _ _ => h' σ' H' S2
    · have hn : t.nown p.1 = true := by
        cases q : p.1.clean with
        | true => exact absurd q hc
        | false => rw [q] at hb; simpa using hb
      exact T_ok S' e1 (.inl hn) fun σ' S2 _ _ => h' σ' H' (SR.reb S2 hcl)
  have hpg := tg_pg hX.ok hX.sco h1
  cases t with
  | tp is =>
    have h3 : (!isLc v && !isTup v) = true := h3
    rw [Bool.and_eq_true, Bool.not_eq_true', Bool.not_eq_true'] at h3
    exact wpS.of (ps_asg wpE.pe hpg (swSub h3.1) (swStore h3.2) (T.mat_assign h1)) (bindE hX hfz h2 S h fun p u H' _ S' h' => store p u H' S' h')
  | nm i =>
    cases tga with
    | Name y py =>
      have h3 : (swB sc v y py).isSome = true := h3
      cases z : swB sc v y py with
      | none => rw [z] at h3; cases h3
      | some b =>
        have hs := swB_ok (X := X) (l := pos.line) hX.scp hX.kd z
        cases b with
        | false => exact wpS.of (ps_asg wpE.pe hpg hs swStoreN (T.mat_assign (tg := .nm i) h1)) (bindE hX hfz h2 S h fun p u H' _ S' h' => store p u H' S' h')
        | true =>
          obtain ⟨q1, q2, q3⟩ := hX.sco.loc h1
          have hloc : X.env.scope.names.lookup y = some .local := by
            unfold swB at z
            split at z
            · split at z
              · rename_i hy; rw [hX.scp]; exact hy
              · cases z
              · cases z
            all_goals cases z
          cases e with
          | comp ws tg k its cond elt =>
            obtain ⟨_, te, _, p2, p3⟩ := lc_all (c := c.wh H) hfz (L_ok hfz its) (L_ok hfz cond) (E_ok hfz elt) (hX.ok.wh H) hX.sco hX.tk h2
            refine wpS.of (p2 i y py pos q1 hloc hs) (p3 σ H env ds vs _ S ?_)
            cases r : (VI.E.comp ws tg k its cond elt).sem G env with
            | ok p =>
              rw [r] at h
              exact fun u H' s S' => store p u H' S' h
            | exc x fl e' =>
              rw [r] at h
              exact fun cls dd H' s q x => h.exc q x
            | stuck => rw [r] at h; exact h.elim
          | _ =>
            exfalso
            cases v <;> first | (cases z; done) | (simp [VI.E.mat] at h2; done)
    | _ => cases h1
theorem PSc.ret (hX : XSt X c G fs sc W) (hfz : FzOk G f) {e : VI.E} {v : Expr} {pos : Pos} (hm : e.mat fs sc X.N false v = true) : PSc X c G f W (.ret e) (.Return (some v) pos) := by
  intro σ H env ds vs E S hcl h
  rw [VI.S.sem] at h
  refine wpS.of (ps_ret wpE.pe) (bindE hX hfz hm S h fun p u H' _ S' h' => ?_)
  obtain ⟨hb, h'⟩ := ifS h'
  have hcd : D.alls notBor (p.1 :: ds) = true := by
    show (p.1.clean && D.alls notBor ds) = true
    rw [hb, hcl]; rfl
  exact h' u σ H' hb (SR.reb S' hcd)
theorem PSc.retN {pos : Pos} : PSc X c G f W .retN (.Return none pos) := by
  intro σ H env ds vs E S hcl h
  rw [VI.S.sem] at h
  exact wpS.of ps_retN (h .non σ H rfl (S.push fun Fa Fn => ⟨rfl, fun _ => rfl⟩))
theorem PSc.exp (hX : XSt X c G fs sc W) (hfz : FzOk G f) {e : VI.E} {v : Expr} {pos : Pos} (hm : e.mat fs sc X.N false v = true) (hl : isLc v = false) : PSc X c G f W (.exp e) (.Expr v pos) := by
  intro σ H env ds vs E S hcl h
  rw [VI.S.sem] at h
  exact wpS.of (ps_expr wpE.pe (swNone hl)) (bindE hX hfz hm S h fun p u H' _ S' h' => h' σ H' (SR.reb S'.unbox hcl))
theorem nb_if {α : Type} (A B : List D → R α) : ∀ p : D × List D, (∀ b, p.1 ≠ .bl b) → (match p.1 with | .bl true => A p.2 | .bl false => B p.2 | _ => .stuck) = .stuck := fun p h => by
  obtain ⟨d, e⟩ := p
  cases d <;> first | rfl | exact absurd rfl (h _)
theorem PSc.ifs (hX : XSt X c G fs sc W) (hfz : FzOk G f) {e : VI.E} {a b : List VI.S} {v : Expr} {p q : List Stmt} {pos : Pos} (hm : e.mat fs sc X.N true v = true) (ha : PSsc X c G f W a p) (hb : PSsc X c G f W b q) : PSc X c G f W (.ifs e a b) (.If v p q pos) := by
  intro σ H env ds vs E S hcl h
  rw [VI.S.sem] at h
  refine wpS.of (ps_if wpT.pt wpSs.pss wpSs.pss) (bindT hX hfz hm S h (nb_if _ _) fun k env' H' _ S' h' => ?_)
  cases k with
  | true => exact ha σ H' env' ds vs E (SR.reb S' hcl) hcl h'
  | false => exact hb σ H' env' ds vs E (SR.reb S' hcl) hcl h'
theorem PSsc.nil : PSsc X c G f W [] [] := fun σ H env ds vs E S hcl h => by
  rw [semSs] at h
  exact wpSs.of pss_nil (h σ H S)
theorem PSsc.cons {s : VI.S} {r : List VI.S} {st : Stmt} {sts : List Stmt} (h1 : PSc X c G f W s st) (h2 : PSsc X c G f W r sts) : PSsc X c G f W (s :: r) (st :: sts) := fun σ H env ds vs E S hcl h => by
  rw [semSs] at h
  refine wpSs.of (pss_cons wpS.ps wpSs.pss) (h1 σ H env ds vs _ S hcl ?_)
  cases z : s.sem G env with
  | stuck => rw [z] at h; exact h.elim
  | exc x fl e => rw [z] at h; exact h
  | ok o =>
    rw [z, R.bind_ok] at h
    cases o with
    | nx e => exact fun σ' H' S' => h2 σ' H' e ds vs E S' hcl h
    | bk e => exact h
    | ct e => exact h
    | rt d e => exact h
theorem PSsc.fgt {is : List Nat} {r : List VI.S} {sts : List Stmt} (h2 : PSsc X c G f W r sts) : PSsc X c G f W (.fgt is :: r) sts := fun σ H env ds vs E S hcl h => by
  rw [semSs, VI.S.sem, R.bind_ok] at h
  exact h2 σ H (wipeD env is) ds vs E (SR.wiped (S.drops is)) hcl h
/-! ### loops -/
theorem PSc.whl (hX : XSt X c G fs sc W) (hfz : FzOk G f) {n : Nat} {e : VI.E} {b : List VI.S} {v : Expr} {p : List Stmt} {pos : Pos} (hm : e.mat fs sc X.N true v = true) (hb : PSsc X c G f W b p) : PSc X c G f W (.whl n e b) (.While v p [] pos) := by
  intro σ H env ds vs E S hcl h
  rw [VI.S.sem] at h
  refine wpS.of (ps_while hX.own wpT.pt wpSs.pss) ⟨fun m σ H => ∃ env, SR (c.wh H) f σ H env ds vs ∧ WpS c f W E ds vs (whlL (fun env => e.sem G env) (fun env => semSs G b env) m env), ⟨n, env, S, h⟩, ?_⟩
  rintro m σ H ⟨env, S, h⟩
  cases m with
  | zero => rw [whlL] at h; exact h.elim
  | succ m =>
    rw [whlL] at h
    refine bindT hX hfz hm S h (fun p hp => ?_) fun k env' H' _ S' h' => ?_
    · obtain ⟨d, e⟩ := p
      cases d <;> first | rfl | exact absurd rfl (hp _)
    · cases k with
      | false =>
        rw [if_neg (by decide)]
        exact h' σ H' (SR.reb S' hcl)
      | true =>
        rw [if_pos rfl]
        refine ⟨fun σ' H' => ∃ env, SR (c.wh H') f σ' H' env ds vs ∧ WpS c f W E ds vs (whlL (fun env => e.sem G env) (fun env => semSs G b env) m env), fun σ' H' ⟨env, S, h⟩ => ⟨m, Nat.lt_succ_self m, env, S, h⟩, hb σ H' env' ds vs _ (SR.reb S' hcl) hcl ?_⟩
        cases z : semSs G b env' with
        | stuck => rw [z] at h'; exact h'.elim
        | exc x fl e => rw [z] at h'; exact h'
        | ok o =>
          rw [z, R.bind_ok] at h'
          cases o with
          | nx e => exact fun σ' H' S' => ⟨e, S', h'⟩
          | ct e => exact fun σ' H' S' => ⟨e, S', h'⟩
          | bk e => exact h'
          | rt d e => exact h'
end
end VI

set_option maxHeartbeats 4000000
namespace VI
open PySem PySem.Spec L2
open PyProof.Rows hiding St

section
variable {X : Cx} {c : Gc} {G : Calls} {f : Fr} {W : WX} {σ : St} {H H' : Hp} {env ds : List D} {vs : List V} {Q : VK} {fs : Nm} {sc : Scope} {E : Ends}
theorem matIt_set {N : List Str} {tg : T} {its : List VI.E} {k : Ik} {iter : Expr} (h5 : matIt fs sc N tg its k iter = true) : ∀ es k p, iter ≠ .Set es k p := by
  rintro es k' p' rfl
  unfold matIt at h5
  cases k with
  | lst =>
    have h5' : (matL fs sc N false its [.Set es k' p'] && lenOk .lst its.length) = true := h5
    rw [Bool.and_eq_true] at h5'
    cases its with
    | nil => simp [matL] at h5'
    | cons e r =>
      rw [matL, Bool.and_eq_true] at h5'
      exact mat_set h5'.1.1 es k' p' rfl
  | str =>
    have h5' : (matL fs sc N false its [.Set es k' p'] && lenOk .str its.length) = true := h5
    rw [Bool.and_eq_true] at h5'
    cases its with
    | nil => simp [matL] at h5'
    | cons e r =>
      rw [matL, Bool.and_eq_true] at h5'
      exact mat_set h5'.1.1 es k' p' rfl
  | rng => cases h5
  | zip => cases h5
  | zipS => cases h5
  | enum => cases h5
theorem SR.item0 {srcs items : List D} {us : List V} {J : It} (hw : WalkR c srcs us items J) (ho : D.alls notOwn srcs = true) (hlen : srcs.length = us.length) (S : SR c f σ H env (srcs ++ ds) (us ++ vs)) {i : Nat} :
    (items.length = i → J.stop i H) ∧ ∀ d, items[i]? = some d → J.go i H ∧ ∀ x H', J.yld i H x H' → Same H H' ∧ SR c f σ H' env (d :: (srcs ++ ds)) (x :: (us ++ vs)) := by
  have S1 : SR c f σ H env (.non :: (srcs ++ ds)) (.non :: (us ++ vs)) := S.push fun Fa Fn => ⟨rfl, fun _ => rfl⟩
  obtain ⟨h1, h2⟩ := SR.item hw ho hlen S1 (i := i)
  refine ⟨h1, fun d hd => ⟨(h2 d hd).1, fun x H' y => ?_⟩⟩
  obtain ⟨s, S2⟩ := (h2 d hd).2 x H' y
  exact ⟨s, SR.nip (srcs := [.non]) (us := [.non]) S2 rfl⟩
theorem PSc.for (hX : XSt X c G fs sc W) (hfz : FzOk G f) {t : T} {k : Ik} {its : List VI.E} {b : List VI.S} {tga iter : Expr} {p : List Stmt} {pos : Pos} (ht : t.mat sc X.N tga = true) (hm : matIt fs sc X.N t its k iter = true) (hb : PSsc X c G f W b p) :
    PSc X c G f W (.for t k its b) (.For tga iter p [] pos) := by
  intro σ H env ds vs E S hcl h
  rw [VI.S.sem] at h
  have hset := matIt_set hm
  have hfs : ∀ x, foldedSetIterable iter X.env x = pure x := fun x => by
    cases iter <;> first | rfl | exact absurd rfl (hset _ _ _)
  refine wpS.of (ps_for hX.own hX.ok.calm piAny (tg_pg hX.ok hX.sco ht) wpSs.pss hfs) ?_
  have htup : t.isTp = true → ∃ es n p, tga = .Tuple es n p := fun e => by
    cases t with
    | nm i => cases e
    | tp is => cases tga <;> first | exact ⟨_, _, _, rfl⟩ | cases ht
  show wiAny X tga iter σ H _
  refine PI_ok (c := c.wh H) (W := W) (hX.ok.wh H) hX.sco hfz hm htup (fun as q => ((L_ok hfz its X W sc as (hX.ok.wh H) hX.sco hX.tk).1 q).1) (fun e a _ q => (E_ok hfz e X W sc a (hX.ok.wh H) hX.sco hX.tk).1 q) S ?_
  cases z : semL G its env with
  | exc x fl e => rw [z] at h; exact fun cls dd H' s q x => h.exc q x
  | stuck => rw [z] at h; exact h
  | ok q =>
  rw [z, R.bind_ok] at h
  obtain ⟨hcq, h⟩ := ifS h
  obtain ⟨items, z2, h⟩ := ofS h
  refine ⟨items, z2, fun us H1 J s1 S1 hl1 _ hW => ?_⟩
  have hlen : (D.tags (ownTo G.frz) q.1).length = us.length := by rw [D.tags_map, List.length_map, hl1]
  have hno := hfz.notOwn q.1
  have hcs : D.alls notBor (D.tags (ownTo G.frz) q.1 ++ ds) = true := alls_app (hfz.clean hcq) hcl
  refine ⟨fun i m σ3 H3 => m = items.length - i ∧ i ≤ items.length ∧ ∃ env3, SR (c.wh H3) f σ3 H3 env3 (D.tags (ownTo G.frz) q.1 ++ ds) (us ++ vs) ∧ WpS c f W E ds vs (forL (fun env => semSs G b env) t (items.drop i) env3), ⟨items.length, by simp, Nat.zero_le _, q.2, SR.reb S1 hcs, h⟩, ?_⟩
  rintro i m σ3 H3 ⟨rfl, hi, env3, S3, h3⟩
  have hW3 : WalkR (c.wh H3) (D.tags (ownTo G.frz) q.1) us items J := hW H3
  obtain ⟨w1, w2⟩ := SR.item0 hW3 hno hlen S3 (i := i)
  by_cases hlt : i < items.length
  case neg =>
    refine .inl ⟨w1 (by omega), ?_⟩
    rw [List.drop_eq_nil_of_le (by omega), forL] at h3
    exact h3 σ3 H3 (S3.pop hlen)
  case pos =>
    have hd : items[i]? = some items[i] := List.getElem?_eq_getElem hlt
    rw [drop_cons hd, forL] at h3
    obtain ⟨go, yl⟩ := w2 _ hd
    by_cases hn : (!(items[i]).clean) = true
    case pos => rw [if_pos hn] at h3; exact h3.elim
    rw [if_neg hn] at h3
    have hcd : (items[i]).clean = true := by
      cases e : (items[i]).clean with
      | true => rfl
      | false => rw [e] at hn; exact absurd rfl hn
    obtain ⟨env1, e1, h3⟩ := noexcS h3
    refine .inr ⟨go, fun σ' H' => ∃ env3, SR (c.wh H') f σ' H' env3 (D.tags (ownTo G.frz) q.1 ++ ds) (us ++ vs) ∧ WpS c f W E ds vs (forL (fun env => semSs G b env) t (items.drop (i + 1)) env3), fun σ' H' ⟨env3, a1, a2⟩ => ⟨_, by omega, rfl, hlt, env3, a1, a2⟩, fun x H4 y4 => ?_⟩
    obtain ⟨s4, S4⟩ := yl x H4 y4
    have hcc : D.alls notBor (items[i] :: (D.tags (ownTo G.frz) q.1 ++ ds)) = true := by
      show ((items[i]).clean && D.alls notBor _) = true
      rw [hcd, hcs]; rfl
    refine T_ok (c := c.wh H4) (SR.reb S4 hcc) e1 (.inr rfl) fun σ2 S5 _ _ => ?_
    refine hb σ2 H4 env1 _ _ _ S5 hcs ?_
    cases z3 : semSs G b env1 with
    | stuck => rw [z3] at h3; exact h3.elim
    | exc x fl e => rw [z3] at h3; exact h3
    | ok o =>
      rw [z3, R.bind_ok] at h3
      cases o with
      | nx e => exact fun σ' H' S' => ⟨e, S', h3⟩
      | ct e => exact fun σ' H' S' => ⟨e, S', h3⟩
      | bk e => exact fun σ' H' S' => h3 σ' H' (S'.pop hlen)
      | rt d e => exact fun v σ' H' hc S' => h3 v σ' H' hc (SR.nip S' hlen)
theorem PSc.fset (hX : XSt X c G fs sc W) (hfz : FzOk G f) {i : Nat} {x : Str} {e : VI.E} {y : Str} {v : Expr} {p0 p1 pos : Pos} (hf : x ∈ fs.fld) (hv : visC sc X.N i y = true) (hm : e.mat fs sc X.N false v = true) (hl : isLc v = false) :
    PSc X c G f W (.fset i x e) (.Assign [.Attribute (.Name y p0) x p1] v pos) := by
  intro σ H env ds vs E S hcl h
  rw [VI.S.sem] at h
  obtain ⟨w1, w2, w3, w4⟩ := hX.sco.vis hv
  refine wpS.of (ps_fld (pe_var (pos := p0) (i := i) w1 w2 w3 w4) wpE.pe (by cases v <;> first | rfl | cases hl)) (bindE hX hfz hm S h fun q u H1 _ S1 h' => ?_)
  obtain ⟨hcq, h'⟩ := ifS h'
  cases z : setF i x q.1 q.2 with
  | stuck => rw [z] at h'; exact h'.elim
  | exc a b c => exfalso; unfold setF at z; split at z <;> first | (split at z <;> cases z) | cases z
  | ok env' =>
    rw [z] at h'
    have S2 : SR (c.wh H1) f σ H1 q.2 (q.1 :: ds) (u :: vs) := SR.reb S1 (by show (q.1.clean && D.alls notBor ds) = true; rw [hcq, hcl]; rfl)
    obtain ⟨p, n, fl, us, C, dx, a1, a2, a3, a4, a5⟩ := SR.fset S2 hcl hcq z
    obtain ⟨g1, g2⟩ := hX.ok.fl n C x a2 hf
    exact ⟨.ref p, a1, p, C, dx, _, rfl, a3, g1, g2, a4, h' σ _ a5⟩
/-! ### lists written in place -/
theorem PathV.uniq {H : Hp} : ∀ {ks : List Int} {v u u' : V}, PathV H ks v u → PathV H ks v u' → u = u'
  | [], v, u, u', h, h' => by
    have h : u = v := h
    have h' : u' = v := h'
    rw [h, h']
  | k :: r, v, u, u', ⟨p, us, j, w, h1, h2, h3, h4, h5⟩, ⟨p', us', j', w', q1, q2, q3, q4, q5⟩ => by
    rw [h1] at q1
    cases q1
    have eu : us' = us := by
      rcases h2 with h2 | h2 <;> rcases q2 with q2 | q2 <;> (rw [h2] at q2; cases q2) <;> rfl
    subst eu
    rw [h3] at q3
    cases q3
    rw [h4] at q4
    cases q4
    exact PathV.uniq h5 q5
/-- where a slot's list stands -/
theorem SR.pth {g : List D → Option (List D)} {i : Nat} {ks : List Int} {env' : List D} (S : SR c f σ H env ds vs) (e : updEnv g i ks env = .ok env') : ∃ (v : V) (p : Addr) (us : List V), σ[i]? = some (some v) ∧ PathV H ks v (.ref p) ∧ H p = some (.lst us) := by
  obtain ⟨d, d', e1, e2, rfl⟩ := updEnv_inv e
  have hu : d ≠ .und := fun q => by subst q; exact updAt_und e2
  obtain ⟨Fa, Fn, mS, mT, S⟩ := S
  obtain ⟨v, n1, n2, hv, hd, hS, hm⟩ := S.slots.get e1 hu
  obtain ⟨p, us, xs, xs', m1, m2, w1, w2, w3, w4, w5, w6⟩ := Rep.lens hd e2
  exact ⟨v, p, us, hv, w1, w2⟩
theorem PSc.six (hX : XSt X c G fs sc W) (hfz : FzOk G f) {i : Nat} {ps : List VI.E} {j e : VI.E} {o k v : Expr} {p0 pos : Pos} (hm : VI.S.mat fs sc X.N (.six i ps j e) (.Assign [.Subscript o k p0] v pos) = true) :
    PSc X c G f W (.six i ps j e) (.Assign [.Subscript o k p0] v pos) := by
  intro σ H env ds vs E S hcl h
  have hm : (e.mat fs sc X.N false v && !isLc v && !isTup v && matPl fs sc X.N i ps o && j.mat fs sc X.N false k) = true := hm
  simp only [Bool.and_eq_true, Bool.not_eq_true'] at hm
  obtain ⟨⟨⟨⟨h1, h2⟩, h3⟩, h4⟩, h5⟩ := hm
  rw [VI.S.sem] at h
  have hpl := mat_ix h5
  refine wpS.of (ps_asg wpE.pe (pg_sub wpE.pe wpE.pe set_list (fun v => ?_)) (swSub h2) (swStore h3) rfl) (bindE hX hfz h1 S h fun q u H1 _ S1 h' => ?_)
  · have hns : ∀ l u s p, k ≠ .Slice l u s p := by
      rintro l u s p rfl
      cases j <;> simp [VI.E.mat] at h5
    cases k <;> first | rfl | exact absurd rfl (hns _ _ _ _)
  obtain ⟨hcq, h'⟩ := ifS h'
  obtain ⟨ks, e2, h'⟩ := noexcS h'
  obtain ⟨r, e3, h'⟩ := noexcS h'
  obtain ⟨d, env2⟩ := r
  cases d with
  | int n =>
    have h' : WpS c f W E ds vs (if j.pure = true then (updEnv (fun xs => (ixN xs.length n).map fun n => xs.set n q.1) i ks q.2).bind fun env' => .ok (.nx env') else .stuck) := h'
    obtain ⟨hp, h'⟩ := ifS h'
    obtain ⟨env', e4, h'⟩ := updEnv_noexc h'
    have e5 : env2 = q.2 := VI.E.pure_ok G j _ _ hp e3
    obtain ⟨v0, p, us, a1, a2, a3⟩ := S1.pth e4
    show wpE X o σ H1 _
    refine Pl_ok (c := c.wh H) (hX.ok.wh H) hX.sco hfz hX.tk a1 h4 e2 S1 a2 fun H2 s2 S2 => ?_
    refine (E_ok hfz j X W sc k (hX.ok.wh H) hX.sco hX.tk).1 h5 σ H2 q.2 _ _ _ S2 ?_
    rw [e3]
    intro w H3 s3 S3
    rw [show ((D.int n, env2) : D × List D).2 = q.2 from e5] at S3
    obtain ⟨Fa, Fn, m, _, _, kk, _⟩ := S3.use1
    have hu : w = .int n := kk.1
    subst hu
    have S4 : SR (c.wh H) f σ H3 q.2 ([q.1] ++ ds) ([u] ++ vs) := S3.unbox
    obtain ⟨v1, p1, us1, xs, xs', b1, b2, b3, b4, b5, fin⟩ := SR.mut S4 rfl hcl (fun xs xs' g hx => by
      cases z : ixN xs.length n with
      | none => rw [z] at g; cases g
      | some jj =>
        rw [z] at g
        cases g
        exact alls_set hx hcq) e4
    rw [a1] at b1
    cases b1
    have hpp := PathV.uniq (a2.mono (s2.trans s3)) b2
    cases hpp
    cases z : ixN xs.length n with
    | none => rw [z] at b4; cases b4
    | some jj =>
      rw [z] at b4
      have b4 : xs.set jj q.1 = xs' := Option.some.inj b4
      have hlt : jj < xs.length := (ixN_seq z).2.1
      refine ⟨p, us1, n, jj, rfl, rfl, b3, by rw [b5]; exact z, h' σ _ (fin (us1.set jj u) fun Fa Fn m1 mt sa sn r1 r2 => ?_)⟩
      obtain ⟨x, hx⟩ : ∃ x, xs[jj]? = some x := ⟨_, List.getElem?_eq_getElem hlt⟩
      obtain ⟨_, n1, n2, _, _, t3, t4⟩ := r1.take hx
      obtain ⟨v', re, k1, k2, ee, g1, g2, gm⟩ := r2
      injection ee with ee1 ee2
      subst ee1
      have := Reps.put g1 t3 (i := jj) (by rw [List.getElem?_set_self hlt])
      rw [List.set_set] at this
      rw [← b4]
      exact ⟨_, this, fun a => by have := t4 a; have := gm a; show k1 a + n2 a ≤ m1 a + mt a; omega⟩
  | nd t kd xs => exact h'.elim
  | _ => exact h'.elim
/-- a list's method -/
def mutR : Mm → V → List V → Hp → VK → Prop
  | .append => rAppend
  | .extend => rExtend
  | .insert => fun x vs H Q => ∃ (l : Addr) (xs : List V) (i : Int) (y : V), x = .ref l ∧ vs = [.int i, y] ∧ H l = some (.lst xs) ∧ xs.length < sizeLine ∧ 0 ≤ i ∧ i < 2 ^ 63 ∧ Q .non (upd H l (.lst (xs.take i.toNat ++ [y] ++ xs.drop i.toNat)))
  | .pop => rPop
  | .popAt => rPopAt
  | .clear => rClear
  | .reverse => rReverse
def taOf (X : Cx) : List Expr → TA
  | [] => fun σ H Q => Q [] H
  | a :: as => wpA X (a :: as)
theorem mut_pe {m : Mm} {o : Expr} {as : List Expr} {apos cpos : Pos} {x : Str} (hx : x = mmName m) (ho : noSup o = true) (hl : (apos.endLine == cpos.line) = true) (hs : as.all noStar = true) (hlen : as.length < 20) (hn : mmN m as.length = true) :
    PE X (.Call (.Attribute o x apos) as [] cpos) (tBM X.K "list" (mutR m) (wpE X o) (taOf X as)) := by
  subst hx
  have hbase : ∀ name, attributeBase o name X.env (eval o X.env) = eval o X.env := fun name => by
    unfold attributeBase
    cases o <;> try rfl
    rename_i fn args kws p
    cases fn <;> try rfl
    cases args <;> try rfl
    cases kws <;> first | rfl | cases ho
  have few : ∀ {as : List Expr}, as.all noStar = true → as.length < 20 → ((backTo cpos (starEach as X.env)).all (fun x => !x.1) && (backToKw cpos (keywordEach [] X.env)).all (fun x => x.1.isSome) && decide (as.length + ([] : List Keyword).length + (if ([] : List Keyword).isEmpty then 0 else 1) < 30)) = true := fun {as} h1 h2 => by
    have e1 : (backTo cpos (starEach as X.env)).all (fun x => !x.1) = true := by
      have := noStar_plain (pos := cpos) (env := X.env) h1
      rw [List.any_eq_false] at this
      rw [List.all_eq_true]
      intro y hy
      have := this y hy
      cases q : y.1 with
      | true => exact absurd q this
      | false => rfl
    rw [e1]
    have e2 : decide (as.length + ([] : List Keyword).length + (if ([] : List Keyword).isEmpty then 0 else 1) < 30) = true := by
      rw [decide_eq_true_eq]
      show as.length + 0 + 0 < 30
      omega
    rw [e2]
    rfl
  have many : ∀ (id : String) (name : Str), Slot "list" name id → typeOf (.builtin id) = pure (.type "method_descriptor") → MtR X id (mutR m) → 1 ≤ as.length → PE X (.Call (.Attribute o name apos) as [] cpos) (tBM X.K "list" (mutR m) (wpE X o) (taOf X as)) := fun id name h1 h2 h3 h4 => by
    cases as with
    | nil => cases h4
    | cons a as =>
      have hs' := hs
      rw [List.all_cons, Bool.and_eq_true] at hs'
      exact pe_bm PySem.F.plainAttrs_list h1 h2 h3 wpE.pe wpA.pa (hbase _) (few hs hlen) hl (star_cons hs'.1 as X.env) (noStar_plain hs'.2)
  have none : ∀ (id : String) (name : Str), Slot "list" name id → typeOf (.builtin id) = pure (.type "method_descriptor") → MtR X id (mutR m) → as.length = 0 → PE X (.Call (.Attribute o name apos) as [] cpos) (tBM X.K "list" (mutR m) (wpE X o) (taOf X as)) := fun id name h1 h2 h3 h4 => by
    cases as with
    | nil => exact pe_bm0 PySem.F.plainAttrs_list h1 h2 h3 wpE.pe (hbase _) hl
    | cons a as => cases h4
  cases m with
  | append => exact many "list.append" "append" PySem.F.slot_list_append PySem.F.type_list_append mt_append (of_decide_eq_true hn)
  | extend => exact many "list.extend" "extend" PySem.F.slot_list_extend PySem.F.type_list_extend mt_extend (of_decide_eq_true hn)
  | insert => exact many "list.insert" "insert" PySem.F.slot_list_insert PySem.F.type_list_insert mt_insert (of_decide_eq_true hn)
  | popAt => exact many "list.pop" "pop" PySem.F.slot_list_pop PySem.F.type_list_pop mt_popAt (of_decide_eq_true hn)
  | pop => exact none "list.pop" "pop" PySem.F.slot_list_pop PySem.F.type_list_pop mt_pop (of_decide_eq_true hn)
  | clear => exact none "list.clear" "clear" PySem.F.slot_list_clear PySem.F.type_list_clear mt_clear (of_decide_eq_true hn)
  | reverse => exact none "list.reverse" "reverse" PySem.F.slot_list_reverse PySem.F.type_list_reverse mt_reverse (of_decide_eq_true hn)
end
end VI

set_option maxHeartbeats 4000000
namespace VI
open PySem PySem.Spec L2
open PyProof.Rows hiding St

section
variable {X : Cx} {c : Gc} {G : Calls} {f : Fr} {W : WX} {σ : St} {H H' hb : Hp} {env ds : List D} {vs : List V} {Q : VK} {fs : Nm} {sc : Scope} {E : Ends} {Fa Fn : Hp}
theorem Reps.part : ∀ {ds : List D} {vs : List V} {m : Addr → Nat} (n : Nat), Reps c Fa Fn H ds vs m → ∃ m1 m2 : Addr → Nat, Reps c Fa Fn H (ds.take n) (vs.take n) m1 ∧ Reps c Fa Fn H (ds.drop n) (vs.drop n) m2 ∧ ∀ a, m a = m1 a + m2 a
  | ds, vs, m, 0, h => ⟨fun _ => 0, m, by rw [List.take_zero, List.take_zero]; exact ⟨rfl, fun _ => rfl⟩, h, fun a => (Nat.zero_add _).symm⟩
  | [], vs, m, n + 1, h => by
    obtain ⟨rfl, hz⟩ := h
    exact ⟨fun _ => 0, fun _ => 0, ⟨rfl, fun _ => rfl⟩, ⟨rfl, fun _ => rfl⟩, fun a => hz a⟩
  | d :: ds, vs, m, n + 1, h => by
    obtain ⟨v, r, m1, m2, rfl, h1, h2, hm⟩ := h
    obtain ⟨n1, n2, q1, q2, q3⟩ := Reps.part n h2
    exact ⟨fun a => m1 a + n1 a, n2, ⟨v, _, m1, n1, rfl, h1, q1, fun _ => rfl⟩, q2, fun a => by have := hm a; have := q3 a; show m a = m1 a + n1 a + n2 a; omega⟩
theorem Reps.one' {d : D} {v : V} {m : Addr → Nat} (h : Rep c Fa Fn H d v m) : Reps c Fa Fn H [d] [v] m := ⟨v, [], m, fun _ => 0, rfl, h, ⟨rfl, fun _ => rfl⟩, fun _ => rfl⟩
theorem Reps.rev : ∀ {ds : List D} {vs : List V} {m : Addr → Nat}, Reps c Fa Fn H ds vs m → Reps c Fa Fn H ds.reverse vs.reverse m
  | [], vs, m, h => by
    obtain ⟨rfl, hz⟩ := h
    exact ⟨rfl, hz⟩
  | d :: ds, vs, m, h => by
    obtain ⟨v, r, m1, m2, rfl, h1, h2, hm⟩ := h
    rw [List.reverse_cons, List.reverse_cons]
    exact (h2.rev.append (Reps.one' h1)).ext fun a => by have := hm a; show m a = m2 a + m1 a; omega
theorem len1 {α : Type} {xs : List α} (h : xs.length = 1) : ∃ a, xs = [a] := List.length_eq_one_iff.mp h
/-- the rule's wish, and the reading of what comes -/
theorem mut_ok {m : Mm} {i : Nat} {ks : List Int} {env' tds : List D} {tus : List V} {v : V} {p : Addr} (S : SR (c.wh hb) f σ H env (tds ++ ds) (tus ++ vs)) (hl : tus.length = tds.length) (hc : D.alls notBor ds = true) (ht : D.alls notBor tds = true)
    (e : updEnv (mutV m tds) i ks env = .ok env') (hv : σ[i]? = some (some v)) (hp : PathV H ks v (.ref p)) {P : St → Hp → Prop} (k : ∀ H', SR (c.wh H') f σ H' env' ds vs → P σ H') : mutR m (.ref p) tus H fun _ H' => P σ H' := by
  have hcl : ∀ xs xs', mutV m tds xs = some xs' → D.alls notBor xs = true → D.alls notBor xs' = true := by
    intro xs xs' g hx
    unfold mutV at g
    split at g
    · split at g
      · cases g; exact alls_app hx ht
      · cases g
    · rename_i t ys
      split at g
      · cases g
      · split at g
        · cases g
          have ht' : ((notBor t && D.alls notBor ys) && true) = true := ht
          rw [Bool.and_true, Bool.and_eq_true] at ht'
          exact alls_app hx ht'.2
        · cases g
    · split at g
      · cases g
        refine alls_app (alls_app (alls_sub hx fun x h => List.mem_of_mem_take h) ?_) (alls_sub hx fun x h => List.mem_of_mem_drop h)
        exact alls_sub ht fun x h => List.mem_cons_of_mem _ h
      · cases g
    · split at g
      · cases g
      · cases g; exact alls_sub hx fun x h => (List.dropLast_sublist xs).subset h
    · rename_i n
      split at g
      · cases z : ixN xs.length n with
        | none => rw [z] at g; cases g
        | some j => rw [z] at g; cases g; exact alls_sub hx fun x h => List.mem_of_mem_eraseIdx h
      · cases g
    · cases g; rfl
    · cases g; exact alls_sub hx fun x h => List.mem_reverse.mp h
    · cases g
  obtain ⟨v1, p1, us, xs, xs', b1, b2, b3, b4, b5, fin⟩ := SR.mut S hl.symm hc hcl e
  rw [hv] at b1
  cases b1
  have hpp := PathV.uniq hp b2
  cases hpp
  have fin := fun us' h => k _ (fin us' h)
  have lim : ∀ {n : Nat}, n < 16777216 → n < sizeLine := fun {n} h => Nat.lt_of_lt_of_le h (by decide)
  obtain ⟨Fa0, Fn0, mt0, sa0, sn0, t0, _⟩ := SR.use S hl.symm
  unfold mutV at b4
  split at b4
  · -- append
    rename_i d _
    split at b4
    · rename_i hlen
      cases b4
      obtain ⟨u, rfl⟩ := len1 hl
      refine ⟨p, us, u, rfl, rfl, b3, by rw [b5]; exact lim hlen, fin _ fun Fa Fn m1 mt sa sn r1 r2 => ⟨_, r1.append r2, fun a => Nat.le_refl _⟩⟩
    · cases b4
  · -- extend
    rename_i t ys _
    split at b4
    · cases b4
    · rename_i hts
      split at b4
      · rename_i hlen
        cases b4
        obtain ⟨u, rfl⟩ := len1 hl
        obtain ⟨w, r, n1, n2, ee, g1, _, _⟩ := t0
        cases ee
        obtain ⟨b, zs, m', rfl, hb', rz, _⟩ := g1.lstAt sa0 sn0 hts
        refine ⟨p, b, us, zs, rfl, rfl, b3, hb', by rw [b5, ← rz.len]; exact Nat.le_trans hlen (by decide), fin _ fun Fa Fn m1 mt sa sn r1 r2 => ?_⟩
        obtain ⟨w', r', n1', n2', ee, g1', _, gm⟩ := r2
        cases ee
        obtain ⟨b', zs', m'', e', hb'', rz', hle⟩ := g1'.lstAt sa sn hts
        cases e'
        rw [hb'] at hb''
        cases hb''
        exact ⟨_, r1.append rz', fun a => by have := gm a; have := hle a; show m1 a + m'' a ≤ m1 a + mt a; omega⟩
      · cases b4
  · -- insert
    rename_i n d _
    split at b4
    · rename_i hlen
      simp only [Bool.and_eq_true, decide_eq_true_eq] at hlen
      cases b4
      obtain ⟨u, w, rfl⟩ := len2 hl
      obtain ⟨w0, r, n1, n2, ee, g1, g2, _⟩ := t0
      injection ee with ee1 ee2
      subst ee1
      have hu : u = .int n := g1.1
      subst hu
      refine ⟨p, us, n, w, rfl, rfl, b3, by rw [b5]; exact lim hlen.1.1, hlen.1.2, by omega, fin _ fun Fa Fn m1 mt sa sn r1 r2 => ?_⟩
      obtain ⟨w', r', n1', n2', ee, g1', g2', gm⟩ := r2
      injection ee with ee1 ee2
      subst ee2
      obtain ⟨k1, k2, q1, q2, q3⟩ := r1.part n.toNat
      exact ⟨_, (q1.append g2').append q2, fun a => by have := gm a; have := q3 a; show k1 a + n2' a + k2 a ≤ m1 a + mt a; omega⟩
    · cases b4
  · -- pop
    split at b4
    · cases b4
    · rename_i hne
      cases b4
      have htu : tus = [] := List.length_eq_zero_iff.mp hl
      subst htu
      have hpos : 0 < us.length := by
        rw [b5]
        cases xs with
        | nil => exact absurd rfl hne
        | cons _ _ => exact Nat.succ_pos _
      refine ⟨p, us, us[us.length - 1], rfl, rfl, b3, List.getElem?_eq_getElem _, fin _ fun Fa Fn m1 mt sa sn r1 r2 => ?_⟩
      obtain ⟨k1, k2, q1, q2, q3⟩ := r1.part (xs.length - 1)
      rw [List.dropLast_eq_take, List.dropLast_eq_take, b5]
      exact ⟨k1, q1, fun a => by have := q3 a; omega⟩
  · -- popAt
    rename_i n _
    split at b4
    · rename_i hlen
      cases z : ixN xs.length n with
      | none => rw [z] at b4; cases b4
      | some j =>
        rw [z] at b4
        have b4 : xs.eraseIdx j = xs' := Option.some.inj b4
        subst b4
        obtain ⟨u, rfl⟩ := len1 hl
        obtain ⟨w0, r, n1, n2, ee, g1, g2, _⟩ := t0
        injection ee with ee1 ee2
        subst ee1
        have hu : u = .int n := g1.1
        subst hu
        obtain ⟨h1, h2, h3, h4⟩ := ixN_seq z
        refine ⟨p, us, n, j, us[j], rfl, rfl, b3, ?_, ?_, by rw [b5]; exact h1, List.getElem?_eq_getElem (by omega), fin _ fun Fa Fn m1 mt sa sn r1 r2 => ?_⟩
        · omega
        · omega
        · obtain ⟨k1, k2, q1, q2, q3⟩ := r1.part j
          obtain ⟨l1, l2, p1, p2, p3⟩ := q2.part 1
          rw [List.drop_drop, List.drop_drop] at p2
          rw [List.eraseIdx_eq_take_drop_succ, List.eraseIdx_eq_take_drop_succ]
          exact ⟨_, q1.append p2, fun a => by have := q3 a; have := p3 a; show k1 a + l2 a ≤ m1 a + mt a; omega⟩
    · cases b4
  · -- clear
    cases b4
    have htu : tus = [] := List.length_eq_zero_iff.mp hl
    subst htu
    exact ⟨p, us, rfl, rfl, b3, fin _ fun Fa Fn m1 mt sa sn r1 r2 => ⟨fun _ => 0, ⟨rfl, fun _ => rfl⟩, fun a => Nat.zero_le _⟩⟩
  · -- reverse
    cases b4
    have htu : tus = [] := List.length_eq_zero_iff.mp hl
    subst htu
    exact ⟨p, us, rfl, rfl, b3, fin _ fun Fa Fn m1 mt sa sn r1 r2 => ⟨m1, r1.rev, fun a => Nat.le_add_right _ _⟩⟩
  · cases b4
end
end VI

set_option maxHeartbeats 4000000
namespace VI
open PySem PySem.Spec L2
open PyProof.Rows hiding St

section
variable {c : Gc} {G : Calls} {f : Fr} {fs : Nm}
theorem PSc.mut {X : Cx} {sc : Scope} {W : WX} (hX : XSt X c G fs sc W) (hfz : FzOk G f) {m : Mm} {i : Nat} {ps es : List VI.E} {o : Expr} {x : Str} {apos cpos pos : Pos} {as : List Expr} (hm : VI.S.mat fs sc X.N (.mut m i ps es) (.Expr (.Call (.Attribute o x apos) as [] cpos) pos) = true) :
    PSc X c G f W (.mut m i ps es) (.Expr (.Call (.Attribute o x apos) as [] cpos) pos) := by
  intro σ H env ds vs E S hcl h
  have hm : (decide (x = mmName m) && matPl fs sc X.N i ps o && matL fs sc X.N false es as && (apos.endLine == cpos.line) && decide (as.length < 20) && mmN m as.length) = true := hm
  simp only [Bool.and_eq_true] at hm
  obtain ⟨⟨⟨⟨⟨h1, h2⟩, h3⟩, h4⟩, h5⟩, h6⟩ := hm
  rw [VI.S.sem] at h
  obtain ⟨ks, e1, h⟩ := noexcS h
  obtain ⟨env0, e0, h⟩ := noexcS h
  have hns : noSup o = true := by
    cases ps with
    | nil => cases o <;> first | rfl | cases h2
    | cons _ _ => cases o <;> first | rfl | cases h2
  refine wpS.of (ps_expr (mut_pe (of_decide_eq_true h1) hns h4 (matL_star h3) (of_decide_eq_true h5) h6) (swNone rfl)) ?_
  obtain ⟨v, p, us, a1, a2, a3⟩ := S.pth e0
  show wpE X o σ H _
  refine Pl_ok (c := c.wh H) (hX.ok.wh H) hX.sco hfz hX.tk a1 h2 e1 S a2 fun H1 s1 S1 => ?_
  refine ⟨.inl ⟨rfl, us, SqL.of (s1 _ _ a3)⟩, ?_⟩
  have fin : ∀ (q : List D × List D) (tus : List V) (H2 : Hp), Same H H2 → tus.length = q.1.length → SR (c.wh H) f σ H2 q.2 (q.1 ++ ds) (tus ++ vs) → WpS c f W E ds vs (if D.alls notBor q.1 = true then (updEnv (mutV m q.1) i ks q.2).bind fun env' => .ok (.nx env') else .stuck) → mutR m (.ref p) tus H2 fun _ H' => E.nx σ H' := fun q tus H2 s2 hl S2 h' => by
    obtain ⟨hcq, h'⟩ := ifS h'
    obtain ⟨env', e4, h'⟩ := updEnv_noexc h'
    exact mut_ok S2 hl hcl hcq e4 a1 (a2.mono s2) (P := E.nx) fun H' S' => h' σ H' S'
  cases as with
  | nil =>
    cases es with
    | cons _ _ => simp [matL] at h3
    | nil =>
      rw [semL, R.bind_ok] at h
      exact fin ([], env) [] H1 s1 rfl S1 h
  | cons a as =>
    show wpA X (a :: as) σ H1 _
    refine ((L_ok hfz es X W sc (a :: as) (hX.ok.wh H) hX.sco hX.tk).1 h3).1 σ H1 env ds vs _ S1 ?_
    cases r : semL G es env with
    | ok q =>
      rw [r] at h
      exact fun us' H2 hl s2 S2 => fin q us' H2 (s1.trans s2) hl S2 h
    | exc y fl e' =>
      rw [r] at h
      exact fun cls dd H' s q x => h.exc q x
    | stuck => rw [r] at h; exact h.elim
def SOk (c : Gc) (G : Calls) (f : Fr) (fs : Nm) (s : VI.S) : Prop := ∀ (X : Cx) (W : WX) (sc : Scope) (st : Stmt), XSt X c G fs sc W → s.mat fs sc X.N st = true → PSc X c G f W s st
def SsOk (c : Gc) (G : Calls) (f : Fr) (fs : Nm) (s : List VI.S) : Prop := ∀ (X : Cx) (W : WX) (sc : Scope) (sts : List Stmt), XSt X c G fs sc W → matSs fs sc X.N s sts = true → PSsc X c G f W s sts
theorem SR.frz {X : Cx} {σ : St} {H : Hp} {ds : List D} {vs : List V} (hfz : FzOk G f) : ∀ (is : List Nat) {env : List D}, SR c f σ H env ds vs → SR c f σ H (frzD G.frz env is) ds vs
  | [], env, S => S
  | i :: is, env, S => by
    rw [frzD]
    cases z : getL env i with
    | none => exact SR.frz (X := X) hfz is S
    | some d =>
      obtain ⟨h1, h2⟩ := getL_some z
      obtain ⟨Fa, Fn, mS, mT, S⟩ := S
      obtain ⟨Fa', Fn', mS', v, S', _⟩ := S.freeze h1 h2 hfz
      exact SR.frz (X := X) hfz is ⟨Fa', Fn', mS', mT, S'⟩
theorem PSsc.frz {X : Cx} {W : WX} (hfz : FzOk G f) {is : List Nat} {r : List VI.S} {sts : List Stmt} (h2 : PSsc X c G f W r sts) : PSsc X c G f W (.frz is :: r) sts := fun σ H env ds vs E S hcl h => by
  rw [semSs, VI.S.sem, R.bind_ok] at h
  exact h2 σ H (frzD G.frz env is) ds vs E (SR.frz (X := X) hfz is S) hcl h
theorem fgt_ok {X : Cx} {W : WX} (hfz : FzOk G f) : ∀ {s : List VI.S}, fgtOnly s = true → PSsc X c G f W s []
  | [], _ => PSsc.nil
  | .fgt _ :: r, h => PSsc.fgt (fgt_ok hfz (s := r) h)
  | .frz _ :: r, h => PSsc.frz hfz (fgt_ok hfz (s := r) h)
  | .asg _ _ :: _, h | .six _ _ _ _ :: _, h | .mut _ _ _ _ :: _, h | .ret _ :: _, h | .retN :: _, h | .exp _ :: _, h | .ifs _ _ _ :: _, h | .for _ _ _ _ :: _, h | .whl _ _ _ :: _, h | .brk :: _, h | .cnt :: _, h | .pas :: _, h => by cases h
theorem SsOk.nil : SsOk c G f fs [] := fun X W sc sts hX h => by
  cases sts with
  | nil => exact PSsc.nil
  | cons _ _ => cases h
theorem SsOk.frz (hfz : FzOk G f) {is : List Nat} {r : List VI.S} (hr : SsOk c G f fs r) : SsOk c G f fs (.frz is :: r) := fun X W sc sts hX h => by
  cases sts with
  | nil =>
    exact fgt_ok hfz (s := .frz is :: r) h
  | cons st sts =>
    exact PSsc.frz hfz (hr X W sc (st :: sts) hX h)
theorem SsOk.fgt (hfz : FzOk G f) {is : List Nat} {r : List VI.S} (hr : SsOk c G f fs r) : SsOk c G f fs (.fgt is :: r) := fun X W sc sts hX h => by
  cases sts with
  | nil =>
    exact fgt_ok hfz (s := .fgt is :: r) h
  | cons st sts =>
    exact PSsc.fgt (hr X W sc (st :: sts) hX h)
theorem SsOk.cons {s : VI.S} {r : List VI.S} (hs : SOk c G f fs s) (hr : SsOk c G f fs r) (hn : ∀ is, s ≠ .fgt is ∧ s ≠ .frz is) : SsOk c G f fs (s :: r) := fun X W sc sts hX h => by
  cases sts with
  | nil =>
    cases s <;> first | exact absurd rfl (hn _).1 | exact absurd rfl (hn _).2 | cases h
  | cons st sts =>
    have h' : (s.mat fs sc X.N st && matSs fs sc X.N r sts) = true := by
      cases s <;> first | exact absurd rfl (hn _).1 | exact absurd rfl (hn _).2 | exact h
    rw [Bool.and_eq_true] at h'
    exact PSsc.cons (hs X W sc st hX h'.1) (hr X W sc sts hX h'.2)
theorem SOk.asg (hfz : FzOk G f) {t : T} {e : VI.E} : SOk c G f fs (.asg t e) := fun X W sc st hX h => by
  cases st <;> try (cases h; done)
  rename_i tgs v pos
  match tgs, h with
  | [tga], h => exact PSc.asg hX hfz h
theorem SOk.six (hfz : FzOk G f) {i : Nat} {ps : List VI.E} {j e : VI.E} : SOk c G f fs (.six i ps j e) := fun X W sc st hX h => by
  cases st <;> try (cases h; done)
  rename_i tgs v pos
  match tgs, h with
  | [.Subscript o k p], h => exact PSc.six hX hfz h
theorem SOk.mut (hfz : FzOk G f) {m : Mm} {i : Nat} {ps es : List VI.E} : SOk c G f fs (.mut m i ps es) := fun X W sc st hX h => by
  cases st <;> try (cases h; done)
  rename_i v pos
  cases v <;> try (cases h; done)
  rename_i fn as kws p
  cases fn <;> try (cases h; done)
  cases kws <;> try (cases h; done)
  exact PSc.mut hX hfz h
theorem SOk.ret (hfz : FzOk G f) {e : VI.E} : SOk c G f fs (.ret e) := fun X W sc st hX h => by
  cases st <;> try (cases h; done)
  rename_i v pos
  cases v with
  | none => cases h
  | some v => exact PSc.ret hX hfz h
theorem SOk.retN : SOk c G f fs .retN := fun X W sc st hX h => by
  cases st <;> try (cases h; done)
  rename_i v pos
  cases v with
  | some v => cases h
  | none => exact PSc.retN
theorem SOk.exp (hfz : FzOk G f) {e : VI.E} : SOk c G f fs (.exp e) := fun X W sc st hX h => by
  cases st <;> try (cases h; done)
  rename_i v pos
  have h : (e.mat fs sc X.N false v && !isLc v) = true := h
  rw [Bool.and_eq_true, Bool.not_eq_true'] at h
  exact PSc.exp hX hfz h.1 h.2
theorem SOk.ifs (hfz : FzOk G f) {e : VI.E} {a b : List VI.S} (ha : SsOk c G f fs a) (hb : SsOk c G f fs b) : SOk c G f fs (.ifs e a b) := fun X W sc st hX h => by
  cases st <;> try (cases h; done)
  rename_i v p q pos
  have h : (e.mat fs sc X.N true v && matSs fs sc X.N a p && matSs fs sc X.N b q) = true := h
  rw [Bool.and_eq_true, Bool.and_eq_true] at h
  exact PSc.ifs hX hfz h.1.1 (ha X W sc p hX h.1.2) (hb X W sc q hX h.2)
theorem SOk.for (hfz : FzOk G f) {t : T} {k : Ik} {its : List VI.E} {b : List VI.S} (hb : SsOk c G f fs b) : SOk c G f fs (.for t k its b) := fun X W sc st hX h => by
  cases st <;> try (cases h; done)
  rename_i tga iter p q pos
  cases q with
  | cons _ _ => cases h
  | nil =>
    have h : (t.mat sc X.N tga && matIt fs sc X.N t its k iter && matSs fs sc X.N b p) = true := h
    rw [Bool.and_eq_true, Bool.and_eq_true] at h
    exact PSc.for hX hfz h.1.1 h.1.2 (hb X W sc p hX h.2)
theorem SOk.whl (hfz : FzOk G f) {n : Nat} {e : VI.E} {b : List VI.S} (hb : SsOk c G f fs b) : SOk c G f fs (.whl n e b) := fun X W sc st hX h => by
  cases st <;> try (cases h; done)
  rename_i v p q pos
  cases q with
  | cons _ _ => cases h
  | nil =>
    have h : (e.mat fs sc X.N true v && matSs fs sc X.N b p) = true := h
    rw [Bool.and_eq_true] at h
    exact PSc.whl hX hfz h.1 (hb X W sc p hX h.2)
theorem SOk.brk : SOk c G f fs .brk := fun X W sc st hX h => by
  cases st <;> try (cases h; done)
  intro σ H env ds vs E S hcl q
  rw [VI.S.sem] at q
  exact wpS.of ps_break (q σ H S)
theorem SOk.cnt : SOk c G f fs .cnt := fun X W sc st hX h => by
  cases st <;> try (cases h; done)
  intro σ H env ds vs E S hcl q
  rw [VI.S.sem] at q
  exact wpS.of ps_continue (q σ H S)
theorem SOk.pas : SOk c G f fs .pas := fun X W sc st hX h => by
  cases st <;> try (cases h; done)
  intro σ H env ds vs E S hcl q
  rw [VI.S.sem] at q
  exact wpS.of ps_pass (q σ H S)
theorem SOk.bad : SOk c G f fs .bad := fun X W sc st hX h σ H env ds vs E S hcl q => by
  rw [VI.S.sem] at q
  exact q.elim
theorem SOk.fset (hfz : FzOk G f) {i : Nat} {x : Str} {e : VI.E} : SOk c G f fs (.fset i x e) := fun X W sc st hX h => by
  cases st <;> try (cases h; done)
  rename_i tgs v pos
  cases tgs with
  | nil => cases h
  | cons tg r =>
    cases r with
    | cons _ _ => cases tg <;> first | (cases h; done) | (rename_i o _ _; cases o <;> cases h)
    | nil =>
      cases tg <;> try (cases h; done)
      rename_i o z p1
      cases o <;> try (cases h; done)
      rename_i y p0
      have h : (decide (x = z) && fs.fld.contains x && visC sc X.N i y && e.mat fs sc X.N false v && !isLc v) = true := h
      simp only [Bool.and_eq_true, decide_eq_true_eq, Bool.not_eq_true'] at h
      obtain ⟨⟨⟨⟨rfl, h2⟩, h3⟩, h4⟩, h5⟩ := h
      exact PSc.fset hX hfz (by simpa using h2) h3 h4 h5
theorem SOk.frz {is : List Nat} : SOk c G f fs (.frz is) := fun X W sc st hX h => by cases h
theorem SOk.fgt {is : List Nat} : SOk c G f fs (.fgt is) := fun X W sc st hX h => by cases h
mutual
theorem S_ok (hfz : FzOk G f) : ∀ s : VI.S, SOk c G f fs s
  | .asg t e => .asg hfz
  | .six i ps j e => .six hfz
  | .mut m i ps es => .mut hfz
  | .ret e => .ret hfz
  | .retN => .retN
  | .exp e => .exp hfz
  | .ifs e a b => .ifs hfz (Ss_ok hfz a) (Ss_ok hfz b)
  | .for t k its b => .for hfz (Ss_ok hfz b)
  | .whl n e b => .whl hfz (Ss_ok hfz b)
  | .brk => .brk
  | .cnt => .cnt
  | .pas => .pas
  | .fset i x e => .fset hfz
  | .bad => .bad
  | .fgt is => .fgt
  | .frz is => .frz
theorem Ss_ok (hfz : FzOk G f) : ∀ s : List VI.S, SsOk c G f fs s
  | [] => .nil
  | .fgt is :: r => .fgt hfz (Ss_ok hfz r)
  | .frz is :: r => .frz hfz (Ss_ok hfz r)
  | .asg t e :: r => .cons (S_ok hfz (.asg t e)) (Ss_ok hfz r) fun _ => ⟨fun q => (by cases q), fun q => (by cases q)⟩
  | .six i ps j e :: r => .cons (S_ok hfz (.six i ps j e)) (Ss_ok hfz r) fun _ => ⟨fun q => (by cases q), fun q => (by cases q)⟩
  | .mut m i ps es :: r => .cons (S_ok hfz (.mut m i ps es)) (Ss_ok hfz r) fun _ => ⟨fun q => (by cases q), fun q => (by cases q)⟩
  | .ret e :: r => .cons (S_ok hfz (.ret e)) (Ss_ok hfz r) fun _ => ⟨fun q => (by cases q), fun q => (by cases q)⟩
  | .retN :: r => .cons (S_ok hfz .retN) (Ss_ok hfz r) fun _ => ⟨fun q => (by cases q), fun q => (by cases q)⟩
  | .exp e :: r => .cons (S_ok hfz (.exp e)) (Ss_ok hfz r) fun _ => ⟨fun q => (by cases q), fun q => (by cases q)⟩
  | .ifs e a b :: r => .cons (S_ok hfz (.ifs e a b)) (Ss_ok hfz r) fun _ => ⟨fun q => (by cases q), fun q => (by cases q)⟩
  | .for t k its b :: r => .cons (S_ok hfz (.for t k its b)) (Ss_ok hfz r) fun _ => ⟨fun q => (by cases q), fun q => (by cases q)⟩
  | .whl n e b :: r => .cons (S_ok hfz (.whl n e b)) (Ss_ok hfz r) fun _ => ⟨fun q => (by cases q), fun q => (by cases q)⟩
  | .brk :: r => .cons (S_ok hfz .brk) (Ss_ok hfz r) fun _ => ⟨fun q => (by cases q), fun q => (by cases q)⟩
  | .cnt :: r => .cons (S_ok hfz .cnt) (Ss_ok hfz r) fun _ => ⟨fun q => (by cases q), fun q => (by cases q)⟩
  | .pas :: r => .cons (S_ok hfz .pas) (Ss_ok hfz r) fun _ => ⟨fun q => (by cases q), fun q => (by cases q)⟩
  | .fset i x e :: r => .cons (S_ok hfz (.fset i x e)) (Ss_ok hfz r) fun _ => ⟨fun q => (by cases q), fun q => (by cases q)⟩
  | .bad :: r => .cons (S_ok hfz .bad) (Ss_ok hfz r) fun _ => ⟨fun q => (by cases q), fun q => (by cases q)⟩
end
end
end VI

set_option maxHeartbeats 4000000
namespace VI
open PySem PySem.Spec L2
open PyProof.Rows hiding St

/-! ### defs -/
/-- a def: its names by slot (parameters first), how many parameters, its body -/
structure Fd where
  N : List Str
  np : Nat
  body : List S
/-- what a body gives -/
def endF : R Oc → R D
  | .ok (.rt d _) => .ok d
  | .ok (.nx _) => .ok .non
  | .ok (.bk _) => .stuck
  | .ok (.ct _) => .stuck
  | .exc x fl _ => .exc x fl []
  | .stuck => .stuck
def Fd.call (d : Fd) (G : Calls) (args : List D) : R D := if args.length = d.np then endF (semSs G d.body (args ++ List.replicate (d.N.length - args.length) .und)) else .stuck
/-- an __init__: tests that must fail, then fields -/
structure Ini where
  N : List Str
  np : Nat
  gs : List VI.E
  fl : List (Str × VI.E)
def runG (G : Calls) (k : List D → R D) : List VI.E → List D → R D
  | [], env => k env
  | g :: r, env => (g.sem G env).bind fun p => match p.1 with
    | .bl false => runG G k r p.2
    | _ => .stuck
def runF (G : Calls) (C : Str) : List (Str × VI.E) → List Str → List D → List D → R D
  | [], fl, xs, _ => .ok (.nd .own (.ins C fl) xs)
  | (x, e) :: r, fl, xs, env => (e.sem G env).bind fun p => if p.1.clean && !fl.contains x && decide (fl.length < 900) then runF G C r (fl ++ [x]) (xs ++ [p.1]) p.2 else .stuck
def Ini.run (d : Ini) (G : Calls) (C : Str) (args : List D) : R D := if args.length + 1 = d.np then runG G (runF G C d.fl [] []) d.gs ((.und :: args) ++ List.replicate (d.N.length - (args.length + 1)) .und) else .stuck
def matF (fs : Nm) (sc : Scope) (N : List Str) : List (Str × VI.E) → List Stmt → Bool
  | [], [] => true
  | (x, e) :: r, .Assign [.Attribute (.Name y _) z _] v _ :: sts => decide (x = z) && fs.fld.contains x && visC sc N 0 y && e.mat fs sc N false v && matF fs sc N r sts
  | _, _ => false
def matG (fs : Nm) (sc : Scope) (N : List Str) (fl : List (Str × VI.E)) : List VI.E → List Stmt → Bool
  | [], sts => matF fs sc N fl sts
  | g :: r, .If v _ [] _ :: sts => g.mat fs sc N true v && matG fs sc N fl r sts
  | _, _ => false
/-- a program: its defs by qualified names; the global ones; classes and their methods -/
structure Pg where
  defs : List (Str × Fd)
  gl : List Str
  cst : Str → Option D
  /-- class, method: the def -/
  mro : Str → Str → Option Str
  /-- classes that are made, each with its __init__'s name; these -/
  ini : List (Str × Str)
  inis : List (Str × Ini)
  mts : List Str
  fld : List Str
  kls : List Str
  sub : Str → Str → Option Bool
structure Lv where
  fn : Str → List D → R D
  mki : Str → List D → R D
  mk1 : Str → List D → R D
def Pg.Gl (p : Pg) (fz : Tag) (l : Lv) : Calls := { fn := l.fn, mkc := l.mk1, cst := p.cst, frz := fz, sub := p.sub, hm := fun c m => (p.mro c m).isSome, mt := fun c m args => match p.mro c m with
  | some q => l.fn q args
  | none => .stuck }
def Pg.lv (p : Pg) : Nat → Lv
  | 0 => ⟨fun _ _ => .stuck, fun _ _ => .stuck, fun _ _ => .stuck⟩
  | n + 1 => ⟨fun x args => match p.defs.lookup x with
      | some d => d.call (p.Gl .new (p.lv n)) args
      | none => .stuck,
    fun C args => match p.ini.lookup C with
      | some q => (match p.inis.lookup q with
        | some d => d.run (p.Gl .any (p.lv n)) C args
        | none => .stuck)
      | none => .stuck,
    (p.lv n).mki⟩
def Pg.fn (p : Pg) (n : Nat) : Str → List D → R D := (p.lv n).fn
def Pg.mki (p : Pg) (n : Nat) : Str → List D → R D := (p.lv n).mki
def Pg.G (p : Pg) (n : Nat) : Calls := p.Gl .new (p.lv n)
def Pg.Gi (p : Pg) (n : Nat) : Calls := p.Gl .any (p.lv n)
def Pg.nm (p : Pg) : Nm := { fs := p.gl, cls := p.ini.map (·.1), mts := p.mts, fld := p.fld, kls := p.kls }

/-- a def's text is what the tree says -/
def Fd.mat (fs : Nm) (d : Fd) (st : Stmt) : Bool := matSs fs (defScope st) d.N d.body (defBody st)
/-- where the program's defs stand -/
structure Stands (p : Pg) (c : Gc) (stm : Str → Stmt) (adr : Str → Addr) (pn : Str → Str) : Prop where
  fn : ∀ x d, p.defs.lookup x = some d → ∃ fd : FuncData, FunD c.K (pn x) x (defArgs (stm x)) (defBody (stm x)) (defScope (stm x)) [] [] (adr x) fd ∧ Binds c.K fd (d.N.take d.np) []
  ifn : ∀ x d, p.inis.lookup x = some d → ∃ fd : FuncData, FunD c.K (pn x) x (defArgs (stm x)) (defBody (stm x)) (defScope (stm x)) [] [] (adr x) fd ∧ Binds c.K fd (d.N.take d.np) []
  isc : ∀ x d, p.inis.lookup x = some d → FnScope d.N (d.N.take d.np) (defScope (stm x)) ∧ d.np ≤ d.N.length
  imat : ∀ x d, p.inis.lookup x = some d → matG p.nm (defScope (stm x)) d.N d.fl d.gs (defBody (stm x)) = true
  gl : ∀ x, x ∈ p.gl → (∃ d, p.defs.lookup x = some d) ∧ c.mg x = some (.ref (adr x))
  sc : ∀ x d, p.defs.lookup x = some d → FnScope d.N (d.N.take d.np) (defScope (stm x)) ∧ d.np ≤ d.N.length
  mat : ∀ x d, p.defs.lookup x = some d → d.mat p.nm (stm x) = true
  cst : ∀ x d, p.cst x = some d → ∃ u v, c.mg x = some u ∧ RelV v u ∧ d.clean = true ∧ ∀ Fa Fn H, Rep c.c0 Fa Fn H d v fun _ => 0
  blt : ∀ b : Bi, c.mg (biName b) = none
  tys : ∀ t : Ty, c.mg (tyName t) = none
  rng : c.mg "range" = none ∧ c.mg "zip" = none ∧ c.mg "enumerate" = none ∧ c.mg "isinstance" = none
  setn : c.mg "set" = none
  fl : ∀ n C f, c.cls n = some C → f ∈ p.fld → Cls c.K C ∧ NoAttr c.K C f
  fa : ∀ x a, c.fa x = some a → x ∈ p.gl ∧ a = adr x
  ini : ∀ x q, p.ini.lookup x = some q → ∃ (C : Addr) (d : Ini), c.mg x = some (.ref C) ∧ c.cls x = some C ∧ p.inis.lookup q = some d ∧ Mk c.K C (adr q)
  mt : ∀ n C m q, c.cls n = some C → p.mro n m = some q → Cls c.K C ∧ (∃ d, p.defs.lookup q = some d) ∧ Meth c.K C m (adr q)
  kls : ∀ x, x ∈ p.kls → ∃ A : Addr, c.mg x = some (.ref A)
  sub : ∀ n C x b A, c.cls n = some C → c.mg x = some (.ref A) → p.sub n x = some b → PySem.W.kitOne c.K (.ref C) (.ref A) = some b ∧ InsC c.K C
section
variable {p : Pg} {c : Gc} {stm : Str → Stmt} {adr : Str → Addr} {pn : Str → Str} {P : Program} {base : Heap}
theorem und_reps {c : Gc} {Fa Fn H : Hp} {v : V} : ∀ n : Nat, Reps c Fa Fn H (List.replicate n .und) (List.replicate n v) fun _ => 0
  | 0 => ⟨rfl, fun _ => rfl⟩
  | n + 1 => ⟨v, List.replicate n v, fun _ => 0, fun _ => 0, rfl, fun _ => rfl, und_reps n, fun _ => rfl⟩
/-- what is proved of each level -/
structure LvOk (P : Program) (base : Heap) (p : Pg) (c : Gc) (adr : Str → Addr) (n : Nat) : Prop where
  fn : ∀ x d, p.defs.lookup x = some d → ∃ fd : FuncData, PySem.W.keepIn c.K (.ref (adr x)) = true ∧ Binds c.K fd (d.N.take d.np) [] ∧ FnOk P c.w c.K c.mg base (L2.CX P c.w) (n + 1) (adr x) fd (d.N.take d.np) (SpF c (p.fn n x))
  mki : ∀ x q C, p.ini.lookup x = some q → c.cls x = some C → ∃ (fd : FuncData) (ps : List Str), Binds c.K fd ps [] ∧ FnOk P c.w c.K c.mg base (L2.CX P c.w) (n + 1) (adr q) fd ps (SpI c C (p.mki n x))
  mk1 : ∀ x q C, p.ini.lookup x = some q → c.cls x = some C → ∃ (fd : FuncData) (ps : List Str), Binds c.K fd ps [] ∧ FnOk P c.w c.K c.mg base (L2.CX P c.w) n (adr q) fd ps (SpI c C ((p.lv n).mk1 x))
/-- where one stands in a body -/
theorem xok (T : Stands p c stm adr pn) {n : Nat} (L : LvOk P base p c adr n) {X : Cx} (h1 : X.prog = P) (h2 : X.w = c.w) (h3 : X.K = c.K) (h4 : X.mg = c.mg) (h5 : X.base = base) (h6 : X.calm = true) (h7 : X.N.Nodup) (h8 : X.A.units + 65 < cLine) (hr : Room (n + 1) X.A) (fz : Tag) : XOk X c (p.Gl fz (p.lv n)) p.nm where
  w := h2
  setn := by rw [h4]; exact T.setn
  fl := by rw [h3]; exact T.fl
  fa := fun x a e => by
    obtain ⟨q1, q2⟩ := T.fa x a e
    subst q2
    exact ⟨q1, by rw [h4]; exact (T.gl x q1).2⟩
  mkc := fun x hx => by
    obtain ⟨⟨y, q⟩, hm, rfl⟩ := List.mem_map.mp hx
    obtain ⟨q', hq⟩ := L2.mem_lookup hm
    obtain ⟨C, d, e1, e2, e3, e4⟩ := T.ini y q' hq
    obtain ⟨fd, ps, k1, k2⟩ := L.mk1 y q' C hq e2
    subst h1 h5
    rw [h2, h3, h4]
    exact ⟨C, adr q', fd, ps, n, e1, e2, e4, k1, hr, k2⟩
  mt := fun y C m e1 e2 e3 => by
    have e3 : (p.mro y m).isSome = true := e3
    cases z : p.mro y m with
    | none => rw [z] at e3; cases e3
    | some q =>
      obtain ⟨g1, ⟨d, g2⟩, g3⟩ := T.mt y C m q e1 z
      obtain ⟨fd, k1, k2, k3⟩ := L.fn q d g2
      subst h1 h5
      have hG : (p.Gl fz (p.lv n)).mt y m = p.fn n q := by
        funext args
        show (match p.mro y m with | some q => (p.lv n).fn q args | none => .stuck) = _
        rw [z]; rfl
      rw [hG, h2, h3, h4]
      exact ⟨g1, adr q, fd, _, n + 1, g3, k2, hr, k3⟩
  kls := by rw [h4]; exact T.kls
  sub := by rw [h3, h4]; exact T.sub
  K := h3
  mg := h4
  calm := h6
  nd := h7
  un := h8
  cst := by rw [h4]; exact T.cst
  blt := by rw [h4]; exact T.blt
  tys := by rw [h4]; exact T.tys
  rng := by rw [h4]; exact T.rng
  fn := fun x hx => by
    obtain ⟨⟨d, g1⟩, g2⟩ := T.gl x hx
    obtain ⟨fd, k1, k2, k3⟩ := L.fn x d g1
    subst h1 h5
    rw [h2, h3, h4]
    exact ⟨adr x, fd, _, n + 1, g2, k1, k2, hr, k3⟩
end
end VI

set_option maxHeartbeats 4000000
namespace VI
open PySem PySem.Spec L2
open PyProof.Rows hiding St

section
variable {X : Cx} {c : Gc} {G : Calls} {f : Fr} {W : WX} {σ : L2.St} {H H' : Hp} {env ds : List D} {vs : List V} {Q : VK} {fs : Nm} {sc : Scope} {E : Ends}
/-- an instance that waits takes a field -/
theorem SR.tfset {x n : Str} {fl : List Str} {xs : List D} {p : Addr} {d : D} {y : V} (S : SR c f σ H env (d :: .nd .own (.ins n fl) xs :: ds) (y :: .ref p :: vs)) (hc : D.alls notBor ds = true) (hcx : D.alls notBor xs = true) (hd : d.clean = true) (hx : fl.contains x = false) (h9 : fl.length < 900) :
    ∃ (us : List V) (C dx : Addr), c.cls n = some C ∧ H p = some (.ins C dx (fl.zip us)) ∧ (fl.zip us).length < 1000 ∧ SR (c.wh (upd H p (.ins C dx (putF x y (fl.zip us))))) f σ (upd H p (.ins C dx (putF x y (fl.zip us)))) env (.nd .own (.ins n (fl ++ [x])) (xs ++ [d]) :: ds) (.ref p :: vs) := by
  obtain ⟨Fa, Fn, mS, mT, S⟩ := S
  obtain ⟨y', rr, t1, t2, ee, k1, k2, k3⟩ := S.tmps
  injection ee with ee1 ee2
  subst ee1
  subst ee2
  obtain ⟨v', rr, n1, n2, ee, hr, k4, k5⟩ := k2
  injection ee with ee1 ee2
  subst ee1
  subst ee2
  obtain ⟨p', us, m', ep, r, at1, hp⟩ := hr
  cases ep
  obtain ⟨C, dx, c1, c2, c3⟩ := at1
  have hone := S.one
  have tot : ∀ a, mT a = t1 a + m' a + (if a = p then 1 else 0) + n2 a := fun a => by have := hp a; have := k3 a; have := k5 a; omega
  have fp := S.free p (by have := tot p; rw [if_pos rfl] at this; omega)
  have np : ∀ {q : Addr}, mS q + m' q + n2 q + t1 q ≠ 0 → q ≠ p := fun {q} h e => by
    subst e
    have := tot q
    have := hone q
    rw [if_pos rfl] at *
    omega
  refine ⟨us, C, dx, c1, c2, by rw [List.length_zip]; omega, ?_⟩
  rw [putF_app hx c3]
  generalize hH : upd H p (.ins C dx ((fl ++ [x]).zip (us ++ [y]))) = H'
  have uo : ∀ {q : Addr}, q ≠ p → H' q = H q := fun {q} h => by rw [← hH]; exact upd_ne h
  have us_ : H' p = some (.ins C dx ((fl ++ [x]).zip (us ++ [y]))) := by rw [← hH]; exact upd_same
  have r1 : Reps c Fa Fn H' xs us m' := r.to (fun q k vs h a => a.cong (uo (np (by omega)))) (Same.refl _) (Same.refl _)
  have r2 : Rep c Fa Fn H' d y t1 := k1.to (fun q k vs h a => a.cong (uo (np (by omega)))) (Same.refl _) (Same.refl _)
  have r3 : Reps c Fa Fn H' (xs ++ [d]) (us ++ [y]) fun a => m' a + t1 a := r1.append (es := [d]) (us := [y]) ⟨y, [], t1, fun _ => 0, rfl, r2, ⟨rfl, fun _ => rfl⟩, fun _ => rfl⟩
  have hcd : D.alls notBor (xs ++ [d]) = true := alls_app hcx (by show (d.all notBor && true) = true; rw [Bool.and_true]; exact hd)
  have rd : Rep c Fa Fn H' (.nd .own (.ins n (fl ++ [x])) (xs ++ [d])) (.ref p) fun a => (m' a + t1 a) + if a = p then 1 else 0 :=
    ⟨p, us ++ [y], _, rfl, r3, ⟨C, dx, c1, us_, by rw [List.length_append, List.length_append, c3]; rfl⟩, fun _ => rfl⟩
  have hS2 : Slots c Fa Fn H' env σ mS := S.slots.to (fun q k vs h a => a.cong (uo (np (by omega)))) (Same.refl _) (Same.refl _)
  have k2' : Reps c Fa Fn H' ds vs n2 := k4.to (fun q k vs h a => a.cong (uo (np (by omega)))) (Same.refl _) (Same.refl _)
  have kp : ∀ a, H' a = none → H a = none := fun a h => by
    by_cases e : a = p
    · subst e; rw [us_] at h; cases h
    · rw [uo e] at h; exact h
  obtain ⟨ws, wr, wl, wq⟩ := hS2
  refine ⟨Fa, Fn, mS, fun a => ((m' a + t1 a) + if a = p then 1 else 0) + n2 a, { S with slots := ⟨ws, wr.chb S.cl, wl, wq⟩, tmps := ⟨.ref p, vs, _, n2, rfl, rd.chb (by show (true && D.alls notBor (xs ++ [d])) = true; rw [hcd]; rfl), k2'.chb hc, fun a => rfl⟩, one := fun a => ?_, free := fun a h => S.free a ?_, sub := fun a o h => ?_, dom := fun a h => S.dom a (kp a h), keep := fun a o h n => ?_, hbs := Same.refl _, hbo := fun a h => rfl }⟩
  · have := tot a; have := hone a
    show mS a + (((m' a + t1 a) + if a = p then 1 else 0) + n2 a) ≤ 1
    omega
  · have h' : mS a + (((m' a + t1 a) + if a = p then 1 else 0) + n2 a) ≠ 0 := h
    have := tot a
    omega
  · rw [uo (fun e => by subst e; rw [fp.1] at h; cases h)]
    exact S.sub a o h
  · rw [uo (fun e => by subst e; rcases fp.2 with z | z; (rw [z] at h; cases h); exact n z)]
    exact S.keep a o h n
/-- how an __init__ is to end -/
def WpI (EE : Ends) : R D → Prop
  | .ok d => True
  | .exc x fl e => True
  | .stuck => False
/-- the fields -/
theorem flds_ok (hX : XSt X c G fs sc W) (hfz : FzOk G f) {n : Str} {p : Addr} (h0 : σ[0]? = some (some (.ref p))) : ∀ {r : List (Str × VI.E)} {fl : List Str} {xs env : List D} {sts : List Stmt} {H : Hp} {E : Ends}, matF fs sc X.N r sts = true → SR (c.wh H) f σ H env [.nd .own (.ins n fl) xs] [.ref p] → D.alls notBor xs = true →
    (match runF G n r fl xs env with
      | .ok d => ∀ σ' H' env', SR (c.wh H') f σ' H' env' [d] [.ref p] → d.clean = true → E.nx σ' H'
      | .exc x fl e => ∀ cls dd σ' H' env', SR (c.wh H') f σ' H' env' [] [] → ExcR c x fl cls dd H' → W cls dd σ' H'
      | .stuck => False) → wpSs X sts E σ H
  | [], fl, xs, env, sts, H, E, hm, S, hcx, h => by
    cases sts with
    | cons _ _ => cases hm
    | nil => exact wpSs.of pss_nil (h σ H env S (by show (true && D.alls notBor xs) = true; rw [hcx]; rfl))
  | (x, e) :: r, fl, xs, env, sts, H, E, hm, S, hcx, h => by
    cases sts with
    | nil => cases hm
    | cons st sts =>
      cases st <;> try (cases hm; done)
      rename_i tgs v pos
      cases tgs with
      | nil => cases hm
      | cons tg tr =>
        cases tr with
        | cons _ _ => cases tg <;> first | (cases hm; done) | (rename_i o _ _; cases o <;> cases hm)
        | nil =>
          cases tg <;> try (cases hm; done)
          rename_i o z p1
          cases o <;> try (cases hm; done)
          rename_i y p0
          have hm : (decide (x = z) && fs.fld.contains x && visC sc X.N 0 y && e.mat fs sc X.N false v && matF fs sc X.N r sts) = true := hm
          simp only [Bool.and_eq_true, decide_eq_true_eq] at hm
          obtain ⟨⟨⟨⟨rfl, h2⟩, h3⟩, h4⟩, h5⟩ := hm
          obtain ⟨w1, w2, w3, w4⟩ := hX.sco.vis h3
          rw [runF] at h
          refine wpSs.of (pss_cons (ps_fld (pe_var (pos := p0) (i := 0) w1 w2 w3 w4) wpE.pe (by cases v <;> rfl)) wpSs.pss) ?_
          refine (E_ok hfz e X W sc v (hX.ok.wh H) hX.sco hX.tk).1 h4 σ H env _ _ _ S ?_
          cases q : e.sem G env with
          | stuck => rw [q] at h; exact h.elim
          | exc x' fl' e' =>
            rw [q] at h
            exact fun cls dd H' s S' xx => h cls dd σ H' e' (SR.reb S' rfl) xx
          | ok dp =>
            rw [q, R.bind_ok] at h
            intro u H1 s1 S1
            by_cases hb : (dp.1.clean && !fl.contains x && decide (fl.length < 900)) = true
            case neg => rw [if_neg hb] at h; exact h.elim
            rw [if_pos hb] at h
            simp only [Bool.and_eq_true, Bool.not_eq_true', decide_eq_true_eq] at hb
            have S2 : SR (c.wh H1) f σ H1 dp.2 (dp.1 :: [.nd .own (.ins n fl) xs]) (u :: [.ref p]) := SR.reb S1 (by
              show (dp.1.clean && ((true && D.alls notBor xs) && true)) = true
              rw [hb.1.1, hcx]; rfl)
            obtain ⟨us, C, dx, a2, a3, a4, a5⟩ := SR.tfset S2 rfl hcx hb.1.1 hb.1.2 hb.2
            obtain ⟨g1, g2⟩ := hX.ok.fl n C x a2 (by simpa using h2)
            refine ⟨.ref p, h0, p, C, dx, _, rfl, a3, g1, g2, a4, ?_⟩
            exact flds_ok hX hfz h0 h5 a5 (alls_app hcx (by show (dp.1.all notBor && true) = true; rw [Bool.and_true]; exact hb.1.1)) h
/-- the tests ahead -/
theorem gs_ok (hX : XSt X c G fs sc W) (hfz : FzOk G f) {n : Str} {p : Addr} (h0 : σ[0]? = some (some (.ref p))) {r : List (Str × VI.E)} : ∀ {gs : List VI.E} {env : List D} {sts : List Stmt} {H : Hp} {E : Ends}, matG fs sc X.N r gs sts = true → SR (c.wh H) f σ H env [.nd .own (.ins n []) []] [.ref p] →
    (match runG G (runF G n r [] []) gs env with
      | .ok d => ∀ σ' H' env', SR (c.wh H') f σ' H' env' [d] [.ref p] → d.clean = true → E.nx σ' H'
      | .exc x fl e => ∀ cls dd σ' H' env', SR (c.wh H') f σ' H' env' [] [] → ExcR c x fl cls dd H' → W cls dd σ' H'
      | .stuck => False) → wpSs X sts E σ H
  | [], env, sts, H, E, hm, S, h => flds_ok hX hfz h0 (show matF fs sc X.N r sts = true by cases sts <;> exact hm) S rfl h
  | g :: gs, env, sts, H, E, hm, S, h => by
    cases sts with
    | nil => cases hm
    | cons st sts =>
      cases st <;> try (cases hm; done)
      rename_i v p1 q1 pos
      cases q1 with
      | cons _ _ => cases hm
      | nil =>
        have hm : (g.mat fs sc X.N true v && matG fs sc X.N r gs sts) = true := hm
        rw [Bool.and_eq_true] at hm
        rw [runG] at h
        refine wpSs.of (pss_cons (ps_if wpT.pt wpSs.pss wpSs.pss) wpSs.pss) ?_
        refine (E_ok hfz g X W sc v (hX.ok.wh H) hX.sco hX.tk).2 hm.1 σ H env _ _ _ S ?_
        cases q : g.sem G env with
        | stuck => rw [q] at h; exact h.elim
        | exc x' fl' e' =>
          rw [q] at h
          exact fun cls dd H' s S' xx => h cls dd σ H' e' (SR.reb S' rfl) xx
        | ok dp =>
          rw [q, R.bind_ok] at h
          obtain ⟨d, env'⟩ := dp
          cases d with
          | bl b =>
            cases b with
            | true => exact h.elim
            | false =>
              refine ⟨false, rfl, fun H1 s1 S1 => ?_⟩
              show (if false = true then _ else _)
              rw [if_neg (by decide)]
              exact wpSs.of pss_nil (gs_ok hX hfz h0 hm.2 (SR.reb S1 rfl) h)
          | _ => exact h.elim
end
section
variable {p : Pg} {c : Gc} {stm : Str → Stmt} {adr : Str → Addr} {pn : Str → Str} {P : Program} {base : Heap}
theorem mem_ini {x q : Str} (h : p.ini.lookup x = some q) : x ∈ p.nm.cls := by
  obtain ⟨n, hn⟩ : ∃ n : Nat, p.ini[n]? = some (x, q) := by
    have : ∀ {l : List (Str × Str)}, l.lookup x = some q → ∃ n : Nat, l[n]? = some (x, q) := by
      intro l
      induction l with
      | nil => intro h; cases h
      | cons a l ih =>
        intro h
        obtain ⟨y, b⟩ := a
        rw [List.lookup_cons] at h
        cases e : (x == y) with
        | true =>
          rw [e] at h
          cases h
          exact ⟨0, by rw [eq_of_beq e]; rfl⟩
        | false =>
          rw [e] at h
          obtain ⟨n, q⟩ := ih h
          exact ⟨n + 1, q⟩
    exact this h
  exact List.mem_map.mpr ⟨(x, q), List.mem_of_getElem? hn, rfl⟩
theorem spF_stuck {k : Nat} {f : Addr} {fd : FuncData} {ps : List Str} : FnOk P c.w c.K c.mg base (L2.CX P c.w) k f fd ps (SpF c fun _ => .stuck) :=
  ⟨fun vs H Q E h => by obtain ⟨_, _, _, _, _, _, h⟩ := h; exact h.elim, fun A outer s H args us vs Q E _ _ _ _ h => by obtain ⟨_, _, _, _, _, _, h⟩ := h; exact h.elim⟩
theorem spI_stuck {k : Nat} {f C : Addr} {fd : FuncData} {ps : List Str} : FnOk P c.w c.K c.mg base (L2.CX P c.w) k f fd ps (SpI c C fun _ => .stuck) :=
  ⟨fun vs H Q E h => by obtain ⟨_, _, _, _, _, _, _, _, _, _, _, _, _, _, _, h⟩ := h; exact h.elim, fun A outer s H args us vs Q E _ _ _ _ h => by obtain ⟨_, _, _, _, _, _, _, _, _, _, _, _, _, _, _, h⟩ := h; exact h.elim⟩
/-- a def's body at a level -/
theorem fn_step (T : Stands p c stm adr pn) {n : Nat} (L : LvOk P base p c adr n) {x : Str} {d : Fd} (hd : p.defs.lookup x = some d) {fd : FuncData} (F : FunD c.K (pn x) x (defArgs (stm x)) (defBody (stm x)) (defScope (stm x)) [] [] (adr x) fd) :
    FnOk P c.w c.K c.mg base (L2.CX P c.w) (n + 2) (adr x) fd (d.N.take d.np) (SpF c (p.fn (n + 1) x)) := by
  obtain ⟨hS, hnp⟩ := T.sc x d hd
  have hcall : ∀ ds, p.fn (n + 1) x ds = d.call (p.G n) ds := fun ds => by
    show (match p.defs.lookup x with | some d => d.call (p.G n) ds | none => .stuck) = _
    rw [hd]
  refine FunD.ok F hS (fun vs H Q E h => ?_) fun cdv A outer s H vs Q E hr hsp => ?_
  · obtain ⟨ds, Fa, r, _, _, _, h⟩ := h
    rw [hcall] at h
    unfold Fd.call at h
    by_cases hl : ds.length = d.np
    · rw [← r.len, hl, List.length_take]; omega
    · rw [if_neg hl] at h; exact h.elim
  · obtain ⟨ds, Fa, r, hno, hnb, hs, h⟩ := hsp
    rw [hcall] at h
    unfold Fd.call at h
    by_cases hl : ds.length = d.np
    case neg => rw [if_neg hl] at h; exact h.elim
    rw [if_pos hl] at h
    generalize hX : cxOf (L2.CX P c.w) P c.w c.K c.mg base d.N x (defScope (stm x)) (adr x) cdv A outer s H E = X
    have hXN : X.N = d.N := by rw [← hX]; rfl
    let fr : Fr := { H0 := H, Fa0 := Fa, M := fun _ => False }
    have hfz : FzOk (p.G n) fr := .inl ⟨rfl, fun _ h => h⟩
    have hX1 : XOk X c (p.G n) p.nm := by
      subst hX
      refine xok T L rfl rfl rfl rfl rfl rfl hS.nd ?_ hr .new
      have := hr.un
      show (A.deeper (envOfC x (defScope (stm x)) s.heap.objs.size (adr x) cdv)).units + 65 < cLine
      omega
    have hX2 : XSt X c (p.G n) p.nm (defScope (stm x)) (fun cls dd _ H' => E cls dd H') := by
      subst hX
      exact ⟨hX1, ⟨fun y k hk => ⟨k, hk, .inl rfl⟩, fun _ _ => rfl⟩, rfl, hS.kind, takes_of rfl rfl rfl rfl, passes_of rfl⟩
    have hm : matSs p.nm (defScope (stm x)) X.N d.body (defBody (stm x)) = true := by
      rw [hXN]; exact T.mat x d hd
    refine ⟨_, wpSs.pss, Ss_ok hfz d.body X _ _ _ hX2 hm (L2.start d.N vs) H (ds ++ List.replicate (d.N.length - ds.length) .und) [] [] _ ?_ rfl ?_⟩
    · -- the entry
      refine ⟨Fa, fun _ => none, fun _ => 0, fun _ => 0, { slots := ⟨vs ++ List.replicate (d.N.length - ds.length) .non, ?_, ?_, fun i dd v e1 e2 e3 => ?_⟩, tmps := ⟨rfl, fun _ => rfl⟩, cl := ?_, one := fun _ => Nat.zero_le _, free := fun a h => absurd rfl h, sub := hs, subn := (fun a o h => by cases h), nw := (fun a o h => by cases h), an := fun a o h => Or.inl h, fa0 := Same.refl _, dom := fun a h => h, keep := fun a o h _ => h, hbs := Same.refl _, hbo := fun a h => absurd rfl h }⟩
      · exact ((r.chb (h := H) hnb).append (und_reps _)).ext fun a => rfl
      · rw [L2.start, List.length_append, List.length_append, List.length_map, List.length_replicate, List.length_replicate, r.len]
      · have hi : i < ds.length := by
          by_cases hi : i < ds.length
          · exact hi
          · rw [List.getElem?_append_right (by omega), List.getElem?_replicate] at e1
            split at e1
            · cases e1; exact absurd rfl e2
            · cases e1
        have hi2 : i < vs.length := by rw [← r.len]; exact hi
        rw [List.getElem?_append_left hi2] at e3
        rw [L2.start, List.getElem?_append_left (by rw [List.length_map]; exact hi2), List.getElem?_map, e3]
        rfl
      · refine alls_app hnb ?_
        rw [D.alls_all, List.all_eq_true]
        intro y hy
        rw [(List.mem_replicate.mp hy).2]
        rfl
    · -- the end
      have fin : ∀ {dd : D} {v : V} {σ' : L2.St} {H' : Hp} {e : List D}, endF (semSs (p.G n) d.body (ds ++ List.replicate (d.N.length - ds.length) .und)) = .ok dd → dd.clean = true → SR (c.wh H') fr σ' H' e [dd] [v] → Q v H' := fun {dd v σ' H' e} q hc S => by
        rw [q] at h
        obtain ⟨Fa', Fn', mS, mT, S⟩ := S
        obtain ⟨v', rr, m1, m2, ee, g1, g2, gm⟩ := S.tmps
        injection ee with ee1 ee2
        subst ee1
        have hz : ∀ a, m1 a ≠ 0 → mS a + mT a ≠ 0 := fun a h => by have := gm a; omega
        refine h v H' Fa' Fn' m1 (fun a o ha => S.keep a o ha fun x => x) S.sub S.subn S.fa0 (fun a o ha => ?_) (fun a o ha => S.nw a o ha) ?_ hc (fun a => ?_) fun a ha => (S.free a (hz a ha)).1
        · rcases S.an a o ha with q | q | q
          · exact .inl q
          · exact .inr q
          · exact q.elim
        · exact g1.chb (h := fun _ => none) hc
        · by_cases h0 : m1 a = 0
          · rw [h0]; exact Nat.zero_le _
          · rcases (S.free a (hz a h0)).2 with q | q
            · have q : H a = none := q
              unfold nwc
              rw [if_pos q]
              have := S.one a
              have := gm a
              omega
            · exact q.elim
      cases z : semSs (p.G n) d.body (ds ++ List.replicate (d.N.length - ds.length) .und) with
      | stuck => rw [z] at h; exact h.elim
      | exc y fl e =>
        rw [z] at h
        refine fun cls dd σ' H' S q => h cls dd H' ?_ q
        obtain ⟨Fa', Fn', mS, mT, S⟩ := S
        exact fun a o ha => S.keep a o ha fun x => x
      | ok o =>
        cases o with
        | nx e => exact fun σ' H' S => fin (dd := .non) (v := .non) (by rw [z]; rfl) rfl (S.push fun Fa Fn => ⟨rfl, fun _ => rfl⟩)
        | rt dd e => exact fun v σ' H' hc S => fin (by rw [z]; rfl) hc S
        | bk e => rw [z] at h; exact h.elim
        | ct e => rw [z] at h; exact h.elim
/-- an __init__ at a level -/
theorem ini_step (T : Stands p c stm adr pn) {n : Nat} (L : LvOk P base p c adr n) {x q : Str} {C : Addr} {d : Ini} (hq : p.ini.lookup x = some q) (hC : c.cls x = some C) (hd : p.inis.lookup q = some d) {fd : FuncData} (F : FunD c.K (pn q) q (defArgs (stm q)) (defBody (stm q)) (defScope (stm q)) [] [] (adr q) fd) :
    FnOk P c.w c.K c.mg base (L2.CX P c.w) (n + 2) (adr q) fd (d.N.take d.np) (SpI c C (p.mki (n + 1) x)) := by
  obtain ⟨hS, hnp⟩ := T.isc q d hd
  have hcall : ∀ ds, p.mki (n + 1) x ds = d.run (p.Gi n) x ds := fun ds => by
    show (match p.ini.lookup x with | some q => (match p.inis.lookup q with | some d => d.run (p.Gi n) x ds | none => .stuck) | none => .stuck) = _
    rw [hq]
    show (match p.inis.lookup q with | some d => d.run (p.Gi n) x ds | none => .stuck) = _
    rw [hd]
  refine FunD.ok F hS (fun vs H Q E h => ?_) fun cdv A outer s H vs Q E hr hsp => ?_
  · obtain ⟨a, dx, us, H1, ds, Fa, rfl, _, _, _, _, r, _, _, _, h⟩ := h
    rw [hcall] at h
    unfold Ini.run at h
    by_cases hl : ds.length + 1 = d.np
    · rw [List.length_cons, ← r.len, hl, List.length_take]; omega
    · rw [if_neg hl] at h; exact h.elim
  · obtain ⟨a, dx, us, H1, ds, Fa, rfl, hH, n1, n2, n3, r, hno, hnb, hs, h⟩ := hsp
    rw [hcall] at h
    unfold Ini.run at h
    by_cases hl : ds.length + 1 = d.np
    case neg => rw [if_neg hl] at h; exact h.elim
    rw [if_pos hl] at h
    have ho : ∀ b, b ≠ a → b ≠ dx → H b = H1 b := fun b q1 q2 => by rw [hH, upd_ne q1, upd_ne q2]
    have ha : H a = some (.ins C dx []) := by rw [hH, upd_same]
    have hsame : Same H1 H := fun b o e => by rw [ho b (fun z => by rw [z, n1] at e; cases e) (fun z => by rw [z, n2] at e; cases e)]; exact e
    have hback : ∀ b, H b = none → H1 b = none := fun b e => hsame.free e
    have hFa : Fa a = none := hs.free n1
    generalize hX : cxOf (L2.CX P c.w) P c.w c.K c.mg base d.N q (defScope (stm q)) (adr q) cdv A outer s H E = X
    have hXN : X.N = d.N := by rw [← hX]; rfl
    let fr : Fr := { H0 := H, Fa0 := Fa, M := fun b => b = a }
    have hfz : FzOk (p.Gi n) fr := .inr rfl
    have hX1 : XOk X c (p.Gi n) p.nm := by
      subst hX
      refine xok T L rfl rfl rfl rfl rfl rfl hS.nd ?_ hr .any
      have := hr.un
      show (A.deeper (envOfC q (defScope (stm q)) s.heap.objs.size (adr q) cdv)).units + 65 < cLine
      omega
    have hX2 : XSt X c (p.Gi n) p.nm (defScope (stm q)) (fun cls dd _ H' => E cls dd H') := by
      subst hX
      exact ⟨hX1, ⟨fun y k hk => ⟨k, hk, .inl rfl⟩, fun _ _ => rfl⟩, rfl, hS.kind, takes_of rfl rfl rfl rfl, passes_of rfl⟩
    have hm : matG p.nm (defScope (stm q)) X.N d.fl d.gs (defBody (stm q)) = true := by
      rw [hXN]; exact T.imat q d hd
    refine ⟨_, wpSs.pss, gs_ok (f := fr) (n := x) (p := a) (r := d.fl) (gs := d.gs) (env := (.und :: ds) ++ List.replicate (d.N.length - (ds.length + 1)) .und) (σ := L2.start d.N (.ref a :: us)) hX2 hfz (by rw [L2.start]; rfl) hm ?_ ?_⟩
    · -- the entry
      refine ⟨Fa, fun _ => none, fun _ => 0, fun b => (if b = a then 1 else 0) + 0, { slots := ⟨(.ref a :: us) ++ List.replicate (d.N.length - (ds.length + 1)) .non, ?_, ?_, fun i dd v e1 e2 e3 => ?_⟩, tmps := ?_, cl := ?_, one := fun b => by show 0 + ((if b = a then 1 else 0) + 0) ≤ 1; split <;> omega, free := fun b h => ?_, sub := fun b o e => hsame b o (hs b o e), subn := (fun a o h => by cases h), nw := (fun a o h => by cases h), an := fun a o h => Or.inl h, fa0 := Same.refl _, dom := fun a h => h, keep := fun a o h _ => h, hbs := Same.refl _, hbo := fun a h => absurd rfl h }⟩
      · have r' := ((r.to (H' := H) (fun q k vs z => absurd rfl z) (Same.refl _) (Same.refl _)).chb (h := H) hnb).append (und_reps (c := c.wh H) (v := .non) (d.N.length - (ds.length + 1)))
        exact ⟨.ref a, _, fun _ => 0, fun _ => 0, rfl, fun _ => rfl, r'.ext fun b => rfl, fun _ => rfl⟩
      · have hle : d.np ≤ d.N.length := hnp
        rw [L2.start, List.length_append, List.length_append, List.length_map, List.length_replicate, List.length_replicate, List.length_cons, List.length_cons, r.len]
      · cases i with
        | zero => cases e1; exact absurd rfl e2
        | succ i =>
          have e1 : (ds ++ List.replicate (d.N.length - (ds.length + 1)) .und)[i]? = some dd := e1
          have e3 : (us ++ List.replicate (d.N.length - (ds.length + 1)) V.non)[i]? = some v := e3
          have hi : i < ds.length := by
            by_cases hi : i < ds.length
            · exact hi
            · rw [List.getElem?_append_right (by omega), List.getElem?_replicate] at e1
              split at e1
              · cases e1; exact absurd rfl e2
              · cases e1
          have hi2 : i < us.length := by rw [← r.len]; exact hi
          rw [List.getElem?_append_left hi2] at e3
          rw [L2.start, List.getElem?_append_left (by rw [List.length_map, List.length_cons]; omega), List.getElem?_map]
          show ((us[i]?).map some) = some (some v)
          rw [e3]
          rfl
      · exact ⟨.ref a, [], fun b => if b = a then 1 else 0, fun _ => 0, rfl, ⟨a, [], fun _ => 0, rfl, ⟨rfl, fun _ => rfl⟩, ⟨C, dx, hC, ha, rfl⟩, fun b => (Nat.zero_add _).symm⟩, ⟨rfl, fun _ => rfl⟩, fun b => rfl⟩
      · show D.alls notBor ((D.und :: ds) ++ _) = true
        refine alls_app (show (true && D.alls notBor ds) = true by rw [hnb]; rfl) ?_
        rw [D.alls_all, List.all_eq_true]
        intro y hy
        rw [(List.mem_replicate.mp hy).2]
        rfl
      · have hb : b = a := by
          by_cases e : b = a
          · exact e
          · have h' : 0 + ((if b = a then 1 else 0) + 0) ≠ 0 := h
            rw [if_neg e] at h'; omega
        rw [hb]
        exact ⟨hFa, .inr rfl⟩
    · -- the end
      cases z : runG (p.Gi n) (runF (p.Gi n) x d.fl [] []) d.gs ((.und :: ds) ++ List.replicate (d.N.length - (ds.length + 1)) .und) with
      | stuck => rw [z] at h; exact h.elim
      | exc y fl e =>
        rw [z] at h
        refine fun cls dd σ' H' env' S qq => h cls dd H' ?_ qq
        obtain ⟨Fa', Fn', mS, mT, S⟩ := S
        exact fun b o hb => S.keep b o (hsame b o hb) fun z => by have z : b = a := z; rw [z, n1] at hb; cases hb
      | ok dd =>
        rw [z] at h
        intro σ' H' env' S hc
        obtain ⟨Fa', Fn', mS, mT, S⟩ := S
        obtain ⟨v', rr, m1, m2, ee, g1, g2, gm⟩ := S.tmps
        injection ee with ee1 ee2
        subst ee1
        have hz : ∀ b, m1 b ≠ 0 → mS b + mT b ≠ 0 := fun b h => by have := gm b; omega
        have hold : ∀ b, m1 b ≠ 0 → H1 b = none := fun b hb => by
          rcases (S.free b (hz b hb)).2 with q | q
          · exact hback b q
          · have q : b = a := q
            rw [q]; exact n1
        refine h H' Fa' Fn' m1 (fun b o hb => S.keep b o (hsame b o hb) fun z => by have z : b = a := z; rw [z, n1] at hb; cases hb) S.sub S.subn S.fa0 (fun b o hb => ?_) (fun b o hb => hback b (S.nw b o hb)) (g1.chb (h := fun _ => none) hc) hc (fun b => ?_) fun b hb => (S.free b (hz b hb)).1
        · rcases S.an b o hb with q | q | q
          · exact .inl q
          · exact .inr (hback b q)
          · have q : b = a := q
            rw [q]; exact .inr n1
        · by_cases h0 : m1 b = 0
          · rw [h0]; exact Nat.zero_le _
          · unfold nwc
            rw [if_pos (hold b h0)]
            have := S.one b
            have := gm b
            omega
theorem lv_ok (T : Stands p c stm adr pn) : ∀ n : Nat, LvOk P base p c adr n
  | 0 => {
    fn := fun x d hd => by
      obtain ⟨fd, F, B⟩ := T.fn x d hd
      exact ⟨fd, F.kp, B, spF_stuck⟩
    mki := fun x q C hq hC => by
      obtain ⟨C', d, e1, e2, e3, e4⟩ := T.ini x q hq
      obtain ⟨fd, F, B⟩ := T.ifn q d e3
      exact ⟨fd, _, B, spI_stuck⟩
    mk1 := fun x q C hq hC => by
      obtain ⟨C', d, e1, e2, e3, e4⟩ := T.ini x q hq
      obtain ⟨fd, F, B⟩ := T.ifn q d e3
      exact ⟨fd, _, B, spI_stuck⟩ }
  | n + 1 => {
    fn := fun x d hd => by
      obtain ⟨fd, F, B⟩ := T.fn x d hd
      exact ⟨fd, F.kp, B, fn_step T (lv_ok T n) hd F⟩
    mki := fun x q C hq hC => by
      obtain ⟨C', d, e1, e2, e3, e4⟩ := T.ini x q hq
      obtain ⟨fd, F, B⟩ := T.ifn q d e3
      exact ⟨fd, _, B, ini_step T (lv_ok T n) hq hC e3 F⟩
    mk1 := fun x q C hq hC => (lv_ok T n).mki x q C hq hC }
end
end VI

set_option maxHeartbeats 4000000
namespace VI
open PySem PySem.Spec L2
open PyProof.Rows hiding St

/-! ### a law's program -/
/-- the free names that are asked after -/
def frees : List Str := ["len", "abs", "max", "min", "divmod", "int", "str", "list", "tuple", "sum", "all", "any", "sorted", "dict", "bool", "range", "zip", "enumerate", "isinstance", "set"]
/-- where a def stands: qualified name, class, plain name, place in the top, place in the class -/
structure Ent where
  q : Str
  c : Option Str
  m : Str
  i : Nat
  j : Nat
def Ent.at_ (e : Ent) : Str × Option Str := match e.c with
  | none => (e.m, none)
  | some C => (C, some e.m)
structure Lw where
  top : Nat → Stmt
  defs : List (Ent × Fd)
  inis : List (Ent × Ini)
  cs : List (Str × Str)
  ci : List (Str × Int)
  dc : List (Str × List (Str × D))
  cls : List Str
  mro : List ((Str × Str) × Str)
  ini : List (Str × Str)
  mts : List Str
  fld : List Str
  kls : List Str
  subs : List ((Str × Str) × Bool)
def Lw.stE (t : Lw) (e : Ent) : Stmt := match e.c with
  | none => t.top e.i
  | some _ => match t.top e.i with
    | .ClassDef _ _ _ body _ _ _ _ _ _ _ => body.getD e.j (.Pass ⟨0, 0, 0, 0⟩)
    | _ => .Pass ⟨0, 0, 0, 0⟩
def Lw.ents (t : Lw) : List Ent := t.defs.map (·.1) ++ t.inis.map (·.1)
def entOf (l : List Ent) (x : Str) : Option Ent := l.find? fun e => decide (e.q = x)
def Lw.stm (t : Lw) (x : Str) : Stmt := match entOf t.ents x with
  | some e => t.stE e
  | none => .Pass ⟨0, 0, 0, 0⟩
def Lw.adr (t : Lw) (K : PySem.W.Frag) (x : Str) : Addr := match entOf t.ents x with
  | some e => He.fAd K e.at_
  | none => 0
def Lw.pn (t : Lw) (x : Str) : Str := match entOf t.ents x with
  | some e => e.m
  | none => x
def Lw.gl (t : Lw) : List Str := (t.defs.filter fun p => p.1.c.isNone).map (·.1.q)
def Lw.pg (t : Lw) : Pg where
  defs := t.defs.map fun p => (p.1.q, p.2)
  inis := t.inis.map fun p => (p.1.q, p.2)
  gl := t.gl
  cst := fun x => match t.cs.lookup x with
    | some z => some (.str z)
    | none => match t.ci.lookup x with
      | some i => some (.int i)
      | none => (t.dc.lookup x).map fun kvs => .nd .sta (.dic (kvs.map fun q => .inr q.1)) (kvs.map (·.2))
  mro := fun c m => t.mro.lookup (c, m)
  ini := t.ini
  mts := t.mts
  fld := t.fld
  kls := t.kls
  sub := fun n x => t.subs.lookup (n, x)
def Lw.dd (t : Lw) (e : Ent) : He.DefD := ⟨e.at_, e.m, e.q, defArgs (t.stE e), defBody (t.stE e), defScope (t.stE e), [], []⟩
def Lw.fn (t : Lw) : List He.DefD := t.ents.map t.dd
def Lw.fa (t : Lw) : List He.Fa := frees.map .free ++ (t.gl ++ t.cls ++ t.kls ++ t.ini.map (·.1) ++ t.dc.map (·.1)).map .glo ++ t.cs.map (fun p => .str p.1 p.2) ++ t.ci.map (fun p => .int p.1 p.2) ++
  t.cls.map .cls ++ (t.cls.flatMap fun n => t.fld.map fun f => .noat n f) ++ t.mro.map (fun p => .meth p.1.1 p.1.2) ++ t.ini.map fun p => .mkr p.1
def Lw.ts (t : Lw) : List He.Tab := t.dc.map fun p => (fun K => He.ga K p.1, p.2.map (·.1))

/-! ### what the text wrote, told by a Bool -/
def vOf : Value → V
  | .str y _ => .str y
  | .int i _ => .int i
  | .bool b => .bl b
  | .ref a => .ref a
  | _ => .non
mutual
def stB (K : PySem.W.Frag) (fa : Str → Option Addr) : D → Value → Bool
  | .str x, .str y _ => decide (x = y)
  | .int i, .int j _ => decide (i = j)
  | .non, .none => true
  | .bl b, .bool k => b == k
  | .fn f, .ref a => decide (fa f = some a)
  | .nd .sta .tup xs, .ref p => (match K.lookup p with
    | some ⟨.type c, _, .seq its _, _⟩ => decide (c = "tuple") && (decide (its.size ≤ sizeLine) && stBs K fa xs its.toList)
    | _ => false)
  | .nd .sta .lst xs, .ref p => (match K.lookup p with
    | some ⟨.type c, none, .seq its _, _⟩ => decide (c = "list") && (decide (its.size ≤ sizeLine) && stBs K fa xs its.toList)
    | _ => false)
  | _, _ => false
def stBs (K : PySem.W.Frag) (fa : Str → Option Addr) : List D → List Value → Bool
  | [], [] => true
  | d :: ds, u :: us => stB K fa d u && stBs K fa ds us
  | _, _ => false
end
mutual
theorem stB_ok {c : Gc} : ∀ {d : D} {u : Value}, stB c.K c.fa d u = true → RelV (vOf u) u ∧ ∀ Fa Fn H, Rep c.c0 Fa Fn H d (vOf u) fun _ => 0
  | .str x, u, h => by
    cases u <;> try (cases h; done)
    have e := of_decide_eq_true h
    subst e
    exact ⟨⟨_, rfl⟩, fun _ _ _ => ⟨rfl, fun _ => rfl⟩⟩
  | .int i, u, h => by
    cases u <;> try (cases h; done)
    have e := of_decide_eq_true h
    subst e
    exact ⟨⟨_, rfl⟩, fun _ _ _ => ⟨rfl, fun _ => rfl⟩⟩
  | .non, u, h => by
    cases u <;> try (cases h; done)
    exact ⟨rfl, fun _ _ _ => ⟨rfl, fun _ => rfl⟩⟩
  | .bl b, u, h => by
    cases u <;> try (cases h; done)
    rename_i k
    have e : b = k := eq_of_beq h
    subst e
    exact ⟨rfl, fun _ _ _ => ⟨rfl, fun _ => rfl⟩⟩
  | .fn f, u, h => by
    cases u <;> try (cases h; done)
    have e := of_decide_eq_true h
    exact ⟨rfl, fun _ _ _ => ⟨⟨_, e, rfl⟩, fun _ => rfl⟩⟩
  | .nd t k xs, u, h => by
    cases t <;> try (cases k <;> cases u <;> cases h; done)
    cases k with
    | tup =>
      cases u <;> try (cases h; done)
      rename_i p
      have h1 : (match c.K.lookup p with
        | some ⟨.type c', _, .seq its _, _⟩ => decide (c' = "tuple") && (decide (its.size ≤ sizeLine) && stBs c.K c.fa xs its.toList)
        | _ => false) = true := h
      split at h1
      · rename_i c' dd its n sl q
        simp only [Bool.and_eq_true, decide_eq_true_eq] at h1
        obtain ⟨rfl, h2, h3⟩ := h1
        obtain ⟨g1, g2⟩ := stBs_ok (c := c) h3
        exact ⟨rfl, fun Fa Fn H => ⟨p, _, fun _ => 0, rfl, g2 Fa Fn H, .inr ⟨_, its, n, q, rfl, rfl, h2, g1⟩, fun _ => rfl, fun _ => rfl⟩⟩
      · cases h1
    | lst =>
      cases u <;> try (cases h; done)
      rename_i p
      have h1 : (match c.K.lookup p with
        | some ⟨.type c', none, .seq its _, _⟩ => decide (c' = "list") && (decide (its.size ≤ sizeLine) && stBs c.K c.fa xs its.toList)
        | _ => false) = true := h
      split at h1
      · rename_i c' its n sl q
        simp only [Bool.and_eq_true, decide_eq_true_eq] at h1
        obtain ⟨rfl, h2, h3⟩ := h1
        obtain ⟨g1, g2⟩ := stBs_ok (c := c) h3
        exact ⟨rfl, fun Fa Fn H => ⟨p, _, fun _ => 0, rfl, g2 Fa Fn H, .inr ⟨_, its, n, q, rfl, rfl, rfl, h2, g1⟩, fun _ => rfl, fun _ => rfl⟩⟩
      · cases h1
    | dic ks => cases u <;> cases h
    | ins a b => cases u <;> cases h
  | .und, u, h => by cases u <;> cases h
theorem stBs_ok {c : Gc} : ∀ {ds : List D} {us : List Value}, stBs c.K c.fa ds us = true → Vals (us.map vOf) us ∧ ∀ Fa Fn H, Reps c.c0 Fa Fn H ds (us.map vOf) fun _ => 0
  | [], [], h => ⟨.nil, fun _ _ _ => ⟨rfl, fun _ => rfl⟩⟩
  | d :: ds, u :: us, h => by
    have h : (stB c.K c.fa d u && stBs c.K c.fa ds us) = true := h
    rw [Bool.and_eq_true] at h
    obtain ⟨a1, a2⟩ := stB_ok h.1
    obtain ⟨b1, b2⟩ := stBs_ok h.2
    exact ⟨.cons a1 b1, fun Fa Fn H => ⟨_, _, fun _ => 0, fun _ => 0, rfl, a2 Fa Fn H, b2 Fa Fn H, fun _ => rfl⟩⟩
  | [], _ :: _, h => by cases h
  | _ :: _, [], h => by cases h
end
/-! ### further facts -/
def insB (K : PySem.W.Frag) (C : Addr) : Bool := He.eqO (PySem.W.findIn K (.ref C) "__class__") (some (some (.builtin "object.__class__"))) && (He.eqO (PySem.W.specialIn K (.builtin "object.__class__") "__get__") (some (some (.builtin "getset_descriptor.__get__"))) &&
  (decide (PySem.W.takesIn K (.builtin "object.__class__") = some true) && decide (PySem.W.mroIn K C (.type "object") = some true)))
def Lw.faF (t : Lw) (K : PySem.W.Frag) : Str → Option Addr := fun x => if t.gl.contains x then some (He.ga K x) else none
def Lw.clF (t : Lw) (K : PySem.W.Frag) : Str → Option Addr := fun x => if t.cls.contains x then some (He.ga K x) else none
def Lw.ex (t : Lw) (K : PySem.W.Frag) : Bool := (t.mro.all fun p => decide (He.ma K (He.ga K p.1.1) p.1.2 = t.adr K p.2)) && ((t.ini.all fun p => decide (He.ma K (He.ga K p.1) "__init__" = t.adr K p.2)) && ((t.cls.all fun n => insB K (He.ga K n)) &&
  ((t.subs.all fun p => decide (PySem.W.kitOne K (.ref (He.ga K p.1.1)) (.ref (He.ga K p.1.2)) = some p.2)) &&
    t.dc.all fun p => p.2.all fun q => match PySem.W.nsIn K (He.ga K p.1) q.1 with
      | some (some u) => stB K (t.faF K) q.2 u
      | _ => false)))
abbrev AlV : Type := He.AlT × Bool
def obsV (t : Lw) (K : PySem.W.Frag) : AlV := (He.obsT t.fa t.fn t.ts K, t.ex K)
def valV (t : Lw) (w : World) : AlV := (He.valT t.fn t.ts w, true)
def obsVG (n : Nat) (t : Lw) (g : Addr → Option Obj) : AlV := obsV t (He.frG g (He.asD g n))
def hookV (n : Nat) (t : Lw) : PySem.W.Hook where
  α := AlV
  obs := fun s => obsVG n t s.heap.get?
  val := fun w => valV t w
  says := fun w h => ∃ K : PySem.W.Frag, K.In h ∧ obsV t K = valV t w
  of := fun _ _ e => ⟨_, He.frG_in, e⟩
  keeps := fun _ _ _ ⟨K, hK, c⟩ k => ⟨K, PySem.W.Frag.In.keeps hK k, c⟩
theorem obsVG_eq {n : Nat} {t : Lw} {g : Addr → Option Obj} {s : Shared} (h : ∀ a, g a = s.heap.get? a) : obsVG n t g = (hookV n t).obs s := by
  have e : g = s.heap.get? := funext h
  rw [e] <;> rfl
def scK (N P : List Str) (sc : Scope) : Bool :=
  match sc with
  | ⟨kd, ns, gen, co, _⟩ => decide (kd = .function) && (!co && !gen) && (decide N.Nodup && decide (N.take P.length = P)) &&
    (P.all fun x => decide (ns.lookup x = some .local) || decide (ns.lookup x = some .cell)) && ns.all fun y => !decide (y.2 = .free)
theorem scK_ok {N P : List Str} {sc : Scope} (h : scK N P sc = true) : FnScope N P sc := by
  obtain ⟨kd, ns, gen, co, mo⟩ := sc
  have h : (decide (kd = .function) && (!co && !gen) && (decide N.Nodup && decide (N.take P.length = P)) &&
    (P.all fun x => decide (ns.lookup x = some .local) || decide (ns.lookup x = some .cell)) && ns.all fun y => !decide (y.2 = .free)) = true := h
  simp only [Bool.and_eq_true, Bool.not_eq_true', List.all_eq_true, Bool.or_eq_true, decide_eq_true_eq, decide_eq_false_iff_not] at h
  obtain ⟨⟨⟨⟨a1, a2, a3⟩, a4, a5⟩, a6⟩, a7⟩ := h
  exact ⟨a1, a2, a3, a4, a5, a6, a7⟩
theorem lookup_at {α : Type} : ∀ {l : List (Str × α)} {x : Str} {a : α}, l.lookup x = some a → ∃ n : Nat, l[n]? = some (x, a)
  | [], x, a, h => by simp at h
  | (y, b) :: r, x, a, h => by
    rw [List.lookup_cons] at h
    cases e : (x == y) with
    | true =>
      rw [e] at h
      cases h
      exact ⟨0, by rw [eq_of_beq e]; rfl⟩
    | false =>
      rw [e] at h
      obtain ⟨n, q⟩ := lookup_at (l := r) h
      exact ⟨n + 1, q⟩
theorem lookup_map {α β : Type} (g : α → β) : ∀ {l : List (Str × α)} {x : Str}, (l.map fun p => (p.1, g p.2)).lookup x = (l.lookup x).map g
  | [], x => rfl
  | (y, b) :: r, x => by
    rw [List.map_cons, List.lookup_cons, List.lookup_cons]
    cases x == y with
    | true => rfl
    | false => exact lookup_map g (l := r)
theorem fact_of {fa : List He.Fa} {fn : List He.DefD} {K : PySem.W.Frag} (c : He.SaysD fa fn K) {f : He.Fa} (h : f ∈ fa) : f.ok K = true := by
  obtain ⟨i, hi⟩ := List.getElem?_of_mem h
  exact c.fact i hi
def Lw.chkD (t : Lw) (p : Ent × Fd) : Bool := scK p.2.N (p.2.N.take p.2.np) (defScope (t.stE p.1)) && decide (p.2.np ≤ p.2.N.length) && matSs t.pg.nm (defScope (t.stE p.1)) p.2.N p.2.body (defBody (t.stE p.1))
def Lw.chkI (t : Lw) (p : Ent × Ini) : Bool := scK p.2.N (p.2.N.take p.2.np) (defScope (t.stE p.1)) && decide (p.2.np ≤ p.2.N.length) && matG t.pg.nm (defScope (t.stE p.1)) p.2.N p.2.fl p.2.gs (defBody (t.stE p.1))
def Lw.BoundE (t : Lw) (e : Ent) (N : List Str) : Prop := ∀ (K : PySem.W.Frag) (f : Addr) (fd : FuncData), FunD K e.m e.q (defArgs (t.stE e)) (defBody (t.stE e)) (defScope (t.stE e)) [] [] f fd → Binds K fd N []
/-- the table itself -/
def Lw.wf (t : Lw) : Bool := (t.inis.all fun p => t.defs.all fun r => !decide (r.1.q = p.1.q)) && ((t.gl.all fun x => match entOf t.ents x with | some e => e.c.isNone && decide (e.m = x) | none => false) && ((t.mro.all fun p => (t.defs.any fun r => decide (r.1.q = p.2)) && t.cls.contains p.1.1) && ((t.ini.all fun p => (t.inis.any fun r => decide (r.1.q = p.2)) && t.cls.contains p.1) &&
  ((t.subs.all fun p => t.cls.contains p.1.1 && t.kls.contains p.1.2) && t.dc.all fun p => D.alls notBor (p.2.map (·.2))))))
theorem find_ent {α : Type} : ∀ {l : List (Ent × α)} {x : Str} {d : α} (r : List Ent), (l.map fun p => (p.1.q, p.2)).lookup x = some d → ∃ e, (e, d) ∈ l ∧ entOf (l.map (·.1) ++ r) x = some e ∧ e.q = x
  | [], x, d, r, h => by cases h
  | (e, b) :: l, x, d, r, h => by
    rw [List.map_cons, List.lookup_cons] at h
    cases q : (x == e.q) with
    | true =>
      have ex : x = e.q := eq_of_beq q
      have h : (match (x == e.q) with | true => some b | false => (l.map fun p => (p.1.q, p.2)).lookup x) = some d := h
      rw [q] at h
      cases h
      refine ⟨e, List.mem_cons_self, ?_, ex.symm⟩
      unfold entOf
      rw [List.map_cons, List.cons_append, List.find?_cons, decide_eq_true ex.symm]
    | false =>
      have h : (match (x == e.q) with | true => some b | false => (l.map fun p => (p.1.q, p.2)).lookup x) = some d := h
      rw [q] at h
      obtain ⟨e', h1, h2, h3⟩ := find_ent (l := l) r h
      refine ⟨e', List.mem_cons_of_mem _ h1, ?_, h3⟩
      unfold entOf at h2 ⊢
      have ne : ¬ e.q = x := fun z => by rw [z, beq_self_eq_true] at q; cases q
      rw [List.map_cons, List.cons_append, List.find?_cons, decide_eq_false ne]
      exact h2
theorem entOf_skip : ∀ {l r : List Ent} {x : Str}, (∀ e ∈ l, ¬ e.q = x) → entOf (l ++ r) x = entOf r x
  | [], r, x, h => rfl
  | e :: l, r, x, h => by
    have h1 := h e List.mem_cons_self
    have := entOf_skip (r := r) fun e' he => h e' (List.mem_cons_of_mem _ he)
    unfold entOf at this ⊢
    rw [List.cons_append, List.find?_cons, decide_eq_false h1]
    exact this
theorem lookup_of_mem2 {α β : Type} [BEq α] [LawfulBEq α] : ∀ {l : List (α × β)} {x : α} {b : β}, l.lookup x = some b → (x, b) ∈ l
  | [], x, b, h => by cases h
  | (y, b') :: l, x, b, h => by
    rw [List.lookup_cons] at h
    cases e : (x == y) with
    | true =>
      rw [e] at h
      cases h
      rw [eq_of_beq e]
      exact List.mem_cons_self
    | false =>
      rw [e] at h
      exact List.mem_cons_of_mem _ (lookup_of_mem2 h)
theorem lookup_some_of_any {α : Type} {l : List (Ent × α)} {x : Str} (h : (l.any fun r => decide (r.1.q = x)) = true) : ∃ d, (l.map fun p => (p.1.q, p.2)).lookup x = some d := by
  rw [List.any_eq_true] at h
  obtain ⟨⟨e, d⟩, h1, h2⟩ := h
  have h2 := of_decide_eq_true h2
  subst h2
  exact L2.mem_lookup (List.mem_map.mpr ⟨(e, d), h1, rfl⟩)
theorem vals_ok {c : Gc} {p : Addr} : ∀ {kvs : List (Str × D)}, (∀ q ∈ kvs, ∃ u, PySem.W.nsIn c.K p q.1 = some (some u) ∧ stB c.K c.fa q.2 u = true) →
    ∃ us : List V, us.length = kvs.length ∧ (∀ Fa Fn H, Reps c.c0 Fa Fn H (kvs.map (·.2)) us fun _ => 0) ∧ ∀ y v, ((kvs.map (·.1)).zip us).lookup y = some v → ∃ u, PySem.W.nsIn c.K p y = some (some u) ∧ RelV v u
  | [], _ => ⟨[], rfl, fun _ _ _ => ⟨rfl, fun _ => rfl⟩, fun y v h => by cases h⟩
  | (k, d) :: r, h => by
    obtain ⟨u, h1, h2⟩ := h (k, d) List.mem_cons_self
    obtain ⟨us, r1, r2, r3⟩ := vals_ok (kvs := r) fun q hq => h q (List.mem_cons_of_mem _ hq)
    obtain ⟨a1, a2⟩ := stB_ok h2
    refine ⟨vOf u :: us, by rw [List.length_cons, r1]; rfl, fun Fa Fn H => ⟨_, _, fun _ => 0, fun _ => 0, rfl, a2 Fa Fn H, r2 Fa Fn H, fun _ => rfl⟩, fun y v e => ?_⟩
    rw [List.map_cons, List.zip_cons_cons, List.lookup_cons] at e
    cases q : (y == k) with
    | true =>
      rw [q] at e
      cases e
      rw [eq_of_beq q]
      exact ⟨u, h1, a1⟩
    | false =>
      rw [q] at e
      exact r3 y v e
theorem zip_none : ∀ {ks : List Str} {us : List V} {y : Str}, ks.length = us.length → (ks.zip us).lookup y = none → y ∉ ks
  | [], _, y, _, _ => by simp
  | k :: ks, [], y, h, _ => by cases h
  | k :: ks, u :: us, y, h, e => by
    rw [List.zip_cons_cons, List.lookup_cons] at e
    cases q : (y == k) with
    | true => rw [q] at e; cases e
    | false =>
      rw [q] at e
      have := zip_none (by simpa using h) e
      have ne : y ≠ k := fun z => by rw [z, beq_self_eq_true] at q; cases q
      simp [ne, this]
theorem keys_miss {P : Params} {y : Str} : ∀ {l : List DictEntry} {ks : List Str}, l.map He.keyOf = He.keysIn P ks → y ∉ ks → l.find? (fun e => e.key.isStr y) = none ∧ l.any (·.refKey) = false
  | [], _, _, _ => ⟨rfl, rfl⟩
  | e :: l, [], h, _ => by cases h
  | e :: l, k :: ks, h, hy => by
    have h1 : He.keyOf e :: l.map He.keyOf = some (k, PyData.keyHash P k) :: He.keysIn P ks := h
    injection h1 with h2 h3
    obtain ⟨r1, r2⟩ := keys_miss (y := y) h3 fun z => hy (List.mem_cons_of_mem _ z)
    unfold He.keyOf at h2
    split at h2
    · rename_i x t q
      have h4 := (Prod.mk.inj (Option.some.inj h2)).1
      have ne : ¬ x = y := fun z => hy (by rw [← z, h4]; exact List.mem_cons_self)
      refine ⟨?_, ?_⟩
      · rw [List.find?_cons]
        have : e.key.isStr y = false := by
          rw [q]
          show (x == y) = false
          exact beq_eq_false_iff_ne.mpr ne
        rw [this]
        exact r1
      · rw [List.any_cons, r2, Bool.or_false]
        unfold DictEntry.refKey
        rw [q]
    · cases h2
theorem dic_miss {K : PySem.W.Frag} {w : World} {a : Addr} {ks : List Str} (h : He.dicW K a = some (He.keysIn w.params ks)) : (∀ y, y ∉ ks → PySem.W.nsIn K a y = some none) ∧ True := by
  refine ⟨fun y hy => ?_, trivial⟩
  unfold He.dicW at h
  split at h
  · rename_i c es n sl q
    split at h
    · have h := Option.some.inj h
      obtain ⟨r1, r2⟩ := keys_miss h hy
      unfold PySem.W.nsIn
      rw [q]
      show (match es.toList.find? (fun e => e.key.isStr y) with
        | some e => some (some e.val)
        | none => if es.toList.any (·.refKey) then none else some none) = some none
      rw [r1]
      show (if es.toList.any (·.refKey) = true then none else some none) = some none
      rw [r2]
      rfl
    · cases h
  · cases h
/-- all stands as it is to -/
theorem Lw.stands (t : Lw) {K : PySem.W.Frag} {w : World} {h : Heap} {mg : Str → Option Value} (X : K.In h) (G : h.Ns mainGlobals mg) (c : obsV t K = valV t w) (hw : t.wf = true) (hc : ∀ p ∈ t.defs, t.chkD p = true) (hci : ∀ p ∈ t.inis, t.chkI p = true)
    (hb : ∀ p ∈ t.defs, t.BoundE p.1 (p.2.N.take p.2.np)) (hbi : ∀ p ∈ t.inis, t.BoundE p.1 (p.2.N.take p.2.np)) : Stands t.pg ⟨K, w, mg, t.clF K, t.faF K, fun _ => none⟩ t.stm (t.adr K) t.pn := by
  have cT : He.SaysT t.fa t.fn t.ts w K := congrArg (fun z : AlV => z.1) c
  have cE : t.ex K = true := congrArg (fun z : AlV => z.2) c
  have cD : He.SaysD t.fa t.fn K := cT.d
  unfold Lw.wf at hw
  simp only [Bool.and_eq_true] at hw
  obtain ⟨w1, w2, w3, w4, w5, w6⟩ := hw
  unfold Lw.ex at cE
  simp only [Bool.and_eq_true] at cE
  obtain ⟨x1, x2, x3, x4, x5⟩ := cE
  have fact : ∀ {f : He.Fa}, f ∈ t.fa → f.ok K = true := fun h => fact_of cD h
  have fr : ∀ x, x ∈ frees → mg x = none := fun x hx => He.free_ok X G (fact (by
    unfold Lw.fa
    simp only [List.mem_append, List.mem_map]
    exact .inl (.inl (.inl (.inl (.inl (.inl (.inl ⟨x, hx, rfl⟩))))))))
  have glo : ∀ x, x ∈ t.gl ++ t.cls ++ t.kls ++ t.ini.map (·.1) ++ t.dc.map (·.1) → mg x = some (.ref (He.ga K x)) := fun x hx => He.glo_ok X G (fact (by
    unfold Lw.fa
    rw [List.mem_append, List.mem_append, List.mem_append, List.mem_append, List.mem_append, List.mem_append, List.mem_append]
    exact .inl (.inl (.inl (.inl (.inl (.inl (.inr (List.mem_map.mpr ⟨x, hx, rfl⟩))))))))) 
  -- a def by its name
  have dfn : ∀ x d, t.pg.defs.lookup x = some d → ∃ e, (e, d) ∈ t.defs ∧ entOf t.ents x = some e ∧ e.q = x := fun x d hx => find_ent _ hx
  have ifn : ∀ x d, t.pg.inis.lookup x = some d → ∃ e, (e, d) ∈ t.inis ∧ entOf t.ents x = some e ∧ e.q = x := fun x d hx => by
    obtain ⟨e, e1, e2, e3⟩ := find_ent (l := t.inis) [] hx
    refine ⟨e, e1, ?_, e3⟩
    unfold Lw.ents
    rw [entOf_skip fun e' he => ?_]
    · rw [List.append_nil] at e2; exact e2
    · obtain ⟨r, hr, rfl⟩ := List.mem_map.mp he
      have := List.all_eq_true.mp (List.all_eq_true.mp w1 _ e1) r hr
      simpa [e3] using this
  have at_ : ∀ {x e}, entOf t.ents x = some e → t.stm x = t.stE e ∧ t.adr K x = He.fAd K e.at_ ∧ t.pn x = e.m := fun {x e} he => by
    unfold Lw.stm Lw.adr Lw.pn
    rw [he]
    exact ⟨rfl, rfl, rfl⟩
  have fund : ∀ e, e ∈ t.ents → ∃ fd, FunD K e.m e.q (defArgs (t.stE e)) (defBody (t.stE e)) (defScope (t.stE e)) [] [] (He.fAd K e.at_) fd := fun e he => by
    obtain ⟨n, hn⟩ := List.getElem?_of_mem he
    exact cD.def_ n (d := t.dd e) (by unfold Lw.fn; rw [List.getElem?_map, hn]; rfl)
  have mE : ∀ {e : Ent} {d : Fd}, (e, d) ∈ t.defs → e ∈ t.ents := fun {e d} h => List.mem_append_left _ (List.mem_map.mpr ⟨(e, d), h, rfl⟩)
  have mI : ∀ {e : Ent} {d : Ini}, (e, d) ∈ t.inis → e ∈ t.ents := fun {e d} h => List.mem_append_right _ (List.mem_map.mpr ⟨(e, d), h, rfl⟩)
  have clsOf : ∀ {n : Str} {C : Addr}, t.clF K n = some C → n ∈ t.cls ∧ C = He.ga K n := fun {n C} h => by
    unfold Lw.clF at h
    split at h
    · rename_i hm
      cases h
      exact ⟨by simpa using hm, rfl⟩
    · cases h
  have clsIn : ∀ {n : Str}, t.cls.contains n = true → t.clF K n = some (He.ga K n) := fun {n} h => by unfold Lw.clF; rw [if_pos h]
  have cl : ∀ {n : Str}, n ∈ t.cls → Cls K (He.ga K n) := fun {n} hn => He.cls_ok (fact (by
    unfold Lw.fa
    rw [List.mem_append, List.mem_append, List.mem_append, List.mem_append]
    exact .inl (.inl (.inl (.inr (List.mem_map.mpr ⟨n, hn, rfl⟩))))))
  have glD : ∀ x, x ∈ t.gl → (∃ d, t.pg.defs.lookup x = some d) ∧ t.adr K x = He.ga K x := fun x hx => by
    unfold Lw.gl at hx
    obtain ⟨⟨e, d0⟩, h1, rfl⟩ := List.mem_map.mp hx
    rw [List.mem_filter] at h1
    obtain ⟨d, hd⟩ := L2.mem_lookup (l := t.defs.map fun p => (p.1.q, p.2)) (List.mem_map.mpr ⟨(e, d0), h1.1, rfl⟩)
    refine ⟨⟨d, hd⟩, ?_⟩
    have hx' : e.q ∈ t.gl := by unfold Lw.gl; exact List.mem_map.mpr ⟨(e, d0), List.mem_filter.mpr h1, rfl⟩
    have q := List.all_eq_true.mp w2 _ hx'
    cases z : entOf t.ents e.q with
    | none => rw [z] at q; cases q
    | some e' =>
      rw [z] at q
      have q : (e'.c.isNone && decide (e'.m = e.q)) = true := q
      rw [Bool.and_eq_true, Option.isNone_iff_eq_none, decide_eq_true_eq] at q
      unfold Lw.adr
      rw [z]
      show He.fAd K e'.at_ = _
      unfold Ent.at_
      rw [q.1, q.2]
      rfl
  refine {
    fn := fun x d hx => by
      obtain ⟨e, e1, e2, e3⟩ := dfn x d hx
      obtain ⟨fd, F⟩ := fund e (mE e1)
      obtain ⟨a1, a2, a3⟩ := at_ e2
      have B := hb (e, d) e1 K _ fd F
      rw [a1, a2, a3, ← e3]
      exact ⟨fd, F, B⟩
    ifn := fun x d hx => by
      obtain ⟨e, e1, e2, e3⟩ := ifn x d hx
      obtain ⟨fd, F⟩ := fund e (mI e1)
      obtain ⟨a1, a2, a3⟩ := at_ e2
      have B := hbi (e, d) e1 K _ fd F
      rw [a1, a2, a3, ← e3]
      exact ⟨fd, F, B⟩
    sc := fun x d hx => by
      obtain ⟨e, e1, e2, e3⟩ := dfn x d hx
      have q := hc (e, d) e1
      unfold Lw.chkD at q
      rw [Bool.and_eq_true, Bool.and_eq_true] at q
      rw [(at_ e2).1]
      exact ⟨scK_ok q.1.1, of_decide_eq_true q.1.2⟩
    mat := fun x d hx => by
      obtain ⟨e, e1, e2, e3⟩ := dfn x d hx
      have q := hc (e, d) e1
      unfold Lw.chkD at q
      rw [Bool.and_eq_true, Bool.and_eq_true] at q
      unfold Fd.mat
      rw [(at_ e2).1]
      exact q.2
    isc := fun x d hx => by
      obtain ⟨e, e1, e2, e3⟩ := ifn x d hx
      have q := hci (e, d) e1
      unfold Lw.chkI at q
      rw [Bool.and_eq_true, Bool.and_eq_true] at q
      rw [(at_ e2).1]
      exact ⟨scK_ok q.1.1, of_decide_eq_true q.1.2⟩
    imat := fun x d hx => by
      obtain ⟨e, e1, e2, e3⟩ := ifn x d hx
      have q := hci (e, d) e1
      unfold Lw.chkI at q
      rw [Bool.and_eq_true, Bool.and_eq_true] at q
      rw [(at_ e2).1]
      exact q.2
    gl := fun x hx => by
      obtain ⟨q1, q2⟩ := glD x hx
      exact ⟨q1, by rw [q2]; exact glo x (by simp only [List.mem_append]; exact .inl (.inl (.inl (.inl hx))))⟩
    cst := fun x d e => ?_
    blt := fun b => by cases b <;> exact fr _ (by decide)
    tys := fun ty => by cases ty <;> exact fr _ (by decide)
    rng := ⟨fr _ (by decide), fr _ (by decide), fr _ (by decide), fr _ (by decide)⟩
    setn := fr _ (by decide)
    fl := fun n C f h1 h2 => by
      obtain ⟨q1, rfl⟩ := clsOf h1
      exact ⟨cl q1, He.noat_ok (fact (by
        unfold Lw.fa
        rw [List.mem_append, List.mem_append, List.mem_append]
        exact .inl (.inl (.inr (List.mem_flatMap.mpr ⟨n, q1, List.mem_map.mpr ⟨f, h2, rfl⟩⟩)))))⟩
    fa := fun x a h => by
      have h : (if t.gl.contains x = true then some (He.ga K x) else none) = some a := h
      split at h
      · rename_i hm
        cases h
        have hm : x ∈ t.gl := by simpa using hm
        exact ⟨hm, (glD x hm).2.symm⟩
      · cases h
    ini := fun x q h => by
      have hm : (x, q) ∈ t.ini := lookup_of_mem2 h
      have q1 := List.all_eq_true.mp w4 _ hm
      rw [Bool.and_eq_true] at q1
      obtain ⟨d, hd⟩ := lookup_some_of_any (l := t.inis) q1.1
      have q2 := of_decide_eq_true (List.all_eq_true.mp x2 _ hm)
      have M := He.mkr_ok (K := K) (x := x) (fact (by
        unfold Lw.fa
        rw [List.mem_append]
        exact .inr (List.mem_map.mpr ⟨(x, q), hm, rfl⟩)))
      refine ⟨He.ga K x, d, glo x (by simp only [List.mem_append]; exact .inl (.inr (List.mem_map.mpr ⟨(x, q), hm, rfl⟩))), clsIn q1.2, hd, ?_⟩
      rw [← q2]
      exact M
    mt := fun n C m q h1 h2 => by
      obtain ⟨k1, rfl⟩ := clsOf h1
      have hm : ((n, m), q) ∈ t.mro := lookup_of_mem2 h2
      have q1 := List.all_eq_true.mp w3 _ hm
      rw [Bool.and_eq_true] at q1
      obtain ⟨d, hd⟩ := lookup_some_of_any (l := t.defs) q1.1
      have q2 := of_decide_eq_true (List.all_eq_true.mp x1 _ hm)
      have M := He.meth_ok (K := K) (x := n) (m := m) (fact (by
        unfold Lw.fa
        rw [List.mem_append, List.mem_append]
        exact .inl (.inr (List.mem_map.mpr ⟨((n, m), q), hm, rfl⟩))))
      refine ⟨cl k1, ⟨d, hd⟩, ?_⟩
      rw [← q2]
      exact M
    kls := fun x hx => ⟨He.ga K x, glo x (by simp only [List.mem_append]; exact .inl (.inl (.inr hx)))⟩
    sub := fun n C x b A h1 h2 h3 => by
      obtain ⟨k1, rfl⟩ := clsOf h1
      have hm : ((n, x), b) ∈ t.subs := lookup_of_mem2 h3
      have q1 := List.all_eq_true.mp w5 _ hm
      rw [Bool.and_eq_true] at q1
      have hA : mg x = some (.ref (He.ga K x)) := glo x (by simp only [List.mem_append]; exact .inl (.inl (.inr (by simpa using q1.2))))
      have h2 : mg x = some (.ref A) := h2
      rw [hA] at h2
      cases h2
      have q2 := of_decide_eq_true (List.all_eq_true.mp x4 _ hm)
      have q3 := List.all_eq_true.mp x3 _ k1
      unfold insB at q3
      simp only [Bool.and_eq_true] at q3
      exact ⟨q2, cl k1, He.eqO_ok q3.1, He.eqO_ok q3.2.1, of_decide_eq_true q3.2.2.1, of_decide_eq_true q3.2.2.2⟩ }
  -- constants
  have e : (match t.cs.lookup x with
    | some z => some (D.str z)
    | none => match t.ci.lookup x with
      | some i => some (.int i)
      | none => (t.dc.lookup x).map fun kvs => .nd .sta (.dic (kvs.map fun q => .inr q.1)) (kvs.map (·.2))) = some d := e
  cases z : t.cs.lookup x with
  | some s =>
    rw [z] at e
    cases e
    obtain ⟨tk, hq⟩ := He.str_ok X G (x := x) (z := s) (fact (by
      unfold Lw.fa
      rw [List.mem_append, List.mem_append, List.mem_append, List.mem_append, List.mem_append, List.mem_append]
      exact .inl (.inl (.inl (.inl (.inl (.inr (List.mem_map.mpr ⟨(x, s), lookup_of_mem2 z, rfl⟩))))))))
    exact ⟨_, .str s, hq, ⟨tk, rfl⟩, rfl, fun _ _ _ => ⟨rfl, fun _ => rfl⟩⟩
  | none =>
    rw [z] at e
    cases z2 : t.ci.lookup x with
    | some i =>
      rw [z2] at e
      cases e
      obtain ⟨tk, hq⟩ := He.int_ok X G (x := x) (i := i) (fact (by
        unfold Lw.fa
        rw [List.mem_append, List.mem_append, List.mem_append, List.mem_append, List.mem_append]
        exact .inl (.inl (.inl (.inl (.inr (List.mem_map.mpr ⟨(x, i), lookup_of_mem2 z2, rfl⟩)))))))
      exact ⟨_, .int i, hq, ⟨tk, rfl⟩, rfl, fun _ _ _ => ⟨rfl, fun _ => rfl⟩⟩
    | none =>
      rw [z2] at e
      cases z3 : t.dc.lookup x with
      | none => rw [z3] at e; cases e
      | some kvs =>
        rw [z3] at e
        cases e
        have hm : (x, kvs) ∈ t.dc := lookup_of_mem2 z3
        have hg := glo x (by simp only [List.mem_append]; exact .inr (List.mem_map.mpr ⟨(x, kvs), hm, rfl⟩))
        have tab : He.dicW K (He.ga K x) = some (He.keysIn w.params (kvs.map (·.1))) := by
          obtain ⟨i, hi⟩ := List.getElem?_of_mem hm
          have ee : t.ts.map (fun t => He.dicW K (t.1 K)) = t.ts.map fun t => some (He.keysIn w.params t.2) := congrArg (fun z : He.AlT => z.2) cT
          have e2 : (t.ts.map fun t => He.dicW K (t.1 K))[i]? = (t.ts.map fun t => some (He.keysIn w.params t.2))[i]? := by rw [ee]
          unfold Lw.ts at e2
          simp only [List.getElem?_map, hi, Option.map_some] at e2
          exact Option.some.inj e2
        have vals := List.all_eq_true.mp x5 _ hm
        have vals : ∀ q ∈ kvs, ∃ u, PySem.W.nsIn K (He.ga K x) q.1 = some (some u) ∧ stB K (t.faF K) q.2 u = true := fun q hq => by
          have v := List.all_eq_true.mp vals q hq
          cases y : PySem.W.nsIn K (He.ga K x) q.1 with
          | none => rw [y] at v; cases v
          | some o =>
            rw [y] at v
            cases o with
            | none => cases v
            | some u => exact ⟨u, rfl, v⟩
        have hcl := List.all_eq_true.mp w6 _ hm
        have hcl : D.alls notBor (kvs.map (·.2)) = true := hcl
        obtain ⟨us, u1, u2, u3⟩ := vals_ok (c := ⟨K, w, mg, t.clF K, t.faF K, fun _ => none⟩) (p := He.ga K x) vals
        obtain ⟨d1, d2⟩ := dic_miss tab
        refine ⟨_, .ref (He.ga K x), hg, rfl, by show (true && D.alls notBor (kvs.map (·.2))) = true; rw [hcl]; rfl, fun Fa Fn H => ⟨He.ga K x, us, fun _ => 0, rfl, u2 Fa Fn H, ⟨kvs.map (·.1), by rw [List.map_map]; rfl, by rw [List.length_map, u1], ?_⟩, fun _ => rfl, fun _ => rfl⟩⟩
        obtain ⟨es, n, k⟩ := He.dicW_ok tab
        refine ⟨⟨es, n, k.at_, k.lit⟩, k.low, fun y => ?_⟩
        cases q : ((kvs.map (·.1)).zip us).lookup y with
        | some v => exact u3 y v q
        | none => exact d1 y (zip_none (by rw [List.length_map, u1]) q)
/-- the script -/
def scr (ns : List Int) : D := .nd .sta .lst (ns.map .int)
theorem ints_reps {c : Gc} {Fa Fn H : Hp} : ∀ ns : List Int, Reps c Fa Fn H (ns.map .int) (ns.map V.int) fun _ => 0
  | [] => ⟨rfl, fun _ => rfl⟩
  | n :: ns => ⟨.int n, ns.map V.int, fun _ => 0, fun _ => 0, rfl, ⟨rfl, fun _ => rfl⟩, ints_reps ns, fun _ => rfl⟩
theorem scr_tag {p : Tag → Bool} (h : p .sta = true) (ns : List Int) : D.alls p [scr ns] = true := by
  have : ∀ ns : List Int, D.alls p (ns.map .int) = true := fun ns => by
    rw [D.alls_all, List.all_eq_true]
    intro y hy
    obtain ⟨n, _, rfl⟩ := List.mem_map.mp hy
    rfl
  show ((p .sta && D.alls p (ns.map .int)) && true) = true
  rw [h, this ns]; rfl
theorem cx_none {P : Program} {w : World} {H : Hp} {s : Shared} {e : Value} {s' : Shared} (h : L2.CX P w [] H s (fun _ _ _ => False) e s') : False := by
  obtain ⟨_, _, _, _, _, _, _, _, _, _, _, _, z⟩ := h
  exact z
/-- the end: what the tree says of every script -/
theorem Lw.walk (t : Lw) {l : PySem.W.OpenLaw} {n : Nat} {q : Program} {loose : List Str} {XP : (Str → Option Value) → Heap → Prop} {d : DefRec} {N : Nat}
    (hn : l.most = some 63) (hdf : d.params.defaults = []) (hdn : d.name = ("law" : Str)) (hr : Room (n + 2) callerA) (hw : t.wf = true) (hc : ∀ p ∈ t.defs, t.chkD p = true) (hci : ∀ p ∈ t.inis, t.chkI p = true)
    (hb : ∀ p ∈ t.defs, t.BoundE p.1 (p.2.N.take p.2.np)) (hbi : ∀ p ∈ t.inis, t.BoundE p.1 (p.2.N.take p.2.np)) {e0 : Ent} {fd0 : Fd} {x : Str} (hl1 : t.pg.defs.lookup ("law" : Str) = some fd0) (hl0 : entOf t.ents "law" = some e0) (hl3 : e0.q = "law" ∧ e0.m = "law" ∧ e0.c = none) (hlg : t.gl.contains "law" = true) (hl2 : fd0.N.take fd0.np = [x])
    (hbl : ∀ (K : PySem.W.Frag) (f : Addr) (fd : FuncData), FunD K "law" "law" (defArgs (t.stE e0)) (defBody (t.stE e0)) (defScope (t.stE e0)) [] [] f fd → ∀ (s : Shared) (u : Value), BindsTo s fd ⟨[u], []⟩ [(x, u)])
    (hp : ∀ ns : List Int, ns.length ≤ 63 → (∀ z ∈ ns, Builtin.Int.intBits z ≤ 1048576) → t.pg.fn (n + 1) "law" [scr ns] = .ok (.bl true)) :
    PySem.W.WalkO q loose XP (hookV N t).says l.row.toRowW d [] (fun f vs => PySem.call f vs) := by
  refine Att.attach_callB hn hdf fun w s₀ s₁ mg mb fa o pm cd doc a vs ns G Y ho hd hcd hmg hobj hints hlen hbits hg => ?_
  obtain ⟨K, KX, c⟩ := Y
  rw [hdn] at hmg
  have T := t.stands KX G.T.g c hw hc hci hb hbi
  have hlg' : ("law" : Str) ∈ t.gl := by simpa using hlg
  obtain ⟨_, q1⟩ := T.gl "law" hlg'
  have q1 : mg ("law" : Str) = some (.ref (t.adr K "law")) := q1
  rw [hmg] at q1
  cases q1
  obtain ⟨fd, F, B⟩ := T.fn "law" fd0 hl1
  have F0 := F
  have hst : t.stm "law" = t.stE e0 := by unfold Lw.stm; rw [hl0]
  have hpn : t.pn "law" = "law" := by unfold Lw.pn; rw [hl0]; exact hl3.2.1
  have F1 : FunD K "law" "law" (defArgs (t.stE e0)) (defBody (t.stE e0)) (defScope (t.stE e0)) [] [] (t.adr K "law") fd := by
    rw [hst, hpn] at F
    exact F
  refine law_call KX G.T.g G.T.b G.T.builtins G.T.nolimit hg hobj hints (Nat.le_trans hlen (by decide)) hr (fun base _ _ => hl2 ▸ fn_step T (lv_ok (P := l.prog) (base := base) T n) hl1 F0) (hbl K _ fd F1) (fun H hO hS => ?_) fun H e s' h => cx_none h
  refine ⟨[scr ns], H, ⟨.ref a, [], fun _ => 0, fun _ => 0, rfl, ⟨a, ns.map V.int, fun _ => 0, rfl, ints_reps ns, hS, fun _ => rfl, fun _ => rfl⟩, ⟨rfl, fun _ => rfl⟩, fun _ => rfl⟩, ?_, ?_, Same.refl H, ?_⟩
  · exact scr_tag (p := notOwn) rfl ns
  · exact scr_tag (p := notBor) rfl ns
  · rw [hp ns hlen hbits]
    intro v H' Fa' Fn' m _ _ _ _ _ _ r _ _ _
    exact r.1
end VI

set_option maxHeartbeats 4000000
namespace VI
open PySem PySem.Spec L2
open PyProof.Rows hiding St

/-! ### the plain law: running trees by hand -/
theorem Pg.fn_s {p : Pg} {n : Nat} {x : Str} {args : List D} {d : Fd} (h : p.defs.lookup x = some d) : p.fn (n + 1) x args = d.call (p.G n) args := by
  show (match p.defs.lookup x with | some d => d.call (p.G n) args | none => .stuck) = _
  rw [h]
@[simp] theorem semSs_nil (G : Calls) (env : List D) : semSs G [] env = .ok (.nx env) := by rw [semSs]
theorem semSs_cons (G : Calls) (s : S) (r : List S) (env : List D) : semSs G (s :: r) env = (s.sem G env).bind fun o => match o with
    | .nx e => semSs G r e
    | o => .ok o := by
  rw [semSs] <;> congr 1
/-- one statement after another -/
theorem semSs_nx {G : Calls} {s : S} {r : List S} {env e : List D} (h : s.sem G env = .ok (.nx e)) : semSs G (s :: r) env = semSs G r e := by
  rw [semSs_cons, h]; rfl
theorem semSs_rt {G : Calls} {s : S} {r : List S} {env e : List D} {d : D} (h : s.sem G env = .ok (.rt d e)) : semSs G (s :: r) env = .ok (.rt d e) := by
  rw [semSs_cons, h]; rfl
theorem semSs_bk {G : Calls} {s : S} {r : List S} {env e : List D} (h : s.sem G env = .ok (.bk e)) : semSs G (s :: r) env = .ok (.bk e) := by
  rw [semSs_cons, h]; rfl
theorem semSs_ct {G : Calls} {s : S} {r : List S} {env e : List D} (h : s.sem G env = .ok (.ct e)) : semSs G (s :: r) env = .ok (.ct e) := by
  rw [semSs_cons, h]; rfl
/-- a loop by its invariant: I by the turn; an early end by Q -/
theorem forL_inv {body : List D → R Oc} {tg : T} (I : Nat → List D → Prop) (Q : D → Prop) {items : List D} (step : ∀ (i : Nat) (env : List D) (d : D), items[i]? = some d → I i env → d.clean = true ∧ ∃ env1, tg.set d env = .ok env1 ∧
    ((∃ env2, (body env1 = .ok (.nx env2) ∨ body env1 = .ok (.ct env2)) ∧ I (i + 1) env2) ∨ (∃ r e, body env1 = .ok (.rt r e) ∧ Q r))) {env : List D} (h0 : I 0 env) :
    (∃ env', forL body tg items env = .ok (.nx env') ∧ I items.length env') ∨ ∃ r e, forL body tg items env = .ok (.rt r e) ∧ Q r := by
  have key : ∀ (l : List D) (k : Nat) (env : List D), items.drop k = l → I k env → (∃ env', forL body tg l env = .ok (.nx env') ∧ I (k + l.length) env') ∨ ∃ r e, forL body tg l env = .ok (.rt r e) ∧ Q r := by
    intro l
    induction l with
    | nil => exact fun k env _ h => .inl ⟨env, by rw [forL], h⟩
    | cons d l ih =>
      intro k env hd h
      have hk : items[k]? = some d := by
        have := congrArg (fun z => z[0]?) hd
        simpa using this
      obtain ⟨hc, env1, e1, h1⟩ := step k env d hk h
      have hd' : items.drop (k + 1) = l := by
        have := congrArg List.tail hd
        simpa using this
      have e0 : forL body tg (d :: l) env = (body env1).bind fun o => match o with
          | .nx e => forL body tg l e
          | .ct e => forL body tg l e
          | .bk e => .ok (.nx e)
          | .rt d e => .ok (.rt d e) := by
        rw [forL, hc, e1]; rfl
      rcases h1 with ⟨env2, e2, h2⟩ | ⟨r, e, e2, h2⟩
      · have e3 : forL body tg (d :: l) env = forL body tg l env2 := by
          rcases e2 with e2 | e2 <;> rw [e0, e2] <;> rfl
        rw [e3, show k + (d :: l).length = (k + 1) + l.length by rw [List.length_cons]; omega]
        exact ih (k + 1) env2 hd' h2
      · exact .inr ⟨r, e, by rw [e0, e2]; rfl, h2⟩
  have := key items 0 env rfl h0
  rwa [Nat.zero_add] at this
/-- .. that always goes to its end -/
theorem forL_all {body : List D → R Oc} {tg : T} (I : Nat → List D → Prop) {items : List D} (step : ∀ (i : Nat) (env : List D) (d : D), items[i]? = some d → I i env → d.clean = true ∧ ∃ env1 env2, tg.set d env = .ok env1 ∧ body env1 = .ok (.nx env2) ∧ I (i + 1) env2) {env : List D} (h0 : I 0 env) :
    ∃ env', forL body tg items env = .ok (.nx env') ∧ I items.length env' := by
  rcases forL_inv (tg := tg) (body := body) I (fun _ => False) (fun i env d hd h => by
    obtain ⟨h1, env1, env2, h2, h3, h4⟩ := step i env d hd h
    exact ⟨h1, env1, h2, .inl ⟨env2, .inl h3, h4⟩⟩) h0 with h | ⟨_, _, _, h⟩
  · exact h
  · exact h.elim
/-- a while by its measure -/
theorem whlL_inv {c : List D → R (D × List D)} {body : List D → R Oc} (I : Nat → List D → Prop) (Z : List D → Prop) (step : ∀ (m : Nat) (env : List D), I m env → (∃ e, c env = .ok (.bl false, e) ∧ Z e) ∨ ∃ e1 e2 m', c env = .ok (.bl true, e1) ∧ body e1 = .ok (.nx e2) ∧ m' < m ∧ I m' e2) :
    ∀ {m : Nat} {env : List D} {n : Nat}, I m env → m < n → ∃ env', whlL c body n env = .ok (.nx env') ∧ Z env' := by
  intro m
  induction m using Nat.strongRecOn with
  | _ m ih =>
    intro env n h hn
    obtain ⟨k, rfl⟩ : ∃ k, n = k + 1 := ⟨n - 1, by omega⟩
    rcases step m env h with ⟨e, e1, z⟩ | ⟨e1, e2, m', q1, q2, q3, q4⟩
    · exact ⟨e, by rw [whlL, e1]; rfl, z⟩
    · obtain ⟨env', r1, r2⟩ := ih m' q3 (env := e2) (n := k) q4 (by omega)
      refine ⟨env', ?_, r2⟩
      rw [whlL, q1]
      show (body e1).bind _ = _
      rw [q2]
      exact r1
theorem bi_len {t : Tag} {xs : List D} : biV .len [.nd t .lst xs] = some (.int xs.length) := rfl
/-- the numbers of a range -/
theorem rng1 {j : Int} (h1 : -4611686018427387904 ≤ j) (h2 : j < 4611686018427387904) : itemsOf .rng [.int j] = some ((List.range j.toNat).map fun (n : Nat) => D.int (n : Int)) := by
  show (if _ then _ else _) = _
  rw [if_pos (by rw [Bool.and_eq_true, decide_eq_true_eq, decide_eq_true_eq]; exact ⟨h1, h2⟩)]
/-- a comprehension by its turns -/
theorem compL_map {tst : List D → R Bool} {elt : List D → R (D × List D)} {tg : T} {env : List D} {g : D → D} : ∀ {items acc : List D}, (∀ d ∈ items, tg.nown d = true ∧ (g d).clean = true ∧ ∃ e, tg.set d env = .ok e ∧ tst e = .ok true ∧ ∃ e', elt e = .ok (g d, e')) → acc.length + items.length ≤ 16777216 →
    compL tst elt tg env items acc = .ok (acc ++ items.map g)
  | [], acc, _, _ => by rw [compL, List.map_nil, List.append_nil]
  | d :: ds, acc, h, hl => by
    obtain ⟨h1, h2, e, h3, h4, e', h5⟩ := h d List.mem_cons_self
    rw [List.length_cons] at hl
    rw [compL, h1, h3]
    show (R.noexc (tst e)).bind _ = _
    rw [h4]
    show (R.noexc (elt e)).bind _ = _
    rw [h5]
    show (if ((g d).clean && decide (acc.length < 16777216)) = true then _ else _) = _
    rw [if_pos (by rw [h2, Bool.true_and, decide_eq_true_eq]; omega), compL_map (fun x hx => h x (List.mem_cons_of_mem _ hx)) (by rw [List.length_append, List.length_singleton]; omega), List.map_cons, List.append_assoc]
    rfl

/-! ### rules for running -/
theorem step_nx {G : Calls} {s : S} {r : List S} {env e : List D} {x : R Oc} (h : s.sem G env = .ok (.nx e)) (k : semSs G r e = x) : semSs G (s :: r) env = x := by
  rw [semSs_nx h]; exact k
theorem step_rt {G : Calls} {s : S} {r : List S} {env e : List D} {d : D} (h : s.sem G env = .ok (.rt d e)) : semSs G (s :: r) env = .ok (.rt d e) := semSs_rt h
theorem vi_loc {fz : Tag} {i : Nat} {env : List D} {d : D} (h : getL env i = some d) : locSem fz i .bor env = .ok (d.tag (ownTo .bor), env) := by unfold locSem; rw [h]
theorem vi_mv {fz : Tag} {i : Nat} {env : List D} {d : D} (h : getL env i = some d) : locSem fz i .mv env = .ok (d, env.set i .und) := by unfold locSem; rw [h]
theorem vi_cpy {fz : Tag} {i : Nat} {env : List D} {d : D} (h : getL env i = some d) : locSem fz i .cpy env = .ok (d.tag (ownTo fz), env.set i (d.tag (ownTo fz))) := by unfold locSem; rw [h]
theorem vi_g0 {n : Int} {l : List D} : getL (.int n :: l) 0 = some (.int n) := rfl
theorem vi_g1 {n : Bool} {l : List D} : getL (.bl n :: l) 0 = some (.bl n) := rfl
theorem vi_g2 {n : Str} {l : List D} : getL (.str n :: l) 0 = some (.str n) := rfl
theorem vi_g3 {l : List D} : getL (.non :: l) 0 = some .non := rfl
theorem vi_g4 {t : Tag} {k : Kd} {xs l : List D} : getL (.nd t k xs :: l) 0 = some (.nd t k xs) := rfl
theorem vi_g5 {x : D} {l : List D} {i : Nat} : getL (x :: l) (i + 1) = getL l i := rfl
theorem vi_g6 {l : List D} : getL (.und :: l) 0 = none := rfl
theorem vi_ti {f : Tag → Tag} {n : Int} : (D.int n).tag f = .int n := rfl
theorem vi_tb {f : Tag → Tag} {n : Bool} : (D.bl n).tag f = .bl n := rfl
theorem vi_ts {f : Tag → Tag} {n : Str} : (D.str n).tag f = .str n := rfl
theorem vi_tn {f : Tag → Tag} : D.non.tag f = .non := rfl
theorem vi_td {f : Tag → Tag} {t : Tag} {k : Kd} {xs : List D} : (D.nd t k xs).tag f = .nd (f t) k (D.tags f xs) := rfl
theorem vi_tags0 {f : Tag → Tag} : D.tags f [] = [] := rfl
theorem vi_tags1 {f : Tag → Tag} {d : D} {ds : List D} : D.tags f (d :: ds) = d.tag f :: D.tags f ds := rfl
theorem vi_tagsI {f : Tag → Tag} : ∀ ns : List Int, D.tags f (ns.map .int) = ns.map .int
  | [] => rfl
  | n :: ns => by
    show D.int n :: D.tags f (ns.map .int) = _
    rw [vi_tagsI ns]; rfl
theorem vi_tagsS {f : Tag → Tag} : ∀ ns : List Str, D.tags f (ns.map .str) = ns.map .str
  | [] => rfl
  | n :: ns => by
    show D.str n :: D.tags f (ns.map .str) = _
    rw [vi_tagsS ns]; rfl
theorem vi_tagsB {f : Tag → Tag} : ∀ ns : List Bool, D.tags f (ns.map .bl) = ns.map .bl
  | [] => rfl
  | n :: ns => by
    show D.bl n :: D.tags f (ns.map .bl) = _
    rw [vi_tagsB ns]; rfl
theorem vi_allsI {p : Tag → Bool} : ∀ ns : List Int, D.alls p (ns.map .int) = true
  | [] => rfl
  | n :: ns => by
    show (true && D.alls p (ns.map .int)) = true
    rw [vi_allsI ns]; rfl
theorem vi_allsS {p : Tag → Bool} : ∀ ns : List Str, D.alls p (ns.map .str) = true
  | [] => rfl
  | n :: ns => by
    show (true && D.alls p (ns.map .str)) = true
    rw [vi_allsS ns]; rfl
theorem vi_allsB {p : Tag → Bool} : ∀ ns : List Bool, D.alls p (ns.map .bl) = true
  | [] => rfl
  | n :: ns => by
    show (true && D.alls p (ns.map .bl)) = true
    rw [vi_allsB ns]; rfl
theorem vi_ai {p : Tag → Bool} {n : Int} : (D.int n).all p = true := rfl
theorem vi_ab {p : Tag → Bool} {n : Bool} : (D.bl n).all p = true := rfl
theorem vi_as {p : Tag → Bool} {n : Str} : (D.str n).all p = true := rfl
theorem vi_an {p : Tag → Bool} : D.non.all p = true := rfl
theorem vi_ad {p : Tag → Bool} {t : Tag} {k : Kd} {xs : List D} : (D.nd t k xs).all p = (p t && D.alls p xs) := rfl
theorem vi_alls0 {p : Tag → Bool} : D.alls p [] = true := rfl
theorem vi_alls1 {p : Tag → Bool} {d : D} {ds : List D} : D.alls p (d :: ds) = (d.all p && D.alls p ds) := rfl
theorem vi_cl {d : D} : d.clean = d.all notBor := rfl
theorem vi_add {i j : Int} : binV .Add (.int i) (.int j) = some (.int (i + j)) := rfl
theorem vi_sub {i j : Int} : binV .Sub (.int i) (.int j) = some (.int (i - j)) := rfl
theorem vi_mulr {i j : Int} (h : j.natAbs < 18446744073709551616) : binV .Mult (.int i) (.int j) = some (.int (i * j)) := by
  show (if mulOk i j = true then _ else _) = _
  rw [if_pos (by unfold mulOk; rw [decide_eq_true h, Bool.or_true, Bool.true_or])]
theorem vi_mull {i j : Int} (h : i.natAbs < 18446744073709551616) : binV .Mult (.int i) (.int j) = some (.int (i * j)) := by
  show (if mulOk i j = true then _ else _) = _
  rw [if_pos (by unfold mulOk; rw [decide_eq_true h, Bool.true_or, Bool.true_or])]
theorem vi_mulb {i j : Int} (h : mulOk i j = true) : binV .Mult (.int i) (.int j) = some (.int (i * j)) := by
  show (if mulOk i j = true then _ else _) = _
  rw [if_pos h]
theorem vi_div {i j : Int} (h : divOk j = true) : binV .FloorDiv (.int i) (.int j) = some (.int (i / j)) := by
  show (if divOk j = true then _ else _) = _
  rw [if_pos h]
theorem vi_mod {i j : Int} (h : 0 < j) : binV .Mod (.int i) (.int j) = some (.int (i % j)) := by
  show (if 0 < j then _ else _) = _
  rw [if_pos h]
theorem vi_lt {i j : Int} : cmpV .Lt (.int i) (.int j) = some (decide (i < j)) := rfl
theorem vi_le {i j : Int} : cmpV .LtE (.int i) (.int j) = some (decide (i ≤ j)) := rfl
theorem vi_gt {i j : Int} : cmpV .Gt (.int i) (.int j) = some (decide (j < i)) := rfl
theorem vi_ge {i j : Int} : cmpV .GtE (.int i) (.int j) = some (decide (j ≤ i)) := rfl
theorem vi_eqi {i j : Int} : cmpV .Eq (.int i) (.int j) = some (decide (i = j)) := rfl
theorem vi_nei {i j : Int} : cmpV .NotEq (.int i) (.int j) = some (!decide (i = j)) := rfl
theorem vi_eqb {i j : Bool} : cmpV .Eq (.bl i) (.bl j) = some (i == j) := rfl
theorem vi_neb {i j : Bool} : cmpV .NotEq (.bl i) (.bl j) = some (!(i == j)) := rfl
theorem vi_eqs {i j : Str} : cmpV .Eq (.str i) (.str j) = some (decide (i = j)) := rfl
theorem vi_nes {i j : Str} : cmpV .NotEq (.str i) (.str j) = some (!decide (i = j)) := rfl
theorem vi_lenl {t : Tag} {xs : List D} : biV .len [.nd t .lst xs] = some (.int xs.length) := rfl
theorem vi_lent {t : Tag} {xs : List D} : biV .len [.nd t .tup xs] = some (.int xs.length) := rfl
theorem vi_abs {i : Int} : biV .abs [.int i] = some (.int (if i < 0 then -i else i)) := rfl
theorem vi_min {i j : Int} : biV .min2 [.int i, .int j] = some (.int (if j < i then j else i)) := rfl
theorem vi_max {i j : Int} : biV .max2 [.int i, .int j] = some (.int (if j > i then j else i)) := rfl
theorem vi_dm {i j : Int} (h : divOk j = true) : biV .divmod [.int i, .int j] = some (.nd .own .tup [.int (i / j), .int (i % j)]) := by
  show (if divOk j = true then _ else _) = _
  rw [if_pos h]
theorem vi_nm {i : Nat} {d : D} {env : List D} (h1 : d.clean = true) (h2 : i < env.length) : T.set (.nm i) d env = .ok (env.set i d) := by
  show (if (d.clean && decide (i < env.length)) = true then _ else _) = _
  rw [if_pos (by rw [h1, decide_eq_true h2]; rfl)]
theorem vi_tp {is : List Nat} {t : Tag} {xs : List D} {env : List D} (h1 : xs.length = is.length) (h2 : D.alls notBor xs = true) (h3 : is.all (fun i => decide (i < env.length)) = true) : T.set (.tp is) (.nd t .tup xs) env = .ok (T.set.go is xs env) := by
  show (if (decide (xs.length = is.length) && D.alls notBor xs && is.all (fun i => decide (i < env.length))) = true then _ else _) = _
  rw [if_pos (by rw [h2, h3, decide_eq_true h1]; rfl)]
theorem vi_no {α : Type} {a : α} : (R.ok a).noexc = .ok a := rfl
theorem vi_app {xs : List D} {d : D} (h : xs.length < 16777216) : mutV .append [d] xs = some (xs ++ [d]) := by
  show (if xs.length < 16777216 then _ else _) = _
  rw [if_pos h]
theorem vi_upd0 {g : List D → Option (List D)} {xs : List D} : D.updAt g [] (.nd .own .lst xs) = (g xs).map (.nd .own .lst) := rfl
theorem vi_upd {g : List D → Option (List D)} {i : Nat} {ks : List Int} {env : List D} {d d' : D} (h1 : env[i]? = some d) (h2 : D.updAt g ks d = some d') : updEnv g i ks env = .ok (env.set i d') := by
  unfold updEnv
  rw [h1]
  show R.of ((D.updAt g ks d).map _) = _
  rw [h2]; rfl
def locB (o : Option D) (env : List D) : R (D × List D) := match o with | none => .stuck | some d => .ok (d.tag (ownTo .bor), env)
def locM (o : Option D) (env : List D) (i : Nat) : R (D × List D) := match o with | none => .stuck | some d => .ok (d, env.set i .und)
def locC' (fz : Tag) (o : Option D) (env : List D) (i : Nat) : R (D × List D) := match o with | none => .stuck | some d => .ok (d.tag (ownTo fz), env.set i (d.tag (ownTo fz)))
theorem vi_lb {fz : Tag} {i : Nat} {env : List D} : locSem fz i .bor env = locB (getL env i) env := by unfold locSem locB; cases getL env i <;> rfl
theorem vi_lm {fz : Tag} {i : Nat} {env : List D} : locSem fz i .mv env = locM (getL env i) env i := by unfold locSem locM; cases getL env i <;> rfl
theorem vi_lc {fz : Tag} {i : Nat} {env : List D} : locSem fz i .cpy env = locC' fz (getL env i) env i := by unfold locSem locC'; cases getL env i <;> rfl
theorem vi_lbs {d : D} {env : List D} : locB (some d) env = .ok (d.tag (ownTo .bor), env) := rfl
theorem vi_lms {d : D} {env : List D} {i : Nat} : locM (some d) env i = .ok (d, env.set i .und) := rfl
theorem vi_lcs {fz : Tag} {d : D} {env : List D} {i : Nat} : locC' fz (some d) env i = .ok (d.tag (ownTo fz), env.set i (d.tag (ownTo fz))) := rfl
theorem vi_upe {g : List D → Option (List D)} {i : Nat} {ks : List Int} {env : List D} : updEnv g i ks env = R.of ((env[i]?).bind fun d => (D.updAt g ks d).map fun d' => env.set i d') := rfl
theorem vi_fz0 {fz : Tag} {env : List D} : frzD fz env [] = env := rfl
def frzO (fz : Tag) (env : List D) (i : Nat) (is : List Nat) (o : Option D) : List D := match o with | some d => frzD fz (env.set i (d.tag (ownTo fz))) is | none => frzD fz env is
theorem vi_fz1 {fz : Tag} {env : List D} {i : Nat} {is : List Nat} : frzD fz env (i :: is) = frzO fz env i is (getL env i) := by rw [frzD]; cases getL env i <;> rfl
theorem vi_fz2 {fz : Tag} {env : List D} {i : Nat} {is : List Nat} {d : D} : frzO fz env i is (some d) = frzD fz (env.set i (d.tag (ownTo fz))) is := rfl
theorem vi_fz3 {fz : Tag} {env : List D} {i : Nat} {is : List Nat} : frzO fz env i is none = frzD fz env is := rfl
theorem vi_go0 {xs env : List D} : T.set.go [] xs env = env := rfl
theorem vi_go1 {i : Nat} {is : List Nat} {x : D} {xs env : List D} : T.set.go (i :: is) (x :: xs) env = T.set.go is xs (env.set i x) := rfl
theorem vi_pl0 {G : Calls} {env : List D} : semPl G [] env = .ok [] := by rw [semPl]
theorem vi_t1 : ownTo .bor .own = .bor := rfl
theorem vi_t2 : ownTo .new .own = .new := rfl
theorem vi_t3 {t : Tag} : ownTo t .new = .new := by cases t <;> rfl
theorem vi_t4 {t : Tag} : ownTo t .any = .any := by cases t <;> rfl
theorem vi_t5 {t : Tag} : ownTo t .sta = .sta := by cases t <;> rfl
theorem vi_t6 {t : Tag} : ownTo t .bor = .bor := by cases t <;> rfl
theorem vi_frz {p : Pg} {n : Nat} : (p.G n).frz = .new := by cases n <;> rfl
theorem vi_fn {p : Pg} {n : Nat} : (p.G n).fn = p.fn n := by cases n <;> rfl
theorem vi_cst {p : Pg} {n : Nat} : (p.G n).cst = p.cst := by cases n <;> rfl
theorem vi_y1 : toAny .own = .any := rfl
theorem vi_y2 : toAny .new = .any := rfl
theorem vi_y3 : toAny .any = .any := rfl
theorem vi_y4 : toAny .bor = .any := rfl
theorem vi_y5 : toAny .sta = .sta := rfl
theorem vi_seen {d : D} : seen d = d.tag toAny := rfl
theorem vi_cd {d : D} {fz : Tag} {ds env : List D} : (R.ok d).called fz ds env = R.of ((called fz ds d).map fun d' => (d', env)) := rfl
theorem vi_cx {x : Str} {fl env' : List D} {fz : Tag} {ds env : List D} : (R.exc x fl env' : R D).called fz ds env = .exc x fl env := rfl
theorem vi_old {d : D} {fz : Tag} {ds : List D} (h : d.all notOld = true) : called fz ds d = some d := by
  unfold called
  rw [if_pos h]
theorem vi_o1 : notOld .own = true := rfl
theorem vi_o2 : notOld .new = true := rfl
theorem vi_b1 : notBor .own = true := rfl
theorem vi_b2 : notBor .new = true := rfl
theorem vi_b3 : notBor .any = true := rfl
theorem vi_b4 : notBor .sta = true := rfl
theorem vi_b5 : notBor .bor = false := rfl
theorem vi_pow {i j : Int} (h : (decide (0 ≤ j) && decide (j ≤ 1000000) && decide (i.natAbs < 18446744073709551616)) = true) : binV .Pow (.int i) (.int j) = some (.int (i ^ j.toNat)) := by
  show (if _ then _ else _) = _
  rw [if_pos h]
theorem vi_rsh {i j : Int} (h : 0 ≤ j) : binV .RShift (.int i) (.int j) = some (.int (i / 2 ^ j.toNat)) := by
  show (if _ then _ else _) = _
  rw [if_pos h]
section
variable {G : Calls} {env : List D}
theorem e_nop : E.sem G .nop env = .ok (.und, env) := by rw [E.sem]
theorem e_lit {d : D} : E.sem G (.lit d) env = .ok (d, env) := by rw [E.sem]
theorem e_loc {i : Nat} {m : Md} : E.sem G (.loc i m) env = locSem G.frz i m env := by rw [E.sem]
theorem e_glb {x : Str} : E.sem G (.glb x) env = R.of ((G.cst x).map fun d => (d, env)) := by rw [E.sem]
theorem e_bin {o : Operator} {a b : E} : E.sem G (.bin o a b) env = (a.sem G env).bind fun p => (b.sem G p.2).bind fun q => R.of ((binV o p.1 q.1).map fun d => (d, q.2)) := by rw [E.sem]
theorem e_cmp {o : CmpOp} {a b : E} : E.sem G (.cmp o a b) env = (a.sem G env).bind fun p => (b.sem G p.2).bind fun q => R.of ((cmpV o p.1 q.1).map fun d => (.bl d, q.2)) := by rw [E.sem]
def cmK (o : Option Bool) (env : List D) (k : R (D × List D)) : R (D × List D) := match o with
  | some b => if b = true then k else .ok (.bl false, env)
  | none => .stuck
theorem e_cm2 {o p : CmpOp} {a b d : E} : E.sem G (.cm2 o p a b d) env = (a.sem G env).bind fun x => (b.sem G x.2).bind fun y => cmK (cmpV o x.1 y.1) y.2 ((d.sem G y.2).bind fun z => R.of ((cmpV p y.1 z.1).map fun k => (.bl k, z.2))) := by
  rw [E.sem]
  congr 1
  funext x
  congr 1
  funext y
  unfold cmK
  cases cmpV o x.1 y.1 with
  | none => rfl
  | some b => cases b <;> rfl
theorem e_cmK {b : Bool} {k : R (D × List D)} : cmK (some b) env k = if b = true then k else .ok (.bl false, env) := rfl
def anK (r : R (D × List D)) (k : List D → R (D × List D)) : R (D × List D) := r.bind fun p => match p.1 with
  | .bl b => if b = true then k p.2 else .ok (.bl false, p.2)
  | _ => .stuck
def orK (r : R (D × List D)) (k : List D → R (D × List D)) : R (D × List D) := r.bind fun p => match p.1 with
  | .bl b => if b = true then .ok (.bl true, p.2) else k p.2
  | _ => .stuck
theorem e_bop {o : BoolOp} {es : List E} : E.sem G (.bop o es) env = semB G o es env := by rw [E.sem]
theorem e_and {e e2 : E} {es : List E} : semB G .And (e :: e2 :: es) env = anK (e.sem G env) fun env => semB G .And (e2 :: es) env := by
  rw [semB_cons]
  unfold anK
  congr 1
  funext p
  obtain ⟨d, e⟩ := p
  cases d <;> first | rfl | (rename_i b; cases b <;> rfl)
theorem e_or {e e2 : E} {es : List E} : semB G .Or (e :: e2 :: es) env = orK (e.sem G env) fun env => semB G .Or (e2 :: es) env := by
  rw [semB_cons]
  unfold orK
  congr 1
  funext p
  obtain ⟨d, e⟩ := p
  cases d <;> first | rfl | (rename_i b; cases b <;> rfl)
theorem e_one {o : BoolOp} {e : E} : semB G o [e] env = anK (e.sem G env) fun env => .ok (.bl true, env) := by
  rw [semB_one]
  unfold anK
  congr 1
  funext p
  obtain ⟨d, e⟩ := p
  cases d <;> first | rfl | (rename_i b; cases b <;> rfl)
theorem e_anK {b : Bool} {k : List D → R (D × List D)} : anK (.ok (.bl b, env)) k = if b = true then k env else .ok (.bl false, env) := rfl
theorem e_orK {b : Bool} {k : List D → R (D × List D)} : orK (.ok (.bl b, env)) k = if b = true then .ok (.bl true, env) else k env := rfl
theorem e_anM {b c : Bool} : (if b = true then R.ok (D.bl c, env) else R.ok (D.bl false, env)) = R.ok (D.bl (b && c), env) := by cases b <;> rfl
theorem e_orM {b c : Bool} : (if b = true then R.ok (D.bl true, env) else R.ok (D.bl c, env)) = R.ok (D.bl (b || c), env) := by cases b <;> rfl
def noK (r : R (D × List D)) : R (D × List D) := r.bind fun p => match p.1 with
  | .bl b => .ok (.bl (!b), p.2)
  | _ => .stuck
theorem e_not {a : E} : E.sem G (.not a) env = noK (a.sem G env) := by rw [E.sem]; rfl
theorem e_noK {b : Bool} : noK (.ok (.bl b, env)) = .ok (.bl (!b), env) := rfl
theorem e_tru {a : E} : E.sem G (.tru a) env = (a.sem G env).bind fun p => R.of ((truD p.1).map fun b => (.bl b, p.2)) := by rw [E.sem]
theorem e_tb {b : Bool} : truD (.bl b) = some b := rfl
theorem e_ti {i : Int} : truD (.int i) = some (i != 0) := rfl
theorem e_tl {t : Tag} {xs : List D} : truD (.nd t .lst xs) = some (!xs.isEmpty) := rfl
theorem e_tt {t : Tag} {xs : List D} : truD (.nd t .tup xs) = some (!xs.isEmpty) := rfl
theorem e_tn : truD .non = some false := rfl
def neK (r : R (D × List D)) : R (D × List D) := r.bind fun p => match p.1 with
  | .int b => .ok (.int (-b), p.2)
  | _ => .stuck
theorem e_neg {a : E} : E.sem G (.neg a) env = neK (a.sem G env) := by rw [E.sem]; rfl
theorem e_neK {b : Int} : neK (.ok (.int b, env)) = .ok (.int (-b), env) := rfl
def ifK (r : R (D × List D)) (k l : List D → R (D × List D)) : R (D × List D) := r.bind fun p => match p.1 with
  | .bl b => if b = true then k p.2 else l p.2
  | _ => .stuck
theorem e_ife {t a b : E} : E.sem G (.ife t a b) env = ifK (t.sem G env) (fun env => a.sem G env) fun env => b.sem G env := by
  rw [E.sem]
  unfold ifK
  congr 1
  funext p
  obtain ⟨d, e⟩ := p
  cases d <;> first | rfl | (rename_i b; cases b <;> rfl)
theorem e_ifK {b : Bool} {k l : List D → R (D × List D)} : ifK (.ok (.bl b, env)) k l = if b = true then k env else l env := rfl
theorem e_tup {es : List E} : E.sem G (.tup es) env = (semL G es env).bind fun p => if p.1.length ≤ 16777216 then .ok (.nd .own .tup p.1, p.2) else .stuck := by rw [E.sem]
theorem e_lst {es : List E} : E.sem G (.lst es) env = (semL G es env).bind fun p => if p.1.length ≤ 16777216 then .ok (.nd .own .lst p.1, p.2) else .stuck := by rw [E.sem]
theorem e_ix {a i : E} : E.sem G (.ix a i) env = (a.sem G env).bind fun p => (i.sem G p.2).bind fun q => R.of ((ixV p.1 q.1).map fun d => (d, q.2)) := by rw [E.sem]
theorem e_slc {a lo hi : E} : E.sem G (.slc a lo hi) env = (a.sem G env).bind fun p => (lo.sem G p.2).bind fun q => (R.of (bndN lo q.1)).bind fun l => (hi.sem G q.2).bind fun r => (R.of (bndN hi r.1)).bind fun h => R.of ((slcV p.1 l h).map fun d => (d, r.2)) := by rw [E.sem]
theorem e_call {f : Str} {es : List E} : E.sem G (.call f es) env = (semL G es env).bind fun p => (G.fn f (p.1.map seen)).called G.frz p.1 p.2 := by rw [E.sem]
theorem e_blt {b : Bi} {es : List E} : E.sem G (.blt b es) env = (semL G es env).bind fun p => R.of ((biV b p.1).map fun d => (d, p.2)) := by rw [E.sem]
theorem e_isi {a : E} {t : Ty} : E.sem G (.isi a t) env = (a.sem G env).bind fun p => R.of ((isTy t p.1).map fun b => (.bl b, p.2)) := by rw [E.sem]
theorem e_comp {ws : List Nat} {tg : T} {k : Ik} {its cond : List E} {elt : E} : E.sem G (.comp ws tg k its cond elt) env = (semL G its env).bind fun p =>
    if D.alls notBor p.1 && ws.all (fun i => (getL p.2 i).isNone) then
      (R.of (itemsOf k (D.tags (ownTo G.frz) p.1))).bind fun ds =>
        (compL (fun env1 => (semC G cond env1)) (fun env1 => (elt.sem G env1)) tg p.2 ds []).bind fun acc => .ok (.nd .own .lst acc, p.2)
    else .stuck := by rw [E.sem]
theorem e_l0 : semL G [] env = .ok ([], env) := by rw [semL]
theorem e_l1 {e : E} {es : List E} : semL G (e :: es) env = (e.sem G env).bind fun p => (semL G es p.2).bind fun q => .ok (p.1 :: q.1, q.2) := by rw [semL]
theorem e_ixl {t : Tag} {xs : List D} {i : Int} : ixV (.nd t .lst xs) (.int i) = atI xs i := rfl
theorem e_ixt {t : Tag} {xs : List D} {i : Int} : ixV (.nd t .tup xs) (.int i) = atI xs i := rfl
theorem e_at {xs : List D} {i : Int} : atI xs i = (ixN xs.length i).bind fun j => xs[j]? := rfl
theorem e_ixn {n : Nat} {i : Int} (h0 : 0 ≤ i) (h1 : i < n) : ixN n i = some i.toNat := by
  unfold ixN
  rw [if_pos h0, if_pos h1]
theorem e_ixm {n : Nat} {i : Int} (h0 : i < 0) (h1 : -(n : Int) ≤ i) : ixN n i = some (i + n).toNat := by
  unfold ixN
  rw [if_neg (by omega), if_pos h1]
theorem e_tyb1 {b : Bool} : isTy .bool (.bl b) = some true := rfl
theorem e_tyb2 {b : Bool} : isTy .int (.bl b) = some true := rfl
theorem e_tyi1 {b : Int} : isTy .int (.int b) = some true := rfl
theorem e_tyi2 {b : Int} : isTy .bool (.int b) = some false := rfl
theorem e_isn1 : cmpV .Is .non .non = some true := rfl
theorem e_isn2 {i : Int} : cmpV .Is (.int i) .non = some false := rfl
theorem e_isn3 {i : Bool} : cmpV .Is (.bl i) .non = some false := rfl
theorem e_isn4 {i : Str} : cmpV .Is (.str i) .non = some false := rfl
theorem e_isn5 {t : Tag} {k : Kd} {xs : List D} : cmpV .Is (.nd t k xs) .non = some false := rfl
theorem e_isb {a b : Bool} : cmpV .Is (.bl a) (.bl b) = some (a == b) := rfl
theorem e_eqni {i : Int} : cmpV .Eq .non (.int i) = some false := rfl
theorem e_eqin {i : Int} : cmpV .Eq (.int i) .non = some false := rfl
end
theorem e_b0 {d : D} : bndN .nop d = some none := rfl
theorem e_b1 {e : D} {i : Int} : bndN (.lit e) (.int i) = some (some i) := rfl
theorem e_b2 {j : Nat} {m : Md} {i : Int} : bndN (.loc j m) (.int i) = some (some i) := rfl
theorem e_b3 {o : Operator} {a b : E} {i : Int} : bndN (.bin o a b) (.int i) = some (some i) := rfl
theorem e_b4 {a : E} {i : Int} : bndN (.neg a) (.int i) = some (some i) := rfl
theorem e_b5 {b : Bi} {es : List E} {i : Int} : bndN (.blt b es) (.int i) = some (some i) := rfl
theorem e_b6 {a b : E} {i : Int} : bndN (.ix a b) (.int i) = some (some i) := rfl
theorem e_slS {z : Str} {l h : Option Int} (hz : z.length ≤ 16777216) : slcV (.str z) l h = some (.str (cutS z l h)) := by
  show (if z.length ≤ 16777216 then _ else _) = _
  rw [if_pos hz]
theorem e_lnS {z : Str} (hz : z.length ≤ 16777216) : biV .len [.str z] = some (.int z.length) := by
  show (if z.length ≤ 16777216 then _ else _) = _
  rw [if_pos hz]
theorem e_inS {n : Nat} {z : Str} : cmpV .In (.str ⟨#[n]⟩) (.str z) = some (decide (n ∈ z.cps.toList)) := rfl
theorem bls_map {α : Type} (p : α → Bool) : ∀ l : List α, bls? (l.map fun x => D.bl (p x)) = some (l.map p)
  | [] => rfl
  | x :: l => by
    show (bls? (l.map fun x => D.bl (p x))).map (p x :: ·) = _
    rw [bls_map p l]; rfl
/-- all([x in s for x in z]) -/
theorem all_str {G : Calls} {i : Nat} {a b : E} {env : List D} {z s : Str} (h1 : a.sem G env = .ok (.str z, env)) (hi : i < env.length) (hu : getL env i = none) (h2 : ∀ n : Nat, b.sem G (env.set i (.str ⟨#[n]⟩)) = .ok (.str s, env.set i (.str ⟨#[n]⟩))) (hl : z.length ≤ 16777216) :
    E.sem G (.blt .all [.comp [i] (.nm i) .str [a] [] (.cmp .In (.loc i .bor) b)]) env = .ok (.bl (z.cps.toList.all fun k => decide (k ∈ s.cps.toList)), env) := by
  have hget : ∀ d : D, d ≠ .und → getL (env.set i d) i = some d := fun d hd => by
    unfold getL
    rw [List.getElem?_set_self hi]
    cases d <;> first | rfl | exact absurd rfl hd
  have hc : E.sem G (.comp [i] (.nm i) .str [a] [] (.cmp .In (.loc i .bor) b)) env = .ok (.nd .own .lst (z.cps.toList.map fun k => .bl (decide (k ∈ s.cps.toList))), env) := by
    rw [e_comp, e_l1, h1]
    show (if (D.alls notBor [D.str z] && [i].all (fun i => (getL env i).isNone)) = true then _ else _) = _
    rw [if_pos (by show (true && ((getL env i).isNone && true)) = true; rw [hu]; rfl)]
    show (compL _ _ (.nm i) env (z.cps.toList.map fun n => D.str ⟨#[n]⟩) []).bind _ = _
    have key : ∀ (l : List Nat) (acc : List D), acc.length + l.length ≤ 16777216 → compL (fun env1 => semC G [] env1) (fun env1 => E.sem G (.cmp .In (.loc i .bor) b) env1) (.nm i) env (l.map fun n => D.str ⟨#[n]⟩) acc = .ok (acc ++ l.map fun k => .bl (decide (k ∈ s.cps.toList))) := by
      intro l
      induction l with
      | nil => intro acc _; rw [List.map_nil, List.map_nil, compL, List.append_nil]
      | cons k l ih =>
        intro acc hacc
        rw [List.length_cons] at hacc
        have e1 : T.set (.nm i) (D.str ⟨#[k]⟩) env = .ok (env.set i (.str ⟨#[k]⟩)) := vi_nm rfl hi
        have e2 : E.sem G (.cmp .In (.loc i .bor) b) (env.set i (.str ⟨#[k]⟩)) = .ok (.bl (decide (k ∈ s.cps.toList)), env.set i (.str ⟨#[k]⟩)) := by
          rw [e_cmp, e_loc, vi_lb, hget _ (by intro q; cases q)]
          show ((b.sem G (env.set i (.str ⟨#[k]⟩))).bind _) = _
          rw [h2 k]
          rfl
        rw [List.map_cons, compL]
        show ((T.set (.nm i) (D.str ⟨#[k]⟩) env).noexc.bind _) = _
        rw [e1, vi_no, R.bind_ok, semC, vi_no, R.bind_ok, if_pos rfl, e2, vi_no, R.bind_ok]
        show (if (true && decide (acc.length < 16777216)) = true then _ else _) = _
        rw [if_pos (by rw [Bool.true_and, decide_eq_true_eq]; omega), ih _ (by rw [List.length_append, List.length_singleton]; omega), List.map_cons, List.append_assoc]
        rfl
    rw [key z.cps.toList [] (by rw [List.length_nil, Array.length_toList]; have : z.cps.size ≤ 16777216 := hl; omega)]
    rfl
  rw [e_blt, e_l1, hc]
  show (R.of ((biV .all [.nd .own .lst (z.cps.toList.map fun k => .bl (decide (k ∈ s.cps.toList)))]).map _)) = _
  have : biV .all [.nd .own .lst (z.cps.toList.map fun k => .bl (decide (k ∈ s.cps.toList)))] = some (.bl (z.cps.toList.all fun k => decide (k ∈ s.cps.toList))) := by
    show (bls? (z.cps.toList.map fun k => D.bl (decide (k ∈ s.cps.toList)))).map _ = _
    rw [bls_map]
    show some (D.bl ((z.cps.toList.map fun k => decide (k ∈ s.cps.toList)).all id)) = _
    rw [List.all_map]
    rfl
  rw [this]
  rfl
theorem and_ok {G : Calls} {env : List D} {e e2 : E} {es : List E} {b c : Bool} (h1 : e.sem G env = .ok (.bl b, env)) (h2 : semB G .And (e2 :: es) env = .ok (.bl c, env)) : semB G .And (e :: e2 :: es) env = .ok (.bl (b && c), env) := by
  rw [e_and, h1, e_anK, h2, e_anM]
theorem one_ok {G : Calls} {env : List D} {o : BoolOp} {e : E} {b : Bool} (h1 : e.sem G env = .ok (.bl b, env)) : semB G o [e] env = .ok (.bl b, env) := by
  rw [e_one, h1, e_anK, e_anM, Bool.and_true]
theorem vi_tagsA {f : Tag → Tag} : ∀ xs ys : List D, D.tags f (xs ++ ys) = D.tags f xs ++ D.tags f ys
  | [], _ => rfl
  | x :: xs, ys => by
    show x.tag f :: D.tags f (xs ++ ys) = _
    rw [vi_tagsA xs ys]; rfl
theorem vi_allsA {p : Tag → Bool} : ∀ xs ys : List D, D.alls p (xs ++ ys) = (D.alls p xs && D.alls p ys)
  | [], ys => by rw [List.nil_append]; show D.alls p ys = (true && D.alls p ys); rw [Bool.true_and]
  | x :: xs, ys => by
    show (x.all p && D.alls p (xs ++ ys)) = (x.all p && D.alls p xs && D.alls p ys)
    rw [vi_allsA xs ys, Bool.and_assoc]
theorem ix_last {t : Tag} {xs : List D} {d : D} : ixV (.nd t .lst (xs ++ [d])) (.int (-1)) = some d := by
  show atI (xs ++ [d]) (-1) = some d
  unfold atI
  rw [e_ixm (by decide) (by rw [List.length_append, List.length_singleton]; omega)]
  show (xs ++ [d])[(-1 + (((xs ++ [d]).length : Nat) : Int)).toNat]? = some d
  rw [show (-1 + (((xs ++ [d]).length : Nat) : Int)).toNat = xs.length by rw [List.length_append, List.length_singleton]; omega, List.getElem?_append_right (Nat.le_refl _), Nat.sub_self]
  rfl
theorem upd_last {xs : List D} {y d : D} : D.updAt (fun zs => (ixN zs.length (-1)).map fun n => zs.set n d) [] (.nd .own .lst (xs ++ [y])) = some (.nd .own .lst (xs ++ [d])) := by
  show ((ixN (xs ++ [y]).length (-1)).map fun n => (xs ++ [y]).set n d).map (D.nd .own .lst) = _
  rw [e_ixm (by decide) (by rw [List.length_append, List.length_singleton]; omega)]
  show some (D.nd .own .lst ((xs ++ [y]).set (-1 + (((xs ++ [y]).length : Nat) : Int)).toNat d)) = _
  rw [show (-1 + (((xs ++ [y]).length : Nat) : Int)).toNat = xs.length by rw [List.length_append, List.length_singleton]; omega, List.set_append_right _ _ (Nat.le_refl _), Nat.sub_self]
  rfl
theorem six_of {G : Calls} {i : Nat} {j e : E} {env env1 env' : List D} {d : D} {k : Int} (h1 : e.sem G env = .ok (d, env1)) (hc : d.clean = true) (h2 : j.sem G env1 = .ok (.int k, env1)) (hp : j.pure = true)
    (h3 : updEnv (fun xs => (ixN xs.length k).map fun n => xs.set n d) i [] env1 = .ok env') : S.sem G (.six i [] j e) env = .ok (.nx env') := by
  rw [S.sem, h1]
  show (if d.clean = true then _ else _) = _
  rw [if_pos hc, semPl, vi_no, R.bind_ok, h2, vi_no, R.bind_ok]
  show (if j.pure = true then _ else _) = _
  rw [if_pos hp, h3]
  rfl
theorem at_last {xs : List D} {d : D} : atI (xs ++ [d]) (-1) = some d := ix_last (t := .own)
/-! lists of numbers, compared -/
theorem py_ints {t : Tag} (xs : List Int) : (D.nd t .lst (xs.map .int)).py = some (.list (xs.map .int)) := by
  have h : ∀ xs : List Int, D.pys (xs.map .int) = some (xs.map .int) := fun xs => by
    induction xs with
    | nil => rfl
    | cons x xs ih =>
      show (match (D.int x).py, D.pys (xs.map .int) with | some x, some xs => some (x :: xs) | _, _ => none) = _
      rw [ih]; rfl
  show (D.pys (xs.map .int)).map PyData.list = _
  rw [h]; rfl
theorem eqv_ints : ∀ xs ys : List Int, PyData.eqv (.list (xs.map .int)) (.list (ys.map .int)) = decide (xs = ys) := by
  have h : ∀ xs ys : List Int, PyData.eqvAll (xs.map .int) (ys.map .int) = decide (xs = ys) := by
    intro xs
    induction xs with
    | nil => intro ys; cases ys <;> rfl
    | cons x xs ih =>
      intro ys
      cases ys with
      | nil => rfl
      | cons y ys =>
        show ((x == y) && PyData.eqvAll (xs.map .int) (ys.map .int)) = _
        rw [ih]
        by_cases e : x = y
        · subst e
          rw [beq_self_eq_true, Bool.true_and]
          exact Bool.eq_iff_iff.mpr (by simp)
        · rw [beq_eq_false_iff_ne.mpr e, Bool.false_and]
          exact (decide_eq_false (fun h => e (List.cons.inj h).1)).symm
  exact fun xs ys => h xs ys
theorem shp_ints (xs : List Int) : SeqAt.shaped (.list (xs.map .int)) = true := by
  have h1 : ∀ xs : List Int, PyData.canLayAll0 (xs.map .int) = true := fun xs => by
    induction xs with
    | nil => rfl
    | cons x xs ih =>
      show (true && PyData.canLayAll0 (xs.map .int)) = true
      rw [ih]; rfl
  have h2 : ∀ xs : List Int, PyData.depthAll (xs.map .int) = 0 := fun xs => by
    induction xs with
    | nil => rfl
    | cons x xs ih =>
      show max 0 (PyData.depthAll (xs.map .int)) = 0
      rw [ih]; rfl
  show (PyData.canLayAll0 (xs.map .int) && decide (PyData.depthAll (xs.map .int) + 1 ≤ 64)) = true
  rw [h1, h2]
  rfl
theorem eq_ints {t u : Tag} (xs ys : List Int) : eqD (.nd t .lst (xs.map .int)) (.nd u .lst (ys.map .int)) = some (decide (xs = ys)) := by
  show (match (D.nd t .lst (xs.map .int)).py, (D.nd u .lst (ys.map .int)).py with
    | some d, some e => if SeqAt.shaped d && SeqAt.shaped e then some (PyData.eqv d e) else none
    | _, _ => none) = _
  rw [py_ints, py_ints]
  show (if (SeqAt.shaped _ && SeqAt.shaped _) = true then _ else _) = _
  rw [shp_ints, shp_ints, if_pos (by rfl), eqv_ints]
theorem vi_li1 {t : Tag} {xs : List D} : biV .list [.nd t .lst xs] = some (.nd .own .lst xs) := rfl
theorem vi_li2 {t : Tag} {xs : List D} : biV .list [.nd t .tup xs] = some (.nd .own .lst xs) := rfl
theorem vi_li3 {t : Tag} {xs : List D} : biV .tuple [.nd t .lst xs] = some (.nd .own .tup xs) := rfl
end VI

set_option maxHeartbeats 4000000
namespace VI
open PySem PySem.Spec L2

/-! ### what the laws share -/
def c_law_got : Fd where
  N := ["_law_script", "_law_place", "_law_cell"]
  np := 2
  body := [
  .for (.nm 2) .lst [(.slc (.loc 0 .bor) (.loc 1 .bor) (.bin .Add (.loc 1 .bor) (.lit (.int 1))))] [
    .ret (.blt .abs [(.loc 2 .bor)])],
  .ret (.lit (.int 0))]

def c_law_spread : Fd where
  N := ["_law_number", "_law_many", "_law_found", "_law_rest", "_law_k", "_law_turn", "_law_digits", "_law_upper", "_law_lower"]
  np := 2
  body := [
  .asg (.nm 2) (.lst []),
  .asg (.nm 3) (.bin .FloorDiv (.loc 0 .bor) (.lit (.int 2))),
  .for (.nm 4) .rng [(.bin .Mult (.loc 1 .bor) (.bin .Sub (.lit (.int 1)) (.bin .Mod (.loc 0 .bor) (.lit (.int 2)))))] [
    .asg (.tp [3, 6]) (.blt .divmod [(.loc 3 .bor), (.bin .Pow (.lit (.int 10)) (.lit (.int 9)))]),
    .mut .append 2 [] [(.loc 6 .bor)]],
  .asg (.nm 3) (.bin .Add (.bin .Mod (.loc 3 .bor) (.lit (.int 998244341))) (.lit (.int 5))),
  .whl 1000000000000 (.cmp .Lt (.blt .len [(.loc 2 .bor)]) (.loc 1 .bor)) [
    .for (.nm 5) .rng [(.lit (.int 2))] [
      .asg (.tp [7, 8]) (.blt .divmod [(.loc 3 .bor), (.lit (.int 4099))]),
      .asg (.nm 3) (.bin .Mod (.bin .Add (.bin .Add (.bin .Add (.bin .Mult (.loc 8 .bor) (.lit (.int 240007))) (.bin .Mult (.loc 7 .bor) (.lit (.int 89)))) (.bin .Mult (.lit (.int 1201)) (.blt .len [(.loc 2 .bor)]))) (.lit (.int 11))) (.lit (.int 998244353)))],
    .mut .append 2 [] [(.bin .FloorDiv (.loc 3 .bor) (.lit (.int 5)))]],
  .ret (.loc 2 .mv)]

def c_law_stirred : Fd where
  N := ["_law_cell", "_law_place", "_law_found", "_law_rest", "_law_turn", "_law_upper", "_law_lower"]
  np := 2
  body := [
  .asg (.nm 2) (.lit (.int 0)),
  .asg (.nm 3) (.bin .Add (.bin .Mod (.bin .Add (.bin .Mod (.loc 0 .bor) (.lit (.int 998244341))) (.bin .Mult (.lit (.int 7919)) (.loc 1 .bor))) (.lit (.int 998244353))) (.lit (.int 3))),
  .for (.nm 4) .rng [(.lit (.int 4))] [
    .asg (.tp [5, 6]) (.blt .divmod [(.loc 3 .bor), (.lit (.int 4099))]),
    .asg (.nm 3) (.bin .Mod (.bin .Add (.bin .Add (.bin .Add (.bin .Mult (.loc 6 .bor) (.lit (.int 240007))) (.bin .Mult (.loc 5 .bor) (.lit (.int 89)))) (.bin .Mult (.lit (.int 1201)) (.loc 4 .bor))) (.lit (.int 11))) (.lit (.int 998244353))),
    .asg (.nm 2) (.bin .Add (.bin .Mult (.loc 2 .bor) (.lit (.int 998244353))) (.loc 3 .bor))],
  .ret (.loc 2 .bor)]

def c_law_stirred_script : Fd where
  N := ["_law_script", "_law_found", "_law_k", "_law_cell", "_law_power"]
  np := 1
  body := [
  .asg (.nm 1) (.lst []),
  .for (.nm 2) .rng [(.blt .min2 [(.blt .len [(.loc 0 .bor)]), (.lit (.int 64))])] [
    .asg (.nm 3) (.blt .abs [(.ix (.loc 0 .bor) (.loc 2 .bor))]),
    .asg (.nm 4) (.lit (.int 1)),
    .whl 1000000000000 (.cmp .LtE (.loc 4 .bor) (.loc 3 .bor)) [
      .asg (.nm 4) (.bin .Mult (.loc 4 .bor) (.bin .Pow (.lit (.int 10)) (.lit (.int 6))))],
    .mut .append 1 [] [(.bin .Add (.loc 3 .bor) (.bin .Mult (.loc 4 .bor) (.call "_law_stirred" [(.loc 3 .bor), (.loc 2 .bor)])))]],
  .ret (.loc 1 .mv)]

theorem rng_item {n i : Nat} {f : Nat → D} {d : D} (h : ((List.range n).map f)[i]? = some d) : i < n ∧ d = f i := by
  rw [List.getElem?_map] at h
  by_cases e : i < n
  · rw [List.getElem?_range e] at h
    cases h
    exact ⟨e, rfl⟩
  · rw [List.getElem?_eq_none (by rw [List.length_range]; omega)] at h
    cases h
/-- how a run is to end -/
structure Po where
  nx : List D → Prop
  ct : List D → Prop := fun _ => False
  bk : List D → Prop := fun _ => False
  rt : D → Prop := fun _ => False
  ex : Str → List D → List D → Prop := fun _ _ _ => False
def Wn (P : Po) : R Oc → Prop
  | .ok (.nx e) => P.nx e
  | .ok (.ct e) => P.ct e
  | .ok (.bk e) => P.bk e
  | .ok (.rt d _) => P.rt d
  | .exc x fl e => P.ex x fl e
  | .stuck => False
theorem w_nil {G : Calls} {env : List D} {P : Po} (h : P.nx env) : Wn P (semSs G [] env) := by rw [semSs]; exact h
theorem w_cons {G : Calls} {s : S} {r : List S} {env : List D} {P : Po} (h : Wn { P with nx := fun e => Wn P (semSs G r e) } (s.sem G env)) : Wn P (semSs G (s :: r) env) := by
  rw [semSs]
  cases z : s.sem G env with
  | ok o => rw [z] at h; cases o <;> exact h
  | exc x fl e => rw [z] at h; exact h
  | stuck => rw [z] at h; exact h
theorem w_nx {s : S} {G : Calls} {env e : List D} {P : Po} (h : s.sem G env = .ok (.nx e)) (k : P.nx e) : Wn P (s.sem G env) := by rw [h]; exact k
theorem w_rt {s : S} {G : Calls} {env e : List D} {d : D} {P : Po} (h : s.sem G env = .ok (.rt d e)) (k : P.rt d) : Wn P (s.sem G env) := by rw [h]; exact k
theorem w_if {c : E} {a b : List S} {G : Calls} {env e : List D} {k : Bool} {P : Po} (h : c.sem G env = .ok (.bl k, e)) (h1 : k = true → Wn P (semSs G a e)) (h2 : k = false → Wn P (semSs G b e)) : Wn P (S.sem G (.ifs c a b) env) := by
  rw [S.sem, h]
  cases k with
  | true => exact h1 rfl
  | false => exact h2 rfl
theorem w_mono {P P' : Po} {r : R Oc} (h : Wn P r) (h1 : ∀ e, P.nx e → P'.nx e) (h2 : ∀ e, P.ct e → P'.ct e) (h3 : ∀ e, P.bk e → P'.bk e) (h4 : ∀ d, P.rt d → P'.rt d) (h5 : ∀ x fl e, P.ex x fl e → P'.ex x fl e) : Wn P' r := by
  cases r with
  | ok o => cases o <;> first | exact h1 _ h | exact h2 _ h | exact h3 _ h | exact h4 _ h
  | exc x fl e => exact h5 _ _ _ h
  | stuck => exact h
theorem w_forL {body : List D → R Oc} {tg : T} {P : Po} {items : List D} (I : Nat → List D → Prop) (step : ∀ (i : Nat) (env : List D) (d : D), items[i]? = some d → I i env → d.clean = true ∧ ∃ env1, tg.set d env = .ok env1 ∧ Wn { P with nx := I (i + 1), ct := I (i + 1), bk := P.nx } (body env1))
    (fin : ∀ e, I items.length e → P.nx e) {env : List D} (h0 : I 0 env) : Wn P (forL body tg items env) := by
  have key : ∀ (l : List D) (k : Nat) (env : List D), items.drop k = l → k + l.length = items.length → I k env → Wn P (forL body tg l env) := by
    intro l
    induction l with
    | nil =>
      intro k env hd hl h
      rw [forL]
      have : k = items.length := hl
      subst this
      exact fin env h
    | cons d l ih =>
      intro k env hd hl h
      rw [List.length_cons] at hl
      have hk : items[k]? = some d := by
        have := congrArg (fun z => z[0]?) hd
        simpa using this
      obtain ⟨hc, env1, e1, h1⟩ := step k env d hk h
      have hd' : items.drop (k + 1) = l := by
        have := congrArg List.tail hd
        simpa using this
      have e0 : forL body tg (d :: l) env = (body env1).bind fun o => match o with
          | .nx e => forL body tg l e
          | .ct e => forL body tg l e
          | .bk e => .ok (.nx e)
          | .rt d e => .ok (.rt d e) := by
        rw [forL, hc, e1]; rfl
      rw [e0]
      cases z : body env1 with
      | ok o =>
        rw [z] at h1
        cases o with
        | nx e => exact ih (k + 1) e hd' (by omega) h1
        | ct e => exact ih (k + 1) e hd' (by omega) h1
        | bk e => exact h1
        | rt d e => exact h1
      | exc x fl e => rw [z] at h1; exact h1
      | stuck => rw [z] at h1; exact h1
  exact key items 0 env rfl (Nat.zero_add _) h0
theorem w_for {G : Calls} {t : T} {k : Ik} {its : List E} {body : List S} {env vals env0 items : List D} {P : Po} (I : Nat → List D → Prop) (h1 : semL G its env = .ok (vals, env0)) (h2 : D.alls notBor vals = true) (h3 : itemsOf k (D.tags (ownTo G.frz) vals) = some items)
    (h0 : I 0 env0) (step : ∀ (i : Nat) (env : List D) (d : D), items[i]? = some d → I i env → d.clean = true ∧ ∃ env1, t.set d env = .ok env1 ∧ Wn { P with nx := I (i + 1), ct := I (i + 1), bk := P.nx } (semSs G body env1))
    (fin : ∀ e, I items.length e → P.nx e) : Wn P (S.sem G (.for t k its body) env) := by
  have e0 : S.sem G (.for t k its body) env = forL (fun env => semSs G body env) t items env0 := by
    rw [S.sem, h1]
    show (if D.alls notBor vals = true then _ else _) = _
    rw [if_pos h2, h3]
    rfl
  rw [e0]
  exact w_forL I step fin h0
theorem w_whl {G : Calls} {n : Nat} {c : E} {body : List S} {env : List D} {P : Po} (I : Nat → List D → Prop)
    (step : ∀ (m : Nat) (env : List D), I m env → ∃ k e, c.sem G env = .ok (.bl k, e) ∧ (k = false → P.nx e) ∧ (k = true → Wn { P with nx := fun e => ∃ m', m' < m ∧ I m' e, ct := fun e => ∃ m', m' < m ∧ I m' e, bk := P.nx } (semSs G body e)))
    {m : Nat} (h0 : I m env) (hm : m < n) : Wn P (S.sem G (.whl n c body) env) := by
  rw [S.sem]
  have key : ∀ (m : Nat) (n : Nat) (env : List D), m < n → I m env → Wn P (whlL (fun env => c.sem G env) (fun env => semSs G body env) n env) := by
    intro m
    induction m using Nat.strongRecOn with
    | _ m ih =>
      intro n env hn h
      obtain ⟨j, rfl⟩ : ∃ j, n = j + 1 := ⟨n - 1, by omega⟩
      obtain ⟨k, e, q1, q2, q3⟩ := step m env h
      rw [whlL, q1]
      cases k with
      | false => exact q2 rfl
      | true =>
        have q3 := q3 rfl
        show Wn P ((semSs G body e).bind _)
        cases z : semSs G body e with
        | ok o =>
          rw [z] at q3
          cases o with
          | nx e' =>
            obtain ⟨m', h1, h2⟩ := q3
            exact ih m' h1 j e' (by omega) h2
          | ct e' =>
            obtain ⟨m', h1, h2⟩ := q3
            exact ih m' h1 j e' (by omega) h2
          | bk e' => exact q3
          | rt d e' => exact q3
        | exc x fl e' => rw [z] at q3; exact q3
        | stuck => rw [z] at q3; exact q3
  exact key m n env hm h0
/-! .. with what follows -/
theorem w_step {s : S} {r : List S} {G : Calls} {env e : List D} {P : Po} (h : s.sem G env = .ok (.nx e)) (k : Wn P (semSs G r e)) : Wn P (semSs G (s :: r) env) := w_cons (w_nx h k)
theorem w_ret {s : S} {r : List S} {G : Calls} {env e : List D} {d : D} {P : Po} (h : s.sem G env = .ok (.rt d e)) (k : P.rt d) : Wn P (semSs G (s :: r) env) := w_cons (w_rt h k)
theorem w_ite {c : E} {a b r : List S} {G : Calls} {env e : List D} {k : Bool} {P : Po} (h : c.sem G env = .ok (.bl k, e)) (h1 : k = true → Wn { P with nx := fun e => Wn P (semSs G r e) } (semSs G a e)) (h2 : k = false → Wn { P with nx := fun e => Wn P (semSs G r e) } (semSs G b e)) : Wn P (semSs G (.ifs c a b :: r) env) := w_cons (w_if h h1 h2)
/-- if c: return .. (and no else) -/
theorem w_ifr {c : E} {a r : List S} {G : Calls} {env e : List D} {k : Bool} {P : Po} (h : c.sem G env = .ok (.bl k, e)) (h1 : k = true → Wn { P with nx := fun e => Wn P (semSs G r e) } (semSs G a e)) (h2 : k = false → Wn P (semSs G r e)) : Wn P (semSs G (.ifs c a [] :: r) env) := w_cons (w_if h h1 fun hk => by
  have := h2 hk
  rw [semSs]
  exact this)
theorem w_loop {G : Calls} {t : T} {k : Ik} {its : List E} {body r : List S} {env vals env0 items : List D} {P : Po} (I : Nat → List D → Prop) (h1 : semL G its env = .ok (vals, env0)) (h2 : D.alls notBor vals = true) (h3 : itemsOf k (D.tags (ownTo G.frz) vals) = some items)
    (h0 : I 0 env0) (step : ∀ (i : Nat) (env : List D) (d : D), items[i]? = some d → I i env → d.clean = true ∧ ∃ env1, t.set d env = .ok env1 ∧ Wn { P with nx := I (i + 1), ct := I (i + 1), bk := fun e => Wn P (semSs G r e) } (semSs G body env1))
    (fin : ∀ e, I items.length e → Wn P (semSs G r e)) : Wn P (semSs G (.for t k its body :: r) env) := w_cons (w_for I h1 h2 h3 h0 step fin)
theorem w_while {G : Calls} {n : Nat} {c : E} {body r : List S} {env : List D} {P : Po} (I : Nat → List D → Prop)
    (step : ∀ (m : Nat) (env : List D), I m env → ∃ k e, c.sem G env = .ok (.bl k, e) ∧ (k = false → Wn P (semSs G r e)) ∧ (k = true → Wn { P with nx := fun e => ∃ m', m' < m ∧ I m' e, ct := fun e => ∃ m', m' < m ∧ I m' e, bk := fun e => Wn P (semSs G r e) } (semSs G body e)))
    {m : Nat} (h0 : I m env) (hm : m < n) : Wn P (semSs G (.whl n c body :: r) env) := w_cons (w_whl I step h0 hm)
theorem w_nilnil {G : Calls} {env : List D} {P : Po} (h : P.nx env) : Wn { P with nx := fun e => Wn P (semSs G [] e) } (semSs G [] env) := w_nil (P := { P with nx := fun e => Wn P (semSs G [] e) }) (show Wn P (semSs G [] env) from w_nil h)
theorem w_stepE {α : Type} {s : S} {r : List S} {G : Calls} {env : List D} {P : Po} (E : α → List D) (C : α → Prop) (h : ∃ b, C b ∧ s.sem G env = .ok (.nx (E b))) (k : ∀ b, C b → Wn P (semSs G r (E b))) : Wn P (semSs G (s :: r) env) := by
  obtain ⟨b, h1, h2⟩ := h
  exact w_step h2 (k b h1)
/-- a def's end -/
theorem call_rt {d : Fd} {G : Calls} {args : List D} {Q : D → Prop} (hl : args.length = d.np) (h : Wn { nx := fun _ => Q .non, rt := Q } (semSs G d.body (args ++ List.replicate (d.N.length - args.length) .und))) : ∃ r, d.call G args = .ok r ∧ Q r := by
  unfold Fd.call
  rw [if_pos hl]
  cases z : semSs G d.body (args ++ List.replicate (d.N.length - args.length) .und) with
  | ok o =>
    rw [z] at h
    cases o with
    | nx e => exact ⟨_, rfl, h⟩
    | rt r e => exact ⟨_, rfl, h⟩
    | ct e => exact h.elim
    | bk e => exact h.elim
  | exc x fl e => rw [z] at h; exact h.elim
  | stuck => rw [z] at h; exact h.elim
theorem ret_of {e : E} {G : Calls} {env env' : List D} {d : D} (h : e.sem G env = .ok (d, env')) (hc : d.clean = true) : S.sem G (.ret e) env = .ok (.rt d env') := by
  rw [S.sem, h]
  show (if d.clean = true then _ else _) = _
  rw [if_pos hc]
theorem vi_cat {t u : Tag} {xs ys : List D} (h1 : t ≠ .sta) (h2 : u ≠ .sta) (h3 : xs.length + ys.length ≤ 16777216) : binV .Add (.nd t .lst xs) (.nd u .lst ys) = some (.nd .own .lst (xs ++ ys)) := by
  show (if t = .sta ∨ u = .sta then _ else _) = _
  rw [if_neg (fun h => h.elim h1 h2), if_pos h3]
theorem bls_true : ∀ n : Nat, bls? (List.replicate n (D.bl true)) = some (List.replicate n true)
  | 0 => rfl
  | n + 1 => by
    show (bls? (List.replicate n (D.bl true))).map (true :: ·) = _
    rw [bls_true n]; rfl
/-- all([.. for ..]), each of them true -/
theorem all_comp {G : Calls} {ws : List Nat} {tg : T} {k : Ik} {its cond : List E} {elt : E} {env env0 vals items : List D} (h1 : semL G its env = .ok (vals, env0)) (h2 : D.alls notBor vals = true) (h3 : ws.all (fun i => (getL env0 i).isNone) = true) (h4 : itemsOf k (D.tags (ownTo G.frz) vals) = some items)
    (h5 : ∀ d ∈ items, tg.nown d = true ∧ ∃ e e', tg.set d env0 = .ok e ∧ semC G cond e = .ok true ∧ elt.sem G e = .ok (.bl true, e')) (hl : items.length ≤ 16777216) : E.sem G (.blt .all [.comp ws tg k its cond elt]) env = .ok (.bl true, env0) := by
  have hc : E.sem G (.comp ws tg k its cond elt) env = .ok (.nd .own .lst (items.map fun _ => .bl true), env0) := by
    rw [e_comp, h1]
    show (if (D.alls notBor vals && ws.all (fun i => (getL env0 i).isNone)) = true then _ else _) = _
    rw [h2, h3, if_pos (by rfl), h4]
    show (compL _ _ tg env0 items []).bind _ = _
    rw [compL_map (g := fun _ => .bl true) (fun d hd => by
      obtain ⟨q1, e, e', q2, q3, q4⟩ := h5 d hd
      exact ⟨q1, rfl, e, q2, q3, e', q4⟩) (by rw [List.length_nil]; omega)]
    rfl
  rw [e_blt, e_l1, hc]
  show (R.of ((biV .all [.nd .own .lst (items.map fun _ => .bl true)]).map _)) = _
  have : biV .all [.nd .own .lst (items.map fun _ => .bl true)] = some (.bl true) := by
    show (bls? (items.map fun _ => D.bl true)).map _ = _
    have e1 : (items.map fun _ => D.bl true) = List.replicate items.length (D.bl true) := by rw [List.map_const']
    rw [e1, bls_true]
    show some (D.bl ((List.replicate items.length true).all id)) = _
    have e2 : (List.replicate items.length true).all id = true := by
      rw [List.all_eq_true]
      intro x hx
      rw [(List.mem_replicate.mp hx).2]; rfl
    rw [e2]
  rw [this]
  rfl
/-- all([.. for ..]) by its items -/
theorem all_compB {G : Calls} {ws : List Nat} {tg : T} {k : Ik} {its cond : List E} {elt : E} {env env0 vals items : List D} (p : D → Bool) (h1 : semL G its env = .ok (vals, env0)) (h2 : D.alls notBor vals = true) (h3 : ws.all (fun i => (getL env0 i).isNone) = true) (h4 : itemsOf k (D.tags (ownTo G.frz) vals) = some items)
    (h5 : ∀ d ∈ items, tg.nown d = true ∧ ∃ e e', tg.set d env0 = .ok e ∧ semC G cond e = .ok true ∧ elt.sem G e = .ok (.bl (p d), e')) (hl : items.length ≤ 16777216) : E.sem G (.blt .all [.comp ws tg k its cond elt]) env = .ok (.bl (items.all p), env0) := by
  have hc : E.sem G (.comp ws tg k its cond elt) env = .ok (.nd .own .lst (items.map fun d => .bl (p d)), env0) := by
    rw [e_comp, h1]
    show (if (D.alls notBor vals && ws.all (fun i => (getL env0 i).isNone)) = true then _ else _) = _
    rw [h2, h3, if_pos (by rfl), h4]
    show (compL _ _ tg env0 items []).bind _ = _
    rw [compL_map (g := fun d => .bl (p d)) (fun d hd => by
      obtain ⟨q1, e, e', q2, q3, q4⟩ := h5 d hd
      exact ⟨q1, rfl, e, q2, q3, e', q4⟩) (by rw [List.length_nil]; omega)]
    rfl
  rw [e_blt, e_l1, hc]
  show (R.of ((biV .all [.nd .own .lst (items.map fun d => .bl (p d))]).map _)) = _
  have : biV .all [.nd .own .lst (items.map fun d => .bl (p d))] = some (.bl (items.all p)) := by
    show (bls? (items.map fun d => D.bl (p d))).map _ = _
    rw [bls_map]
    show some (D.bl ((items.map p).all id)) = _
    rw [List.all_map]
    rfl
  rw [this]
  rfl
theorem cut63 {ys : List Int} (h : ys.length ≤ 63) : slcV (.nd t .lst (ys.map D.int)) none (some 63) = some (.nd .own .lst (ys.map D.int)) := by
  have : cutD (ys.map D.int) none (some 63) = ys.map D.int := by
    unfold cutD
    have e1 : HT.sIx (ys.map D.int).length 0 none = 0 := rfl
    have e2 : (ys.map D.int).length ≤ HT.sIx (ys.map D.int).length (ys.map D.int).length (some 63) := by
      rw [List.length_map]
      unfold HT.sIx
      simp
      omega
    rw [e1, List.drop_zero, List.take_of_length_le (by omega)]
  show some (D.nd .own .lst (cutD (ys.map D.int) none (some 63))) = _
  rw [this]
/-- the numbers that a law spreads -/
def Spr (xs : List Int) : Prop := ∀ x ∈ xs, 0 ≤ x ∧ x < 1000000000
theorem Spr.snoc {xs : List Int} {x : Int} (h : Spr xs) (h1 : 0 ≤ x) (h2 : x < 1000000000) : Spr (xs ++ [x]) := fun y hy => by
  rcases List.mem_append.mp hy with q | q
  · exact h y q
  · rw [List.mem_singleton.mp q]; exact ⟨h1, h2⟩
theorem map_snoc (xs : List Int) (x : Int) : xs.map D.int ++ [D.int x] = (xs ++ [x]).map D.int := by rw [List.map_append]; rfl
theorem spread_ok (G : Calls) (number : Int) (many : Nat) (hm : many ≤ 100000) : ∃ xs : List Int, xs.length = many ∧ Spr xs ∧ c_law_spread.call G [.int number, .int many] = .ok (.nd .own .lst (xs.map .int)) := by
  have hr : number % 2 = 0 ∨ number % 2 = 1 := by omega
  have hj : ∃ j : Nat, (many : Int) * (1 - number % 2) = j ∧ j ≤ many := by
    rcases hr with h | h
    · exact ⟨many, by rw [h]; omega, Nat.le_refl _⟩
    · exact ⟨0, by rw [h]; omega, Nat.zero_le _⟩
  obtain ⟨j, hj1, hj2⟩ := hj
  have main := call_rt (d := c_law_spread) (G := G) (args := [.int number, .int many]) (Q := fun r => ∃ xs : List Int, xs.length = many ∧ Spr xs ∧ r = .nd .own .lst (xs.map .int)) rfl (by
    show Wn _ (semSs G c_law_spread.body [.int number, .int many, .und, .und, .und, .und, .und, .und, .und])
    unfold c_law_spread
    refine w_step (by simp -implicitDefEqProofs (decide := true) only [S.sem, e_nop, e_lit, e_loc, e_glb, e_bin, e_cmp, e_cm2, e_cmK, e_bop, e_and, e_or, e_one, e_anK, e_orK, e_anM, e_orM, e_not, e_noK, e_tru, e_tb, e_ti, e_tl, e_tt, e_tn, e_neg, e_neK, e_ife, e_ifK, e_tup, e_lst, e_ix, e_slc, e_call, e_blt, e_isi, e_comp, e_l0, e_l1, e_ixl, e_ixt, e_at, e_ixn, e_ixm, e_tyb1, e_tyb2, e_tyi1, e_tyi2, e_isn1, e_isn2, e_isn3, e_isn4, e_isn5, e_isb, e_eqni, e_eqin, vi_lb, vi_lm, vi_lc, vi_lbs, vi_lms, vi_lcs, vi_g0, vi_g1, vi_g2, vi_g3, vi_g4, vi_g5, vi_g6, vi_ti, vi_tb, vi_ts, vi_tn, vi_td, vi_tags0, vi_tags1, vi_tagsI, vi_tagsS, vi_tagsB, vi_allsI, vi_allsS, vi_allsB, vi_ai, vi_ab, vi_as, vi_an, vi_ad, vi_alls0, vi_alls1, vi_cl,
    vi_add, vi_sub, vi_mulr, vi_mull, vi_div, vi_mod, vi_lt, vi_le, vi_gt, vi_ge, vi_eqi, vi_nei, vi_eqb, vi_neb, vi_eqs, vi_nes, vi_lenl, vi_lent, vi_abs, vi_min, vi_max, vi_dm, vi_nm, vi_tp, vi_no, vi_app, vi_upd0, vi_upe, vi_fz0, vi_fz1, vi_fz2, vi_fz3, vi_go0, vi_go1, vi_pl0, vi_t1, vi_t2, vi_t3, vi_t4, vi_t5, vi_t6, vi_frz, vi_fn, vi_cst,
    R.bind_ok, R.of_some, Option.map_some, Option.bind_some, List.getElem?_cons_zero, List.getElem?_cons_succ, List.set_cons_zero, List.set_cons_succ, List.length_cons, List.length_nil, List.length_map, List.all_cons, List.all_nil, Bool.and_true, Bool.true_and, Bool.or_true, Bool.true_or, Bool.or_false, Bool.false_or, Bool.and_self, if_true, ite_true, reduceIte, Nat.reduceAdd, Nat.reduceSub, Nat.reduceMul, Nat.reduceLT, Nat.reduceLeDiff, Nat.reduceEqDiff, Int.reduceLT, Int.reduceLE, Int.reduceAdd, Int.reduceSub, Int.reduceMul, Int.reduceNeg, Int.reducePow, Int.reduceToNat, Int.natAbs_natCast, Nat.lt_add_one, decide_true, decide_false, Nat.zero_lt_succ, List.map_cons, List.map_nil, vi_y1, vi_y2, vi_y3, vi_y4, vi_y5, vi_seen, vi_cd, vi_old, vi_o1, vi_o2, vi_b1, vi_b2, vi_b3, vi_b4, vi_b5, vi_pow, vi_rsh, e_b0, e_b1, e_b2, e_b3, e_b4, e_b5, e_b6, vi_li1, vi_li2, vi_li3] <;> rfl) ?_
    refine w_step (by simp -implicitDefEqProofs (decide := true) only [S.sem, e_nop, e_lit, e_loc, e_glb, e_bin, e_cmp, e_cm2, e_cmK, e_bop, e_and, e_or, e_one, e_anK, e_orK, e_anM, e_orM, e_not, e_noK, e_tru, e_tb, e_ti, e_tl, e_tt, e_tn, e_neg, e_neK, e_ife, e_ifK, e_tup, e_lst, e_ix, e_slc, e_call, e_blt, e_isi, e_comp, e_l0, e_l1, e_ixl, e_ixt, e_at, e_ixn, e_ixm, e_tyb1, e_tyb2, e_tyi1, e_tyi2, e_isn1, e_isn2, e_isn3, e_isn4, e_isn5, e_isb, e_eqni, e_eqin, vi_lb, vi_lm, vi_lc, vi_lbs, vi_lms, vi_lcs, vi_g0, vi_g1, vi_g2, vi_g3, vi_g4, vi_g5, vi_g6, vi_ti, vi_tb, vi_ts, vi_tn, vi_td, vi_tags0, vi_tags1, vi_tagsI, vi_tagsS, vi_tagsB, vi_allsI, vi_allsS, vi_allsB, vi_ai, vi_ab, vi_as, vi_an, vi_ad, vi_alls0, vi_alls1, vi_cl,
    vi_add, vi_sub, vi_mulr, vi_mull, vi_div, vi_mod, vi_lt, vi_le, vi_gt, vi_ge, vi_eqi, vi_nei, vi_eqb, vi_neb, vi_eqs, vi_nes, vi_lenl, vi_lent, vi_abs, vi_min, vi_max, vi_dm, vi_nm, vi_tp, vi_no, vi_app, vi_upd0, vi_upe, vi_fz0, vi_fz1, vi_fz2, vi_fz3, vi_go0, vi_go1, vi_pl0, vi_t1, vi_t2, vi_t3, vi_t4, vi_t5, vi_t6, vi_frz, vi_fn, vi_cst,
    R.bind_ok, R.of_some, Option.map_some, Option.bind_some, List.getElem?_cons_zero, List.getElem?_cons_succ, List.set_cons_zero, List.set_cons_succ, List.length_cons, List.length_nil, List.length_map, List.all_cons, List.all_nil, Bool.and_true, Bool.true_and, Bool.or_true, Bool.true_or, Bool.or_false, Bool.false_or, Bool.and_self, if_true, ite_true, reduceIte, Nat.reduceAdd, Nat.reduceSub, Nat.reduceMul, Nat.reduceLT, Nat.reduceLeDiff, Nat.reduceEqDiff, Int.reduceLT, Int.reduceLE, Int.reduceAdd, Int.reduceSub, Int.reduceMul, Int.reduceNeg, Int.reducePow, Int.reduceToNat, Int.natAbs_natCast, Nat.lt_add_one, decide_true, decide_false, Nat.zero_lt_succ, List.map_cons, List.map_nil, vi_y1, vi_y2, vi_y3, vi_y4, vi_y5, vi_seen, vi_cd, vi_old, vi_o1, vi_o2, vi_b1, vi_b2, vi_b3, vi_b4, vi_b5, vi_pow, vi_rsh, e_b0, e_b1, e_b2, e_b3, e_b4, e_b5, e_b6, vi_li1, vi_li2, vi_li3] <;> rfl) ?_
    refine w_loop (vals := [.int j]) (fun i e => ∃ xs r d4 d5 d6 d7 d8, e = [.int number, .int many, .nd .own .lst (xs.map D.int), .int r, d4, d5, d6, d7, d8] ∧ xs.length = i ∧ Spr xs) (by
      rw [← hj1]
      simp -implicitDefEqProofs (decide := true) only [S.sem, e_nop, e_lit, e_loc, e_glb, e_bin, e_cmp, e_cm2, e_cmK, e_bop, e_and, e_or, e_one, e_anK, e_orK, e_anM, e_orM, e_not, e_noK, e_tru, e_tb, e_ti, e_tl, e_tt, e_tn, e_neg, e_neK, e_ife, e_ifK, e_tup, e_lst, e_ix, e_slc, e_call, e_blt, e_isi, e_comp, e_l0, e_l1, e_ixl, e_ixt, e_at, e_ixn, e_ixm, e_tyb1, e_tyb2, e_tyi1, e_tyi2, e_isn1, e_isn2, e_isn3, e_isn4, e_isn5, e_isb, e_eqni, e_eqin, vi_lb, vi_lm, vi_lc, vi_lbs, vi_lms, vi_lcs, vi_g0, vi_g1, vi_g2, vi_g3, vi_g4, vi_g5, vi_g6, vi_ti, vi_tb, vi_ts, vi_tn, vi_td, vi_tags0, vi_tags1, vi_tagsI, vi_tagsS, vi_tagsB, vi_allsI, vi_allsS, vi_allsB, vi_ai, vi_ab, vi_as, vi_an, vi_ad, vi_alls0, vi_alls1, vi_cl,
    vi_add, vi_sub, vi_mulr, vi_mull, vi_div, vi_mod, vi_lt, vi_le, vi_gt, vi_ge, vi_eqi, vi_nei, vi_eqb, vi_neb, vi_eqs, vi_nes, vi_lenl, vi_lent, vi_abs, vi_min, vi_max, vi_dm, vi_nm, vi_tp, vi_no, vi_app, vi_upd0, vi_upe, vi_fz0, vi_fz1, vi_fz2, vi_fz3, vi_go0, vi_go1, vi_pl0, vi_t1, vi_t2, vi_t3, vi_t4, vi_t5, vi_t6, vi_frz, vi_fn, vi_cst,
    R.bind_ok, R.of_some, Option.map_some, Option.bind_some, List.getElem?_cons_zero, List.getElem?_cons_succ, List.set_cons_zero, List.set_cons_succ, List.length_cons, List.length_nil, List.length_map, List.all_cons, List.all_nil, Bool.and_true, Bool.true_and, Bool.or_true, Bool.true_or, Bool.or_false, Bool.false_or, Bool.and_self, if_true, ite_true, reduceIte, Nat.reduceAdd, Nat.reduceSub, Nat.reduceMul, Nat.reduceLT, Nat.reduceLeDiff, Nat.reduceEqDiff, Int.reduceLT, Int.reduceLE, Int.reduceAdd, Int.reduceSub, Int.reduceMul, Int.reduceNeg, Int.reducePow, Int.reduceToNat, Int.natAbs_natCast, Nat.lt_add_one, decide_true, decide_false, Nat.zero_lt_succ, List.map_cons, List.map_nil, vi_y1, vi_y2, vi_y3, vi_y4, vi_y5, vi_seen, vi_cd, vi_old, vi_o1, vi_o2, vi_b1, vi_b2, vi_b3, vi_b4, vi_b5, vi_pow, vi_rsh, e_b0, e_b1, e_b2, e_b3, e_b4, e_b5, e_b6, vi_li1, vi_li2, vi_li3]
      rw [vi_mulr (by rcases hr with h | h <;> rw [h] <;> decide)]
      rfl) rfl (rng1 (by omega) (by omega)) ⟨[], number / 2, .und, .und, .und, .und, .und, rfl, rfl, fun _ h => by cases h⟩ ?_ ?_
    · rintro i env d hd ⟨xs, r, d4, d5, d6, d7, d8, rfl, h2, h3⟩
      obtain ⟨hi, rfl⟩ := rng_item hd
      have hlen : (xs.map D.int).length < 16777216 := by rw [List.length_map]; omega
      refine ⟨rfl, _, rfl, ?_⟩
      refine w_step (by simp -implicitDefEqProofs (decide := true) only [S.sem, e_nop, e_lit, e_loc, e_glb, e_bin, e_cmp, e_cm2, e_cmK, e_bop, e_and, e_or, e_one, e_anK, e_orK, e_anM, e_orM, e_not, e_noK, e_tru, e_tb, e_ti, e_tl, e_tt, e_tn, e_neg, e_neK, e_ife, e_ifK, e_tup, e_lst, e_ix, e_slc, e_call, e_blt, e_isi, e_comp, e_l0, e_l1, e_ixl, e_ixt, e_at, e_ixn, e_ixm, e_tyb1, e_tyb2, e_tyi1, e_tyi2, e_isn1, e_isn2, e_isn3, e_isn4, e_isn5, e_isb, e_eqni, e_eqin, vi_lb, vi_lm, vi_lc, vi_lbs, vi_lms, vi_lcs, vi_g0, vi_g1, vi_g2, vi_g3, vi_g4, vi_g5, vi_g6, vi_ti, vi_tb, vi_ts, vi_tn, vi_td, vi_tags0, vi_tags1, vi_tagsI, vi_tagsS, vi_tagsB, vi_allsI, vi_allsS, vi_allsB, vi_ai, vi_ab, vi_as, vi_an, vi_ad, vi_alls0, vi_alls1, vi_cl,
    vi_add, vi_sub, vi_mulr, vi_mull, vi_div, vi_mod, vi_lt, vi_le, vi_gt, vi_ge, vi_eqi, vi_nei, vi_eqb, vi_neb, vi_eqs, vi_nes, vi_lenl, vi_lent, vi_abs, vi_min, vi_max, vi_dm, vi_nm, vi_tp, vi_no, vi_app, vi_upd0, vi_upe, vi_fz0, vi_fz1, vi_fz2, vi_fz3, vi_go0, vi_go1, vi_pl0, vi_t1, vi_t2, vi_t3, vi_t4, vi_t5, vi_t6, vi_frz, vi_fn, vi_cst,
    R.bind_ok, R.of_some, Option.map_some, Option.bind_some, List.getElem?_cons_zero, List.getElem?_cons_succ, List.set_cons_zero, List.set_cons_succ, List.length_cons, List.length_nil, List.length_map, List.all_cons, List.all_nil, Bool.and_true, Bool.true_and, Bool.or_true, Bool.true_or, Bool.or_false, Bool.false_or, Bool.and_self, if_true, ite_true, reduceIte, Nat.reduceAdd, Nat.reduceSub, Nat.reduceMul, Nat.reduceLT, Nat.reduceLeDiff, Nat.reduceEqDiff, Int.reduceLT, Int.reduceLE, Int.reduceAdd, Int.reduceSub, Int.reduceMul, Int.reduceNeg, Int.reducePow, Int.reduceToNat, Int.natAbs_natCast, Nat.lt_add_one, decide_true, decide_false, Nat.zero_lt_succ, List.map_cons, List.map_nil, vi_y1, vi_y2, vi_y3, vi_y4, vi_y5, vi_seen, vi_cd, vi_old, vi_o1, vi_o2, vi_b1, vi_b2, vi_b3, vi_b4, vi_b5, vi_pow, vi_rsh, e_b0, e_b1, e_b2, e_b3, e_b4, e_b5, e_b6, vi_li1, vi_li2, vi_li3] <;> rfl) ?_
      refine w_step (by simp -implicitDefEqProofs (decide := true) only [S.sem, e_nop, e_lit, e_loc, e_glb, e_bin, e_cmp, e_cm2, e_cmK, e_bop, e_and, e_or, e_one, e_anK, e_orK, e_anM, e_orM, e_not, e_noK, e_tru, e_tb, e_ti, e_tl, e_tt, e_tn, e_neg, e_neK, e_ife, e_ifK, e_tup, e_lst, e_ix, e_slc, e_call, e_blt, e_isi, e_comp, e_l0, e_l1, e_ixl, e_ixt, e_at, e_ixn, e_ixm, e_tyb1, e_tyb2, e_tyi1, e_tyi2, e_isn1, e_isn2, e_isn3, e_isn4, e_isn5, e_isb, e_eqni, e_eqin, vi_lb, vi_lm, vi_lc, vi_lbs, vi_lms, vi_lcs, vi_g0, vi_g1, vi_g2, vi_g3, vi_g4, vi_g5, vi_g6, vi_ti, vi_tb, vi_ts, vi_tn, vi_td, vi_tags0, vi_tags1, vi_tagsI, vi_tagsS, vi_tagsB, vi_allsI, vi_allsS, vi_allsB, vi_ai, vi_ab, vi_as, vi_an, vi_ad, vi_alls0, vi_alls1, vi_cl,
    vi_add, vi_sub, vi_mulr, vi_mull, vi_div, vi_mod, vi_lt, vi_le, vi_gt, vi_ge, vi_eqi, vi_nei, vi_eqb, vi_neb, vi_eqs, vi_nes, vi_lenl, vi_lent, vi_abs, vi_min, vi_max, vi_dm, vi_nm, vi_tp, vi_no, vi_app, vi_upd0, vi_upe, vi_fz0, vi_fz1, vi_fz2, vi_fz3, vi_go0, vi_go1, vi_pl0, vi_t1, vi_t2, vi_t3, vi_t4, vi_t5, vi_t6, vi_frz, vi_fn, vi_cst,
    R.bind_ok, R.of_some, Option.map_some, Option.bind_some, List.getElem?_cons_zero, List.getElem?_cons_succ, List.set_cons_zero, List.set_cons_succ, List.length_cons, List.length_nil, List.length_map, List.all_cons, List.all_nil, Bool.and_true, Bool.true_and, Bool.or_true, Bool.true_or, Bool.or_false, Bool.false_or, Bool.and_self, if_true, ite_true, reduceIte, Nat.reduceAdd, Nat.reduceSub, Nat.reduceMul, Nat.reduceLT, Nat.reduceLeDiff, Nat.reduceEqDiff, Int.reduceLT, Int.reduceLE, Int.reduceAdd, Int.reduceSub, Int.reduceMul, Int.reduceNeg, Int.reducePow, Int.reduceToNat, Int.natAbs_natCast, Nat.lt_add_one, decide_true, decide_false, Nat.zero_lt_succ, List.map_cons, List.map_nil, vi_y1, vi_y2, vi_y3, vi_y4, vi_y5, vi_seen, vi_cd, vi_old, vi_o1, vi_o2, vi_b1, vi_b2, vi_b3, vi_b4, vi_b5, vi_pow, vi_rsh, e_b0, e_b1, e_b2, e_b3, e_b4, e_b5, e_b6, vi_li1, vi_li2, vi_li3, vi_app hlen] <;> rfl) ?_
      refine w_nil ⟨xs ++ [r % 1000000000], _, _, _, _, _, _, by rw [← map_snoc], ?_, ?_⟩
      · rw [List.length_append, h2]; rfl
      · exact h3.snoc (Int.emod_nonneg _ (by decide)) (Int.emod_lt_of_pos _ (by decide))
    · rintro e ⟨xs, r, d4, d5, d6, d7, d8, rfl, h2, h3⟩
      rw [List.length_map, List.length_range] at h2
      refine w_step (by simp -implicitDefEqProofs (decide := true) only [S.sem, e_nop, e_lit, e_loc, e_glb, e_bin, e_cmp, e_cm2, e_cmK, e_bop, e_and, e_or, e_one, e_anK, e_orK, e_anM, e_orM, e_not, e_noK, e_tru, e_tb, e_ti, e_tl, e_tt, e_tn, e_neg, e_neK, e_ife, e_ifK, e_tup, e_lst, e_ix, e_slc, e_call, e_blt, e_isi, e_comp, e_l0, e_l1, e_ixl, e_ixt, e_at, e_ixn, e_ixm, e_tyb1, e_tyb2, e_tyi1, e_tyi2, e_isn1, e_isn2, e_isn3, e_isn4, e_isn5, e_isb, e_eqni, e_eqin, vi_lb, vi_lm, vi_lc, vi_lbs, vi_lms, vi_lcs, vi_g0, vi_g1, vi_g2, vi_g3, vi_g4, vi_g5, vi_g6, vi_ti, vi_tb, vi_ts, vi_tn, vi_td, vi_tags0, vi_tags1, vi_tagsI, vi_tagsS, vi_tagsB, vi_allsI, vi_allsS, vi_allsB, vi_ai, vi_ab, vi_as, vi_an, vi_ad, vi_alls0, vi_alls1, vi_cl,
    vi_add, vi_sub, vi_mulr, vi_mull, vi_div, vi_mod, vi_lt, vi_le, vi_gt, vi_ge, vi_eqi, vi_nei, vi_eqb, vi_neb, vi_eqs, vi_nes, vi_lenl, vi_lent, vi_abs, vi_min, vi_max, vi_dm, vi_nm, vi_tp, vi_no, vi_app, vi_upd0, vi_upe, vi_fz0, vi_fz1, vi_fz2, vi_fz3, vi_go0, vi_go1, vi_pl0, vi_t1, vi_t2, vi_t3, vi_t4, vi_t5, vi_t6, vi_frz, vi_fn, vi_cst,
    R.bind_ok, R.of_some, Option.map_some, Option.bind_some, List.getElem?_cons_zero, List.getElem?_cons_succ, List.set_cons_zero, List.set_cons_succ, List.length_cons, List.length_nil, List.length_map, List.all_cons, List.all_nil, Bool.and_true, Bool.true_and, Bool.or_true, Bool.true_or, Bool.or_false, Bool.false_or, Bool.and_self, if_true, ite_true, reduceIte, Nat.reduceAdd, Nat.reduceSub, Nat.reduceMul, Nat.reduceLT, Nat.reduceLeDiff, Nat.reduceEqDiff, Int.reduceLT, Int.reduceLE, Int.reduceAdd, Int.reduceSub, Int.reduceMul, Int.reduceNeg, Int.reducePow, Int.reduceToNat, Int.natAbs_natCast, Nat.lt_add_one, decide_true, decide_false, Nat.zero_lt_succ, List.map_cons, List.map_nil, vi_y1, vi_y2, vi_y3, vi_y4, vi_y5, vi_seen, vi_cd, vi_old, vi_o1, vi_o2, vi_b1, vi_b2, vi_b3, vi_b4, vi_b5, vi_pow, vi_rsh, e_b0, e_b1, e_b2, e_b3, e_b4, e_b5, e_b6, vi_li1, vi_li2, vi_li3] <;> rfl) ?_
      refine w_while (fun m e => ∃ xs r d4 d5 d6 d7 d8, e = [.int number, .int many, .nd .own .lst (xs.map D.int), .int r, d4, d5, d6, d7, d8] ∧ xs.length + m = many ∧ Spr xs ∧ 0 ≤ r ∧ r < 1000000000) ?_ (m := many - xs.length) ⟨xs, _, _, _, _, _, _, rfl, by omega, h3, by omega, by omega⟩ (by omega)
      rintro m env ⟨xs, r, d4, d5, d6, d7, d8, rfl, h2, h3, h4, h5⟩
      refine ⟨decide ((xs.length : Int) < many), _, (by simp -implicitDefEqProofs (decide := true) only [S.sem, e_nop, e_lit, e_loc, e_glb, e_bin, e_cmp, e_cm2, e_cmK, e_bop, e_and, e_or, e_one, e_anK, e_orK, e_anM, e_orM, e_not, e_noK, e_tru, e_tb, e_ti, e_tl, e_tt, e_tn, e_neg, e_neK, e_ife, e_ifK, e_tup, e_lst, e_ix, e_slc, e_call, e_blt, e_isi, e_comp, e_l0, e_l1, e_ixl, e_ixt, e_at, e_ixn, e_ixm, e_tyb1, e_tyb2, e_tyi1, e_tyi2, e_isn1, e_isn2, e_isn3, e_isn4, e_isn5, e_isb, e_eqni, e_eqin, vi_lb, vi_lm, vi_lc, vi_lbs, vi_lms, vi_lcs, vi_g0, vi_g1, vi_g2, vi_g3, vi_g4, vi_g5, vi_g6, vi_ti, vi_tb, vi_ts, vi_tn, vi_td, vi_tags0, vi_tags1, vi_tagsI, vi_tagsS, vi_tagsB, vi_allsI, vi_allsS, vi_allsB, vi_ai, vi_ab, vi_as, vi_an, vi_ad, vi_alls0, vi_alls1, vi_cl,
    vi_add, vi_sub, vi_mulr, vi_mull, vi_div, vi_mod, vi_lt, vi_le, vi_gt, vi_ge, vi_eqi, vi_nei, vi_eqb, vi_neb, vi_eqs, vi_nes, vi_lenl, vi_lent, vi_abs, vi_min, vi_max, vi_dm, vi_nm, vi_tp, vi_no, vi_app, vi_upd0, vi_upe, vi_fz0, vi_fz1, vi_fz2, vi_fz3, vi_go0, vi_go1, vi_pl0, vi_t1, vi_t2, vi_t3, vi_t4, vi_t5, vi_t6, vi_frz, vi_fn, vi_cst,
    R.bind_ok, R.of_some, Option.map_some, Option.bind_some, List.getElem?_cons_zero, List.getElem?_cons_succ, List.set_cons_zero, List.set_cons_succ, List.length_cons, List.length_nil, List.length_map, List.all_cons, List.all_nil, Bool.and_true, Bool.true_and, Bool.or_true, Bool.true_or, Bool.or_false, Bool.false_or, Bool.and_self, if_true, ite_true, reduceIte, Nat.reduceAdd, Nat.reduceSub, Nat.reduceMul, Nat.reduceLT, Nat.reduceLeDiff, Nat.reduceEqDiff, Int.reduceLT, Int.reduceLE, Int.reduceAdd, Int.reduceSub, Int.reduceMul, Int.reduceNeg, Int.reducePow, Int.reduceToNat, Int.natAbs_natCast, Nat.lt_add_one, decide_true, decide_false, Nat.zero_lt_succ, List.map_cons, List.map_nil, vi_y1, vi_y2, vi_y3, vi_y4, vi_y5, vi_seen, vi_cd, vi_old, vi_o1, vi_o2, vi_b1, vi_b2, vi_b3, vi_b4, vi_b5, vi_pow, vi_rsh, e_b0, e_b1, e_b2, e_b3, e_b4, e_b5, e_b6, vi_li1, vi_li2, vi_li3] <;> rfl), fun hk => ?_, fun hk => ?_⟩
      · have hk := of_decide_eq_false hk
        exact w_ret (by simp -implicitDefEqProofs (decide := true) only [S.sem, e_nop, e_lit, e_loc, e_glb, e_bin, e_cmp, e_cm2, e_cmK, e_bop, e_and, e_or, e_one, e_anK, e_orK, e_anM, e_orM, e_not, e_noK, e_tru, e_tb, e_ti, e_tl, e_tt, e_tn, e_neg, e_neK, e_ife, e_ifK, e_tup, e_lst, e_ix, e_slc, e_call, e_blt, e_isi, e_comp, e_l0, e_l1, e_ixl, e_ixt, e_at, e_ixn, e_ixm, e_tyb1, e_tyb2, e_tyi1, e_tyi2, e_isn1, e_isn2, e_isn3, e_isn4, e_isn5, e_isb, e_eqni, e_eqin, vi_lb, vi_lm, vi_lc, vi_lbs, vi_lms, vi_lcs, vi_g0, vi_g1, vi_g2, vi_g3, vi_g4, vi_g5, vi_g6, vi_ti, vi_tb, vi_ts, vi_tn, vi_td, vi_tags0, vi_tags1, vi_tagsI, vi_tagsS, vi_tagsB, vi_allsI, vi_allsS, vi_allsB, vi_ai, vi_ab, vi_as, vi_an, vi_ad, vi_alls0, vi_alls1, vi_cl,
    vi_add, vi_sub, vi_mulr, vi_mull, vi_div, vi_mod, vi_lt, vi_le, vi_gt, vi_ge, vi_eqi, vi_nei, vi_eqb, vi_neb, vi_eqs, vi_nes, vi_lenl, vi_lent, vi_abs, vi_min, vi_max, vi_dm, vi_nm, vi_tp, vi_no, vi_app, vi_upd0, vi_upe, vi_fz0, vi_fz1, vi_fz2, vi_fz3, vi_go0, vi_go1, vi_pl0, vi_t1, vi_t2, vi_t3, vi_t4, vi_t5, vi_t6, vi_frz, vi_fn, vi_cst,
    R.bind_ok, R.of_some, Option.map_some, Option.bind_some, List.getElem?_cons_zero, List.getElem?_cons_succ, List.set_cons_zero, List.set_cons_succ, List.length_cons, List.length_nil, List.length_map, List.all_cons, List.all_nil, Bool.and_true, Bool.true_and, Bool.or_true, Bool.true_or, Bool.or_false, Bool.false_or, Bool.and_self, if_true, ite_true, reduceIte, Nat.reduceAdd, Nat.reduceSub, Nat.reduceMul, Nat.reduceLT, Nat.reduceLeDiff, Nat.reduceEqDiff, Int.reduceLT, Int.reduceLE, Int.reduceAdd, Int.reduceSub, Int.reduceMul, Int.reduceNeg, Int.reducePow, Int.reduceToNat, Int.natAbs_natCast, Nat.lt_add_one, decide_true, decide_false, Nat.zero_lt_succ, List.map_cons, List.map_nil, vi_y1, vi_y2, vi_y3, vi_y4, vi_y5, vi_seen, vi_cd, vi_old, vi_o1, vi_o2, vi_b1, vi_b2, vi_b3, vi_b4, vi_b5, vi_pow, vi_rsh, e_b0, e_b1, e_b2, e_b3, e_b4, e_b5, e_b6, vi_li1, vi_li2, vi_li3] <;> rfl) ⟨xs, by omega, h3, rfl⟩
      · have hk := of_decide_eq_true hk
        refine w_loop (vals := [.int 2]) (fun i e => ∃ r d5 d7 d8, e = [.int number, .int many, .nd .own .lst (xs.map D.int), .int r, d4, d5, d6, d7, d8] ∧ 0 ≤ r ∧ r < 1000000000) rfl rfl (rng1 (by decide) (by decide)) ⟨r, _, _, _, rfl, h4, h5⟩ ?_ ?_
        · rintro i env d hd ⟨r, d5, d7, d8, rfl, h4, h5⟩
          obtain ⟨hi, rfl⟩ := rng_item hd
          refine ⟨rfl, _, rfl, ?_⟩
          refine w_step (by simp -implicitDefEqProofs (decide := true) only [S.sem, e_nop, e_lit, e_loc, e_glb, e_bin, e_cmp, e_cm2, e_cmK, e_bop, e_and, e_or, e_one, e_anK, e_orK, e_anM, e_orM, e_not, e_noK, e_tru, e_tb, e_ti, e_tl, e_tt, e_tn, e_neg, e_neK, e_ife, e_ifK, e_tup, e_lst, e_ix, e_slc, e_call, e_blt, e_isi, e_comp, e_l0, e_l1, e_ixl, e_ixt, e_at, e_ixn, e_ixm, e_tyb1, e_tyb2, e_tyi1, e_tyi2, e_isn1, e_isn2, e_isn3, e_isn4, e_isn5, e_isb, e_eqni, e_eqin, vi_lb, vi_lm, vi_lc, vi_lbs, vi_lms, vi_lcs, vi_g0, vi_g1, vi_g2, vi_g3, vi_g4, vi_g5, vi_g6, vi_ti, vi_tb, vi_ts, vi_tn, vi_td, vi_tags0, vi_tags1, vi_tagsI, vi_tagsS, vi_tagsB, vi_allsI, vi_allsS, vi_allsB, vi_ai, vi_ab, vi_as, vi_an, vi_ad, vi_alls0, vi_alls1, vi_cl,
    vi_add, vi_sub, vi_mulr, vi_mull, vi_div, vi_mod, vi_lt, vi_le, vi_gt, vi_ge, vi_eqi, vi_nei, vi_eqb, vi_neb, vi_eqs, vi_nes, vi_lenl, vi_lent, vi_abs, vi_min, vi_max, vi_dm, vi_nm, vi_tp, vi_no, vi_app, vi_upd0, vi_upe, vi_fz0, vi_fz1, vi_fz2, vi_fz3, vi_go0, vi_go1, vi_pl0, vi_t1, vi_t2, vi_t3, vi_t4, vi_t5, vi_t6, vi_frz, vi_fn, vi_cst,
    R.bind_ok, R.of_some, Option.map_some, Option.bind_some, List.getElem?_cons_zero, List.getElem?_cons_succ, List.set_cons_zero, List.set_cons_succ, List.length_cons, List.length_nil, List.length_map, List.all_cons, List.all_nil, Bool.and_true, Bool.true_and, Bool.or_true, Bool.true_or, Bool.or_false, Bool.false_or, Bool.and_self, if_true, ite_true, reduceIte, Nat.reduceAdd, Nat.reduceSub, Nat.reduceMul, Nat.reduceLT, Nat.reduceLeDiff, Nat.reduceEqDiff, Int.reduceLT, Int.reduceLE, Int.reduceAdd, Int.reduceSub, Int.reduceMul, Int.reduceNeg, Int.reducePow, Int.reduceToNat, Int.natAbs_natCast, Nat.lt_add_one, decide_true, decide_false, Nat.zero_lt_succ, List.map_cons, List.map_nil, vi_y1, vi_y2, vi_y3, vi_y4, vi_y5, vi_seen, vi_cd, vi_old, vi_o1, vi_o2, vi_b1, vi_b2, vi_b3, vi_b4, vi_b5, vi_pow, vi_rsh, e_b0, e_b1, e_b2, e_b3, e_b4, e_b5, e_b6, vi_li1, vi_li2, vi_li3] <;> rfl) ?_
          refine w_step (by simp -implicitDefEqProofs (decide := true) only [S.sem, e_nop, e_lit, e_loc, e_glb, e_bin, e_cmp, e_cm2, e_cmK, e_bop, e_and, e_or, e_one, e_anK, e_orK, e_anM, e_orM, e_not, e_noK, e_tru, e_tb, e_ti, e_tl, e_tt, e_tn, e_neg, e_neK, e_ife, e_ifK, e_tup, e_lst, e_ix, e_slc, e_call, e_blt, e_isi, e_comp, e_l0, e_l1, e_ixl, e_ixt, e_at, e_ixn, e_ixm, e_tyb1, e_tyb2, e_tyi1, e_tyi2, e_isn1, e_isn2, e_isn3, e_isn4, e_isn5, e_isb, e_eqni, e_eqin, vi_lb, vi_lm, vi_lc, vi_lbs, vi_lms, vi_lcs, vi_g0, vi_g1, vi_g2, vi_g3, vi_g4, vi_g5, vi_g6, vi_ti, vi_tb, vi_ts, vi_tn, vi_td, vi_tags0, vi_tags1, vi_tagsI, vi_tagsS, vi_tagsB, vi_allsI, vi_allsS, vi_allsB, vi_ai, vi_ab, vi_as, vi_an, vi_ad, vi_alls0, vi_alls1, vi_cl,
    vi_add, vi_sub, vi_mulr, vi_mull, vi_div, vi_mod, vi_lt, vi_le, vi_gt, vi_ge, vi_eqi, vi_nei, vi_eqb, vi_neb, vi_eqs, vi_nes, vi_lenl, vi_lent, vi_abs, vi_min, vi_max, vi_dm, vi_nm, vi_tp, vi_no, vi_app, vi_upd0, vi_upe, vi_fz0, vi_fz1, vi_fz2, vi_fz3, vi_go0, vi_go1, vi_pl0, vi_t1, vi_t2, vi_t3, vi_t4, vi_t5, vi_t6, vi_frz, vi_fn, vi_cst,
    R.bind_ok, R.of_some, Option.map_some, Option.bind_some, List.getElem?_cons_zero, List.getElem?_cons_succ, List.set_cons_zero, List.set_cons_succ, List.length_cons, List.length_nil, List.length_map, List.all_cons, List.all_nil, Bool.and_true, Bool.true_and, Bool.or_true, Bool.true_or, Bool.or_false, Bool.false_or, Bool.and_self, if_true, ite_true, reduceIte, Nat.reduceAdd, Nat.reduceSub, Nat.reduceMul, Nat.reduceLT, Nat.reduceLeDiff, Nat.reduceEqDiff, Int.reduceLT, Int.reduceLE, Int.reduceAdd, Int.reduceSub, Int.reduceMul, Int.reduceNeg, Int.reducePow, Int.reduceToNat, Int.natAbs_natCast, Nat.lt_add_one, decide_true, decide_false, Nat.zero_lt_succ, List.map_cons, List.map_nil, vi_y1, vi_y2, vi_y3, vi_y4, vi_y5, vi_seen, vi_cd, vi_old, vi_o1, vi_o2, vi_b1, vi_b2, vi_b3, vi_b4, vi_b5, vi_pow, vi_rsh, e_b0, e_b1, e_b2, e_b3, e_b4, e_b5, e_b6, vi_li1, vi_li2, vi_li3] <;> rfl) ?_
          refine w_nil ⟨_, _, _, _, rfl, Int.emod_nonneg _ (by decide), ?_⟩
          have := Int.emod_lt_of_pos (r % 4099 * 240007 + r / 4099 * 89 + 1201 * (xs.length : Int) + 11) (b := 998244353) (by decide)
          omega
        · rintro e ⟨r, d5, d7, d8, rfl, h4, h5⟩
          have hlen : (xs.map D.int).length < 16777216 := by rw [List.length_map]; omega
          refine w_step (by simp -implicitDefEqProofs (decide := true) only [S.sem, e_nop, e_lit, e_loc, e_glb, e_bin, e_cmp, e_cm2, e_cmK, e_bop, e_and, e_or, e_one, e_anK, e_orK, e_anM, e_orM, e_not, e_noK, e_tru, e_tb, e_ti, e_tl, e_tt, e_tn, e_neg, e_neK, e_ife, e_ifK, e_tup, e_lst, e_ix, e_slc, e_call, e_blt, e_isi, e_comp, e_l0, e_l1, e_ixl, e_ixt, e_at, e_ixn, e_ixm, e_tyb1, e_tyb2, e_tyi1, e_tyi2, e_isn1, e_isn2, e_isn3, e_isn4, e_isn5, e_isb, e_eqni, e_eqin, vi_lb, vi_lm, vi_lc, vi_lbs, vi_lms, vi_lcs, vi_g0, vi_g1, vi_g2, vi_g3, vi_g4, vi_g5, vi_g6, vi_ti, vi_tb, vi_ts, vi_tn, vi_td, vi_tags0, vi_tags1, vi_tagsI, vi_tagsS, vi_tagsB, vi_allsI, vi_allsS, vi_allsB, vi_ai, vi_ab, vi_as, vi_an, vi_ad, vi_alls0, vi_alls1, vi_cl,
    vi_add, vi_sub, vi_mulr, vi_mull, vi_div, vi_mod, vi_lt, vi_le, vi_gt, vi_ge, vi_eqi, vi_nei, vi_eqb, vi_neb, vi_eqs, vi_nes, vi_lenl, vi_lent, vi_abs, vi_min, vi_max, vi_dm, vi_nm, vi_tp, vi_no, vi_app, vi_upd0, vi_upe, vi_fz0, vi_fz1, vi_fz2, vi_fz3, vi_go0, vi_go1, vi_pl0, vi_t1, vi_t2, vi_t3, vi_t4, vi_t5, vi_t6, vi_frz, vi_fn, vi_cst,
    R.bind_ok, R.of_some, Option.map_some, Option.bind_some, List.getElem?_cons_zero, List.getElem?_cons_succ, List.set_cons_zero, List.set_cons_succ, List.length_cons, List.length_nil, List.length_map, List.all_cons, List.all_nil, Bool.and_true, Bool.true_and, Bool.or_true, Bool.true_or, Bool.or_false, Bool.false_or, Bool.and_self, if_true, ite_true, reduceIte, Nat.reduceAdd, Nat.reduceSub, Nat.reduceMul, Nat.reduceLT, Nat.reduceLeDiff, Nat.reduceEqDiff, Int.reduceLT, Int.reduceLE, Int.reduceAdd, Int.reduceSub, Int.reduceMul, Int.reduceNeg, Int.reducePow, Int.reduceToNat, Int.natAbs_natCast, Nat.lt_add_one, decide_true, decide_false, Nat.zero_lt_succ, List.map_cons, List.map_nil, vi_y1, vi_y2, vi_y3, vi_y4, vi_y5, vi_seen, vi_cd, vi_old, vi_o1, vi_o2, vi_b1, vi_b2, vi_b3, vi_b4, vi_b5, vi_pow, vi_rsh, e_b0, e_b1, e_b2, e_b3, e_b4, e_b5, e_b6, vi_li1, vi_li2, vi_li3, vi_app hlen] <;> rfl) ?_
          refine w_nil ⟨m - 1, by omega, xs ++ [r / 5], _, _, _, _, _, _, by rw [← map_snoc], ?_, h3.snoc (by omega) (by omega), h4, h5⟩
          rw [List.length_append, List.length_singleton]
          omega)
  obtain ⟨r, h1, xs, h2, h3, rfl⟩ := main
  exact ⟨xs, h2, h3, h1⟩
theorem stirred_ok (G : Calls) (cell place : Int) : ∃ r : Int, 0 ≤ r ∧ r < 998244353 ^ 4 ∧ c_law_stirred.call G [.int cell, .int place] = .ok (.int r) := by
  have main := call_rt (d := c_law_stirred) (G := G) (args := [.int cell, .int place]) (Q := fun r => ∃ x : Int, 0 ≤ x ∧ x < 998244353 ^ 4 ∧ r = .int x) rfl (by
    show Wn _ (semSs G c_law_stirred.body [.int cell, .int place, .und, .und, .und, .und, .und])
    unfold c_law_stirred
    refine w_step (by simp -implicitDefEqProofs (decide := true) only [S.sem, e_nop, e_lit, e_loc, e_glb, e_bin, e_cmp, e_cm2, e_cmK, e_bop, e_and, e_or, e_one, e_anK, e_orK, e_anM, e_orM, e_not, e_noK, e_tru, e_tb, e_ti, e_tl, e_tt, e_tn, e_neg, e_neK, e_ife, e_ifK, e_tup, e_lst, e_ix, e_slc, e_call, e_blt, e_isi, e_comp, e_l0, e_l1, e_ixl, e_ixt, e_at, e_ixn, e_ixm, e_tyb1, e_tyb2, e_tyi1, e_tyi2, e_isn1, e_isn2, e_isn3, e_isn4, e_isn5, e_isb, e_eqni, e_eqin, vi_lb, vi_lm, vi_lc, vi_lbs, vi_lms, vi_lcs, vi_g0, vi_g1, vi_g2, vi_g3, vi_g4, vi_g5, vi_g6, vi_ti, vi_tb, vi_ts, vi_tn, vi_td, vi_tags0, vi_tags1, vi_tagsI, vi_tagsS, vi_tagsB, vi_allsI, vi_allsS, vi_allsB, vi_ai, vi_ab, vi_as, vi_an, vi_ad, vi_alls0, vi_alls1, vi_cl,
    vi_add, vi_sub, vi_mulr, vi_mull, vi_div, vi_mod, vi_lt, vi_le, vi_gt, vi_ge, vi_eqi, vi_nei, vi_eqb, vi_neb, vi_eqs, vi_nes, vi_lenl, vi_lent, vi_abs, vi_min, vi_max, vi_dm, vi_nm, vi_tp, vi_no, vi_app, vi_upd0, vi_upe, vi_fz0, vi_fz1, vi_fz2, vi_fz3, vi_go0, vi_go1, vi_pl0, vi_t1, vi_t2, vi_t3, vi_t4, vi_t5, vi_t6, vi_frz, vi_fn, vi_cst,
    R.bind_ok, R.of_some, Option.map_some, Option.bind_some, List.getElem?_cons_zero, List.getElem?_cons_succ, List.set_cons_zero, List.set_cons_succ, List.length_cons, List.length_nil, List.length_map, List.all_cons, List.all_nil, Bool.and_true, Bool.true_and, Bool.or_true, Bool.true_or, Bool.or_false, Bool.false_or, Bool.and_self, if_true, ite_true, reduceIte, Nat.reduceAdd, Nat.reduceSub, Nat.reduceMul, Nat.reduceLT, Nat.reduceLeDiff, Nat.reduceEqDiff, Int.reduceLT, Int.reduceLE, Int.reduceAdd, Int.reduceSub, Int.reduceMul, Int.reduceNeg, Int.reducePow, Int.reduceToNat, Int.natAbs_natCast, Nat.lt_add_one, decide_true, decide_false, Nat.zero_lt_succ, List.map_cons, List.map_nil, vi_y1, vi_y2, vi_y3, vi_y4, vi_y5, vi_seen, vi_cd, vi_old, vi_o1, vi_o2, vi_b1, vi_b2, vi_b3, vi_b4, vi_b5, vi_pow, vi_rsh, e_b0, e_b1, e_b2, e_b3, e_b4, e_b5, e_b6, vi_li1, vi_li2, vi_li3] <;> rfl) ?_
    refine w_step (by simp -implicitDefEqProofs (decide := true) only [S.sem, e_nop, e_lit, e_loc, e_glb, e_bin, e_cmp, e_cm2, e_cmK, e_bop, e_and, e_or, e_one, e_anK, e_orK, e_anM, e_orM, e_not, e_noK, e_tru, e_tb, e_ti, e_tl, e_tt, e_tn, e_neg, e_neK, e_ife, e_ifK, e_tup, e_lst, e_ix, e_slc, e_call, e_blt, e_isi, e_comp, e_l0, e_l1, e_ixl, e_ixt, e_at, e_ixn, e_ixm, e_tyb1, e_tyb2, e_tyi1, e_tyi2, e_isn1, e_isn2, e_isn3, e_isn4, e_isn5, e_isb, e_eqni, e_eqin, vi_lb, vi_lm, vi_lc, vi_lbs, vi_lms, vi_lcs, vi_g0, vi_g1, vi_g2, vi_g3, vi_g4, vi_g5, vi_g6, vi_ti, vi_tb, vi_ts, vi_tn, vi_td, vi_tags0, vi_tags1, vi_tagsI, vi_tagsS, vi_tagsB, vi_allsI, vi_allsS, vi_allsB, vi_ai, vi_ab, vi_as, vi_an, vi_ad, vi_alls0, vi_alls1, vi_cl,
    vi_add, vi_sub, vi_mulr, vi_mull, vi_div, vi_mod, vi_lt, vi_le, vi_gt, vi_ge, vi_eqi, vi_nei, vi_eqb, vi_neb, vi_eqs, vi_nes, vi_lenl, vi_lent, vi_abs, vi_min, vi_max, vi_dm, vi_nm, vi_tp, vi_no, vi_app, vi_upd0, vi_upe, vi_fz0, vi_fz1, vi_fz2, vi_fz3, vi_go0, vi_go1, vi_pl0, vi_t1, vi_t2, vi_t3, vi_t4, vi_t5, vi_t6, vi_frz, vi_fn, vi_cst,
    R.bind_ok, R.of_some, Option.map_some, Option.bind_some, List.getElem?_cons_zero, List.getElem?_cons_succ, List.set_cons_zero, List.set_cons_succ, List.length_cons, List.length_nil, List.length_map, List.all_cons, List.all_nil, Bool.and_true, Bool.true_and, Bool.or_true, Bool.true_or, Bool.or_false, Bool.false_or, Bool.and_self, if_true, ite_true, reduceIte, Nat.reduceAdd, Nat.reduceSub, Nat.reduceMul, Nat.reduceLT, Nat.reduceLeDiff, Nat.reduceEqDiff, Int.reduceLT, Int.reduceLE, Int.reduceAdd, Int.reduceSub, Int.reduceMul, Int.reduceNeg, Int.reducePow, Int.reduceToNat, Int.natAbs_natCast, Nat.lt_add_one, decide_true, decide_false, Nat.zero_lt_succ, List.map_cons, List.map_nil, vi_y1, vi_y2, vi_y3, vi_y4, vi_y5, vi_seen, vi_cd, vi_old, vi_o1, vi_o2, vi_b1, vi_b2, vi_b3, vi_b4, vi_b5, vi_pow, vi_rsh, e_b0, e_b1, e_b2, e_b3, e_b4, e_b5, e_b6, vi_li1, vi_li2, vi_li3] <;> rfl) ?_
    refine w_loop (vals := [.int 4]) (fun i e => ∃ x r d4 d5 d6, e = [.int cell, .int place, .int x, .int r, d4, d5, d6] ∧ 0 ≤ x ∧ x < 998244353 ^ i) rfl rfl (rng1 (by decide) (by decide)) ⟨0, _, _, _, _, rfl, by decide, by decide⟩ ?_ ?_
    · rintro i env d hd ⟨x, r, d4, d5, d6, rfl, h1, h2⟩
      obtain ⟨hi, rfl⟩ := rng_item hd
      refine ⟨rfl, _, rfl, ?_⟩
      refine w_step (by simp -implicitDefEqProofs (decide := true) only [S.sem, e_nop, e_lit, e_loc, e_glb, e_bin, e_cmp, e_cm2, e_cmK, e_bop, e_and, e_or, e_one, e_anK, e_orK, e_anM, e_orM, e_not, e_noK, e_tru, e_tb, e_ti, e_tl, e_tt, e_tn, e_neg, e_neK, e_ife, e_ifK, e_tup, e_lst, e_ix, e_slc, e_call, e_blt, e_isi, e_comp, e_l0, e_l1, e_ixl, e_ixt, e_at, e_ixn, e_ixm, e_tyb1, e_tyb2, e_tyi1, e_tyi2, e_isn1, e_isn2, e_isn3, e_isn4, e_isn5, e_isb, e_eqni, e_eqin, vi_lb, vi_lm, vi_lc, vi_lbs, vi_lms, vi_lcs, vi_g0, vi_g1, vi_g2, vi_g3, vi_g4, vi_g5, vi_g6, vi_ti, vi_tb, vi_ts, vi_tn, vi_td, vi_tags0, vi_tags1, vi_tagsI, vi_tagsS, vi_tagsB, vi_allsI, vi_allsS, vi_allsB, vi_ai, vi_ab, vi_as, vi_an, vi_ad, vi_alls0, vi_alls1, vi_cl,
    vi_add, vi_sub, vi_mulr, vi_mull, vi_div, vi_mod, vi_lt, vi_le, vi_gt, vi_ge, vi_eqi, vi_nei, vi_eqb, vi_neb, vi_eqs, vi_nes, vi_lenl, vi_lent, vi_abs, vi_min, vi_max, vi_dm, vi_nm, vi_tp, vi_no, vi_app, vi_upd0, vi_upe, vi_fz0, vi_fz1, vi_fz2, vi_fz3, vi_go0, vi_go1, vi_pl0, vi_t1, vi_t2, vi_t3, vi_t4, vi_t5, vi_t6, vi_frz, vi_fn, vi_cst,
    R.bind_ok, R.of_some, Option.map_some, Option.bind_some, List.getElem?_cons_zero, List.getElem?_cons_succ, List.set_cons_zero, List.set_cons_succ, List.length_cons, List.length_nil, List.length_map, List.all_cons, List.all_nil, Bool.and_true, Bool.true_and, Bool.or_true, Bool.true_or, Bool.or_false, Bool.false_or, Bool.and_self, if_true, ite_true, reduceIte, Nat.reduceAdd, Nat.reduceSub, Nat.reduceMul, Nat.reduceLT, Nat.reduceLeDiff, Nat.reduceEqDiff, Int.reduceLT, Int.reduceLE, Int.reduceAdd, Int.reduceSub, Int.reduceMul, Int.reduceNeg, Int.reducePow, Int.reduceToNat, Int.natAbs_natCast, Nat.lt_add_one, decide_true, decide_false, Nat.zero_lt_succ, List.map_cons, List.map_nil, vi_y1, vi_y2, vi_y3, vi_y4, vi_y5, vi_seen, vi_cd, vi_old, vi_o1, vi_o2, vi_b1, vi_b2, vi_b3, vi_b4, vi_b5, vi_pow, vi_rsh, e_b0, e_b1, e_b2, e_b3, e_b4, e_b5, e_b6, vi_li1, vi_li2, vi_li3] <;> rfl) ?_
      refine w_step (by simp -implicitDefEqProofs (decide := true) only [S.sem, e_nop, e_lit, e_loc, e_glb, e_bin, e_cmp, e_cm2, e_cmK, e_bop, e_and, e_or, e_one, e_anK, e_orK, e_anM, e_orM, e_not, e_noK, e_tru, e_tb, e_ti, e_tl, e_tt, e_tn, e_neg, e_neK, e_ife, e_ifK, e_tup, e_lst, e_ix, e_slc, e_call, e_blt, e_isi, e_comp, e_l0, e_l1, e_ixl, e_ixt, e_at, e_ixn, e_ixm, e_tyb1, e_tyb2, e_tyi1, e_tyi2, e_isn1, e_isn2, e_isn3, e_isn4, e_isn5, e_isb, e_eqni, e_eqin, vi_lb, vi_lm, vi_lc, vi_lbs, vi_lms, vi_lcs, vi_g0, vi_g1, vi_g2, vi_g3, vi_g4, vi_g5, vi_g6, vi_ti, vi_tb, vi_ts, vi_tn, vi_td, vi_tags0, vi_tags1, vi_tagsI, vi_tagsS, vi_tagsB, vi_allsI, vi_allsS, vi_allsB, vi_ai, vi_ab, vi_as, vi_an, vi_ad, vi_alls0, vi_alls1, vi_cl,
    vi_add, vi_sub, vi_mulr, vi_mull, vi_div, vi_mod, vi_lt, vi_le, vi_gt, vi_ge, vi_eqi, vi_nei, vi_eqb, vi_neb, vi_eqs, vi_nes, vi_lenl, vi_lent, vi_abs, vi_min, vi_max, vi_dm, vi_nm, vi_tp, vi_no, vi_app, vi_upd0, vi_upe, vi_fz0, vi_fz1, vi_fz2, vi_fz3, vi_go0, vi_go1, vi_pl0, vi_t1, vi_t2, vi_t3, vi_t4, vi_t5, vi_t6, vi_frz, vi_fn, vi_cst,
    R.bind_ok, R.of_some, Option.map_some, Option.bind_some, List.getElem?_cons_zero, List.getElem?_cons_succ, List.set_cons_zero, List.set_cons_succ, List.length_cons, List.length_nil, List.length_map, List.all_cons, List.all_nil, Bool.and_true, Bool.true_and, Bool.or_true, Bool.true_or, Bool.or_false, Bool.false_or, Bool.and_self, if_true, ite_true, reduceIte, Nat.reduceAdd, Nat.reduceSub, Nat.reduceMul, Nat.reduceLT, Nat.reduceLeDiff, Nat.reduceEqDiff, Int.reduceLT, Int.reduceLE, Int.reduceAdd, Int.reduceSub, Int.reduceMul, Int.reduceNeg, Int.reducePow, Int.reduceToNat, Int.natAbs_natCast, Nat.lt_add_one, decide_true, decide_false, Nat.zero_lt_succ, List.map_cons, List.map_nil, vi_y1, vi_y2, vi_y3, vi_y4, vi_y5, vi_seen, vi_cd, vi_old, vi_o1, vi_o2, vi_b1, vi_b2, vi_b3, vi_b4, vi_b5, vi_pow, vi_rsh, e_b0, e_b1, e_b2, e_b3, e_b4, e_b5, e_b6, vi_li1, vi_li2, vi_li3] <;> rfl) ?_
      refine w_step (by simp -implicitDefEqProofs (decide := true) only [S.sem, e_nop, e_lit, e_loc, e_glb, e_bin, e_cmp, e_cm2, e_cmK, e_bop, e_and, e_or, e_one, e_anK, e_orK, e_anM, e_orM, e_not, e_noK, e_tru, e_tb, e_ti, e_tl, e_tt, e_tn, e_neg, e_neK, e_ife, e_ifK, e_tup, e_lst, e_ix, e_slc, e_call, e_blt, e_isi, e_comp, e_l0, e_l1, e_ixl, e_ixt, e_at, e_ixn, e_ixm, e_tyb1, e_tyb2, e_tyi1, e_tyi2, e_isn1, e_isn2, e_isn3, e_isn4, e_isn5, e_isb, e_eqni, e_eqin, vi_lb, vi_lm, vi_lc, vi_lbs, vi_lms, vi_lcs, vi_g0, vi_g1, vi_g2, vi_g3, vi_g4, vi_g5, vi_g6, vi_ti, vi_tb, vi_ts, vi_tn, vi_td, vi_tags0, vi_tags1, vi_tagsI, vi_tagsS, vi_tagsB, vi_allsI, vi_allsS, vi_allsB, vi_ai, vi_ab, vi_as, vi_an, vi_ad, vi_alls0, vi_alls1, vi_cl,
    vi_add, vi_sub, vi_mulr, vi_mull, vi_div, vi_mod, vi_lt, vi_le, vi_gt, vi_ge, vi_eqi, vi_nei, vi_eqb, vi_neb, vi_eqs, vi_nes, vi_lenl, vi_lent, vi_abs, vi_min, vi_max, vi_dm, vi_nm, vi_tp, vi_no, vi_app, vi_upd0, vi_upe, vi_fz0, vi_fz1, vi_fz2, vi_fz3, vi_go0, vi_go1, vi_pl0, vi_t1, vi_t2, vi_t3, vi_t4, vi_t5, vi_t6, vi_frz, vi_fn, vi_cst,
    R.bind_ok, R.of_some, Option.map_some, Option.bind_some, List.getElem?_cons_zero, List.getElem?_cons_succ, List.set_cons_zero, List.set_cons_succ, List.length_cons, List.length_nil, List.length_map, List.all_cons, List.all_nil, Bool.and_true, Bool.true_and, Bool.or_true, Bool.true_or, Bool.or_false, Bool.false_or, Bool.and_self, if_true, ite_true, reduceIte, Nat.reduceAdd, Nat.reduceSub, Nat.reduceMul, Nat.reduceLT, Nat.reduceLeDiff, Nat.reduceEqDiff, Int.reduceLT, Int.reduceLE, Int.reduceAdd, Int.reduceSub, Int.reduceMul, Int.reduceNeg, Int.reducePow, Int.reduceToNat, Int.natAbs_natCast, Nat.lt_add_one, decide_true, decide_false, Nat.zero_lt_succ, List.map_cons, List.map_nil, vi_y1, vi_y2, vi_y3, vi_y4, vi_y5, vi_seen, vi_cd, vi_old, vi_o1, vi_o2, vi_b1, vi_b2, vi_b3, vi_b4, vi_b5, vi_pow, vi_rsh, e_b0, e_b1, e_b2, e_b3, e_b4, e_b5, e_b6, vi_li1, vi_li2, vi_li3] <;> rfl) ?_
      have q1 := Int.emod_nonneg (r % 4099 * 240007 + r / 4099 * 89 + 1201 * (i : Int) + 11) (b := 998244353) (by decide)
      have q2 := Int.emod_lt_of_pos (r % 4099 * 240007 + r / 4099 * 89 + 1201 * (i : Int) + 11) (b := 998244353) (by decide)
      refine w_nil ⟨_, _, _, _, _, rfl, by omega, ?_⟩
      rw [Int.pow_succ]
      omega
    · rintro e ⟨x, r, d4, d5, d6, rfl, h1, h2⟩
      exact w_ret (by simp -implicitDefEqProofs (decide := true) only [S.sem, e_nop, e_lit, e_loc, e_glb, e_bin, e_cmp, e_cm2, e_cmK, e_bop, e_and, e_or, e_one, e_anK, e_orK, e_anM, e_orM, e_not, e_noK, e_tru, e_tb, e_ti, e_tl, e_tt, e_tn, e_neg, e_neK, e_ife, e_ifK, e_tup, e_lst, e_ix, e_slc, e_call, e_blt, e_isi, e_comp, e_l0, e_l1, e_ixl, e_ixt, e_at, e_ixn, e_ixm, e_tyb1, e_tyb2, e_tyi1, e_tyi2, e_isn1, e_isn2, e_isn3, e_isn4, e_isn5, e_isb, e_eqni, e_eqin, vi_lb, vi_lm, vi_lc, vi_lbs, vi_lms, vi_lcs, vi_g0, vi_g1, vi_g2, vi_g3, vi_g4, vi_g5, vi_g6, vi_ti, vi_tb, vi_ts, vi_tn, vi_td, vi_tags0, vi_tags1, vi_tagsI, vi_tagsS, vi_tagsB, vi_allsI, vi_allsS, vi_allsB, vi_ai, vi_ab, vi_as, vi_an, vi_ad, vi_alls0, vi_alls1, vi_cl,
    vi_add, vi_sub, vi_mulr, vi_mull, vi_div, vi_mod, vi_lt, vi_le, vi_gt, vi_ge, vi_eqi, vi_nei, vi_eqb, vi_neb, vi_eqs, vi_nes, vi_lenl, vi_lent, vi_abs, vi_min, vi_max, vi_dm, vi_nm, vi_tp, vi_no, vi_app, vi_upd0, vi_upe, vi_fz0, vi_fz1, vi_fz2, vi_fz3, vi_go0, vi_go1, vi_pl0, vi_t1, vi_t2, vi_t3, vi_t4, vi_t5, vi_t6, vi_frz, vi_fn, vi_cst,
    R.bind_ok, R.of_some, Option.map_some, Option.bind_some, List.getElem?_cons_zero, List.getElem?_cons_succ, List.set_cons_zero, List.set_cons_succ, List.length_cons, List.length_nil, List.length_map, List.all_cons, List.all_nil, Bool.and_true, Bool.true_and, Bool.or_true, Bool.true_or, Bool.or_false, Bool.false_or, Bool.and_self, if_true, ite_true, reduceIte, Nat.reduceAdd, Nat.reduceSub, Nat.reduceMul, Nat.reduceLT, Nat.reduceLeDiff, Nat.reduceEqDiff, Int.reduceLT, Int.reduceLE, Int.reduceAdd, Int.reduceSub, Int.reduceMul, Int.reduceNeg, Int.reducePow, Int.reduceToNat, Int.natAbs_natCast, Nat.lt_add_one, decide_true, decide_false, Nat.zero_lt_succ, List.map_cons, List.map_nil, vi_y1, vi_y2, vi_y3, vi_y4, vi_y5, vi_seen, vi_cd, vi_old, vi_o1, vi_o2, vi_b1, vi_b2, vi_b3, vi_b4, vi_b5, vi_pow, vi_rsh, e_b0, e_b1, e_b2, e_b3, e_b4, e_b5, e_b6, vi_li1, vi_li2, vi_li3] <;> rfl) ⟨x, h1, h2, rfl⟩)
  obtain ⟨r, h1, x, h2, h3, rfl⟩ := main
  exact ⟨x, h2, h3, h1⟩
theorem abs_bits {z : Int} (h : PySem.Builtin.Int.intBits z ≤ 1048576) : z.natAbs.log2 < 1048576 := by
  unfold PySem.Builtin.Int.intBits at h
  by_cases e : z = 0
  · subst e; decide
  · rw [if_neg (by simpa using e)] at h
    omega
theorem pow_lt {k c : Nat} (h : 1000000 ^ k ≤ c) (hc : c.log2 < 1048576) : k < 55189 := by
  have h0 : c ≠ 0 := by
    have : 0 < 1000000 ^ k := Nat.pow_pos (by decide)
    omega
  have h1 : 2 ^ (19 * k) ≤ c := by
    rw [Nat.pow_mul]
    exact Nat.le_trans (Nat.pow_le_pow_left (by decide) k) h
  have := (Nat.le_log2 h0).mpr h1
  omega
theorem mul_ok {k : Nat} {x : Int} (h : k ≤ 55189) (h1 : 0 ≤ x) (h2 : x < 998244353 ^ 4) : mulOk ((1000000 : Int) ^ k) x = true := by
  have e1 : ((1000000 : Int) ^ k).natAbs = 1000000 ^ k := by rw [Int.natAbs_pow]; rfl
  have e2 : (1000000 ^ k).log2 < 20 * k + 1 := by
    rw [Nat.log2_lt (Nat.pos_iff_ne_zero.mp (Nat.pow_pos (by decide)))]
    refine Nat.lt_of_le_of_lt (m := 2 ^ (20 * k)) ?_ (Nat.pow_lt_pow_right (by decide) (Nat.lt_succ_self _))
    rw [Nat.pow_mul]
    exact Nat.pow_le_pow_left (by decide) k
  have e3 : x.natAbs.log2 < 120 := by
    by_cases e : x.natAbs = 0
    · rw [e]; decide
    · rw [Nat.log2_lt e]
      have : x.natAbs < 998244353 ^ 4 := by omega
      exact Nat.lt_of_lt_of_le this (by decide)
  have e4 : (1000000 ^ k : Nat).log2 + x.natAbs.log2 < 100000000 := by omega
  unfold mulOk
  rw [e1, decide_eq_true e4, Bool.or_true]
theorem vi_ixi {t : Tag} {xs : List Int} {i : Nat} {x : Int} (h : xs[i]? = some x) : ixV (.nd t .lst (xs.map D.int)) (.int (i : Int)) = some (.int x) := by
  show atI (xs.map D.int) (i : Int) = _
  unfold atI ixN
  obtain ⟨h1, h2⟩ := List.getElem?_eq_some_iff.mp h
  rw [if_pos (by omega), if_pos (by rw [List.length_map]; omega)]
  show (xs.map D.int)[(i : Int).toNat]? = _
  rw [Int.toNat_natCast, List.getElem?_map, h]
  rfl
theorem script_ok {p : Pg} {n : Nat} (hst : ∀ c k : Int, ∃ G', p.fn n "_law_stirred" [.int c, .int k] = c_law_stirred.call G' [.int c, .int k]) (t : Tag) (ns : List Int) (hl : ns.length ≤ 63) (hb : ∀ z ∈ ns, PySem.Builtin.Int.intBits z ≤ 1048576) :
    ∃ ys : List Int, ys.length = ns.length ∧ c_law_stirred_script.call (p.G n) [.nd t .lst (ns.map .int)] = .ok (.nd .own .lst (ys.map .int)) := by
  have main := call_rt (d := c_law_stirred_script) (G := p.G n) (args := [.nd t .lst (ns.map .int)]) (Q := fun r => ∃ ys : List Int, ys.length = ns.length ∧ r = .nd .own .lst (ys.map .int)) rfl (by
    show Wn _ (semSs (p.G n) c_law_stirred_script.body [.nd t .lst (ns.map .int), .und, .und, .und, .und])
    unfold c_law_stirred_script
    refine w_step (by simp -implicitDefEqProofs (decide := true) only [S.sem, e_nop, e_lit, e_loc, e_glb, e_bin, e_cmp, e_cm2, e_cmK, e_bop, e_and, e_or, e_one, e_anK, e_orK, e_anM, e_orM, e_not, e_noK, e_tru, e_tb, e_ti, e_tl, e_tt, e_tn, e_neg, e_neK, e_ife, e_ifK, e_tup, e_lst, e_ix, e_slc, e_call, e_blt, e_isi, e_comp, e_l0, e_l1, e_ixl, e_ixt, e_at, e_ixn, e_ixm, e_tyb1, e_tyb2, e_tyi1, e_tyi2, e_isn1, e_isn2, e_isn3, e_isn4, e_isn5, e_isb, e_eqni, e_eqin, vi_lb, vi_lm, vi_lc, vi_lbs, vi_lms, vi_lcs, vi_g0, vi_g1, vi_g2, vi_g3, vi_g4, vi_g5, vi_g6, vi_ti, vi_tb, vi_ts, vi_tn, vi_td, vi_tags0, vi_tags1, vi_tagsI, vi_tagsS, vi_tagsB, vi_allsI, vi_allsS, vi_allsB, vi_ai, vi_ab, vi_as, vi_an, vi_ad, vi_alls0, vi_alls1, vi_cl,
    vi_add, vi_sub, vi_mulr, vi_mull, vi_div, vi_mod, vi_lt, vi_le, vi_gt, vi_ge, vi_eqi, vi_nei, vi_eqb, vi_neb, vi_eqs, vi_nes, vi_lenl, vi_lent, vi_abs, vi_min, vi_max, vi_dm, vi_nm, vi_tp, vi_no, vi_app, vi_upd0, vi_upe, vi_fz0, vi_fz1, vi_fz2, vi_fz3, vi_go0, vi_go1, vi_pl0, vi_t1, vi_t2, vi_t3, vi_t4, vi_t5, vi_t6, vi_frz, vi_fn, vi_cst,
    R.bind_ok, R.of_some, Option.map_some, Option.bind_some, List.getElem?_cons_zero, List.getElem?_cons_succ, List.set_cons_zero, List.set_cons_succ, List.length_cons, List.length_nil, List.length_map, List.all_cons, List.all_nil, Bool.and_true, Bool.true_and, Bool.or_true, Bool.true_or, Bool.or_false, Bool.false_or, Bool.and_self, if_true, ite_true, reduceIte, Nat.reduceAdd, Nat.reduceSub, Nat.reduceMul, Nat.reduceLT, Nat.reduceLeDiff, Nat.reduceEqDiff, Int.reduceLT, Int.reduceLE, Int.reduceAdd, Int.reduceSub, Int.reduceMul, Int.reduceNeg, Int.reducePow, Int.reduceToNat, Int.natAbs_natCast, Nat.lt_add_one, decide_true, decide_false, Nat.zero_lt_succ, List.map_cons, List.map_nil, vi_y1, vi_y2, vi_y3, vi_y4, vi_y5, vi_seen, vi_cd, vi_old, vi_o1, vi_o2, vi_b1, vi_b2, vi_b3, vi_b4, vi_b5, vi_pow, vi_rsh, e_b0, e_b1, e_b2, e_b3, e_b4, e_b5, e_b6, vi_li1, vi_li2, vi_li3] <;> rfl) ?_
    refine w_loop (vals := [.int ns.length]) (fun i e => ∃ ys d2 d3 d4, e = [.nd t .lst (ns.map .int), .nd .own .lst (ys.map D.int), d2, d3, d4] ∧ ys.length = i) (by
      simp -implicitDefEqProofs (decide := true) only [S.sem, e_nop, e_lit, e_loc, e_glb, e_bin, e_cmp, e_cm2, e_cmK, e_bop, e_and, e_or, e_one, e_anK, e_orK, e_anM, e_orM, e_not, e_noK, e_tru, e_tb, e_ti, e_tl, e_tt, e_tn, e_neg, e_neK, e_ife, e_ifK, e_tup, e_lst, e_ix, e_slc, e_call, e_blt, e_isi, e_comp, e_l0, e_l1, e_ixl, e_ixt, e_at, e_ixn, e_ixm, e_tyb1, e_tyb2, e_tyi1, e_tyi2, e_isn1, e_isn2, e_isn3, e_isn4, e_isn5, e_isb, e_eqni, e_eqin, vi_lb, vi_lm, vi_lc, vi_lbs, vi_lms, vi_lcs, vi_g0, vi_g1, vi_g2, vi_g3, vi_g4, vi_g5, vi_g6, vi_ti, vi_tb, vi_ts, vi_tn, vi_td, vi_tags0, vi_tags1, vi_tagsI, vi_tagsS, vi_tagsB, vi_allsI, vi_allsS, vi_allsB, vi_ai, vi_ab, vi_as, vi_an, vi_ad, vi_alls0, vi_alls1, vi_cl,
    vi_add, vi_sub, vi_mulr, vi_mull, vi_div, vi_mod, vi_lt, vi_le, vi_gt, vi_ge, vi_eqi, vi_nei, vi_eqb, vi_neb, vi_eqs, vi_nes, vi_lenl, vi_lent, vi_abs, vi_min, vi_max, vi_dm, vi_nm, vi_tp, vi_no, vi_app, vi_upd0, vi_upe, vi_fz0, vi_fz1, vi_fz2, vi_fz3, vi_go0, vi_go1, vi_pl0, vi_t1, vi_t2, vi_t3, vi_t4, vi_t5, vi_t6, vi_frz, vi_fn, vi_cst,
    R.bind_ok, R.of_some, Option.map_some, Option.bind_some, List.getElem?_cons_zero, List.getElem?_cons_succ, List.set_cons_zero, List.set_cons_succ, List.length_cons, List.length_nil, List.length_map, List.all_cons, List.all_nil, Bool.and_true, Bool.true_and, Bool.or_true, Bool.true_or, Bool.or_false, Bool.false_or, Bool.and_self, if_true, ite_true, reduceIte, Nat.reduceAdd, Nat.reduceSub, Nat.reduceMul, Nat.reduceLT, Nat.reduceLeDiff, Nat.reduceEqDiff, Int.reduceLT, Int.reduceLE, Int.reduceAdd, Int.reduceSub, Int.reduceMul, Int.reduceNeg, Int.reducePow, Int.reduceToNat, Int.natAbs_natCast, Nat.lt_add_one, decide_true, decide_false, Nat.zero_lt_succ, List.map_cons, List.map_nil, vi_y1, vi_y2, vi_y3, vi_y4, vi_y5, vi_seen, vi_cd, vi_old, vi_o1, vi_o2, vi_b1, vi_b2, vi_b3, vi_b4, vi_b5, vi_pow, vi_rsh, e_b0, e_b1, e_b2, e_b3, e_b4, e_b5, e_b6, vi_li1, vi_li2, vi_li3, if_neg (show ¬ ((64 : Int) < (ns.length : Int)) by omega)]
      rfl) rfl (rng1 (by omega) (by omega)) ⟨[], _, _, _, rfl, rfl⟩ ?_ ?_
    · rintro i env d hd ⟨ys, d2, d3, d4, rfl, h1⟩
      obtain ⟨hi, rfl⟩ := rng_item hd
      rw [Int.toNat_natCast] at hi
      have hx : ns[i]? = some ns[i] := List.getElem?_eq_getElem hi
      have hbx := abs_bits (hb _ (List.getElem_mem hi))
      generalize ns[i] = x at hx hbx
      refine ⟨rfl, _, rfl, ?_⟩
      refine w_step (by simp -implicitDefEqProofs (decide := true) only [S.sem, e_nop, e_lit, e_loc, e_glb, e_bin, e_cmp, e_cm2, e_cmK, e_bop, e_and, e_or, e_one, e_anK, e_orK, e_anM, e_orM, e_not, e_noK, e_tru, e_tb, e_ti, e_tl, e_tt, e_tn, e_neg, e_neK, e_ife, e_ifK, e_tup, e_lst, e_ix, e_slc, e_call, e_blt, e_isi, e_comp, e_l0, e_l1, e_ixl, e_ixt, e_at, e_ixn, e_ixm, e_tyb1, e_tyb2, e_tyi1, e_tyi2, e_isn1, e_isn2, e_isn3, e_isn4, e_isn5, e_isb, e_eqni, e_eqin, vi_lb, vi_lm, vi_lc, vi_lbs, vi_lms, vi_lcs, vi_g0, vi_g1, vi_g2, vi_g3, vi_g4, vi_g5, vi_g6, vi_ti, vi_tb, vi_ts, vi_tn, vi_td, vi_tags0, vi_tags1, vi_tagsI, vi_tagsS, vi_tagsB, vi_allsI, vi_allsS, vi_allsB, vi_ai, vi_ab, vi_as, vi_an, vi_ad, vi_alls0, vi_alls1, vi_cl,
    vi_add, vi_sub, vi_mulr, vi_mull, vi_div, vi_mod, vi_lt, vi_le, vi_gt, vi_ge, vi_eqi, vi_nei, vi_eqb, vi_neb, vi_eqs, vi_nes, vi_lenl, vi_lent, vi_abs, vi_min, vi_max, vi_dm, vi_nm, vi_tp, vi_no, vi_app, vi_upd0, vi_upe, vi_fz0, vi_fz1, vi_fz2, vi_fz3, vi_go0, vi_go1, vi_pl0, vi_t1, vi_t2, vi_t3, vi_t4, vi_t5, vi_t6, vi_frz, vi_fn, vi_cst,
    R.bind_ok, R.of_some, Option.map_some, Option.bind_some, List.getElem?_cons_zero, List.getElem?_cons_succ, List.set_cons_zero, List.set_cons_succ, List.length_cons, List.length_nil, List.length_map, List.all_cons, List.all_nil, Bool.and_true, Bool.true_and, Bool.or_true, Bool.true_or, Bool.or_false, Bool.false_or, Bool.and_self, if_true, ite_true, reduceIte, Nat.reduceAdd, Nat.reduceSub, Nat.reduceMul, Nat.reduceLT, Nat.reduceLeDiff, Nat.reduceEqDiff, Int.reduceLT, Int.reduceLE, Int.reduceAdd, Int.reduceSub, Int.reduceMul, Int.reduceNeg, Int.reducePow, Int.reduceToNat, Int.natAbs_natCast, Nat.lt_add_one, decide_true, decide_false, Nat.zero_lt_succ, List.map_cons, List.map_nil, vi_y1, vi_y2, vi_y3, vi_y4, vi_y5, vi_seen, vi_cd, vi_old, vi_o1, vi_o2, vi_b1, vi_b2, vi_b3, vi_b4, vi_b5, vi_pow, vi_rsh, e_b0, e_b1, e_b2, e_b3, e_b4, e_b5, e_b6, vi_li1, vi_li2, vi_li3, vi_ixi hx] <;> rfl) ?_
      refine w_step (by simp -implicitDefEqProofs (decide := true) only [S.sem, e_nop, e_lit, e_loc, e_glb, e_bin, e_cmp, e_cm2, e_cmK, e_bop, e_and, e_or, e_one, e_anK, e_orK, e_anM, e_orM, e_not, e_noK, e_tru, e_tb, e_ti, e_tl, e_tt, e_tn, e_neg, e_neK, e_ife, e_ifK, e_tup, e_lst, e_ix, e_slc, e_call, e_blt, e_isi, e_comp, e_l0, e_l1, e_ixl, e_ixt, e_at, e_ixn, e_ixm, e_tyb1, e_tyb2, e_tyi1, e_tyi2, e_isn1, e_isn2, e_isn3, e_isn4, e_isn5, e_isb, e_eqni, e_eqin, vi_lb, vi_lm, vi_lc, vi_lbs, vi_lms, vi_lcs, vi_g0, vi_g1, vi_g2, vi_g3, vi_g4, vi_g5, vi_g6, vi_ti, vi_tb, vi_ts, vi_tn, vi_td, vi_tags0, vi_tags1, vi_tagsI, vi_tagsS, vi_tagsB, vi_allsI, vi_allsS, vi_allsB, vi_ai, vi_ab, vi_as, vi_an, vi_ad, vi_alls0, vi_alls1, vi_cl,
    vi_add, vi_sub, vi_mulr, vi_mull, vi_div, vi_mod, vi_lt, vi_le, vi_gt, vi_ge, vi_eqi, vi_nei, vi_eqb, vi_neb, vi_eqs, vi_nes, vi_lenl, vi_lent, vi_abs, vi_min, vi_max, vi_dm, vi_nm, vi_tp, vi_no, vi_app, vi_upd0, vi_upe, vi_fz0, vi_fz1, vi_fz2, vi_fz3, vi_go0, vi_go1, vi_pl0, vi_t1, vi_t2, vi_t3, vi_t4, vi_t5, vi_t6, vi_frz, vi_fn, vi_cst,
    R.bind_ok, R.of_some, Option.map_some, Option.bind_some, List.getElem?_cons_zero, List.getElem?_cons_succ, List.set_cons_zero, List.set_cons_succ, List.length_cons, List.length_nil, List.length_map, List.all_cons, List.all_nil, Bool.and_true, Bool.true_and, Bool.or_true, Bool.true_or, Bool.or_false, Bool.false_or, Bool.and_self, if_true, ite_true, reduceIte, Nat.reduceAdd, Nat.reduceSub, Nat.reduceMul, Nat.reduceLT, Nat.reduceLeDiff, Nat.reduceEqDiff, Int.reduceLT, Int.reduceLE, Int.reduceAdd, Int.reduceSub, Int.reduceMul, Int.reduceNeg, Int.reducePow, Int.reduceToNat, Int.natAbs_natCast, Nat.lt_add_one, decide_true, decide_false, Nat.zero_lt_succ, List.map_cons, List.map_nil, vi_y1, vi_y2, vi_y3, vi_y4, vi_y5, vi_seen, vi_cd, vi_old, vi_o1, vi_o2, vi_b1, vi_b2, vi_b3, vi_b4, vi_b5, vi_pow, vi_rsh, e_b0, e_b1, e_b2, e_b3, e_b4, e_b5, e_b6, vi_li1, vi_li2, vi_li3] <;> rfl) ?_
      have hc : (if x < 0 then -x else x) = (x.natAbs : Int) := by split <;> omega
      rw [hc]
      refine w_while (fun m e => ∃ k, e = [.nd t .lst (ns.map .int), .nd .own .lst (ys.map D.int), .int i, .int x.natAbs, .int (1000000 ^ k)] ∧ k + m = 55189) ?_ (m := 55189) ⟨0, rfl, rfl⟩ (by decide)
      rintro m env ⟨k, rfl, hk⟩
      refine ⟨decide ((1000000 : Int) ^ k ≤ x.natAbs), _, (by simp -implicitDefEqProofs (decide := true) only [S.sem, e_nop, e_lit, e_loc, e_glb, e_bin, e_cmp, e_cm2, e_cmK, e_bop, e_and, e_or, e_one, e_anK, e_orK, e_anM, e_orM, e_not, e_noK, e_tru, e_tb, e_ti, e_tl, e_tt, e_tn, e_neg, e_neK, e_ife, e_ifK, e_tup, e_lst, e_ix, e_slc, e_call, e_blt, e_isi, e_comp, e_l0, e_l1, e_ixl, e_ixt, e_at, e_ixn, e_ixm, e_tyb1, e_tyb2, e_tyi1, e_tyi2, e_isn1, e_isn2, e_isn3, e_isn4, e_isn5, e_isb, e_eqni, e_eqin, vi_lb, vi_lm, vi_lc, vi_lbs, vi_lms, vi_lcs, vi_g0, vi_g1, vi_g2, vi_g3, vi_g4, vi_g5, vi_g6, vi_ti, vi_tb, vi_ts, vi_tn, vi_td, vi_tags0, vi_tags1, vi_tagsI, vi_tagsS, vi_tagsB, vi_allsI, vi_allsS, vi_allsB, vi_ai, vi_ab, vi_as, vi_an, vi_ad, vi_alls0, vi_alls1, vi_cl,
    vi_add, vi_sub, vi_mulr, vi_mull, vi_div, vi_mod, vi_lt, vi_le, vi_gt, vi_ge, vi_eqi, vi_nei, vi_eqb, vi_neb, vi_eqs, vi_nes, vi_lenl, vi_lent, vi_abs, vi_min, vi_max, vi_dm, vi_nm, vi_tp, vi_no, vi_app, vi_upd0, vi_upe, vi_fz0, vi_fz1, vi_fz2, vi_fz3, vi_go0, vi_go1, vi_pl0, vi_t1, vi_t2, vi_t3, vi_t4, vi_t5, vi_t6, vi_frz, vi_fn, vi_cst,
    R.bind_ok, R.of_some, Option.map_some, Option.bind_some, List.getElem?_cons_zero, List.getElem?_cons_succ, List.set_cons_zero, List.set_cons_succ, List.length_cons, List.length_nil, List.length_map, List.all_cons, List.all_nil, Bool.and_true, Bool.true_and, Bool.or_true, Bool.true_or, Bool.or_false, Bool.false_or, Bool.and_self, if_true, ite_true, reduceIte, Nat.reduceAdd, Nat.reduceSub, Nat.reduceMul, Nat.reduceLT, Nat.reduceLeDiff, Nat.reduceEqDiff, Int.reduceLT, Int.reduceLE, Int.reduceAdd, Int.reduceSub, Int.reduceMul, Int.reduceNeg, Int.reducePow, Int.reduceToNat, Int.natAbs_natCast, Nat.lt_add_one, decide_true, decide_false, Nat.zero_lt_succ, List.map_cons, List.map_nil, vi_y1, vi_y2, vi_y3, vi_y4, vi_y5, vi_seen, vi_cd, vi_old, vi_o1, vi_o2, vi_b1, vi_b2, vi_b3, vi_b4, vi_b5, vi_pow, vi_rsh, e_b0, e_b1, e_b2, e_b3, e_b4, e_b5, e_b6, vi_li1, vi_li2, vi_li3] <;> rfl), fun hd => ?_, fun hd => ?_⟩
      · obtain ⟨G', hG⟩ := hst x.natAbs i
        obtain ⟨r, r1, r2, r3⟩ := stirred_ok G' x.natAbs i
        rw [← hG] at r3
        have hlen : (ys.map D.int).length < 16777216 := by rw [List.length_map]; omega
        have hmul := mul_ok (k := k) (x := r) (by omega) r1 r2
        refine w_step (by simp -implicitDefEqProofs (decide := true) only [S.sem, e_nop, e_lit, e_loc, e_glb, e_bin, e_cmp, e_cm2, e_cmK, e_bop, e_and, e_or, e_one, e_anK, e_orK, e_anM, e_orM, e_not, e_noK, e_tru, e_tb, e_ti, e_tl, e_tt, e_tn, e_neg, e_neK, e_ife, e_ifK, e_tup, e_lst, e_ix, e_slc, e_call, e_blt, e_isi, e_comp, e_l0, e_l1, e_ixl, e_ixt, e_at, e_ixn, e_ixm, e_tyb1, e_tyb2, e_tyi1, e_tyi2, e_isn1, e_isn2, e_isn3, e_isn4, e_isn5, e_isb, e_eqni, e_eqin, vi_lb, vi_lm, vi_lc, vi_lbs, vi_lms, vi_lcs, vi_g0, vi_g1, vi_g2, vi_g3, vi_g4, vi_g5, vi_g6, vi_ti, vi_tb, vi_ts, vi_tn, vi_td, vi_tags0, vi_tags1, vi_tagsI, vi_tagsS, vi_tagsB, vi_allsI, vi_allsS, vi_allsB, vi_ai, vi_ab, vi_as, vi_an, vi_ad, vi_alls0, vi_alls1, vi_cl,
    vi_add, vi_sub, vi_mulr, vi_mull, vi_div, vi_mod, vi_lt, vi_le, vi_gt, vi_ge, vi_eqi, vi_nei, vi_eqb, vi_neb, vi_eqs, vi_nes, vi_lenl, vi_lent, vi_abs, vi_min, vi_max, vi_dm, vi_nm, vi_tp, vi_no, vi_app, vi_upd0, vi_upe, vi_fz0, vi_fz1, vi_fz2, vi_fz3, vi_go0, vi_go1, vi_pl0, vi_t1, vi_t2, vi_t3, vi_t4, vi_t5, vi_t6, vi_frz, vi_fn, vi_cst,
    R.bind_ok, R.of_some, Option.map_some, Option.bind_some, List.getElem?_cons_zero, List.getElem?_cons_succ, List.set_cons_zero, List.set_cons_succ, List.length_cons, List.length_nil, List.length_map, List.all_cons, List.all_nil, Bool.and_true, Bool.true_and, Bool.or_true, Bool.true_or, Bool.or_false, Bool.false_or, Bool.and_self, if_true, ite_true, reduceIte, Nat.reduceAdd, Nat.reduceSub, Nat.reduceMul, Nat.reduceLT, Nat.reduceLeDiff, Nat.reduceEqDiff, Int.reduceLT, Int.reduceLE, Int.reduceAdd, Int.reduceSub, Int.reduceMul, Int.reduceNeg, Int.reducePow, Int.reduceToNat, Int.natAbs_natCast, Nat.lt_add_one, decide_true, decide_false, Nat.zero_lt_succ, List.map_cons, List.map_nil, vi_y1, vi_y2, vi_y3, vi_y4, vi_y5, vi_seen, vi_cd, vi_old, vi_o1, vi_o2, vi_b1, vi_b2, vi_b3, vi_b4, vi_b5, vi_pow, vi_rsh, e_b0, e_b1, e_b2, e_b3, e_b4, e_b5, e_b6, vi_li1, vi_li2, vi_li3, r3, vi_mulb hmul, vi_app hlen] <;> rfl) ?_
        refine w_nil ⟨ys ++ [(x.natAbs : Int) + 1000000 ^ k * r], _, _, _, by rw [← map_snoc], ?_⟩
        rw [List.length_append, h1]
        rfl
      · have hd := of_decide_eq_true hd
        have := pow_lt (k := k) (c := x.natAbs) (by
          have : ((1000000 ^ k : Nat) : Int) ≤ (x.natAbs : Int) := by rw [Int.natCast_pow]; exact hd
          exact Int.ofNat_le.mp this) hbx
        refine w_step (by simp -implicitDefEqProofs (decide := true) only [S.sem, e_nop, e_lit, e_loc, e_glb, e_bin, e_cmp, e_cm2, e_cmK, e_bop, e_and, e_or, e_one, e_anK, e_orK, e_anM, e_orM, e_not, e_noK, e_tru, e_tb, e_ti, e_tl, e_tt, e_tn, e_neg, e_neK, e_ife, e_ifK, e_tup, e_lst, e_ix, e_slc, e_call, e_blt, e_isi, e_comp, e_l0, e_l1, e_ixl, e_ixt, e_at, e_ixn, e_ixm, e_tyb1, e_tyb2, e_tyi1, e_tyi2, e_isn1, e_isn2, e_isn3, e_isn4, e_isn5, e_isb, e_eqni, e_eqin, vi_lb, vi_lm, vi_lc, vi_lbs, vi_lms, vi_lcs, vi_g0, vi_g1, vi_g2, vi_g3, vi_g4, vi_g5, vi_g6, vi_ti, vi_tb, vi_ts, vi_tn, vi_td, vi_tags0, vi_tags1, vi_tagsI, vi_tagsS, vi_tagsB, vi_allsI, vi_allsS, vi_allsB, vi_ai, vi_ab, vi_as, vi_an, vi_ad, vi_alls0, vi_alls1, vi_cl,
    vi_add, vi_sub, vi_mulr, vi_mull, vi_div, vi_mod, vi_lt, vi_le, vi_gt, vi_ge, vi_eqi, vi_nei, vi_eqb, vi_neb, vi_eqs, vi_nes, vi_lenl, vi_lent, vi_abs, vi_min, vi_max, vi_dm, vi_nm, vi_tp, vi_no, vi_app, vi_upd0, vi_upe, vi_fz0, vi_fz1, vi_fz2, vi_fz3, vi_go0, vi_go1, vi_pl0, vi_t1, vi_t2, vi_t3, vi_t4, vi_t5, vi_t6, vi_frz, vi_fn, vi_cst,
    R.bind_ok, R.of_some, Option.map_some, Option.bind_some, List.getElem?_cons_zero, List.getElem?_cons_succ, List.set_cons_zero, List.set_cons_succ, List.length_cons, List.length_nil, List.length_map, List.all_cons, List.all_nil, Bool.and_true, Bool.true_and, Bool.or_true, Bool.true_or, Bool.or_false, Bool.false_or, Bool.and_self, if_true, ite_true, reduceIte, Nat.reduceAdd, Nat.reduceSub, Nat.reduceMul, Nat.reduceLT, Nat.reduceLeDiff, Nat.reduceEqDiff, Int.reduceLT, Int.reduceLE, Int.reduceAdd, Int.reduceSub, Int.reduceMul, Int.reduceNeg, Int.reducePow, Int.reduceToNat, Int.natAbs_natCast, Nat.lt_add_one, decide_true, decide_false, Nat.zero_lt_succ, List.map_cons, List.map_nil, vi_y1, vi_y2, vi_y3, vi_y4, vi_y5, vi_seen, vi_cd, vi_old, vi_o1, vi_o2, vi_b1, vi_b2, vi_b3, vi_b4, vi_b5, vi_pow, vi_rsh, e_b0, e_b1, e_b2, e_b3, e_b4, e_b5, e_b6, vi_li1, vi_li2, vi_li3] <;> rfl) ?_
        refine w_nil ⟨m - 1, by omega, k + 1, ?_, by omega⟩
        rw [Int.pow_succ]
    · rintro e ⟨ys, d2, d3, d4, rfl, h1⟩
      rw [List.length_map, List.length_range, Int.toNat_natCast] at h1
      exact w_ret (by simp -implicitDefEqProofs (decide := true) only [S.sem, e_nop, e_lit, e_loc, e_glb, e_bin, e_cmp, e_cm2, e_cmK, e_bop, e_and, e_or, e_one, e_anK, e_orK, e_anM, e_orM, e_not, e_noK, e_tru, e_tb, e_ti, e_tl, e_tt, e_tn, e_neg, e_neK, e_ife, e_ifK, e_tup, e_lst, e_ix, e_slc, e_call, e_blt, e_isi, e_comp, e_l0, e_l1, e_ixl, e_ixt, e_at, e_ixn, e_ixm, e_tyb1, e_tyb2, e_tyi1, e_tyi2, e_isn1, e_isn2, e_isn3, e_isn4, e_isn5, e_isb, e_eqni, e_eqin, vi_lb, vi_lm, vi_lc, vi_lbs, vi_lms, vi_lcs, vi_g0, vi_g1, vi_g2, vi_g3, vi_g4, vi_g5, vi_g6, vi_ti, vi_tb, vi_ts, vi_tn, vi_td, vi_tags0, vi_tags1, vi_tagsI, vi_tagsS, vi_tagsB, vi_allsI, vi_allsS, vi_allsB, vi_ai, vi_ab, vi_as, vi_an, vi_ad, vi_alls0, vi_alls1, vi_cl,
    vi_add, vi_sub, vi_mulr, vi_mull, vi_div, vi_mod, vi_lt, vi_le, vi_gt, vi_ge, vi_eqi, vi_nei, vi_eqb, vi_neb, vi_eqs, vi_nes, vi_lenl, vi_lent, vi_abs, vi_min, vi_max, vi_dm, vi_nm, vi_tp, vi_no, vi_app, vi_upd0, vi_upe, vi_fz0, vi_fz1, vi_fz2, vi_fz3, vi_go0, vi_go1, vi_pl0, vi_t1, vi_t2, vi_t3, vi_t4, vi_t5, vi_t6, vi_frz, vi_fn, vi_cst,
    R.bind_ok, R.of_some, Option.map_some, Option.bind_some, List.getElem?_cons_zero, List.getElem?_cons_succ, List.set_cons_zero, List.set_cons_succ, List.length_cons, List.length_nil, List.length_map, List.all_cons, List.all_nil, Bool.and_true, Bool.true_and, Bool.or_true, Bool.true_or, Bool.or_false, Bool.false_or, Bool.and_self, if_true, ite_true, reduceIte, Nat.reduceAdd, Nat.reduceSub, Nat.reduceMul, Nat.reduceLT, Nat.reduceLeDiff, Nat.reduceEqDiff, Int.reduceLT, Int.reduceLE, Int.reduceAdd, Int.reduceSub, Int.reduceMul, Int.reduceNeg, Int.reducePow, Int.reduceToNat, Int.natAbs_natCast, Nat.lt_add_one, decide_true, decide_false, Nat.zero_lt_succ, List.map_cons, List.map_nil, vi_y1, vi_y2, vi_y3, vi_y4, vi_y5, vi_seen, vi_cd, vi_old, vi_o1, vi_o2, vi_b1, vi_b2, vi_b3, vi_b4, vi_b5, vi_pow, vi_rsh, e_b0, e_b1, e_b2, e_b3, e_b4, e_b5, e_b6, vi_li1, vi_li2, vi_li3] <;> rfl) ⟨ys, h1, rfl⟩)
  obtain ⟨r, h1, ys, h2, rfl⟩ := main
  exact ⟨ys, h2, h1⟩
/-- a comprehension that picks -/
theorem compL_filt {tst : List D → R Bool} {elt : List D → R (D × List D)} {tg : T} {env : List D} {p : D → Bool} {g : D → D} : ∀ {items acc : List D}, (∀ d ∈ items, tg.nown d = true ∧ ∃ e, tg.set d env = .ok e ∧ tst e = .ok (p d) ∧ (p d = true → (g d).clean = true ∧ ∃ e', elt e = .ok (g d, e'))) → acc.length + items.length ≤ 16777216 →
    compL tst elt tg env items acc = .ok (acc ++ (items.filter p).map g)
  | [], acc, _, _ => by rw [compL, List.filter_nil, List.map_nil, List.append_nil]
  | d :: ds, acc, h, hl => by
    obtain ⟨h1, e, h3, h4, h5⟩ := h d List.mem_cons_self
    rw [List.length_cons] at hl
    rw [compL, h1, h3]
    show (R.noexc (tst e)).bind _ = _
    rw [h4]
    cases hp : p d with
    | true =>
      obtain ⟨h2, e', h6⟩ := h5 hp
      show (R.noexc (elt e)).bind _ = _
      rw [h6]
      show (if ((g d).clean && decide (acc.length < 16777216)) = true then _ else _) = _
      rw [if_pos (by rw [h2, Bool.true_and, decide_eq_true_eq]; omega), compL_filt (fun x hx => h x (List.mem_cons_of_mem _ hx)) (by rw [List.length_append, List.length_singleton]; omega), List.filter_cons, hp, if_pos rfl, List.map_cons, List.append_assoc]
      rfl
    | false =>
      show compL tst elt tg env ds acc = _
      rw [compL_filt (fun x hx => h x (List.mem_cons_of_mem _ hx)) (by omega), List.filter_cons, hp, if_neg (by decide)]
theorem comp_ok {G : Calls} {ws : List Nat} {tg : T} {k : Ik} {its cond : List E} {elt : E} {env env0 vals items : List D} (p : D → Bool) (g : D → D) (h1 : semL G its env = .ok (vals, env0)) (h2 : D.alls notBor vals = true) (h3 : ws.all (fun i => (getL env0 i).isNone) = true) (h4 : itemsOf k (D.tags (ownTo G.frz) vals) = some items)
    (h5 : ∀ d ∈ items, tg.nown d = true ∧ ∃ e, tg.set d env0 = .ok e ∧ semC G cond e = .ok (p d) ∧ (p d = true → (g d).clean = true ∧ ∃ e', elt.sem G e = .ok (g d, e'))) (hl : items.length ≤ 16777216) : E.sem G (.comp ws tg k its cond elt) env = .ok (.nd .own .lst ((items.filter p).map g), env0) := by
  rw [e_comp, h1]
  show (if (D.alls notBor vals && ws.all (fun i => (getL env0 i).isNone)) = true then _ else _) = _
  rw [h2, h3, if_pos (by rfl), h4]
  show (compL _ _ tg env0 items []).bind _ = _
  rw [compL_filt (p := p) (g := g) h5 (by rw [List.length_nil]; omega)]
  rfl
end VI

set_option maxHeartbeats 0
namespace K02
open PySem PySem.Spec L2 VI
open PyProof.Rows hiding St

abbrev prg : Program := PySem.Challenge.pw_inkyears_k02_inks
def top (i : Nat) : Stmt := prg.main.body.getD i (.Pass ⟨0, 0, 0, 0⟩)

def d_is_table : Fd where
  N := ["some", "k"]
  np := 1
  body := [
  .ifs (.bop .Or [(.not (.cm2 .LtE .LtE (.lit (.int 1)) (.blt .len [(.loc 0 .bor)]) (.glb "LONGEST"))), (.cmp .Gt (.ix (.loc 0 .bor) (.lit (.int 0))) (.glb "DARKEST")), (.cmp .Lt (.ix (.loc 0 .bor) (.neg (.lit (.int 1)))) (.lit (.int 0)))]) [
    .ret (.lit (.bl false))] [],
  .ret (.blt .all [(.comp [1] (.nm 1) .rng [(.bin .Sub (.blt .len [(.loc 0 .bor)]) (.lit (.int 1)))] [] (.cmp .GtE (.ix (.loc 0 .bor) (.loc 1 .bor)) (.ix (.loc 0 .bor) (.bin .Add (.loc 1 .bor) (.lit (.int 1))))))])]

def d_darkness_at : Fd where
  N := ["table", "age"]
  np := 2
  body := [
  .ret (.ix (.loc 0 .bor) (.blt .min2 [(.loc 1 .bor), (.bin .Sub (.blt .len [(.loc 0 .bor)]) (.lit (.int 1)))]))]

def d_ages_of : Fd where
  N := ["table", "dark", "error", "greatest", "ages", "age"]
  np := 4
  body := [
  .asg (.nm 4) (.comp [5] (.nm 5) .rng [(.bin .Add (.loc 3 .bor) (.lit (.int 1)))] [(.cmp .LtE (.blt .abs [(.bin .Sub (.call "darkness_at" [(.loc 0 .bor), (.loc 5 .bor)]) (.loc 1 .bor))]) (.loc 2 .bor))] (.loc 5 .bor)),
  .frz [4],
  .ifs (.cmp .Eq (.loc 4 .bor) (.lst [])) [
    .ret (.lit .non)] [],
  .ret (.tup [(.ix (.loc 4 .bor) (.lit (.int 0))), (.ix (.loc 4 .bor) (.neg (.lit (.int 1))))])]

def d_law_got : Fd where
  N := ["_law_script", "_law_place", "_law_cell"]
  np := 2
  body := [
  .for (.nm 2) .lst [(.slc (.loc 0 .bor) (.loc 1 .bor) (.bin .Add (.loc 1 .bor) (.lit (.int 1))))] [
    .ret (.blt .abs [(.loc 2 .bor)])],
  .ret (.lit (.int 0))]

def d_law_spread : Fd where
  N := ["_law_number", "_law_many", "_law_found", "_law_rest", "_law_k", "_law_turn", "_law_digits", "_law_upper", "_law_lower"]
  np := 2
  body := [
  .asg (.nm 2) (.lst []),
  .asg (.nm 3) (.bin .FloorDiv (.loc 0 .bor) (.lit (.int 2))),
  .for (.nm 4) .rng [(.bin .Mult (.loc 1 .bor) (.bin .Sub (.lit (.int 1)) (.bin .Mod (.loc 0 .bor) (.lit (.int 2)))))] [
    .asg (.tp [3, 6]) (.blt .divmod [(.loc 3 .bor), (.bin .Pow (.lit (.int 10)) (.lit (.int 9)))]),
    .mut .append 2 [] [(.loc 6 .bor)]],
  .asg (.nm 3) (.bin .Add (.bin .Mod (.loc 3 .bor) (.lit (.int 998244341))) (.lit (.int 5))),
  .whl 1000000000000 (.cmp .Lt (.blt .len [(.loc 2 .bor)]) (.loc 1 .bor)) [
    .for (.nm 5) .rng [(.lit (.int 2))] [
      .asg (.tp [7, 8]) (.blt .divmod [(.loc 3 .bor), (.lit (.int 4099))]),
      .asg (.nm 3) (.bin .Mod (.bin .Add (.bin .Add (.bin .Add (.bin .Mult (.loc 8 .bor) (.lit (.int 240007))) (.bin .Mult (.loc 7 .bor) (.lit (.int 89)))) (.bin .Mult (.lit (.int 1201)) (.blt .len [(.loc 2 .bor)]))) (.lit (.int 11))) (.lit (.int 998244353)))],
    .mut .append 2 [] [(.bin .FloorDiv (.loc 3 .bor) (.lit (.int 5)))]],
  .ret (.loc 2 .mv)]

def d_law_list : Fd where
  N := ["_law_number", "_law_xs", "_law_dark", "_law_found", "_law_fall", "_law_at_here"]
  np := 1
  body := [
  .asg (.nm 1) (.call "_law_spread" [(.loc 0 .bor), (.lit (.int 7))]),
  .frz [1],
  .asg (.nm 2) (.ix (.lst [(.bin .Pow (.lit (.int 10)) (.lit (.int 6))), (.lit (.int 100)), (.bin .Mod (.ix (.loc 1 .bor) (.lit (.int 0))) (.bin .Add (.bin .Pow (.lit (.int 10)) (.lit (.int 6))) (.lit (.int 1))))]) (.bin .Mod (.ix (.loc 1 .bor) (.lit (.int 1))) (.lit (.int 3)))),
  .frz [2],
  .asg (.nm 3) (.lst []),
  .for (.nm 4) .lst [(.call "_law_spread" [(.bin .FloorDiv (.loc 0 .bor) (.lit (.int 5))), (.ix (.lst [(.bin .Add (.lit (.int 1)) (.bin .Mod (.ix (.loc 1 .bor) (.lit (.int 2))) (.lit (.int 61)))), (.lit (.int 60)), (.lit (.int 61)), (.bin .Add (.lit (.int 1)) (.bin .Mod (.ix (.loc 1 .bor) (.lit (.int 2))) (.lit (.int 6))))]) (.bin .Mod (.ix (.loc 1 .bor) (.lit (.int 3))) (.lit (.int 4))))])] [
    .mut .append 3 [] [(.loc 2 .bor)],
    .asg (.nm 2) (.blt .max2 [(.lit (.int 0)), (.bin .Sub (.loc 2 .bor) (.bin .Mod (.loc 4 .bor) (.ix (.lst [(.lit (.int 2)), (.lit (.int 9)), (.lit (.int 40)), (.lit (.int 30011)), (.bin .Add (.bin .Pow (.lit (.int 10)) (.lit (.int 6))) (.lit (.int 1)))]) (.bin .Mod (.ix (.loc 1 .bor) (.lit (.int 4))) (.lit (.int 5))))))])],
  .ifs (.cmp .Eq (.bin .Mod (.ix (.loc 1 .bor) (.lit (.int 5))) (.lit (.int 4))) (.lit (.int 3))) [
    .asg (.nm 5) (.bin .Mod (.ix (.loc 1 .bor) (.lit (.int 6))) (.blt .len [(.loc 3 .bor)])),
    .six 3 [] (.loc 5 .bor) (.ix (.lst [(.bin .Add (.ix (.loc 3 .bor) (.loc 5 .bor)) (.lit (.int 1))), (.bin .Add (.bin .Pow (.lit (.int 10)) (.lit (.int 6))) (.lit (.int 1))), (.neg (.lit (.int 1))), (.bin .Add (.ix (.loc 3 .bor) (.bin .Sub (.loc 5 .bor) (.lit (.int 1)))) (.lit (.int 1)))]) (.bin .Mod (.bin .FloorDiv (.ix (.loc 1 .bor) (.lit (.int 6))) (.lit (.int 61))) (.lit (.int 4))))] [],
  .ret (.loc 3 .mv)]

def d_law_good : Fd where
  N := ["_law_some"]
  np := 1
  body := [
  .ifs (.bop .Or [(.cmp .Lt (.blt .len [(.loc 0 .bor)]) (.lit (.int 1))), (.cmp .Gt (.blt .len [(.loc 0 .bor)]) (.lit (.int 60))), (.cmp .Gt (.blt .max1 [(.loc 0 .bor)]) (.bin .Pow (.lit (.int 10)) (.lit (.int 6)))), (.cmp .Lt (.blt .min1 [(.loc 0 .bor)]) (.lit (.int 0)))]) [
    .ret (.lit (.bl false))] [],
  .ret (.cmp .Eq (.loc 0 .bor) (.rev (.blt .sorted [(.loc 0 .bor)])))]

def d_law_at : Fd where
  N := ["_law_some", "_law_age", "_law_found", "_law_k"]
  np := 2
  body := [
  .asg (.nm 2) (.ix (.loc 0 .bor) (.lit (.int 0))),
  .frz [2],
  .for (.nm 3) .rng [(.blt .min2 [(.bin .Add (.loc 1 .bor) (.lit (.int 1))), (.blt .len [(.loc 0 .bor)])])] [
    .asg (.nm 2) (.ix (.loc 0 .bor) (.loc 3 .bor)),
    .frz [2]],
  .ret (.loc 2 .bor)]

def d_law_ages : Fd where
  N := ["_law_some", "_law_dark", "_law_error", "_law_greatest", "_law_found", "_law_age"]
  np := 4
  body := [
  .asg (.nm 4) (.lst []),
  .for (.nm 5) .rng [(.bin .Add (.loc 3 .bor) (.lit (.int 1)))] [
    .ifs (.cmp .LtE (.blt .abs [(.bin .Sub (.ix (.loc 0 .bor) (.blt .min2 [(.loc 5 .bor), (.bin .Sub (.blt .len [(.loc 0 .bor)]) (.lit (.int 1)))])) (.loc 1 .bor))]) (.loc 2 .bor)) [
      .mut .append 4 [] [(.loc 5 .bor)]] []],
  .ifs (.cmp .Eq (.loc 4 .bor) (.lst [])) [
    .ret (.lit .non)] [],
  .ret (.tup [(.ix (.loc 4 .bor) (.lit (.int 0))), (.ix (.loc 4 .bor) (.neg (.lit (.int 1))))])]

def d_law_told : Fd where
  N := ["_law_found", "_law_due", "_law_age"]
  np := 2
  body := [
  .ifs (.cmp .Is (.loc 1 .bor) (.lit .non)) [
    .ret (.cmp .Is (.loc 0 .bor) (.lit .non))] [],
  .ret (.bop .And [(.isi (.loc 0 .bor) .tuple), (.cmp .Eq (.loc 0 .bor) (.loc 1 .bor)), (.not (.blt .any [(.comp [2] (.nm 2) .lst [(.loc 0 .bor)] [] (.isi (.loc 2 .bor) .bool))]))])]

def d_law_right : Fd where
  N := ["_law_number", "_law_some", "_law_handed", "_law_good_here", "_law_xs", "_law_age", "_law_dark", "_law_error", "_law_greatest"]
  np := 1
  body := [
  .asg (.nm 1) (.call "_law_list" [(.loc 0 .bor)]),
  .frz [1],
  .asg (.nm 2) (.blt .list [(.loc 1 .bor)]),
  .frz [2],
  .asg (.nm 3) (.call "is_table" [(.loc 2 .bor)]),
  .frz [3],
  .ifs (.bop .Or [(.not (.tru (.isi (.loc 3 .bor) .bool))), (.cmp .NotEq (.loc 3 .bor) (.call "_law_good" [(.loc 1 .bor)]))]) [
    .ret (.lit (.bl false))] [],
  .ifs (.not (.tru (.loc 3 .bor))) [
    .ret (.cmp .Eq (.loc 2 .bor) (.loc 1 .bor))] [],
  .asg (.nm 4) (.call "_law_spread" [(.bin .Add (.loc 0 .bor) (.lit (.int 5))), (.lit (.int 6))]),
  .frz [4],
  .for (.nm 5) .lst [(.lst [(.lit (.int 0)), (.bin .Sub (.blt .len [(.loc 1 .bor)]) (.lit (.int 1))), (.blt .len [(.loc 1 .bor)]), (.bin .Mod (.ix (.loc 4 .bor) (.lit (.int 0))) (.lit (.int 70))), (.lit (.int 300))])] [
    .asg (.nm 6) (.call "darkness_at" [(.loc 2 .bor), (.loc 5 .bor)]),
    .frz [6],
    .ifs (.bop .Or [(.not (.tru (.isi (.loc 6 .bor) .int))), (.tru (.isi (.loc 6 .bor) .bool)), (.cmp .NotEq (.loc 6 .bor) (.call "_law_at" [(.loc 1 .bor), (.loc 5 .bor)]))]) [
      .ret (.lit (.bl false))] []],
  .asg (.nm 6) (.bin .Mod (.ix (.loc 4 .bor) (.lit (.int 1))) (.bin .Add (.bin .Pow (.lit (.int 10)) (.lit (.int 6))) (.lit (.int 1)))),
  .ifs (.cmp .Eq (.bin .Mod (.ix (.loc 4 .bor) (.lit (.int 2))) (.lit (.int 2))) (.lit (.int 0))) [
    .asg (.nm 6) (.blt .max2 [(.lit (.int 0)), (.blt .min2 [(.bin .Pow (.lit (.int 10)) (.lit (.int 6))), (.bin .Sub (.bin .Add (.ix (.loc 1 .bor) (.bin .Mod (.ix (.loc 4 .bor) (.lit (.int 3))) (.blt .len [(.loc 1 .bor)]))) (.bin .Mod (.ix (.loc 4 .bor) (.lit (.int 4))) (.lit (.int 5)))) (.lit (.int 2)))])])] [],
  .asg (.nm 7) (.ix (.lst [(.lit (.int 0)), (.lit (.int 1)), (.lit (.int 2)), (.bin .Mod (.ix (.loc 4 .bor) (.lit (.int 4))) (.lit (.int 50))), (.bin .Mod (.ix (.loc 4 .bor) (.lit (.int 4))) (.bin .Add (.bin .Pow (.lit (.int 10)) (.lit (.int 6))) (.lit (.int 1))))]) (.bin .Mod (.ix (.loc 4 .bor) (.lit (.int 5))) (.lit (.int 5)))),
  .frz [7],
  .asg (.nm 8) (.ix (.lst [(.lit (.int 0)), (.lit (.int 300)), (.bin .Mod (.ix (.loc 4 .bor) (.lit (.int 0))) (.lit (.int 301))), (.bin .Sub (.blt .len [(.loc 1 .bor)]) (.lit (.int 1)))]) (.bin .Mod (.bin .FloorDiv (.ix (.loc 4 .bor) (.lit (.int 2))) (.lit (.int 2))) (.lit (.int 4)))),
  .frz [8],
  .ifs (.not (.tru (.call "_law_told" [(.call "ages_of" [(.loc 2 .bor), (.loc 6 .bor), (.loc 7 .bor), (.loc 8 .bor)]), (.call "_law_ages" [(.loc 1 .bor), (.loc 6 .bor), (.loc 7 .bor), (.loc 8 .bor)])]))) [
    .ret (.lit (.bl false))] [],
  .ret (.cmp .Eq (.loc 2 .bor) (.loc 1 .bor))]

def d_law_stirred : Fd where
  N := ["_law_cell", "_law_place", "_law_found", "_law_rest", "_law_turn", "_law_upper", "_law_lower"]
  np := 2
  body := [
  .asg (.nm 2) (.lit (.int 0)),
  .asg (.nm 3) (.bin .Add (.bin .Mod (.bin .Add (.bin .Mod (.loc 0 .bor) (.lit (.int 998244341))) (.bin .Mult (.lit (.int 7919)) (.loc 1 .bor))) (.lit (.int 998244353))) (.lit (.int 3))),
  .for (.nm 4) .rng [(.lit (.int 4))] [
    .asg (.tp [5, 6]) (.blt .divmod [(.loc 3 .bor), (.lit (.int 4099))]),
    .asg (.nm 3) (.bin .Mod (.bin .Add (.bin .Add (.bin .Add (.bin .Mult (.loc 6 .bor) (.lit (.int 240007))) (.bin .Mult (.loc 5 .bor) (.lit (.int 89)))) (.bin .Mult (.lit (.int 1201)) (.loc 4 .bor))) (.lit (.int 11))) (.lit (.int 998244353))),
    .asg (.nm 2) (.bin .Add (.bin .Mult (.loc 2 .bor) (.lit (.int 998244353))) (.loc 3 .bor))],
  .ret (.loc 2 .bor)]

def d_law_stirred_script : Fd where
  N := ["_law_script", "_law_found", "_law_k", "_law_cell", "_law_power"]
  np := 1
  body := [
  .asg (.nm 1) (.lst []),
  .for (.nm 2) .rng [(.blt .min2 [(.blt .len [(.loc 0 .bor)]), (.lit (.int 64))])] [
    .asg (.nm 3) (.blt .abs [(.ix (.loc 0 .bor) (.loc 2 .bor))]),
    .asg (.nm 4) (.lit (.int 1)),
    .whl 1000000000000 (.cmp .LtE (.loc 4 .bor) (.loc 3 .bor)) [
      .asg (.nm 4) (.bin .Mult (.loc 4 .bor) (.bin .Pow (.lit (.int 10)) (.lit (.int 6))))],
    .mut .append 1 [] [(.bin .Add (.loc 3 .bor) (.bin .Mult (.loc 4 .bor) (.call "_law_stirred" [(.loc 3 .bor), (.loc 2 .bor)])))]],
  .ret (.loc 1 .mv)]

def d_law : Fd where
  N := ["_law_script", "_law_cell"]
  np := 1
  body := [
  .asg (.nm 0) (.call "_law_stirred_script" [(.loc 0 .bor)]),
  .frz [0],
  .for (.nm 1) .lst [(.bin .Add (.slc (.loc 0 .bor) .nop (.lit (.int 10))) (.lst [(.lit (.int 7))]))] [
    .ifs (.not (.tru (.call "_law_right" [(.blt .abs [(.loc 1 .bor)])]))) [
      .ret (.lit (.bl false))] []],
  .ret (.cmp .Is (.call "is_table" [(.lst [])]) (.lit (.bl false)))]

def lw : Lw where
  top := top
  defs := [
    (⟨"is_table", none, "is_table", 3, 0⟩, d_is_table),
    (⟨"darkness_at", none, "darkness_at", 4, 0⟩, d_darkness_at),
    (⟨"ages_of", none, "ages_of", 5, 0⟩, d_ages_of),
    (⟨"_law_got", none, "_law_got", 7, 0⟩, d_law_got),
    (⟨"_law_spread", none, "_law_spread", 8, 0⟩, d_law_spread),
    (⟨"_law_list", none, "_law_list", 9, 0⟩, d_law_list),
    (⟨"_law_good", none, "_law_good", 10, 0⟩, d_law_good),
    (⟨"_law_at", none, "_law_at", 11, 0⟩, d_law_at),
    (⟨"_law_ages", none, "_law_ages", 12, 0⟩, d_law_ages),
    (⟨"_law_told", none, "_law_told", 13, 0⟩, d_law_told),
    (⟨"_law_right", none, "_law_right", 14, 0⟩, d_law_right),
    (⟨"_law_stirred", none, "_law_stirred", 15, 0⟩, d_law_stirred),
    (⟨"_law_stirred_script", none, "_law_stirred_script", 16, 0⟩, d_law_stirred_script),
    (⟨"law", none, "law", 17, 0⟩, d_law)]
  inis := [
    ]
  cs := []
  ci := [("DARKEST", 1000000),
    ("LONGEST", 60)]
  dc := []
  cls := []
  mro := []
  ini := []
  mts := []
  fld := []
  kls := []
  subs := []

theorem c_d_is_table : lw.chkD (⟨"is_table", none, "is_table", 3, 0⟩, d_is_table) = true := by decide +kernel
theorem c_d_darkness_at : lw.chkD (⟨"darkness_at", none, "darkness_at", 4, 0⟩, d_darkness_at) = true := by decide +kernel
theorem c_d_ages_of : lw.chkD (⟨"ages_of", none, "ages_of", 5, 0⟩, d_ages_of) = true := by decide +kernel
theorem c_d_law_got : lw.chkD (⟨"_law_got", none, "_law_got", 7, 0⟩, d_law_got) = true := by decide +kernel
theorem c_d_law_spread : lw.chkD (⟨"_law_spread", none, "_law_spread", 8, 0⟩, d_law_spread) = true := by decide +kernel
theorem c_d_law_list : lw.chkD (⟨"_law_list", none, "_law_list", 9, 0⟩, d_law_list) = true := by decide +kernel
theorem c_d_law_good : lw.chkD (⟨"_law_good", none, "_law_good", 10, 0⟩, d_law_good) = true := by decide +kernel
theorem c_d_law_at : lw.chkD (⟨"_law_at", none, "_law_at", 11, 0⟩, d_law_at) = true := by decide +kernel
theorem c_d_law_ages : lw.chkD (⟨"_law_ages", none, "_law_ages", 12, 0⟩, d_law_ages) = true := by decide +kernel
theorem c_d_law_told : lw.chkD (⟨"_law_told", none, "_law_told", 13, 0⟩, d_law_told) = true := by decide +kernel
theorem c_d_law_right : lw.chkD (⟨"_law_right", none, "_law_right", 14, 0⟩, d_law_right) = true := by decide +kernel
theorem c_d_law_stirred : lw.chkD (⟨"_law_stirred", none, "_law_stirred", 15, 0⟩, d_law_stirred) = true := by decide +kernel
theorem c_d_law_stirred_script : lw.chkD (⟨"_law_stirred_script", none, "_law_stirred_script", 16, 0⟩, d_law_stirred_script) = true := by decide +kernel
theorem c_d_law : lw.chkD (⟨"law", none, "law", 17, 0⟩, d_law) = true := by decide +kernel
theorem b_d_is_table : lw.BoundE ⟨"is_table", none, "is_table", 3, 0⟩ (d_is_table.N.take d_is_table.np) := fun _ _ _ F => F.bindsN fun _ _ _ _ _ _ us hl => match us, hl with | [_], _ => rfl
theorem b_d_darkness_at : lw.BoundE ⟨"darkness_at", none, "darkness_at", 4, 0⟩ (d_darkness_at.N.take d_darkness_at.np) := fun _ _ _ F => F.bindsN fun _ _ _ _ _ _ us hl => match us, hl with | [_, _], _ => rfl
theorem b_d_ages_of : lw.BoundE ⟨"ages_of", none, "ages_of", 5, 0⟩ (d_ages_of.N.take d_ages_of.np) := fun _ _ _ F => F.bindsN fun _ _ _ _ _ _ us hl => match us, hl with | [_, _, _, _], _ => rfl
theorem b_d_law_got : lw.BoundE ⟨"_law_got", none, "_law_got", 7, 0⟩ (d_law_got.N.take d_law_got.np) := fun _ _ _ F => F.bindsN fun _ _ _ _ _ _ us hl => match us, hl with | [_, _], _ => rfl
theorem b_d_law_spread : lw.BoundE ⟨"_law_spread", none, "_law_spread", 8, 0⟩ (d_law_spread.N.take d_law_spread.np) := fun _ _ _ F => F.bindsN fun _ _ _ _ _ _ us hl => match us, hl with | [_, _], _ => rfl
theorem b_d_law_list : lw.BoundE ⟨"_law_list", none, "_law_list", 9, 0⟩ (d_law_list.N.take d_law_list.np) := fun _ _ _ F => F.bindsN fun _ _ _ _ _ _ us hl => match us, hl with | [_], _ => rfl
theorem b_d_law_good : lw.BoundE ⟨"_law_good", none, "_law_good", 10, 0⟩ (d_law_good.N.take d_law_good.np) := fun _ _ _ F => F.bindsN fun _ _ _ _ _ _ us hl => match us, hl with | [_], _ => rfl
theorem b_d_law_at : lw.BoundE ⟨"_law_at", none, "_law_at", 11, 0⟩ (d_law_at.N.take d_law_at.np) := fun _ _ _ F => F.bindsN fun _ _ _ _ _ _ us hl => match us, hl with | [_, _], _ => rfl
theorem b_d_law_ages : lw.BoundE ⟨"_law_ages", none, "_law_ages", 12, 0⟩ (d_law_ages.N.take d_law_ages.np) := fun _ _ _ F => F.bindsN fun _ _ _ _ _ _ us hl => match us, hl with | [_, _, _, _], _ => rfl
theorem b_d_law_told : lw.BoundE ⟨"_law_told", none, "_law_told", 13, 0⟩ (d_law_told.N.take d_law_told.np) := fun _ _ _ F => F.bindsN fun _ _ _ _ _ _ us hl => match us, hl with | [_, _], _ => rfl
theorem b_d_law_right : lw.BoundE ⟨"_law_right", none, "_law_right", 14, 0⟩ (d_law_right.N.take d_law_right.np) := fun _ _ _ F => F.bindsN fun _ _ _ _ _ _ us hl => match us, hl with | [_], _ => rfl
theorem b_d_law_stirred : lw.BoundE ⟨"_law_stirred", none, "_law_stirred", 15, 0⟩ (d_law_stirred.N.take d_law_stirred.np) := fun _ _ _ F => F.bindsN fun _ _ _ _ _ _ us hl => match us, hl with | [_, _], _ => rfl
theorem b_d_law_stirred_script : lw.BoundE ⟨"_law_stirred_script", none, "_law_stirred_script", 16, 0⟩ (d_law_stirred_script.N.take d_law_stirred_script.np) := fun _ _ _ F => F.bindsN fun _ _ _ _ _ _ us hl => match us, hl with | [_], _ => rfl
theorem b_d_law : lw.BoundE ⟨"law", none, "law", 17, 0⟩ (d_law.N.take d_law.np) := fun _ _ _ F => F.bindsN fun _ _ _ _ _ _ us hl => match us, hl with | [_], _ => rfl
theorem chk : ∀ p ∈ lw.defs, lw.chkD p = true :=
  List.forall_mem_cons.mpr ⟨c_d_is_table, List.forall_mem_cons.mpr ⟨c_d_darkness_at, List.forall_mem_cons.mpr ⟨c_d_ages_of, List.forall_mem_cons.mpr ⟨c_d_law_got, List.forall_mem_cons.mpr ⟨c_d_law_spread, List.forall_mem_cons.mpr ⟨c_d_law_list, List.forall_mem_cons.mpr ⟨c_d_law_good, List.forall_mem_cons.mpr ⟨c_d_law_at, List.forall_mem_cons.mpr ⟨c_d_law_ages, List.forall_mem_cons.mpr ⟨c_d_law_told, List.forall_mem_cons.mpr ⟨c_d_law_right, List.forall_mem_cons.mpr ⟨c_d_law_stirred, List.forall_mem_cons.mpr ⟨c_d_law_stirred_script, List.forall_mem_cons.mpr ⟨c_d_law, List.forall_mem_nil _⟩⟩⟩⟩⟩⟩⟩⟩⟩⟩⟩⟩⟩⟩
theorem chkI : ∀ p ∈ lw.inis, lw.chkI p = true := fun _ h => by cases h
theorem bnd : ∀ p ∈ lw.defs, lw.BoundE p.1 (p.2.N.take p.2.np) :=
  List.forall_mem_cons.mpr ⟨b_d_is_table, List.forall_mem_cons.mpr ⟨b_d_darkness_at, List.forall_mem_cons.mpr ⟨b_d_ages_of, List.forall_mem_cons.mpr ⟨b_d_law_got, List.forall_mem_cons.mpr ⟨b_d_law_spread, List.forall_mem_cons.mpr ⟨b_d_law_list, List.forall_mem_cons.mpr ⟨b_d_law_good, List.forall_mem_cons.mpr ⟨b_d_law_at, List.forall_mem_cons.mpr ⟨b_d_law_ages, List.forall_mem_cons.mpr ⟨b_d_law_told, List.forall_mem_cons.mpr ⟨b_d_law_right, List.forall_mem_cons.mpr ⟨b_d_law_stirred, List.forall_mem_cons.mpr ⟨b_d_law_stirred_script, List.forall_mem_cons.mpr ⟨b_d_law, List.forall_mem_nil _⟩⟩⟩⟩⟩⟩⟩⟩⟩⟩⟩⟩⟩⟩
theorem bndI : ∀ p ∈ lw.inis, lw.BoundE p.1 (p.2.N.take p.2.np) := fun _ h => by cases h
theorem wf : lw.wf = true := by decide +kernel
theorem bl (K : PySem.W.Frag) (f : Addr) (fd : FuncData) (F : FunD K "law" "law" (defArgs (lw.stE ⟨"law", none, "law", 17, 0⟩)) (defBody (lw.stE ⟨"law", none, "law", 17, 0⟩)) (defScope (lw.stE ⟨"law", none, "law", 17, 0⟩)) [] [] f fd) (s : Shared) (u : Value) : BindsTo s fd ⟨[u], []⟩ [("_law_script", u)] :=
  F.bindsA (ps := ["_law_script"]) (fun _ _ _ _ _ _ us hl => match us, hl with | [_], _ => rfl) s [u] rfl
abbrev R : PySem.W.OpenRow := PySem.W.OpenLaw.row PySem.Challenge.rw_inkyears_k02_inks
abbrev hk : PySem.W.Hook := VI.hookV 5 lw
def ob (s : PySem.W.SharedT) : VI.AlV := VI.obsVG 5 lw (HandSHeadRun.getT s)
theorem ob_eq (s : PySem.W.SharedT) : ob s = hk.obs s.abs := VI.obsVG_eq (HandSHeadRun.getT_eq s)
def loose : List Str := (["DARKEST", "LONGEST", "is_table", "darkness_at", "ages_of", "_law_got", "_law_spread", "_law_list", "_law_good", "_law_at", "_law_ages", "_law_told", "_law_right", "_law_stirred", "_law_stirred_script"] : List Str)
theorem run (w : World) : HandSHeadRun.RunEq R (PySem.W.view R.prog [17]) hk ob 20000 loose w := by
  intro os
  kernel_rfl
def depth : Nat := 20
end K02

set_option maxHeartbeats 4000000
namespace K02
open PySem PySem.Spec L2 VI
theorem f_spread (n : Nat) (number : Int) (many : Nat) (hm : many ≤ 100000) : ∃ xs : List Int, xs.length = many ∧ Spr xs ∧ lw.pg.fn (n + 1) "_law_spread" [.int number, .int many] = .ok (.nd .own .lst (xs.map .int)) := by
  rw [Pg.fn_s (d := c_law_spread) rfl]
  exact spread_ok _ number many hm
/-- the place of an age in a table -/
def dk (xs : List Int) (age : Int) : Int := xs.getD (min age.toNat (xs.length - 1)) 0
theorem at_int {xs : List Int} {i : Int} (h0 : 0 ≤ i) (h1 : i < xs.length) : atI (xs.map D.int) i = some (.int (xs.getD i.toNat 0)) := by
  have hlt : i.toNat < xs.length := by omega
  rw [e_at, e_ixn h0 (by rw [List.length_map]; exact h1)]
  show (xs.map D.int)[i.toNat]? = _
  rw [List.getElem?_map, List.getElem?_eq_getElem hlt, List.getD_eq_getElem?_getD, List.getElem?_eq_getElem hlt]
  rfl
theorem f_dark (n : Nat) (t : Tag) (xs : List Int) (age : Int) (ha : 0 ≤ age) (hx : 1 ≤ xs.length) : lw.pg.fn (n + 1) "darkness_at" [.nd t .lst (xs.map .int), .int age] = .ok (.int (dk xs age)) := by
  rw [Pg.fn_s (d := d_darkness_at) rfl]
  have e : (if (xs.length : Int) - 1 < age then (xs.length : Int) - 1 else age) = ((min age.toNat (xs.length - 1) : Nat) : Int) := by split <;> omega
  have hat := at_int (xs := xs) (i := ((min age.toNat (xs.length - 1) : Nat) : Int)) (by omega) (by omega)
  rw [Int.toNat_natCast] at hat
  obtain ⟨r, h1, rfl⟩ := call_rt (d := d_darkness_at) (G := lw.pg.G n) (args := [.nd t .lst (xs.map .int), .int age]) (Q := fun r => r = .int (dk xs age)) rfl (by
    show Wn _ (semSs _ d_darkness_at.body [.nd t .lst (xs.map .int), .int age])
    unfold d_darkness_at
    exact w_ret (by simp -implicitDefEqProofs (decide := true) only [S.sem, e_nop, e_lit, e_loc, e_glb, e_bin, e_cmp, e_cm2, e_cmK, e_bop, e_and, e_or, e_one, e_anK, e_orK, e_anM, e_orM, e_not, e_noK, e_tru, e_tb, e_ti, e_tl, e_tt, e_tn, e_neg, e_neK, e_ife, e_ifK, e_tup, e_lst, e_ix, e_slc, e_call, e_blt, e_isi, e_comp, e_l0, e_l1, e_ixl, e_ixt, e_at, e_ixn, e_ixm, e_tyb1, e_tyb2, e_tyi1, e_tyi2, e_isn1, e_isn2, e_isn3, e_isn4, e_isn5, e_isb, e_eqni, e_eqin, vi_lb, vi_lm, vi_lc, vi_lbs, vi_lms, vi_lcs, vi_g0, vi_g1, vi_g2, vi_g3, vi_g4, vi_g5, vi_g6, vi_ti, vi_tb, vi_ts, vi_tn, vi_td, vi_tags0, vi_tags1, vi_tagsI, vi_tagsS, vi_tagsB, vi_allsI, vi_allsS, vi_allsB, vi_ai, vi_ab, vi_as, vi_an, vi_ad, vi_alls0, vi_alls1, vi_cl,
    vi_add, vi_sub, vi_mulr, vi_mull, vi_div, vi_mod, vi_lt, vi_le, vi_gt, vi_ge, vi_eqi, vi_nei, vi_eqb, vi_neb, vi_eqs, vi_nes, vi_lenl, vi_lent, vi_abs, vi_min, vi_max, vi_dm, vi_nm, vi_tp, vi_no, vi_app, vi_upd0, vi_upe, vi_fz0, vi_fz1, vi_fz2, vi_fz3, vi_go0, vi_go1, vi_pl0, vi_t1, vi_t2, vi_t3, vi_t4, vi_t5, vi_t6, vi_frz, vi_fn, vi_cst,
    R.bind_ok, R.of_some, Option.map_some, Option.bind_some, List.getElem?_cons_zero, List.getElem?_cons_succ, List.set_cons_zero, List.set_cons_succ, List.length_cons, List.length_nil, List.length_map, List.all_cons, List.all_nil, Bool.and_true, Bool.true_and, Bool.or_true, Bool.true_or, Bool.or_false, Bool.false_or, Bool.and_self, if_true, ite_true, reduceIte, Nat.reduceAdd, Nat.reduceSub, Nat.reduceMul, Nat.reduceLT, Nat.reduceLeDiff, Nat.reduceEqDiff, Int.reduceLT, Int.reduceLE, Int.reduceAdd, Int.reduceSub, Int.reduceMul, Int.reduceNeg, Int.reducePow, Int.reduceToNat, Int.natAbs_natCast, Nat.lt_add_one, decide_true, decide_false, Nat.zero_lt_succ, List.map_cons, List.map_nil, vi_y1, vi_y2, vi_y3, vi_y4, vi_y5, vi_seen, vi_cd, vi_old, vi_o1, vi_o2, vi_b1, vi_b2, vi_b3, vi_b4, vi_b5, vi_pow, vi_rsh, e_b0, e_b1, e_b2, e_b3, e_b4, e_b5, e_b6, vi_li1, vi_li2, vi_li3, e, ↓hat] <;> rfl) rfl)
  exact h1
/-- whether numbers are a table -/
def desc (xs : List Int) : Bool := (List.range (xs.length - 1)).all fun k => decide (xs.getD (k + 1) 0 ≤ xs.getD k 0)
def tab (xs : List Int) : Bool := if (!(decide ((1 : Int) ≤ xs.length) && decide ((xs.length : Int) ≤ 60)) || (decide ((1000000 : Int) < xs.getD 0 0) || decide (xs.getD (xs.length - 1) 0 < 0))) = true then false else desc xs
theorem at_neg {xs : List Int} (h : 1 ≤ xs.length) : atI (xs.map D.int) (-1) = some (.int (xs.getD (xs.length - 1) 0)) := by
  have hlt : xs.length - 1 < xs.length := by omega
  rw [e_at, e_ixm (by decide) (by rw [List.length_map]; omega)]
  show (xs.map D.int)[(-1 + (((xs.map D.int).length : Nat) : Int)).toNat]? = _
  rw [show (-1 + (((xs.map D.int).length : Nat) : Int)).toNat = xs.length - 1 by rw [List.length_map]; omega, List.getElem?_map, List.getElem?_eq_getElem hlt, List.getD_eq_getElem?_getD, List.getElem?_eq_getElem hlt]
  rfl
theorem f_table (n : Nat) (t : Tag) (xs : List Int) (hx : xs.length ≤ 100) : lw.pg.fn (n + 1) "is_table" [.nd t .lst (xs.map .int)] = .ok (.bl (tab xs)) := by
  rw [Pg.fn_s (d := d_is_table) rfl]
  have g1 : lw.pg.cst "LONGEST" = some (.int 60) := rfl
  have g2 : lw.pg.cst "DARKEST" = some (.int 1000000) := rfl
  obtain ⟨r, h1, rfl⟩ := call_rt (d := d_is_table) (G := lw.pg.G n) (args := [.nd t .lst (xs.map .int)]) (Q := fun r => r = .bl (tab xs)) rfl (by
    show Wn _ (semSs _ d_is_table.body [.nd t .lst (xs.map .int), .und])
    unfold d_is_table
    by_cases h0 : 1 ≤ xs.length ∧ xs.length ≤ 60
    · have a0 := at_int (xs := xs) (i := 0) (by decide) (by omega)
      have a1 := at_neg h0.1
      refine w_ifr (k := (decide ((1000000 : Int) < xs.getD 0 0) || decide (xs.getD (xs.length - 1) 0 < 0))) (by
        simp -implicitDefEqProofs (decide := true) only [S.sem, e_nop, e_lit, e_loc, e_glb, e_bin, e_cmp, e_cm2, e_cmK, e_bop, e_and, e_or, e_one, e_anK, e_orK, e_anM, e_orM, e_not, e_noK, e_tru, e_tb, e_ti, e_tl, e_tt, e_tn, e_neg, e_neK, e_ife, e_ifK, e_tup, e_lst, e_ix, e_slc, e_call, e_blt, e_isi, e_comp, e_l0, e_l1, e_ixl, e_ixt, e_at, e_ixn, e_ixm, e_tyb1, e_tyb2, e_tyi1, e_tyi2, e_isn1, e_isn2, e_isn3, e_isn4, e_isn5, e_isb, e_eqni, e_eqin, vi_lb, vi_lm, vi_lc, vi_lbs, vi_lms, vi_lcs, vi_g0, vi_g1, vi_g2, vi_g3, vi_g4, vi_g5, vi_g6, vi_ti, vi_tb, vi_ts, vi_tn, vi_td, vi_tags0, vi_tags1, vi_tagsI, vi_tagsS, vi_tagsB, vi_allsI, vi_allsS, vi_allsB, vi_ai, vi_ab, vi_as, vi_an, vi_ad, vi_alls0, vi_alls1, vi_cl,
    vi_add, vi_sub, vi_mulr, vi_mull, vi_div, vi_mod, vi_lt, vi_le, vi_gt, vi_ge, vi_eqi, vi_nei, vi_eqb, vi_neb, vi_eqs, vi_nes, vi_lenl, vi_lent, vi_abs, vi_min, vi_max, vi_dm, vi_nm, vi_tp, vi_no, vi_app, vi_upd0, vi_upe, vi_fz0, vi_fz1, vi_fz2, vi_fz3, vi_go0, vi_go1, vi_pl0, vi_t1, vi_t2, vi_t3, vi_t4, vi_t5, vi_t6, vi_frz, vi_fn, vi_cst,
    R.bind_ok, R.of_some, Option.map_some, Option.bind_some, List.getElem?_cons_zero, List.getElem?_cons_succ, List.set_cons_zero, List.set_cons_succ, List.length_cons, List.length_nil, List.length_map, List.all_cons, List.all_nil, Bool.and_true, Bool.true_and, Bool.or_true, Bool.true_or, Bool.or_false, Bool.false_or, Bool.and_self, if_true, ite_true, reduceIte, Nat.reduceAdd, Nat.reduceSub, Nat.reduceMul, Nat.reduceLT, Nat.reduceLeDiff, Nat.reduceEqDiff, Int.reduceLT, Int.reduceLE, Int.reduceAdd, Int.reduceSub, Int.reduceMul, Int.reduceNeg, Int.reducePow, Int.reduceToNat, Int.natAbs_natCast, Nat.lt_add_one, decide_true, decide_false, Nat.zero_lt_succ, List.map_cons, List.map_nil, vi_y1, vi_y2, vi_y3, vi_y4, vi_y5, vi_seen, vi_cd, vi_old, vi_o1, vi_o2, vi_b1, vi_b2, vi_b3, vi_b4, vi_b5, vi_pow, vi_rsh, e_b0, e_b1, e_b2, e_b3, e_b4, e_b5, e_b6, vi_li1, vi_li2, vi_li3, g1, g2, ↓a0, ↓a1, decide_eq_true (show (1 : Int) ≤ xs.length by omega), decide_eq_true (show (xs.length : Int) ≤ 60 by omega), Bool.not_true, Bool.false_eq_true]
        rfl) (fun hk => ?_) (fun hk => ?_)
      · refine w_ret (by simp -implicitDefEqProofs (decide := true) only [S.sem, e_nop, e_lit, e_loc, e_glb, e_bin, e_cmp, e_cm2, e_cmK, e_bop, e_and, e_or, e_one, e_anK, e_orK, e_anM, e_orM, e_not, e_noK, e_tru, e_tb, e_ti, e_tl, e_tt, e_tn, e_neg, e_neK, e_ife, e_ifK, e_tup, e_lst, e_ix, e_slc, e_call, e_blt, e_isi, e_comp, e_l0, e_l1, e_ixl, e_ixt, e_at, e_ixn, e_ixm, e_tyb1, e_tyb2, e_tyi1, e_tyi2, e_isn1, e_isn2, e_isn3, e_isn4, e_isn5, e_isb, e_eqni, e_eqin, vi_lb, vi_lm, vi_lc, vi_lbs, vi_lms, vi_lcs, vi_g0, vi_g1, vi_g2, vi_g3, vi_g4, vi_g5, vi_g6, vi_ti, vi_tb, vi_ts, vi_tn, vi_td, vi_tags0, vi_tags1, vi_tagsI, vi_tagsS, vi_tagsB, vi_allsI, vi_allsS, vi_allsB, vi_ai, vi_ab, vi_as, vi_an, vi_ad, vi_alls0, vi_alls1, vi_cl,
    vi_add, vi_sub, vi_mulr, vi_mull, vi_div, vi_mod, vi_lt, vi_le, vi_gt, vi_ge, vi_eqi, vi_nei, vi_eqb, vi_neb, vi_eqs, vi_nes, vi_lenl, vi_lent, vi_abs, vi_min, vi_max, vi_dm, vi_nm, vi_tp, vi_no, vi_app, vi_upd0, vi_upe, vi_fz0, vi_fz1, vi_fz2, vi_fz3, vi_go0, vi_go1, vi_pl0, vi_t1, vi_t2, vi_t3, vi_t4, vi_t5, vi_t6, vi_frz, vi_fn, vi_cst,
    R.bind_ok, R.of_some, Option.map_some, Option.bind_some, List.getElem?_cons_zero, List.getElem?_cons_succ, List.set_cons_zero, List.set_cons_succ, List.length_cons, List.length_nil, List.length_map, List.all_cons, List.all_nil, Bool.and_true, Bool.true_and, Bool.or_true, Bool.true_or, Bool.or_false, Bool.false_or, Bool.and_self, if_true, ite_true, reduceIte, Nat.reduceAdd, Nat.reduceSub, Nat.reduceMul, Nat.reduceLT, Nat.reduceLeDiff, Nat.reduceEqDiff, Int.reduceLT, Int.reduceLE, Int.reduceAdd, Int.reduceSub, Int.reduceMul, Int.reduceNeg, Int.reducePow, Int.reduceToNat, Int.natAbs_natCast, Nat.lt_add_one, decide_true, decide_false, Nat.zero_lt_succ, List.map_cons, List.map_nil, vi_y1, vi_y2, vi_y3, vi_y4, vi_y5, vi_seen, vi_cd, vi_old, vi_o1, vi_o2, vi_b1, vi_b2, vi_b3, vi_b4, vi_b5, vi_pow, vi_rsh, e_b0, e_b1, e_b2, e_b3, e_b4, e_b5, e_b6, vi_li1, vi_li2, vi_li3] <;> rfl) ?_
        unfold tab
        rw [hk, Bool.or_true, if_pos rfl]
      · have hs : tab xs = desc xs := by
          unfold tab
          rw [hk, decide_eq_true (show (1 : Int) ≤ xs.length by omega), decide_eq_true (show (xs.length : Int) ≤ 60 by omega)]
          rfl
        have hp := all_compB (G := lw.pg.G n) (ws := [1]) (tg := .nm 1) (k := .rng) (its := [(.bin .Sub (.blt .len [(.loc 0 .bor)]) (.lit (.int 1)))]) (cond := []) (elt := (.cmp .GtE (.ix (.loc 0 .bor) (.loc 1 .bor)) (.ix (.loc 0 .bor) (.bin .Add (.loc 1 .bor) (.lit (.int 1)))))) (env := [.nd t .lst (xs.map .int), .und])
          (fun d => match d with | .int k => decide (xs.getD (k + 1).toNat 0 ≤ xs.getD k.toNat 0) | _ => false) (vals := [.int ((xs.length : Int) - 1)]) (by simp -implicitDefEqProofs (decide := true) only [S.sem, e_nop, e_lit, e_loc, e_glb, e_bin, e_cmp, e_cm2, e_cmK, e_bop, e_and, e_or, e_one, e_anK, e_orK, e_anM, e_orM, e_not, e_noK, e_tru, e_tb, e_ti, e_tl, e_tt, e_tn, e_neg, e_neK, e_ife, e_ifK, e_tup, e_lst, e_ix, e_slc, e_call, e_blt, e_isi, e_comp, e_l0, e_l1, e_ixl, e_ixt, e_at, e_ixn, e_ixm, e_tyb1, e_tyb2, e_tyi1, e_tyi2, e_isn1, e_isn2, e_isn3, e_isn4, e_isn5, e_isb, e_eqni, e_eqin, vi_lb, vi_lm, vi_lc, vi_lbs, vi_lms, vi_lcs, vi_g0, vi_g1, vi_g2, vi_g3, vi_g4, vi_g5, vi_g6, vi_ti, vi_tb, vi_ts, vi_tn, vi_td, vi_tags0, vi_tags1, vi_tagsI, vi_tagsS, vi_tagsB, vi_allsI, vi_allsS, vi_allsB, vi_ai, vi_ab, vi_as, vi_an, vi_ad, vi_alls0, vi_alls1, vi_cl,
    vi_add, vi_sub, vi_mulr, vi_mull, vi_div, vi_mod, vi_lt, vi_le, vi_gt, vi_ge, vi_eqi, vi_nei, vi_eqb, vi_neb, vi_eqs, vi_nes, vi_lenl, vi_lent, vi_abs, vi_min, vi_max, vi_dm, vi_nm, vi_tp, vi_no, vi_app, vi_upd0, vi_upe, vi_fz0, vi_fz1, vi_fz2, vi_fz3, vi_go0, vi_go1, vi_pl0, vi_t1, vi_t2, vi_t3, vi_t4, vi_t5, vi_t6, vi_frz, vi_fn, vi_cst,
    R.bind_ok, R.of_some, Option.map_some, Option.bind_some, List.getElem?_cons_zero, List.getElem?_cons_succ, List.set_cons_zero, List.set_cons_succ, List.length_cons, List.length_nil, List.length_map, List.all_cons, List.all_nil, Bool.and_true, Bool.true_and, Bool.or_true, Bool.true_or, Bool.or_false, Bool.false_or, Bool.and_self, if_true, ite_true, reduceIte, Nat.reduceAdd, Nat.reduceSub, Nat.reduceMul, Nat.reduceLT, Nat.reduceLeDiff, Nat.reduceEqDiff, Int.reduceLT, Int.reduceLE, Int.reduceAdd, Int.reduceSub, Int.reduceMul, Int.reduceNeg, Int.reducePow, Int.reduceToNat, Int.natAbs_natCast, Nat.lt_add_one, decide_true, decide_false, Nat.zero_lt_succ, List.map_cons, List.map_nil, vi_y1, vi_y2, vi_y3, vi_y4, vi_y5, vi_seen, vi_cd, vi_old, vi_o1, vi_o2, vi_b1, vi_b2, vi_b3, vi_b4, vi_b5, vi_pow, vi_rsh, e_b0, e_b1, e_b2, e_b3, e_b4, e_b5, e_b6, vi_li1, vi_li2, vi_li3] <;> rfl) rfl rfl (rng1 (by omega) (by omega)) (fun d hd => by
            obtain ⟨k, hk, rfl⟩ := List.mem_map.mp hd
            rw [List.mem_range] at hk
            have b0 := at_int (xs := xs) (i := (k : Int)) (by omega) (by omega)
            have b1 := at_int (xs := xs) (i := (k : Int) + 1) (by omega) (by omega)
            exact ⟨rfl, _, _, rfl, by rw [semC], (by simp -implicitDefEqProofs (decide := true) only [S.sem, e_nop, e_lit, e_loc, e_glb, e_bin, e_cmp, e_cm2, e_cmK, e_bop, e_and, e_or, e_one, e_anK, e_orK, e_anM, e_orM, e_not, e_noK, e_tru, e_tb, e_ti, e_tl, e_tt, e_tn, e_neg, e_neK, e_ife, e_ifK, e_tup, e_lst, e_ix, e_slc, e_call, e_blt, e_isi, e_comp, e_l0, e_l1, e_ixl, e_ixt, e_at, e_ixn, e_ixm, e_tyb1, e_tyb2, e_tyi1, e_tyi2, e_isn1, e_isn2, e_isn3, e_isn4, e_isn5, e_isb, e_eqni, e_eqin, vi_lb, vi_lm, vi_lc, vi_lbs, vi_lms, vi_lcs, vi_g0, vi_g1, vi_g2, vi_g3, vi_g4, vi_g5, vi_g6, vi_ti, vi_tb, vi_ts, vi_tn, vi_td, vi_tags0, vi_tags1, vi_tagsI, vi_tagsS, vi_tagsB, vi_allsI, vi_allsS, vi_allsB, vi_ai, vi_ab, vi_as, vi_an, vi_ad, vi_alls0, vi_alls1, vi_cl,
    vi_add, vi_sub, vi_mulr, vi_mull, vi_div, vi_mod, vi_lt, vi_le, vi_gt, vi_ge, vi_eqi, vi_nei, vi_eqb, vi_neb, vi_eqs, vi_nes, vi_lenl, vi_lent, vi_abs, vi_min, vi_max, vi_dm, vi_nm, vi_tp, vi_no, vi_app, vi_upd0, vi_upe, vi_fz0, vi_fz1, vi_fz2, vi_fz3, vi_go0, vi_go1, vi_pl0, vi_t1, vi_t2, vi_t3, vi_t4, vi_t5, vi_t6, vi_frz, vi_fn, vi_cst,
    R.bind_ok, R.of_some, Option.map_some, Option.bind_some, List.getElem?_cons_zero, List.getElem?_cons_succ, List.set_cons_zero, List.set_cons_succ, List.length_cons, List.length_nil, List.length_map, List.all_cons, List.all_nil, Bool.and_true, Bool.true_and, Bool.or_true, Bool.true_or, Bool.or_false, Bool.false_or, Bool.and_self, if_true, ite_true, reduceIte, Nat.reduceAdd, Nat.reduceSub, Nat.reduceMul, Nat.reduceLT, Nat.reduceLeDiff, Nat.reduceEqDiff, Int.reduceLT, Int.reduceLE, Int.reduceAdd, Int.reduceSub, Int.reduceMul, Int.reduceNeg, Int.reducePow, Int.reduceToNat, Int.natAbs_natCast, Nat.lt_add_one, decide_true, decide_false, Nat.zero_lt_succ, List.map_cons, List.map_nil, vi_y1, vi_y2, vi_y3, vi_y4, vi_y5, vi_seen, vi_cd, vi_old, vi_o1, vi_o2, vi_b1, vi_b2, vi_b3, vi_b4, vi_b5, vi_pow, vi_rsh, e_b0, e_b1, e_b2, e_b3, e_b4, e_b5, e_b6, vi_li1, vi_li2, vi_li3, ↓b0, ↓b1] <;> rfl)⟩) (by rw [List.length_map, List.length_range]; omega)
        refine w_ret (ret_of hp rfl) ?_
        rw [hs]
        unfold desc
        congr 1
        rw [List.all_map, show ((xs.length : Int) - 1).toNat = xs.length - 1 by omega]
        rfl
    · have hb : (decide ((1 : Int) ≤ xs.length) && decide ((xs.length : Int) ≤ 60)) = false := by
        rw [Bool.and_eq_false_iff, decide_eq_false_iff_not, decide_eq_false_iff_not]
        omega
      refine w_ite (k := true) (by
        simp -implicitDefEqProofs (decide := true) only [S.sem, e_nop, e_lit, e_loc, e_glb, e_bin, e_cmp, e_cm2, e_cmK, e_bop, e_and, e_or, e_one, e_anK, e_orK, e_anM, e_orM, e_not, e_noK, e_tru, e_tb, e_ti, e_tl, e_tt, e_tn, e_neg, e_neK, e_ife, e_ifK, e_tup, e_lst, e_ix, e_slc, e_call, e_blt, e_isi, e_comp, e_l0, e_l1, e_ixl, e_ixt, e_at, e_ixn, e_ixm, e_tyb1, e_tyb2, e_tyi1, e_tyi2, e_isn1, e_isn2, e_isn3, e_isn4, e_isn5, e_isb, e_eqni, e_eqin, vi_lb, vi_lm, vi_lc, vi_lbs, vi_lms, vi_lcs, vi_g0, vi_g1, vi_g2, vi_g3, vi_g4, vi_g5, vi_g6, vi_ti, vi_tb, vi_ts, vi_tn, vi_td, vi_tags0, vi_tags1, vi_tagsI, vi_tagsS, vi_tagsB, vi_allsI, vi_allsS, vi_allsB, vi_ai, vi_ab, vi_as, vi_an, vi_ad, vi_alls0, vi_alls1, vi_cl,
    vi_add, vi_sub, vi_mulr, vi_mull, vi_div, vi_mod, vi_lt, vi_le, vi_gt, vi_ge, vi_eqi, vi_nei, vi_eqb, vi_neb, vi_eqs, vi_nes, vi_lenl, vi_lent, vi_abs, vi_min, vi_max, vi_dm, vi_nm, vi_tp, vi_no, vi_app, vi_upd0, vi_upe, vi_fz0, vi_fz1, vi_fz2, vi_fz3, vi_go0, vi_go1, vi_pl0, vi_t1, vi_t2, vi_t3, vi_t4, vi_t5, vi_t6, vi_frz, vi_fn, vi_cst,
    R.bind_ok, R.of_some, Option.map_some, Option.bind_some, List.getElem?_cons_zero, List.getElem?_cons_succ, List.set_cons_zero, List.set_cons_succ, List.length_cons, List.length_nil, List.length_map, List.all_cons, List.all_nil, Bool.and_true, Bool.true_and, Bool.or_true, Bool.true_or, Bool.or_false, Bool.false_or, Bool.and_self, if_true, ite_true, reduceIte, Nat.reduceAdd, Nat.reduceSub, Nat.reduceMul, Nat.reduceLT, Nat.reduceLeDiff, Nat.reduceEqDiff, Int.reduceLT, Int.reduceLE, Int.reduceAdd, Int.reduceSub, Int.reduceMul, Int.reduceNeg, Int.reducePow, Int.reduceToNat, Int.natAbs_natCast, Nat.lt_add_one, decide_true, decide_false, Nat.zero_lt_succ, List.map_cons, List.map_nil, vi_y1, vi_y2, vi_y3, vi_y4, vi_y5, vi_seen, vi_cd, vi_old, vi_o1, vi_o2, vi_b1, vi_b2, vi_b3, vi_b4, vi_b5, vi_pow, vi_rsh, e_b0, e_b1, e_b2, e_b3, e_b4, e_b5, e_b6, vi_li1, vi_li2, vi_li3, g1, g2, hb, Bool.not_false]
        rfl) (fun _ => ?_) (fun q => by cases q)
      refine w_ret (by simp -implicitDefEqProofs (decide := true) only [S.sem, e_nop, e_lit, e_loc, e_glb, e_bin, e_cmp, e_cm2, e_cmK, e_bop, e_and, e_or, e_one, e_anK, e_orK, e_anM, e_orM, e_not, e_noK, e_tru, e_tb, e_ti, e_tl, e_tt, e_tn, e_neg, e_neK, e_ife, e_ifK, e_tup, e_lst, e_ix, e_slc, e_call, e_blt, e_isi, e_comp, e_l0, e_l1, e_ixl, e_ixt, e_at, e_ixn, e_ixm, e_tyb1, e_tyb2, e_tyi1, e_tyi2, e_isn1, e_isn2, e_isn3, e_isn4, e_isn5, e_isb, e_eqni, e_eqin, vi_lb, vi_lm, vi_lc, vi_lbs, vi_lms, vi_lcs, vi_g0, vi_g1, vi_g2, vi_g3, vi_g4, vi_g5, vi_g6, vi_ti, vi_tb, vi_ts, vi_tn, vi_td, vi_tags0, vi_tags1, vi_tagsI, vi_tagsS, vi_tagsB, vi_allsI, vi_allsS, vi_allsB, vi_ai, vi_ab, vi_as, vi_an, vi_ad, vi_alls0, vi_alls1, vi_cl,
    vi_add, vi_sub, vi_mulr, vi_mull, vi_div, vi_mod, vi_lt, vi_le, vi_gt, vi_ge, vi_eqi, vi_nei, vi_eqb, vi_neb, vi_eqs, vi_nes, vi_lenl, vi_lent, vi_abs, vi_min, vi_max, vi_dm, vi_nm, vi_tp, vi_no, vi_app, vi_upd0, vi_upe, vi_fz0, vi_fz1, vi_fz2, vi_fz3, vi_go0, vi_go1, vi_pl0, vi_t1, vi_t2, vi_t3, vi_t4, vi_t5, vi_t6, vi_frz, vi_fn, vi_cst,
    R.bind_ok, R.of_some, Option.map_some, Option.bind_some, List.getElem?_cons_zero, List.getElem?_cons_succ, List.set_cons_zero, List.set_cons_succ, List.length_cons, List.length_nil, List.length_map, List.all_cons, List.all_nil, Bool.and_true, Bool.true_and, Bool.or_true, Bool.true_or, Bool.or_false, Bool.false_or, Bool.and_self, if_true, ite_true, reduceIte, Nat.reduceAdd, Nat.reduceSub, Nat.reduceMul, Nat.reduceLT, Nat.reduceLeDiff, Nat.reduceEqDiff, Int.reduceLT, Int.reduceLE, Int.reduceAdd, Int.reduceSub, Int.reduceMul, Int.reduceNeg, Int.reducePow, Int.reduceToNat, Int.natAbs_natCast, Nat.lt_add_one, decide_true, decide_false, Nat.zero_lt_succ, List.map_cons, List.map_nil, vi_y1, vi_y2, vi_y3, vi_y4, vi_y5, vi_seen, vi_cd, vi_old, vi_o1, vi_o2, vi_b1, vi_b2, vi_b3, vi_b4, vi_b5, vi_pow, vi_rsh, e_b0, e_b1, e_b2, e_b3, e_b4, e_b5, e_b6, vi_li1, vi_li2, vi_li3] <;> rfl) ?_
      unfold tab
      rw [hb]
      rfl)
  exact h1
end K02

set_option maxHeartbeats 4000000
namespace K02
open PySem PySem.Spec L2 VI
theorem at_of {xs : List Int} {j : Int} (h0 : 0 ≤ j) (h1 : j < xs.length) (P : Int → Prop) (hP : ∀ x ∈ xs, P x) : ∃ v, atI (xs.map D.int) j = some (D.int v) ∧ P v := by
  have hlt : j.toNat < xs.length := by omega
  refine ⟨_, at_int h0 h1, ?_⟩
  rw [List.getD_eq_getElem?_getD, List.getElem?_eq_getElem hlt]
  exact hP _ (List.getElem_mem hlt)
theorem at_any {xs : List Int} {j : Int} (h0 : -(xs.length : Int) ≤ j) (h1 : j < xs.length) : ∃ v, atI (xs.map D.int) j = some (D.int v) := by
  by_cases h : 0 ≤ j
  · exact ⟨_, at_int h h1⟩
  · rw [e_at, e_ixm (by omega) (by rw [List.length_map]; omega)]
    have hlt : (j + ((xs.map D.int).length : Nat)).toNat < xs.length := by rw [List.length_map]; omega
    refine ⟨xs[(j + ((xs.map D.int).length : Nat)).toNat], ?_⟩
    show (xs.map D.int)[(j + ((xs.map D.int).length : Nat)).toNat]? = _
    rw [List.getElem?_map, List.getElem?_eq_getElem hlt]; rfl
theorem seven : ∀ {xs : List Int}, xs.length = 7 → ∃ a b c d e f g, xs = [a, b, c, d, e, f, g]
  | [a, b, c, d, e, f, g], _ => ⟨a, b, c, d, e, f, g, rfl⟩
theorem six6 : ∀ {xs : List Int}, xs.length = 6 → ∃ a b c d e f, xs = [a, b, c, d, e, f]
  | [a, b, c, d, e, f], _ => ⟨a, b, c, d, e, f, rfl⟩
theorem f_list (n : Nat) (number : Int) : ∃ L : List Int, 1 ≤ L.length ∧ L.length ≤ 61 ∧ lw.pg.fn (n + 2) "_law_list" [D.int number] = .ok (.nd .own .lst (L.map D.int)) := by
  rw [Pg.fn_s (d := d_law_list) rfl]
  obtain ⟨xs, hx1, hx2, hx3⟩ := f_spread n number 7 (by decide)
  obtain ⟨x0, x1, x2, x3, x4, x5, x6, rfl⟩ := seven hx1
  have hx3 : lw.pg.fn (n + 1) "_law_spread" [D.int number, D.int 7] = .ok (.nd .own .lst [D.int x0, D.int x1, D.int x2, D.int x3, D.int x4, D.int x5, D.int x6]) := hx3
  obtain ⟨d0, hd0, _⟩ : ∃ v, atI [D.int 1000000, D.int 100, D.int (x0 % 1000001)] (x1 % 3) = some (D.int v) ∧ True := at_of (xs := [1000000, 100, x0 % 1000001]) (by omega) (by show x1 % 3 < 3; omega) (fun _ => True) fun _ _ => trivial
  obtain ⟨m, hm, hm1⟩ : ∃ v, atI [D.int (1 + x2 % 61), D.int 60, D.int 61, D.int (1 + x2 % 6)] (x3 % 4) = some (D.int v) ∧ (1 ≤ v ∧ v ≤ 61) := at_of (xs := [1 + x2 % 61, 60, 61, 1 + x2 % 6]) (by omega) (by show x3 % 4 < 4; omega) (fun v => 1 ≤ v ∧ v ≤ 61) fun v hv => by
    simp only [List.mem_cons, List.not_mem_nil, or_false] at hv
    rcases hv with rfl | rfl | rfl | rfl <;> omega
  obtain ⟨q, hq, hq1⟩ : ∃ v, atI [D.int 2, D.int 9, D.int 40, D.int 30011, D.int 1000001] (x4 % 5) = some (D.int v) ∧ 0 < v := at_of (xs := [2, 9, 40, 30011, 1000001]) (by omega) (by show x4 % 5 < 5; omega) (fun v => 0 < v) fun v hv => by
    simp only [List.mem_cons, List.not_mem_nil, or_false] at hv
    rcases hv with rfl | rfl | rfl | rfl | rfl <;> decide
  obtain ⟨k, rfl⟩ : ∃ k : Nat, m = k := ⟨m.toNat, by omega⟩
  obtain ⟨fs, hf1, hf2, hf3⟩ := f_spread n (number / 5) k (by omega)
  obtain ⟨r, h1, L, hL1, hL2, rfl⟩ := call_rt (d := d_law_list) (G := lw.pg.G (n + 1)) (args := [D.int number]) (Q := fun r => ∃ L : List Int, 1 ≤ L.length ∧ L.length ≤ 61 ∧ r = .nd .own .lst (L.map D.int)) rfl (by
    show Wn _ (semSs _ d_law_list.body [D.int number, .und, .und, .und, .und, .und])
    unfold d_law_list
    refine w_step (by simp -implicitDefEqProofs (decide := true) only [S.sem, e_nop, e_lit, e_loc, e_glb, e_bin, e_cmp, e_cm2, e_cmK, e_bop, e_and, e_or, e_one, e_anK, e_orK, e_anM, e_orM, e_not, e_noK, e_tru, e_tb, e_ti, e_tl, e_tt, e_tn, e_neg, e_neK, e_ife, e_ifK, e_tup, e_lst, e_ix, e_slc, e_call, e_blt, e_isi, e_comp, e_l0, e_l1, e_ixl, e_ixt, e_at, e_ixn, e_ixm, e_tyb1, e_tyb2, e_tyi1, e_tyi2, e_isn1, e_isn2, e_isn3, e_isn4, e_isn5, e_isb, e_eqni, e_eqin, vi_lb, vi_lm, vi_lc, vi_lbs, vi_lms, vi_lcs, vi_g0, vi_g1, vi_g2, vi_g3, vi_g4, vi_g5, vi_g6, vi_ti, vi_tb, vi_ts, vi_tn, vi_td, vi_tags0, vi_tags1, vi_tagsI, vi_tagsS, vi_tagsB, vi_allsI, vi_allsS, vi_allsB, vi_ai, vi_ab, vi_as, vi_an, vi_ad, vi_alls0, vi_alls1, vi_cl,
    vi_add, vi_sub, vi_mulr, vi_mull, vi_div, vi_mod, vi_lt, vi_le, vi_gt, vi_ge, vi_eqi, vi_nei, vi_eqb, vi_neb, vi_eqs, vi_nes, vi_lenl, vi_lent, vi_abs, vi_min, vi_max, vi_dm, vi_nm, vi_tp, vi_no, vi_app, vi_upd0, vi_upe, vi_fz0, vi_fz1, vi_fz2, vi_fz3, vi_go0, vi_go1, vi_pl0, vi_t1, vi_t2, vi_t3, vi_t4, vi_t5, vi_t6, vi_frz, vi_fn, vi_cst,
    R.bind_ok, R.of_some, Option.map_some, Option.bind_some, List.getElem?_cons_zero, List.getElem?_cons_succ, List.set_cons_zero, List.set_cons_succ, List.length_cons, List.length_nil, List.length_map, List.all_cons, List.all_nil, Bool.and_true, Bool.true_and, Bool.or_true, Bool.true_or, Bool.or_false, Bool.false_or, Bool.and_self, if_true, ite_true, reduceIte, Nat.reduceAdd, Nat.reduceSub, Nat.reduceMul, Nat.reduceLT, Nat.reduceLeDiff, Nat.reduceEqDiff, Int.reduceLT, Int.reduceLE, Int.reduceAdd, Int.reduceSub, Int.reduceMul, Int.reduceNeg, Int.reducePow, Int.reduceToNat, Int.natAbs_natCast, Nat.lt_add_one, decide_true, decide_false, Nat.zero_lt_succ, List.map_cons, List.map_nil, vi_y1, vi_y2, vi_y3, vi_y4, vi_y5, vi_seen, vi_cd, vi_old, vi_o1, vi_o2, vi_b1, vi_b2, vi_b3, vi_b4, vi_b5, vi_pow, vi_rsh, e_b0, e_b1, e_b2, e_b3, e_b4, e_b5, e_b6, vi_li1, vi_li2, vi_li3, hx3] <;> rfl) ?_
    refine w_step (by simp -implicitDefEqProofs (decide := true) only [S.sem, e_nop, e_lit, e_loc, e_glb, e_bin, e_cmp, e_cm2, e_cmK, e_bop, e_and, e_or, e_one, e_anK, e_orK, e_anM, e_orM, e_not, e_noK, e_tru, e_tb, e_ti, e_tl, e_tt, e_tn, e_neg, e_neK, e_ife, e_ifK, e_tup, e_lst, e_ix, e_slc, e_call, e_blt, e_isi, e_comp, e_l0, e_l1, e_ixl, e_ixt, e_at, e_ixn, e_ixm, e_tyb1, e_tyb2, e_tyi1, e_tyi2, e_isn1, e_isn2, e_isn3, e_isn4, e_isn5, e_isb, e_eqni, e_eqin, vi_lb, vi_lm, vi_lc, vi_lbs, vi_lms, vi_lcs, vi_g0, vi_g1, vi_g2, vi_g3, vi_g4, vi_g5, vi_g6, vi_ti, vi_tb, vi_ts, vi_tn, vi_td, vi_tags0, vi_tags1, vi_tagsI, vi_tagsS, vi_tagsB, vi_allsI, vi_allsS, vi_allsB, vi_ai, vi_ab, vi_as, vi_an, vi_ad, vi_alls0, vi_alls1, vi_cl,
    vi_add, vi_sub, vi_mulr, vi_mull, vi_div, vi_mod, vi_lt, vi_le, vi_gt, vi_ge, vi_eqi, vi_nei, vi_eqb, vi_neb, vi_eqs, vi_nes, vi_lenl, vi_lent, vi_abs, vi_min, vi_max, vi_dm, vi_nm, vi_tp, vi_no, vi_app, vi_upd0, vi_upe, vi_fz0, vi_fz1, vi_fz2, vi_fz3, vi_go0, vi_go1, vi_pl0, vi_t1, vi_t2, vi_t3, vi_t4, vi_t5, vi_t6, vi_frz, vi_fn, vi_cst,
    R.bind_ok, R.of_some, Option.map_some, Option.bind_some, List.getElem?_cons_zero, List.getElem?_cons_succ, List.set_cons_zero, List.set_cons_succ, List.length_cons, List.length_nil, List.length_map, List.all_cons, List.all_nil, Bool.and_true, Bool.true_and, Bool.or_true, Bool.true_or, Bool.or_false, Bool.false_or, Bool.and_self, if_true, ite_true, reduceIte, Nat.reduceAdd, Nat.reduceSub, Nat.reduceMul, Nat.reduceLT, Nat.reduceLeDiff, Nat.reduceEqDiff, Int.reduceLT, Int.reduceLE, Int.reduceAdd, Int.reduceSub, Int.reduceMul, Int.reduceNeg, Int.reducePow, Int.reduceToNat, Int.natAbs_natCast, Nat.lt_add_one, decide_true, decide_false, Nat.zero_lt_succ, List.map_cons, List.map_nil, vi_y1, vi_y2, vi_y3, vi_y4, vi_y5, vi_seen, vi_cd, vi_old, vi_o1, vi_o2, vi_b1, vi_b2, vi_b3, vi_b4, vi_b5, vi_pow, vi_rsh, e_b0, e_b1, e_b2, e_b3, e_b4, e_b5, e_b6, vi_li1, vi_li2, vi_li3] <;> rfl) ?_
    refine w_step (by simp -implicitDefEqProofs (decide := true) only [S.sem, e_nop, e_lit, e_loc, e_glb, e_bin, e_cmp, e_cm2, e_cmK, e_bop, e_and, e_or, e_one, e_anK, e_orK, e_anM, e_orM, e_not, e_noK, e_tru, e_tb, e_ti, e_tl, e_tt, e_tn, e_neg, e_neK, e_ife, e_ifK, e_tup, e_lst, e_ix, e_slc, e_call, e_blt, e_isi, e_comp, e_l0, e_l1, e_ixl, e_ixt, e_at, e_ixn, e_ixm, e_tyb1, e_tyb2, e_tyi1, e_tyi2, e_isn1, e_isn2, e_isn3, e_isn4, e_isn5, e_isb, e_eqni, e_eqin, vi_lb, vi_lm, vi_lc, vi_lbs, vi_lms, vi_lcs, vi_g0, vi_g1, vi_g2, vi_g3, vi_g4, vi_g5, vi_g6, vi_ti, vi_tb, vi_ts, vi_tn, vi_td, vi_tags0, vi_tags1, vi_tagsI, vi_tagsS, vi_tagsB, vi_allsI, vi_allsS, vi_allsB, vi_ai, vi_ab, vi_as, vi_an, vi_ad, vi_alls0, vi_alls1, vi_cl,
    vi_add, vi_sub, vi_mulr, vi_mull, vi_div, vi_mod, vi_lt, vi_le, vi_gt, vi_ge, vi_eqi, vi_nei, vi_eqb, vi_neb, vi_eqs, vi_nes, vi_lenl, vi_lent, vi_abs, vi_min, vi_max, vi_dm, vi_nm, vi_tp, vi_no, vi_app, vi_upd0, vi_upe, vi_fz0, vi_fz1, vi_fz2, vi_fz3, vi_go0, vi_go1, vi_pl0, vi_t1, vi_t2, vi_t3, vi_t4, vi_t5, vi_t6, vi_frz, vi_fn, vi_cst,
    R.bind_ok, R.of_some, Option.map_some, Option.bind_some, List.getElem?_cons_zero, List.getElem?_cons_succ, List.set_cons_zero, List.set_cons_succ, List.length_cons, List.length_nil, List.length_map, List.all_cons, List.all_nil, Bool.and_true, Bool.true_and, Bool.or_true, Bool.true_or, Bool.or_false, Bool.false_or, Bool.and_self, if_true, ite_true, reduceIte, Nat.reduceAdd, Nat.reduceSub, Nat.reduceMul, Nat.reduceLT, Nat.reduceLeDiff, Nat.reduceEqDiff, Int.reduceLT, Int.reduceLE, Int.reduceAdd, Int.reduceSub, Int.reduceMul, Int.reduceNeg, Int.reducePow, Int.reduceToNat, Int.natAbs_natCast, Nat.lt_add_one, decide_true, decide_false, Nat.zero_lt_succ, List.map_cons, List.map_nil, vi_y1, vi_y2, vi_y3, vi_y4, vi_y5, vi_seen, vi_cd, vi_old, vi_o1, vi_o2, vi_b1, vi_b2, vi_b3, vi_b4, vi_b5, vi_pow, vi_rsh, e_b0, e_b1, e_b2, e_b3, e_b4, e_b5, e_b6, vi_li1, vi_li2, vi_li3, ↓hd0] <;> rfl) ?_
    refine w_step (by simp -implicitDefEqProofs (decide := true) only [S.sem, e_nop, e_lit, e_loc, e_glb, e_bin, e_cmp, e_cm2, e_cmK, e_bop, e_and, e_or, e_one, e_anK, e_orK, e_anM, e_orM, e_not, e_noK, e_tru, e_tb, e_ti, e_tl, e_tt, e_tn, e_neg, e_neK, e_ife, e_ifK, e_tup, e_lst, e_ix, e_slc, e_call, e_blt, e_isi, e_comp, e_l0, e_l1, e_ixl, e_ixt, e_at, e_ixn, e_ixm, e_tyb1, e_tyb2, e_tyi1, e_tyi2, e_isn1, e_isn2, e_isn3, e_isn4, e_isn5, e_isb, e_eqni, e_eqin, vi_lb, vi_lm, vi_lc, vi_lbs, vi_lms, vi_lcs, vi_g0, vi_g1, vi_g2, vi_g3, vi_g4, vi_g5, vi_g6, vi_ti, vi_tb, vi_ts, vi_tn, vi_td, vi_tags0, vi_tags1, vi_tagsI, vi_tagsS, vi_tagsB, vi_allsI, vi_allsS, vi_allsB, vi_ai, vi_ab, vi_as, vi_an, vi_ad, vi_alls0, vi_alls1, vi_cl,
    vi_add, vi_sub, vi_mulr, vi_mull, vi_div, vi_mod, vi_lt, vi_le, vi_gt, vi_ge, vi_eqi, vi_nei, vi_eqb, vi_neb, vi_eqs, vi_nes, vi_lenl, vi_lent, vi_abs, vi_min, vi_max, vi_dm, vi_nm, vi_tp, vi_no, vi_app, vi_upd0, vi_upe, vi_fz0, vi_fz1, vi_fz2, vi_fz3, vi_go0, vi_go1, vi_pl0, vi_t1, vi_t2, vi_t3, vi_t4, vi_t5, vi_t6, vi_frz, vi_fn, vi_cst,
    R.bind_ok, R.of_some, Option.map_some, Option.bind_some, List.getElem?_cons_zero, List.getElem?_cons_succ, List.set_cons_zero, List.set_cons_succ, List.length_cons, List.length_nil, List.length_map, List.all_cons, List.all_nil, Bool.and_true, Bool.true_and, Bool.or_true, Bool.true_or, Bool.or_false, Bool.false_or, Bool.and_self, if_true, ite_true, reduceIte, Nat.reduceAdd, Nat.reduceSub, Nat.reduceMul, Nat.reduceLT, Nat.reduceLeDiff, Nat.reduceEqDiff, Int.reduceLT, Int.reduceLE, Int.reduceAdd, Int.reduceSub, Int.reduceMul, Int.reduceNeg, Int.reducePow, Int.reduceToNat, Int.natAbs_natCast, Nat.lt_add_one, decide_true, decide_false, Nat.zero_lt_succ, List.map_cons, List.map_nil, vi_y1, vi_y2, vi_y3, vi_y4, vi_y5, vi_seen, vi_cd, vi_old, vi_o1, vi_o2, vi_b1, vi_b2, vi_b3, vi_b4, vi_b5, vi_pow, vi_rsh, e_b0, e_b1, e_b2, e_b3, e_b4, e_b5, e_b6, vi_li1, vi_li2, vi_li3] <;> rfl) ?_
    refine w_step (by simp -implicitDefEqProofs (decide := true) only [S.sem, e_nop, e_lit, e_loc, e_glb, e_bin, e_cmp, e_cm2, e_cmK, e_bop, e_and, e_or, e_one, e_anK, e_orK, e_anM, e_orM, e_not, e_noK, e_tru, e_tb, e_ti, e_tl, e_tt, e_tn, e_neg, e_neK, e_ife, e_ifK, e_tup, e_lst, e_ix, e_slc, e_call, e_blt, e_isi, e_comp, e_l0, e_l1, e_ixl, e_ixt, e_at, e_ixn, e_ixm, e_tyb1, e_tyb2, e_tyi1, e_tyi2, e_isn1, e_isn2, e_isn3, e_isn4, e_isn5, e_isb, e_eqni, e_eqin, vi_lb, vi_lm, vi_lc, vi_lbs, vi_lms, vi_lcs, vi_g0, vi_g1, vi_g2, vi_g3, vi_g4, vi_g5, vi_g6, vi_ti, vi_tb, vi_ts, vi_tn, vi_td, vi_tags0, vi_tags1, vi_tagsI, vi_tagsS, vi_tagsB, vi_allsI, vi_allsS, vi_allsB, vi_ai, vi_ab, vi_as, vi_an, vi_ad, vi_alls0, vi_alls1, vi_cl,
    vi_add, vi_sub, vi_mulr, vi_mull, vi_div, vi_mod, vi_lt, vi_le, vi_gt, vi_ge, vi_eqi, vi_nei, vi_eqb, vi_neb, vi_eqs, vi_nes, vi_lenl, vi_lent, vi_abs, vi_min, vi_max, vi_dm, vi_nm, vi_tp, vi_no, vi_app, vi_upd0, vi_upe, vi_fz0, vi_fz1, vi_fz2, vi_fz3, vi_go0, vi_go1, vi_pl0, vi_t1, vi_t2, vi_t3, vi_t4, vi_t5, vi_t6, vi_frz, vi_fn, vi_cst,
    R.bind_ok, R.of_some, Option.map_some, Option.bind_some, List.getElem?_cons_zero, List.getElem?_cons_succ, List.set_cons_zero, List.set_cons_succ, List.length_cons, List.length_nil, List.length_map, List.all_cons, List.all_nil, Bool.and_true, Bool.true_and, Bool.or_true, Bool.true_or, Bool.or_false, Bool.false_or, Bool.and_self, if_true, ite_true, reduceIte, Nat.reduceAdd, Nat.reduceSub, Nat.reduceMul, Nat.reduceLT, Nat.reduceLeDiff, Nat.reduceEqDiff, Int.reduceLT, Int.reduceLE, Int.reduceAdd, Int.reduceSub, Int.reduceMul, Int.reduceNeg, Int.reducePow, Int.reduceToNat, Int.natAbs_natCast, Nat.lt_add_one, decide_true, decide_false, Nat.zero_lt_succ, List.map_cons, List.map_nil, vi_y1, vi_y2, vi_y3, vi_y4, vi_y5, vi_seen, vi_cd, vi_old, vi_o1, vi_o2, vi_b1, vi_b2, vi_b3, vi_b4, vi_b5, vi_pow, vi_rsh, e_b0, e_b1, e_b2, e_b3, e_b4, e_b5, e_b6, vi_li1, vi_li2, vi_li3] <;> rfl) ?_
    refine w_loop (vals := [.nd .own .lst (fs.map D.int)]) (fun i e => ∃ dk L d4, e = [D.int number, .nd .new .lst [D.int x0, D.int x1, D.int x2, D.int x3, D.int x4, D.int x5, D.int x6], D.int dk, .nd .own .lst (L.map D.int), d4, .und] ∧ L.length = i) (by simp -implicitDefEqProofs (decide := true) only [S.sem, e_nop, e_lit, e_loc, e_glb, e_bin, e_cmp, e_cm2, e_cmK, e_bop, e_and, e_or, e_one, e_anK, e_orK, e_anM, e_orM, e_not, e_noK, e_tru, e_tb, e_ti, e_tl, e_tt, e_tn, e_neg, e_neK, e_ife, e_ifK, e_tup, e_lst, e_ix, e_slc, e_call, e_blt, e_isi, e_comp, e_l0, e_l1, e_ixl, e_ixt, e_at, e_ixn, e_ixm, e_tyb1, e_tyb2, e_tyi1, e_tyi2, e_isn1, e_isn2, e_isn3, e_isn4, e_isn5, e_isb, e_eqni, e_eqin, vi_lb, vi_lm, vi_lc, vi_lbs, vi_lms, vi_lcs, vi_g0, vi_g1, vi_g2, vi_g3, vi_g4, vi_g5, vi_g6, vi_ti, vi_tb, vi_ts, vi_tn, vi_td, vi_tags0, vi_tags1, vi_tagsI, vi_tagsS, vi_tagsB, vi_allsI, vi_allsS, vi_allsB, vi_ai, vi_ab, vi_as, vi_an, vi_ad, vi_alls0, vi_alls1, vi_cl,
    vi_add, vi_sub, vi_mulr, vi_mull, vi_div, vi_mod, vi_lt, vi_le, vi_gt, vi_ge, vi_eqi, vi_nei, vi_eqb, vi_neb, vi_eqs, vi_nes, vi_lenl, vi_lent, vi_abs, vi_min, vi_max, vi_dm, vi_nm, vi_tp, vi_no, vi_app, vi_upd0, vi_upe, vi_fz0, vi_fz1, vi_fz2, vi_fz3, vi_go0, vi_go1, vi_pl0, vi_t1, vi_t2, vi_t3, vi_t4, vi_t5, vi_t6, vi_frz, vi_fn, vi_cst,
    R.bind_ok, R.of_some, Option.map_some, Option.bind_some, List.getElem?_cons_zero, List.getElem?_cons_succ, List.set_cons_zero, List.set_cons_succ, List.length_cons, List.length_nil, List.length_map, List.all_cons, List.all_nil, Bool.and_true, Bool.true_and, Bool.or_true, Bool.true_or, Bool.or_false, Bool.false_or, Bool.and_self, if_true, ite_true, reduceIte, Nat.reduceAdd, Nat.reduceSub, Nat.reduceMul, Nat.reduceLT, Nat.reduceLeDiff, Nat.reduceEqDiff, Int.reduceLT, Int.reduceLE, Int.reduceAdd, Int.reduceSub, Int.reduceMul, Int.reduceNeg, Int.reducePow, Int.reduceToNat, Int.natAbs_natCast, Nat.lt_add_one, decide_true, decide_false, Nat.zero_lt_succ, List.map_cons, List.map_nil, vi_y1, vi_y2, vi_y3, vi_y4, vi_y5, vi_seen, vi_cd, vi_old, vi_o1, vi_o2, vi_b1, vi_b2, vi_b3, vi_b4, vi_b5, vi_pow, vi_rsh, e_b0, e_b1, e_b2, e_b3, e_b4, e_b5, e_b6, vi_li1, vi_li2, vi_li3, ↓hm, hf3] <;> rfl)
      (by simp -implicitDefEqProofs (decide := true) only [S.sem, e_nop, e_lit, e_loc, e_glb, e_bin, e_cmp, e_cm2, e_cmK, e_bop, e_and, e_or, e_one, e_anK, e_orK, e_anM, e_orM, e_not, e_noK, e_tru, e_tb, e_ti, e_tl, e_tt, e_tn, e_neg, e_neK, e_ife, e_ifK, e_tup, e_lst, e_ix, e_slc, e_call, e_blt, e_isi, e_comp, e_l0, e_l1, e_ixl, e_ixt, e_at, e_ixn, e_ixm, e_tyb1, e_tyb2, e_tyi1, e_tyi2, e_isn1, e_isn2, e_isn3, e_isn4, e_isn5, e_isb, e_eqni, e_eqin, vi_lb, vi_lm, vi_lc, vi_lbs, vi_lms, vi_lcs, vi_g0, vi_g1, vi_g2, vi_g3, vi_g4, vi_g5, vi_g6, vi_ti, vi_tb, vi_ts, vi_tn, vi_td, vi_tags0, vi_tags1, vi_tagsI, vi_tagsS, vi_tagsB, vi_allsI, vi_allsS, vi_allsB, vi_ai, vi_ab, vi_as, vi_an, vi_ad, vi_alls0, vi_alls1, vi_cl,
    vi_add, vi_sub, vi_mulr, vi_mull, vi_div, vi_mod, vi_lt, vi_le, vi_gt, vi_ge, vi_eqi, vi_nei, vi_eqb, vi_neb, vi_eqs, vi_nes, vi_lenl, vi_lent, vi_abs, vi_min, vi_max, vi_dm, vi_nm, vi_tp, vi_no, vi_app, vi_upd0, vi_upe, vi_fz0, vi_fz1, vi_fz2, vi_fz3, vi_go0, vi_go1, vi_pl0, vi_t1, vi_t2, vi_t3, vi_t4, vi_t5, vi_t6, vi_frz, vi_fn, vi_cst,
    R.bind_ok, R.of_some, Option.map_some, Option.bind_some, List.getElem?_cons_zero, List.getElem?_cons_succ, List.set_cons_zero, List.set_cons_succ, List.length_cons, List.length_nil, List.length_map, List.all_cons, List.all_nil, Bool.and_true, Bool.true_and, Bool.or_true, Bool.true_or, Bool.or_false, Bool.false_or, Bool.and_self, if_true, ite_true, reduceIte, Nat.reduceAdd, Nat.reduceSub, Nat.reduceMul, Nat.reduceLT, Nat.reduceLeDiff, Nat.reduceEqDiff, Int.reduceLT, Int.reduceLE, Int.reduceAdd, Int.reduceSub, Int.reduceMul, Int.reduceNeg, Int.reducePow, Int.reduceToNat, Int.natAbs_natCast, Nat.lt_add_one, decide_true, decide_false, Nat.zero_lt_succ, List.map_cons, List.map_nil, vi_y1, vi_y2, vi_y3, vi_y4, vi_y5, vi_seen, vi_cd, vi_old, vi_o1, vi_o2, vi_b1, vi_b2, vi_b3, vi_b4, vi_b5, vi_pow, vi_rsh, e_b0, e_b1, e_b2, e_b3, e_b4, e_b5, e_b6, vi_li1, vi_li2, vi_li3] <;> rfl) (by rfl) ⟨d0, [], .und, rfl, rfl⟩ ?_ ?_
    · rintro i env d hd ⟨dk, L, d4, rfl, hL⟩
      rw [vi_tagsI, List.getElem?_map] at hd
      obtain ⟨f, hf, rfl⟩ := Option.map_eq_some_iff.mp hd
      have hi : i < fs.length := (List.getElem?_eq_some_iff.mp hf).1
      have hlen : (L.map D.int).length < 16777216 := by rw [List.length_map]; omega
      refine ⟨rfl, _, rfl, ?_⟩
      refine w_step (by simp -implicitDefEqProofs (decide := true) only [S.sem, e_nop, e_lit, e_loc, e_glb, e_bin, e_cmp, e_cm2, e_cmK, e_bop, e_and, e_or, e_one, e_anK, e_orK, e_anM, e_orM, e_not, e_noK, e_tru, e_tb, e_ti, e_tl, e_tt, e_tn, e_neg, e_neK, e_ife, e_ifK, e_tup, e_lst, e_ix, e_slc, e_call, e_blt, e_isi, e_comp, e_l0, e_l1, e_ixl, e_ixt, e_at, e_ixn, e_ixm, e_tyb1, e_tyb2, e_tyi1, e_tyi2, e_isn1, e_isn2, e_isn3, e_isn4, e_isn5, e_isb, e_eqni, e_eqin, vi_lb, vi_lm, vi_lc, vi_lbs, vi_lms, vi_lcs, vi_g0, vi_g1, vi_g2, vi_g3, vi_g4, vi_g5, vi_g6, vi_ti, vi_tb, vi_ts, vi_tn, vi_td, vi_tags0, vi_tags1, vi_tagsI, vi_tagsS, vi_tagsB, vi_allsI, vi_allsS, vi_allsB, vi_ai, vi_ab, vi_as, vi_an, vi_ad, vi_alls0, vi_alls1, vi_cl,
    vi_add, vi_sub, vi_mulr, vi_mull, vi_div, vi_mod, vi_lt, vi_le, vi_gt, vi_ge, vi_eqi, vi_nei, vi_eqb, vi_neb, vi_eqs, vi_nes, vi_lenl, vi_lent, vi_abs, vi_min, vi_max, vi_dm, vi_nm, vi_tp, vi_no, vi_app, vi_upd0, vi_upe, vi_fz0, vi_fz1, vi_fz2, vi_fz3, vi_go0, vi_go1, vi_pl0, vi_t1, vi_t2, vi_t3, vi_t4, vi_t5, vi_t6, vi_frz, vi_fn, vi_cst,
    R.bind_ok, R.of_some, Option.map_some, Option.bind_some, List.getElem?_cons_zero, List.getElem?_cons_succ, List.set_cons_zero, List.set_cons_succ, List.length_cons, List.length_nil, List.length_map, List.all_cons, List.all_nil, Bool.and_true, Bool.true_and, Bool.or_true, Bool.true_or, Bool.or_false, Bool.false_or, Bool.and_self, if_true, ite_true, reduceIte, Nat.reduceAdd, Nat.reduceSub, Nat.reduceMul, Nat.reduceLT, Nat.reduceLeDiff, Nat.reduceEqDiff, Int.reduceLT, Int.reduceLE, Int.reduceAdd, Int.reduceSub, Int.reduceMul, Int.reduceNeg, Int.reducePow, Int.reduceToNat, Int.natAbs_natCast, Nat.lt_add_one, decide_true, decide_false, Nat.zero_lt_succ, List.map_cons, List.map_nil, vi_y1, vi_y2, vi_y3, vi_y4, vi_y5, vi_seen, vi_cd, vi_old, vi_o1, vi_o2, vi_b1, vi_b2, vi_b3, vi_b4, vi_b5, vi_pow, vi_rsh, e_b0, e_b1, e_b2, e_b3, e_b4, e_b5, e_b6, vi_li1, vi_li2, vi_li3, vi_app hlen] <;> rfl) ?_
      refine w_step (by simp -implicitDefEqProofs (decide := true) only [S.sem, e_nop, e_lit, e_loc, e_glb, e_bin, e_cmp, e_cm2, e_cmK, e_bop, e_and, e_or, e_one, e_anK, e_orK, e_anM, e_orM, e_not, e_noK, e_tru, e_tb, e_ti, e_tl, e_tt, e_tn, e_neg, e_neK, e_ife, e_ifK, e_tup, e_lst, e_ix, e_slc, e_call, e_blt, e_isi, e_comp, e_l0, e_l1, e_ixl, e_ixt, e_at, e_ixn, e_ixm, e_tyb1, e_tyb2, e_tyi1, e_tyi2, e_isn1, e_isn2, e_isn3, e_isn4, e_isn5, e_isb, e_eqni, e_eqin, vi_lb, vi_lm, vi_lc, vi_lbs, vi_lms, vi_lcs, vi_g0, vi_g1, vi_g2, vi_g3, vi_g4, vi_g5, vi_g6, vi_ti, vi_tb, vi_ts, vi_tn, vi_td, vi_tags0, vi_tags1, vi_tagsI, vi_tagsS, vi_tagsB, vi_allsI, vi_allsS, vi_allsB, vi_ai, vi_ab, vi_as, vi_an, vi_ad, vi_alls0, vi_alls1, vi_cl,
    vi_add, vi_sub, vi_mulr, vi_mull, vi_div, vi_mod, vi_lt, vi_le, vi_gt, vi_ge, vi_eqi, vi_nei, vi_eqb, vi_neb, vi_eqs, vi_nes, vi_lenl, vi_lent, vi_abs, vi_min, vi_max, vi_dm, vi_nm, vi_tp, vi_no, vi_app, vi_upd0, vi_upe, vi_fz0, vi_fz1, vi_fz2, vi_fz3, vi_go0, vi_go1, vi_pl0, vi_t1, vi_t2, vi_t3, vi_t4, vi_t5, vi_t6, vi_frz, vi_fn, vi_cst,
    R.bind_ok, R.of_some, Option.map_some, Option.bind_some, List.getElem?_cons_zero, List.getElem?_cons_succ, List.set_cons_zero, List.set_cons_succ, List.length_cons, List.length_nil, List.length_map, List.all_cons, List.all_nil, Bool.and_true, Bool.true_and, Bool.or_true, Bool.true_or, Bool.or_false, Bool.false_or, Bool.and_self, if_true, ite_true, reduceIte, Nat.reduceAdd, Nat.reduceSub, Nat.reduceMul, Nat.reduceLT, Nat.reduceLeDiff, Nat.reduceEqDiff, Int.reduceLT, Int.reduceLE, Int.reduceAdd, Int.reduceSub, Int.reduceMul, Int.reduceNeg, Int.reducePow, Int.reduceToNat, Int.natAbs_natCast, Nat.lt_add_one, decide_true, decide_false, Nat.zero_lt_succ, List.map_cons, List.map_nil, vi_y1, vi_y2, vi_y3, vi_y4, vi_y5, vi_seen, vi_cd, vi_old, vi_o1, vi_o2, vi_b1, vi_b2, vi_b3, vi_b4, vi_b5, vi_pow, vi_rsh, e_b0, e_b1, e_b2, e_b3, e_b4, e_b5, e_b6, vi_li1, vi_li2, vi_li3, ↓hq, vi_mod hq1] <;> rfl) ?_
      refine w_nil ⟨_, L ++ [dk], _, by rw [← map_snoc], ?_⟩
      rw [List.length_append, hL]; rfl
    · rintro e ⟨dk, L, d4, rfl, hL⟩
      rw [vi_tagsI, List.length_map, hf1] at hL
      refine w_ite (k := decide (x5 % 4 = 3)) (by simp -implicitDefEqProofs (decide := true) only [S.sem, e_nop, e_lit, e_loc, e_glb, e_bin, e_cmp, e_cm2, e_cmK, e_bop, e_and, e_or, e_one, e_anK, e_orK, e_anM, e_orM, e_not, e_noK, e_tru, e_tb, e_ti, e_tl, e_tt, e_tn, e_neg, e_neK, e_ife, e_ifK, e_tup, e_lst, e_ix, e_slc, e_call, e_blt, e_isi, e_comp, e_l0, e_l1, e_ixl, e_ixt, e_at, e_ixn, e_ixm, e_tyb1, e_tyb2, e_tyi1, e_tyi2, e_isn1, e_isn2, e_isn3, e_isn4, e_isn5, e_isb, e_eqni, e_eqin, vi_lb, vi_lm, vi_lc, vi_lbs, vi_lms, vi_lcs, vi_g0, vi_g1, vi_g2, vi_g3, vi_g4, vi_g5, vi_g6, vi_ti, vi_tb, vi_ts, vi_tn, vi_td, vi_tags0, vi_tags1, vi_tagsI, vi_tagsS, vi_tagsB, vi_allsI, vi_allsS, vi_allsB, vi_ai, vi_ab, vi_as, vi_an, vi_ad, vi_alls0, vi_alls1, vi_cl,
    vi_add, vi_sub, vi_mulr, vi_mull, vi_div, vi_mod, vi_lt, vi_le, vi_gt, vi_ge, vi_eqi, vi_nei, vi_eqb, vi_neb, vi_eqs, vi_nes, vi_lenl, vi_lent, vi_abs, vi_min, vi_max, vi_dm, vi_nm, vi_tp, vi_no, vi_app, vi_upd0, vi_upe, vi_fz0, vi_fz1, vi_fz2, vi_fz3, vi_go0, vi_go1, vi_pl0, vi_t1, vi_t2, vi_t3, vi_t4, vi_t5, vi_t6, vi_frz, vi_fn, vi_cst,
    R.bind_ok, R.of_some, Option.map_some, Option.bind_some, List.getElem?_cons_zero, List.getElem?_cons_succ, List.set_cons_zero, List.set_cons_succ, List.length_cons, List.length_nil, List.length_map, List.all_cons, List.all_nil, Bool.and_true, Bool.true_and, Bool.or_true, Bool.true_or, Bool.or_false, Bool.false_or, Bool.and_self, if_true, ite_true, reduceIte, Nat.reduceAdd, Nat.reduceSub, Nat.reduceMul, Nat.reduceLT, Nat.reduceLeDiff, Nat.reduceEqDiff, Int.reduceLT, Int.reduceLE, Int.reduceAdd, Int.reduceSub, Int.reduceMul, Int.reduceNeg, Int.reducePow, Int.reduceToNat, Int.natAbs_natCast, Nat.lt_add_one, decide_true, decide_false, Nat.zero_lt_succ, List.map_cons, List.map_nil, vi_y1, vi_y2, vi_y3, vi_y4, vi_y5, vi_seen, vi_cd, vi_old, vi_o1, vi_o2, vi_b1, vi_b2, vi_b3, vi_b4, vi_b5, vi_pow, vi_rsh, e_b0, e_b1, e_b2, e_b3, e_b4, e_b5, e_b6, vi_li1, vi_li2, vi_li3] <;> rfl) (fun hk => ?_) (fun hk => ?_)
      · have hpos : (0 : Int) < (L.length : Int) := by omega
        refine w_step (by simp -implicitDefEqProofs (decide := true) only [S.sem, e_nop, e_lit, e_loc, e_glb, e_bin, e_cmp, e_cm2, e_cmK, e_bop, e_and, e_or, e_one, e_anK, e_orK, e_anM, e_orM, e_not, e_noK, e_tru, e_tb, e_ti, e_tl, e_tt, e_tn, e_neg, e_neK, e_ife, e_ifK, e_tup, e_lst, e_ix, e_slc, e_call, e_blt, e_isi, e_comp, e_l0, e_l1, e_ixl, e_ixt, e_at, e_ixn, e_ixm, e_tyb1, e_tyb2, e_tyi1, e_tyi2, e_isn1, e_isn2, e_isn3, e_isn4, e_isn5, e_isb, e_eqni, e_eqin, vi_lb, vi_lm, vi_lc, vi_lbs, vi_lms, vi_lcs, vi_g0, vi_g1, vi_g2, vi_g3, vi_g4, vi_g5, vi_g6, vi_ti, vi_tb, vi_ts, vi_tn, vi_td, vi_tags0, vi_tags1, vi_tagsI, vi_tagsS, vi_tagsB, vi_allsI, vi_allsS, vi_allsB, vi_ai, vi_ab, vi_as, vi_an, vi_ad, vi_alls0, vi_alls1, vi_cl,
    vi_add, vi_sub, vi_mulr, vi_mull, vi_div, vi_mod, vi_lt, vi_le, vi_gt, vi_ge, vi_eqi, vi_nei, vi_eqb, vi_neb, vi_eqs, vi_nes, vi_lenl, vi_lent, vi_abs, vi_min, vi_max, vi_dm, vi_nm, vi_tp, vi_no, vi_app, vi_upd0, vi_upe, vi_fz0, vi_fz1, vi_fz2, vi_fz3, vi_go0, vi_go1, vi_pl0, vi_t1, vi_t2, vi_t3, vi_t4, vi_t5, vi_t6, vi_frz, vi_fn, vi_cst,
    R.bind_ok, R.of_some, Option.map_some, Option.bind_some, List.getElem?_cons_zero, List.getElem?_cons_succ, List.set_cons_zero, List.set_cons_succ, List.length_cons, List.length_nil, List.length_map, List.all_cons, List.all_nil, Bool.and_true, Bool.true_and, Bool.or_true, Bool.true_or, Bool.or_false, Bool.false_or, Bool.and_self, if_true, ite_true, reduceIte, Nat.reduceAdd, Nat.reduceSub, Nat.reduceMul, Nat.reduceLT, Nat.reduceLeDiff, Nat.reduceEqDiff, Int.reduceLT, Int.reduceLE, Int.reduceAdd, Int.reduceSub, Int.reduceMul, Int.reduceNeg, Int.reducePow, Int.reduceToNat, Int.natAbs_natCast, Nat.lt_add_one, decide_true, decide_false, Nat.zero_lt_succ, List.map_cons, List.map_nil, vi_y1, vi_y2, vi_y3, vi_y4, vi_y5, vi_seen, vi_cd, vi_old, vi_o1, vi_o2, vi_b1, vi_b2, vi_b3, vi_b4, vi_b5, vi_pow, vi_rsh, e_b0, e_b1, e_b2, e_b3, e_b4, e_b5, e_b6, vi_li1, vi_li2, vi_li3, vi_mod hpos] <;> rfl) ?_
        have q0 := Int.emod_nonneg x6 (b := (L.length : Int)) (by omega)
        have q1 := Int.emod_lt_of_pos x6 hpos
        generalize x6 % (L.length : Int) = p at q0 q1
        obtain ⟨v1, w1⟩ := at_any (xs := L) (j := p) (by omega) q1
        obtain ⟨v2, w2⟩ := at_any (xs := L) (j := p - 1) (by omega) (by omega)
        obtain ⟨v3, w3, _⟩ : ∃ v, atI [D.int (v1 + 1), D.int 1000001, D.int (-1), D.int (v2 + 1)] (x6 / 61 % 4) = some (D.int v) ∧ True := at_of (xs := [v1 + 1, 1000001, -1, v2 + 1]) (by omega) (by show x6 / 61 % 4 < 4; omega) (fun _ => True) fun _ _ => trivial
        have e1 : D.updAt (fun xs => (ixN xs.length p).map fun n => xs.set n (D.int v3)) [] (.nd .own .lst (L.map D.int)) = some (.nd .own .lst ((L.set p.toNat v3).map D.int)) := by
          rw [vi_upd0, e_ixn q0 (by rw [List.length_map]; exact q1)]
          rw [List.map_set]
          rfl
        refine w_step (six_of (k := p) (d := D.int v3) (by simp -implicitDefEqProofs (decide := true) only [S.sem, e_nop, e_lit, e_loc, e_glb, e_bin, e_cmp, e_cm2, e_cmK, e_bop, e_and, e_or, e_one, e_anK, e_orK, e_anM, e_orM, e_not, e_noK, e_tru, e_tb, e_ti, e_tl, e_tt, e_tn, e_neg, e_neK, e_ife, e_ifK, e_tup, e_lst, e_ix, e_slc, e_call, e_blt, e_isi, e_comp, e_l0, e_l1, e_ixl, e_ixt, e_at, e_ixn, e_ixm, e_tyb1, e_tyb2, e_tyi1, e_tyi2, e_isn1, e_isn2, e_isn3, e_isn4, e_isn5, e_isb, e_eqni, e_eqin, vi_lb, vi_lm, vi_lc, vi_lbs, vi_lms, vi_lcs, vi_g0, vi_g1, vi_g2, vi_g3, vi_g4, vi_g5, vi_g6, vi_ti, vi_tb, vi_ts, vi_tn, vi_td, vi_tags0, vi_tags1, vi_tagsI, vi_tagsS, vi_tagsB, vi_allsI, vi_allsS, vi_allsB, vi_ai, vi_ab, vi_as, vi_an, vi_ad, vi_alls0, vi_alls1, vi_cl,
    vi_add, vi_sub, vi_mulr, vi_mull, vi_div, vi_mod, vi_lt, vi_le, vi_gt, vi_ge, vi_eqi, vi_nei, vi_eqb, vi_neb, vi_eqs, vi_nes, vi_lenl, vi_lent, vi_abs, vi_min, vi_max, vi_dm, vi_nm, vi_tp, vi_no, vi_app, vi_upd0, vi_upe, vi_fz0, vi_fz1, vi_fz2, vi_fz3, vi_go0, vi_go1, vi_pl0, vi_t1, vi_t2, vi_t3, vi_t4, vi_t5, vi_t6, vi_frz, vi_fn, vi_cst,
    R.bind_ok, R.of_some, Option.map_some, Option.bind_some, List.getElem?_cons_zero, List.getElem?_cons_succ, List.set_cons_zero, List.set_cons_succ, List.length_cons, List.length_nil, List.length_map, List.all_cons, List.all_nil, Bool.and_true, Bool.true_and, Bool.or_true, Bool.true_or, Bool.or_false, Bool.false_or, Bool.and_self, if_true, ite_true, reduceIte, Nat.reduceAdd, Nat.reduceSub, Nat.reduceMul, Nat.reduceLT, Nat.reduceLeDiff, Nat.reduceEqDiff, Int.reduceLT, Int.reduceLE, Int.reduceAdd, Int.reduceSub, Int.reduceMul, Int.reduceNeg, Int.reducePow, Int.reduceToNat, Int.natAbs_natCast, Nat.lt_add_one, decide_true, decide_false, Nat.zero_lt_succ, List.map_cons, List.map_nil, vi_y1, vi_y2, vi_y3, vi_y4, vi_y5, vi_seen, vi_cd, vi_old, vi_o1, vi_o2, vi_b1, vi_b2, vi_b3, vi_b4, vi_b5, vi_pow, vi_rsh, e_b0, e_b1, e_b2, e_b3, e_b4, e_b5, e_b6, vi_li1, vi_li2, vi_li3, ↓w1, ↓w2, ↓w3] <;> rfl) rfl
          (by simp -implicitDefEqProofs (decide := true) only [S.sem, e_nop, e_lit, e_loc, e_glb, e_bin, e_cmp, e_cm2, e_cmK, e_bop, e_and, e_or, e_one, e_anK, e_orK, e_anM, e_orM, e_not, e_noK, e_tru, e_tb, e_ti, e_tl, e_tt, e_tn, e_neg, e_neK, e_ife, e_ifK, e_tup, e_lst, e_ix, e_slc, e_call, e_blt, e_isi, e_comp, e_l0, e_l1, e_ixl, e_ixt, e_at, e_ixn, e_ixm, e_tyb1, e_tyb2, e_tyi1, e_tyi2, e_isn1, e_isn2, e_isn3, e_isn4, e_isn5, e_isb, e_eqni, e_eqin, vi_lb, vi_lm, vi_lc, vi_lbs, vi_lms, vi_lcs, vi_g0, vi_g1, vi_g2, vi_g3, vi_g4, vi_g5, vi_g6, vi_ti, vi_tb, vi_ts, vi_tn, vi_td, vi_tags0, vi_tags1, vi_tagsI, vi_tagsS, vi_tagsB, vi_allsI, vi_allsS, vi_allsB, vi_ai, vi_ab, vi_as, vi_an, vi_ad, vi_alls0, vi_alls1, vi_cl,
    vi_add, vi_sub, vi_mulr, vi_mull, vi_div, vi_mod, vi_lt, vi_le, vi_gt, vi_ge, vi_eqi, vi_nei, vi_eqb, vi_neb, vi_eqs, vi_nes, vi_lenl, vi_lent, vi_abs, vi_min, vi_max, vi_dm, vi_nm, vi_tp, vi_no, vi_app, vi_upd0, vi_upe, vi_fz0, vi_fz1, vi_fz2, vi_fz3, vi_go0, vi_go1, vi_pl0, vi_t1, vi_t2, vi_t3, vi_t4, vi_t5, vi_t6, vi_frz, vi_fn, vi_cst,
    R.bind_ok, R.of_some, Option.map_some, Option.bind_some, List.getElem?_cons_zero, List.getElem?_cons_succ, List.set_cons_zero, List.set_cons_succ, List.length_cons, List.length_nil, List.length_map, List.all_cons, List.all_nil, Bool.and_true, Bool.true_and, Bool.or_true, Bool.true_or, Bool.or_false, Bool.false_or, Bool.and_self, if_true, ite_true, reduceIte, Nat.reduceAdd, Nat.reduceSub, Nat.reduceMul, Nat.reduceLT, Nat.reduceLeDiff, Nat.reduceEqDiff, Int.reduceLT, Int.reduceLE, Int.reduceAdd, Int.reduceSub, Int.reduceMul, Int.reduceNeg, Int.reducePow, Int.reduceToNat, Int.natAbs_natCast, Nat.lt_add_one, decide_true, decide_false, Nat.zero_lt_succ, List.map_cons, List.map_nil, vi_y1, vi_y2, vi_y3, vi_y4, vi_y5, vi_seen, vi_cd, vi_old, vi_o1, vi_o2, vi_b1, vi_b2, vi_b3, vi_b4, vi_b5, vi_pow, vi_rsh, e_b0, e_b1, e_b2, e_b3, e_b4, e_b5, e_b6, vi_li1, vi_li2, vi_li3] <;> rfl) rfl (vi_upd (d := .nd .own .lst (L.map D.int)) rfl e1)) ?_
        refine w_nil ?_
        refine w_ret (by simp -implicitDefEqProofs (decide := true) only [S.sem, e_nop, e_lit, e_loc, e_glb, e_bin, e_cmp, e_cm2, e_cmK, e_bop, e_and, e_or, e_one, e_anK, e_orK, e_anM, e_orM, e_not, e_noK, e_tru, e_tb, e_ti, e_tl, e_tt, e_tn, e_neg, e_neK, e_ife, e_ifK, e_tup, e_lst, e_ix, e_slc, e_call, e_blt, e_isi, e_comp, e_l0, e_l1, e_ixl, e_ixt, e_at, e_ixn, e_ixm, e_tyb1, e_tyb2, e_tyi1, e_tyi2, e_isn1, e_isn2, e_isn3, e_isn4, e_isn5, e_isb, e_eqni, e_eqin, vi_lb, vi_lm, vi_lc, vi_lbs, vi_lms, vi_lcs, vi_g0, vi_g1, vi_g2, vi_g3, vi_g4, vi_g5, vi_g6, vi_ti, vi_tb, vi_ts, vi_tn, vi_td, vi_tags0, vi_tags1, vi_tagsI, vi_tagsS, vi_tagsB, vi_allsI, vi_allsS, vi_allsB, vi_ai, vi_ab, vi_as, vi_an, vi_ad, vi_alls0, vi_alls1, vi_cl,
    vi_add, vi_sub, vi_mulr, vi_mull, vi_div, vi_mod, vi_lt, vi_le, vi_gt, vi_ge, vi_eqi, vi_nei, vi_eqb, vi_neb, vi_eqs, vi_nes, vi_lenl, vi_lent, vi_abs, vi_min, vi_max, vi_dm, vi_nm, vi_tp, vi_no, vi_app, vi_upd0, vi_upe, vi_fz0, vi_fz1, vi_fz2, vi_fz3, vi_go0, vi_go1, vi_pl0, vi_t1, vi_t2, vi_t3, vi_t4, vi_t5, vi_t6, vi_frz, vi_fn, vi_cst,
    R.bind_ok, R.of_some, Option.map_some, Option.bind_some, List.getElem?_cons_zero, List.getElem?_cons_succ, List.set_cons_zero, List.set_cons_succ, List.length_cons, List.length_nil, List.length_map, List.all_cons, List.all_nil, Bool.and_true, Bool.true_and, Bool.or_true, Bool.true_or, Bool.or_false, Bool.false_or, Bool.and_self, if_true, ite_true, reduceIte, Nat.reduceAdd, Nat.reduceSub, Nat.reduceMul, Nat.reduceLT, Nat.reduceLeDiff, Nat.reduceEqDiff, Int.reduceLT, Int.reduceLE, Int.reduceAdd, Int.reduceSub, Int.reduceMul, Int.reduceNeg, Int.reducePow, Int.reduceToNat, Int.natAbs_natCast, Nat.lt_add_one, decide_true, decide_false, Nat.zero_lt_succ, List.map_cons, List.map_nil, vi_y1, vi_y2, vi_y3, vi_y4, vi_y5, vi_seen, vi_cd, vi_old, vi_o1, vi_o2, vi_b1, vi_b2, vi_b3, vi_b4, vi_b5, vi_pow, vi_rsh, e_b0, e_b1, e_b2, e_b3, e_b4, e_b5, e_b6, vi_li1, vi_li2, vi_li3] <;> rfl) ⟨L.set p.toNat v3, ?_, ?_, rfl⟩ <;> rw [List.length_set] <;> omega
      · refine w_nil ?_
        exact w_ret (by simp -implicitDefEqProofs (decide := true) only [S.sem, e_nop, e_lit, e_loc, e_glb, e_bin, e_cmp, e_cm2, e_cmK, e_bop, e_and, e_or, e_one, e_anK, e_orK, e_anM, e_orM, e_not, e_noK, e_tru, e_tb, e_ti, e_tl, e_tt, e_tn, e_neg, e_neK, e_ife, e_ifK, e_tup, e_lst, e_ix, e_slc, e_call, e_blt, e_isi, e_comp, e_l0, e_l1, e_ixl, e_ixt, e_at, e_ixn, e_ixm, e_tyb1, e_tyb2, e_tyi1, e_tyi2, e_isn1, e_isn2, e_isn3, e_isn4, e_isn5, e_isb, e_eqni, e_eqin, vi_lb, vi_lm, vi_lc, vi_lbs, vi_lms, vi_lcs, vi_g0, vi_g1, vi_g2, vi_g3, vi_g4, vi_g5, vi_g6, vi_ti, vi_tb, vi_ts, vi_tn, vi_td, vi_tags0, vi_tags1, vi_tagsI, vi_tagsS, vi_tagsB, vi_allsI, vi_allsS, vi_allsB, vi_ai, vi_ab, vi_as, vi_an, vi_ad, vi_alls0, vi_alls1, vi_cl,
    vi_add, vi_sub, vi_mulr, vi_mull, vi_div, vi_mod, vi_lt, vi_le, vi_gt, vi_ge, vi_eqi, vi_nei, vi_eqb, vi_neb, vi_eqs, vi_nes, vi_lenl, vi_lent, vi_abs, vi_min, vi_max, vi_dm, vi_nm, vi_tp, vi_no, vi_app, vi_upd0, vi_upe, vi_fz0, vi_fz1, vi_fz2, vi_fz3, vi_go0, vi_go1, vi_pl0, vi_t1, vi_t2, vi_t3, vi_t4, vi_t5, vi_t6, vi_frz, vi_fn, vi_cst,
    R.bind_ok, R.of_some, Option.map_some, Option.bind_some, List.getElem?_cons_zero, List.getElem?_cons_succ, List.set_cons_zero, List.set_cons_succ, List.length_cons, List.length_nil, List.length_map, List.all_cons, List.all_nil, Bool.and_true, Bool.true_and, Bool.or_true, Bool.true_or, Bool.or_false, Bool.false_or, Bool.and_self, if_true, ite_true, reduceIte, Nat.reduceAdd, Nat.reduceSub, Nat.reduceMul, Nat.reduceLT, Nat.reduceLeDiff, Nat.reduceEqDiff, Int.reduceLT, Int.reduceLE, Int.reduceAdd, Int.reduceSub, Int.reduceMul, Int.reduceNeg, Int.reducePow, Int.reduceToNat, Int.natAbs_natCast, Nat.lt_add_one, decide_true, decide_false, Nat.zero_lt_succ, List.map_cons, List.map_nil, vi_y1, vi_y2, vi_y3, vi_y4, vi_y5, vi_seen, vi_cd, vi_old, vi_o1, vi_o2, vi_b1, vi_b2, vi_b3, vi_b4, vi_b5, vi_pow, vi_rsh, e_b0, e_b1, e_b2, e_b3, e_b4, e_b5, e_b6, vi_li1, vi_li2, vi_li3] <;> rfl) ⟨L, by omega, by omega, rfl⟩)
  exact ⟨L, hL1, hL2, h1⟩
end K02

set_option maxHeartbeats 4000000
namespace K02
open PySem PySem.Spec L2 VI
/-! ### whether numbers fall -/
theorem ints_map : ∀ xs : List Int, ints? (xs.map D.int) = some xs
  | [] => rfl
  | x :: xs => by
    show (ints? (xs.map D.int)).map (x :: ·) = _
    rw [ints_map xs]; rfl
theorem desc_cons (x y : Int) (r : List Int) : desc (x :: y :: r) = (decide (y ≤ x) && desc (y :: r)) := by
  unfold desc
  show (List.range (r.length + 1)).all _ = _
  rw [List.range_succ_eq_map, List.all_cons, List.all_map]
  rfl
theorem desc_iff : ∀ xs : List Int, desc xs = true ↔ xs.Pairwise (· ≥ ·)
  | [] => ⟨fun _ => .nil, fun _ => rfl⟩
  | [x] => ⟨fun _ => List.pairwise_singleton _ _, fun _ => rfl⟩
  | x :: y :: r => by
    rw [desc_cons, Bool.and_eq_true, desc_iff (y :: r), decide_eq_true_eq, List.pairwise_cons (a := x) (l := y :: r)]
    constructor
    · rintro ⟨h1, h2⟩
      refine ⟨fun z hz => ?_, h2⟩
      rcases List.mem_cons.mp hz with rfl | hz
      · exact h1
      · have := (List.pairwise_cons.mp h2).1 z hz
        omega
    · rintro ⟨h1, h2⟩
      exact ⟨h1 y List.mem_cons_self, h2⟩
theorem sort_iff (xs : List Int) : xs = (sortI xs).reverse ↔ xs.Pairwise (· ≥ ·) := by
  constructor
  · intro h
    rw [h, List.pairwise_reverse]
    exact (sortI_sorted xs).imp fun h => h
  · intro h
    have h1 : xs.reverse.Pairwise (· ≤ ·) := List.pairwise_reverse.mpr (h.imp fun h => h)
    have := sort_uniq ((List.reverse_perm xs).trans (List.mergeSort_perm _ _).symm) h1 (sortI_sorted xs)
    have e : sortI xs = xs.reverse := this.symm
    rw [e, List.reverse_reverse]
theorem max_desc : ∀ (r : List Int) (x : Int), (∀ y ∈ r, y ≤ x) → r.foldl max x = x
  | [], x, _ => rfl
  | y :: r, x, h => by
    have := h y List.mem_cons_self
    rw [List.foldl_cons, show max x y = x by omega]
    exact max_desc r x fun z hz => h z (List.mem_cons_of_mem _ hz)
theorem min_desc : ∀ (r : List Int) (x : Int), (x :: r).Pairwise (· ≥ ·) → r.foldl min x = (x :: r).getD r.length 0
  | [], x, _ => rfl
  | y :: r, x, h => by
    have h1 := (List.pairwise_cons.mp h).1 y List.mem_cons_self
    rw [List.foldl_cons, show min x y = y by omega, min_desc r y (List.pairwise_cons.mp h).2]
    rfl
def good (x : Int) (r : List Int) : Bool := if (decide ((60 : Int) < (r.length : Int) + 1) || (decide ((1000000 : Int) < r.foldl max x) || decide (r.foldl min x < 0))) = true then false else decide (x :: r = (sortI (x :: r)).reverse)
theorem good_tab (x : Int) (r : List Int) : good x r = tab (x :: r) := by
  unfold good tab
  have e1 : (decide ((1 : Int) ≤ ((x :: r).length : Int)) && decide (((x :: r).length : Int) ≤ 60)) = !decide ((60 : Int) < (r.length : Int) + 1) := by
    rw [decide_eq_true (show (1 : Int) ≤ ((x :: r).length : Int) by rw [List.length_cons]; omega), Bool.true_and, ← decide_not]
    exact decide_eq_decide.mpr (by rw [List.length_cons]; omega)
  rw [e1, Bool.not_not]
  by_cases h : (x :: r).Pairwise (· ≥ ·)
  · have e2 : r.foldl max x = x := max_desc r x fun y hy => (List.pairwise_cons.mp h).1 y hy
    have e3 : r.foldl min x = (x :: r).getD ((x :: r).length - 1) 0 := min_desc r x h
    rw [e2, e3, decide_eq_true ((sort_iff _).mpr h), (desc_iff _).mpr h]
    rfl
  · have e4 : desc (x :: r) = false := by
      rw [← Bool.not_eq_true, desc_iff]
      exact h
    rw [e4, decide_eq_false (fun q => h ((sort_iff _).mp q))]
    split <;> split <;> rfl
theorem f_good (n : Nat) (t : Tag) (x : Int) (r : List Int) (hl : r.length ≤ 100) : lw.pg.fn (n + 1) "_law_good" [.nd t .lst ((x :: r).map D.int)] = .ok (.bl (tab (x :: r))) := by
  rw [Pg.fn_s (d := d_law_good) rfl, ← good_tab]
  have m1 : ∀ u, biV .max1 [.nd u .lst ((x :: r).map D.int)] = some (.int (r.foldl max x)) := fun u => by
    show (match ints? ((x :: r).map D.int) with | some (n :: ns) => some (D.int (ns.foldl max n)) | _ => none) = _
    rw [ints_map]
  have m2 : ∀ u, biV .min1 [.nd u .lst ((x :: r).map D.int)] = some (.int (r.foldl min x)) := fun u => by
    show (match ints? ((x :: r).map D.int) with | some (n :: ns) => some (D.int (ns.foldl min n)) | _ => none) = _
    rw [ints_map]
  have m3 : ∀ u, biV .sorted [.nd u .lst ((x :: r).map D.int)] = some (.nd .own .lst ((sortI (x :: r)).map D.int)) := fun u => by
    show (ints? ((x :: r).map D.int)).map _ = _
    rw [ints_map]; rfl
  have m4 : ((x :: r).map D.int).length = r.length + 1 := by rw [List.length_map]; rfl
  generalize hxs : x :: r = xs at m1 m2 m3 m4
  obtain ⟨v, h1, rfl⟩ := call_rt (d := d_law_good) (G := lw.pg.G n) (args := [.nd t .lst (xs.map D.int)]) (Q := fun v => v = .bl (good x r)) rfl (by
    show Wn _ (semSs _ d_law_good.body [.nd t .lst (xs.map D.int)])
    unfold d_law_good
    have m5 : xs.length = r.length + 1 := by rw [← hxs]; rfl
    refine w_ifr (k := (decide ((60 : Int) < (r.length : Int) + 1) || (decide ((1000000 : Int) < r.foldl max x) || decide (r.foldl min x < 0)))) (by
      simp -implicitDefEqProofs (decide := true) only [S.sem, e_nop, e_lit, e_loc, e_glb, e_bin, e_cmp, e_cm2, e_cmK, e_bop, e_and, e_or, e_one, e_anK, e_orK, e_anM, e_orM, e_not, e_noK, e_tru, e_tb, e_ti, e_tl, e_tt, e_tn, e_neg, e_neK, e_ife, e_ifK, e_tup, e_lst, e_ix, e_slc, e_call, e_blt, e_isi, e_comp, e_l0, e_l1, e_ixl, e_ixt, e_at, e_ixn, e_ixm, e_tyb1, e_tyb2, e_tyi1, e_tyi2, e_isn1, e_isn2, e_isn3, e_isn4, e_isn5, e_isb, e_eqni, e_eqin, vi_lb, vi_lm, vi_lc, vi_lbs, vi_lms, vi_lcs, vi_g0, vi_g1, vi_g2, vi_g3, vi_g4, vi_g5, vi_g6, vi_ti, vi_tb, vi_ts, vi_tn, vi_td, vi_tags0, vi_tags1, vi_tagsI, vi_tagsS, vi_tagsB, vi_allsI, vi_allsS, vi_allsB, vi_ai, vi_ab, vi_as, vi_an, vi_ad, vi_alls0, vi_alls1, vi_cl,
    vi_add, vi_sub, vi_mulr, vi_mull, vi_div, vi_mod, vi_lt, vi_le, vi_gt, vi_ge, vi_eqi, vi_nei, vi_eqb, vi_neb, vi_eqs, vi_nes, vi_lenl, vi_lent, vi_abs, vi_min, vi_max, vi_dm, vi_nm, vi_tp, vi_no, vi_app, vi_upd0, vi_upe, vi_fz0, vi_fz1, vi_fz2, vi_fz3, vi_go0, vi_go1, vi_pl0, vi_t1, vi_t2, vi_t3, vi_t4, vi_t5, vi_t6, vi_frz, vi_fn, vi_cst,
    R.bind_ok, R.of_some, Option.map_some, Option.bind_some, List.getElem?_cons_zero, List.getElem?_cons_succ, List.set_cons_zero, List.set_cons_succ, List.length_cons, List.length_nil, List.length_map, List.all_cons, List.all_nil, Bool.and_true, Bool.true_and, Bool.or_true, Bool.true_or, Bool.or_false, Bool.false_or, Bool.and_self, if_true, ite_true, reduceIte, Nat.reduceAdd, Nat.reduceSub, Nat.reduceMul, Nat.reduceLT, Nat.reduceLeDiff, Nat.reduceEqDiff, Int.reduceLT, Int.reduceLE, Int.reduceAdd, Int.reduceSub, Int.reduceMul, Int.reduceNeg, Int.reducePow, Int.reduceToNat, Int.natAbs_natCast, Nat.lt_add_one, decide_true, decide_false, Nat.zero_lt_succ, List.map_cons, List.map_nil, vi_y1, vi_y2, vi_y3, vi_y4, vi_y5, vi_seen, vi_cd, vi_old, vi_o1, vi_o2, vi_b1, vi_b2, vi_b3, vi_b4, vi_b5, vi_pow, vi_rsh, e_b0, e_b1, e_b2, e_b3, e_b4, e_b5, e_b6, vi_li1, vi_li2, vi_li3, m1, m2, m5, Int.natCast_add, decide_eq_false (show ¬ ((r.length : Int) + 1 < 1) by omega)]
      rfl) (fun hk => ?_) (fun hk => ?_)
    · refine w_ret (by simp -implicitDefEqProofs (decide := true) only [S.sem, e_nop, e_lit, e_loc, e_glb, e_bin, e_cmp, e_cm2, e_cmK, e_bop, e_and, e_or, e_one, e_anK, e_orK, e_anM, e_orM, e_not, e_noK, e_tru, e_tb, e_ti, e_tl, e_tt, e_tn, e_neg, e_neK, e_ife, e_ifK, e_tup, e_lst, e_ix, e_slc, e_call, e_blt, e_isi, e_comp, e_l0, e_l1, e_ixl, e_ixt, e_at, e_ixn, e_ixm, e_tyb1, e_tyb2, e_tyi1, e_tyi2, e_isn1, e_isn2, e_isn3, e_isn4, e_isn5, e_isb, e_eqni, e_eqin, vi_lb, vi_lm, vi_lc, vi_lbs, vi_lms, vi_lcs, vi_g0, vi_g1, vi_g2, vi_g3, vi_g4, vi_g5, vi_g6, vi_ti, vi_tb, vi_ts, vi_tn, vi_td, vi_tags0, vi_tags1, vi_tagsI, vi_tagsS, vi_tagsB, vi_allsI, vi_allsS, vi_allsB, vi_ai, vi_ab, vi_as, vi_an, vi_ad, vi_alls0, vi_alls1, vi_cl,
    vi_add, vi_sub, vi_mulr, vi_mull, vi_div, vi_mod, vi_lt, vi_le, vi_gt, vi_ge, vi_eqi, vi_nei, vi_eqb, vi_neb, vi_eqs, vi_nes, vi_lenl, vi_lent, vi_abs, vi_min, vi_max, vi_dm, vi_nm, vi_tp, vi_no, vi_app, vi_upd0, vi_upe, vi_fz0, vi_fz1, vi_fz2, vi_fz3, vi_go0, vi_go1, vi_pl0, vi_t1, vi_t2, vi_t3, vi_t4, vi_t5, vi_t6, vi_frz, vi_fn, vi_cst,
    R.bind_ok, R.of_some, Option.map_some, Option.bind_some, List.getElem?_cons_zero, List.getElem?_cons_succ, List.set_cons_zero, List.set_cons_succ, List.length_cons, List.length_nil, List.length_map, List.all_cons, List.all_nil, Bool.and_true, Bool.true_and, Bool.or_true, Bool.true_or, Bool.or_false, Bool.false_or, Bool.and_self, if_true, ite_true, reduceIte, Nat.reduceAdd, Nat.reduceSub, Nat.reduceMul, Nat.reduceLT, Nat.reduceLeDiff, Nat.reduceEqDiff, Int.reduceLT, Int.reduceLE, Int.reduceAdd, Int.reduceSub, Int.reduceMul, Int.reduceNeg, Int.reducePow, Int.reduceToNat, Int.natAbs_natCast, Nat.lt_add_one, decide_true, decide_false, Nat.zero_lt_succ, List.map_cons, List.map_nil, vi_y1, vi_y2, vi_y3, vi_y4, vi_y5, vi_seen, vi_cd, vi_old, vi_o1, vi_o2, vi_b1, vi_b2, vi_b3, vi_b4, vi_b5, vi_pow, vi_rsh, e_b0, e_b1, e_b2, e_b3, e_b4, e_b5, e_b6, vi_li1, vi_li2, vi_li3] <;> rfl) ?_
      unfold good
      rw [hk]; rfl
    · have q1 : S.sem (lw.pg.G n) (.ret (.cmp .Eq (.loc 0 .bor) (.rev (.blt .sorted [(.loc 0 .bor)])))) [.nd t .lst (xs.map D.int)] = .ok (.rt (.bl (decide (xs = (sortI xs).reverse))) [.nd t .lst (xs.map D.int)]) := by
        refine ret_of ?_ rfl
        rw [e_cmp, e_loc, vi_lb]
        have e1 : E.sem (lw.pg.G n) (.rev (.blt .sorted [(.loc 0 .bor)])) [.nd t .lst (xs.map D.int)] = .ok (.nd .own .lst ((sortI xs).reverse.map D.int), [.nd t .lst (xs.map D.int)]) := by
          rw [E.sem]
          have e2 : E.sem (lw.pg.G n) (.blt .sorted [(.loc 0 .bor)]) [.nd t .lst (xs.map D.int)] = .ok (.nd .own .lst ((sortI xs).map D.int), [.nd t .lst (xs.map D.int)]) := by
            simp -implicitDefEqProofs (decide := true) only [S.sem, e_nop, e_lit, e_loc, e_glb, e_bin, e_cmp, e_cm2, e_cmK, e_bop, e_and, e_or, e_one, e_anK, e_orK, e_anM, e_orM, e_not, e_noK, e_tru, e_tb, e_ti, e_tl, e_tt, e_tn, e_neg, e_neK, e_ife, e_ifK, e_tup, e_lst, e_ix, e_slc, e_call, e_blt, e_isi, e_comp, e_l0, e_l1, e_ixl, e_ixt, e_at, e_ixn, e_ixm, e_tyb1, e_tyb2, e_tyi1, e_tyi2, e_isn1, e_isn2, e_isn3, e_isn4, e_isn5, e_isb, e_eqni, e_eqin, vi_lb, vi_lm, vi_lc, vi_lbs, vi_lms, vi_lcs, vi_g0, vi_g1, vi_g2, vi_g3, vi_g4, vi_g5, vi_g6, vi_ti, vi_tb, vi_ts, vi_tn, vi_td, vi_tags0, vi_tags1, vi_tagsI, vi_tagsS, vi_tagsB, vi_allsI, vi_allsS, vi_allsB, vi_ai, vi_ab, vi_as, vi_an, vi_ad, vi_alls0, vi_alls1, vi_cl,
    vi_add, vi_sub, vi_mulr, vi_mull, vi_div, vi_mod, vi_lt, vi_le, vi_gt, vi_ge, vi_eqi, vi_nei, vi_eqb, vi_neb, vi_eqs, vi_nes, vi_lenl, vi_lent, vi_abs, vi_min, vi_max, vi_dm, vi_nm, vi_tp, vi_no, vi_app, vi_upd0, vi_upe, vi_fz0, vi_fz1, vi_fz2, vi_fz3, vi_go0, vi_go1, vi_pl0, vi_t1, vi_t2, vi_t3, vi_t4, vi_t5, vi_t6, vi_frz, vi_fn, vi_cst,
    R.bind_ok, R.of_some, Option.map_some, Option.bind_some, List.getElem?_cons_zero, List.getElem?_cons_succ, List.set_cons_zero, List.set_cons_succ, List.length_cons, List.length_nil, List.length_map, List.all_cons, List.all_nil, Bool.and_true, Bool.true_and, Bool.or_true, Bool.true_or, Bool.or_false, Bool.false_or, Bool.and_self, if_true, ite_true, reduceIte, Nat.reduceAdd, Nat.reduceSub, Nat.reduceMul, Nat.reduceLT, Nat.reduceLeDiff, Nat.reduceEqDiff, Int.reduceLT, Int.reduceLE, Int.reduceAdd, Int.reduceSub, Int.reduceMul, Int.reduceNeg, Int.reducePow, Int.reduceToNat, Int.natAbs_natCast, Nat.lt_add_one, decide_true, decide_false, Nat.zero_lt_succ, List.map_cons, List.map_nil, vi_y1, vi_y2, vi_y3, vi_y4, vi_y5, vi_seen, vi_cd, vi_old, vi_o1, vi_o2, vi_b1, vi_b2, vi_b3, vi_b4, vi_b5, vi_pow, vi_rsh, e_b0, e_b1, e_b2, e_b3, e_b4, e_b5, e_b6, vi_li1, vi_li2, vi_li3, m3]
          rw [e2]
          show R.ok (D.nd .own .lst ((sortI xs).map D.int).reverse, _) = _
          rw [List.map_reverse]
        show ((E.sem (lw.pg.G n) (.rev (.blt .sorted [(.loc 0 .bor)])) [.nd t .lst (xs.map D.int)]).bind _) = _
        rw [e1]
        show (R.of ((eqD (.nd _ .lst (D.tags _ (xs.map D.int))) (.nd .own .lst ((sortI xs).reverse.map D.int))).map _)) = _
        rw [vi_tagsI, eq_ints]
        rfl
      refine w_ret q1 ?_
      unfold good
      rw [hk, hxs]
      rfl)
  exact h1
end K02

set_option maxHeartbeats 4000000
namespace K02
open PySem PySem.Spec L2 VI
theorem f_at (n : Nat) (t : Tag) (xs : List Int) (age : Int) (ha : 0 ≤ age) (hx : 1 ≤ xs.length) (hy : xs.length ≤ 100) : lw.pg.fn (n + 1) "_law_at" [.nd t .lst (xs.map D.int), .int age] = .ok (.int (dk xs age)) := by
  rw [Pg.fn_s (d := d_law_at) rfl]
  have e : (if (xs.length : Int) < age + 1 then (xs.length : Int) else age + 1) = ((min (age.toNat + 1) xs.length : Nat) : Int) := by split <;> omega
  have a0 := at_int (xs := xs) (i := 0) (by decide) (by omega)
  obtain ⟨v, h1, rfl⟩ := call_rt (d := d_law_at) (G := lw.pg.G n) (args := [.nd t .lst (xs.map D.int), .int age]) (Q := fun v => v = .int (dk xs age)) rfl (by
    show Wn _ (semSs _ d_law_at.body [.nd t .lst (xs.map D.int), .int age, .und, .und])
    unfold d_law_at
    refine w_step (by simp -implicitDefEqProofs (decide := true) only [S.sem, e_nop, e_lit, e_loc, e_glb, e_bin, e_cmp, e_cm2, e_cmK, e_bop, e_and, e_or, e_one, e_anK, e_orK, e_anM, e_orM, e_not, e_noK, e_tru, e_tb, e_ti, e_tl, e_tt, e_tn, e_neg, e_neK, e_ife, e_ifK, e_tup, e_lst, e_ix, e_slc, e_call, e_blt, e_isi, e_comp, e_l0, e_l1, e_ixl, e_ixt, e_at, e_ixn, e_ixm, e_tyb1, e_tyb2, e_tyi1, e_tyi2, e_isn1, e_isn2, e_isn3, e_isn4, e_isn5, e_isb, e_eqni, e_eqin, vi_lb, vi_lm, vi_lc, vi_lbs, vi_lms, vi_lcs, vi_g0, vi_g1, vi_g2, vi_g3, vi_g4, vi_g5, vi_g6, vi_ti, vi_tb, vi_ts, vi_tn, vi_td, vi_tags0, vi_tags1, vi_tagsI, vi_tagsS, vi_tagsB, vi_allsI, vi_allsS, vi_allsB, vi_ai, vi_ab, vi_as, vi_an, vi_ad, vi_alls0, vi_alls1, vi_cl,
    vi_add, vi_sub, vi_mulr, vi_mull, vi_div, vi_mod, vi_lt, vi_le, vi_gt, vi_ge, vi_eqi, vi_nei, vi_eqb, vi_neb, vi_eqs, vi_nes, vi_lenl, vi_lent, vi_abs, vi_min, vi_max, vi_dm, vi_nm, vi_tp, vi_no, vi_app, vi_upd0, vi_upe, vi_fz0, vi_fz1, vi_fz2, vi_fz3, vi_go0, vi_go1, vi_pl0, vi_t1, vi_t2, vi_t3, vi_t4, vi_t5, vi_t6, vi_frz, vi_fn, vi_cst,
    R.bind_ok, R.of_some, Option.map_some, Option.bind_some, List.getElem?_cons_zero, List.getElem?_cons_succ, List.set_cons_zero, List.set_cons_succ, List.length_cons, List.length_nil, List.length_map, List.all_cons, List.all_nil, Bool.and_true, Bool.true_and, Bool.or_true, Bool.true_or, Bool.or_false, Bool.false_or, Bool.and_self, if_true, ite_true, reduceIte, Nat.reduceAdd, Nat.reduceSub, Nat.reduceMul, Nat.reduceLT, Nat.reduceLeDiff, Nat.reduceEqDiff, Int.reduceLT, Int.reduceLE, Int.reduceAdd, Int.reduceSub, Int.reduceMul, Int.reduceNeg, Int.reducePow, Int.reduceToNat, Int.natAbs_natCast, Nat.lt_add_one, decide_true, decide_false, Nat.zero_lt_succ, List.map_cons, List.map_nil, vi_y1, vi_y2, vi_y3, vi_y4, vi_y5, vi_seen, vi_cd, vi_old, vi_o1, vi_o2, vi_b1, vi_b2, vi_b3, vi_b4, vi_b5, vi_pow, vi_rsh, e_b0, e_b1, e_b2, e_b3, e_b4, e_b5, e_b6, vi_li1, vi_li2, vi_li3, ↓a0] <;> rfl) ?_
    refine w_step (by simp -implicitDefEqProofs (decide := true) only [S.sem, e_nop, e_lit, e_loc, e_glb, e_bin, e_cmp, e_cm2, e_cmK, e_bop, e_and, e_or, e_one, e_anK, e_orK, e_anM, e_orM, e_not, e_noK, e_tru, e_tb, e_ti, e_tl, e_tt, e_tn, e_neg, e_neK, e_ife, e_ifK, e_tup, e_lst, e_ix, e_slc, e_call, e_blt, e_isi, e_comp, e_l0, e_l1, e_ixl, e_ixt, e_at, e_ixn, e_ixm, e_tyb1, e_tyb2, e_tyi1, e_tyi2, e_isn1, e_isn2, e_isn3, e_isn4, e_isn5, e_isb, e_eqni, e_eqin, vi_lb, vi_lm, vi_lc, vi_lbs, vi_lms, vi_lcs, vi_g0, vi_g1, vi_g2, vi_g3, vi_g4, vi_g5, vi_g6, vi_ti, vi_tb, vi_ts, vi_tn, vi_td, vi_tags0, vi_tags1, vi_tagsI, vi_tagsS, vi_tagsB, vi_allsI, vi_allsS, vi_allsB, vi_ai, vi_ab, vi_as, vi_an, vi_ad, vi_alls0, vi_alls1, vi_cl,
    vi_add, vi_sub, vi_mulr, vi_mull, vi_div, vi_mod, vi_lt, vi_le, vi_gt, vi_ge, vi_eqi, vi_nei, vi_eqb, vi_neb, vi_eqs, vi_nes, vi_lenl, vi_lent, vi_abs, vi_min, vi_max, vi_dm, vi_nm, vi_tp, vi_no, vi_app, vi_upd0, vi_upe, vi_fz0, vi_fz1, vi_fz2, vi_fz3, vi_go0, vi_go1, vi_pl0, vi_t1, vi_t2, vi_t3, vi_t4, vi_t5, vi_t6, vi_frz, vi_fn, vi_cst,
    R.bind_ok, R.of_some, Option.map_some, Option.bind_some, List.getElem?_cons_zero, List.getElem?_cons_succ, List.set_cons_zero, List.set_cons_succ, List.length_cons, List.length_nil, List.length_map, List.all_cons, List.all_nil, Bool.and_true, Bool.true_and, Bool.or_true, Bool.true_or, Bool.or_false, Bool.false_or, Bool.and_self, if_true, ite_true, reduceIte, Nat.reduceAdd, Nat.reduceSub, Nat.reduceMul, Nat.reduceLT, Nat.reduceLeDiff, Nat.reduceEqDiff, Int.reduceLT, Int.reduceLE, Int.reduceAdd, Int.reduceSub, Int.reduceMul, Int.reduceNeg, Int.reducePow, Int.reduceToNat, Int.natAbs_natCast, Nat.lt_add_one, decide_true, decide_false, Nat.zero_lt_succ, List.map_cons, List.map_nil, vi_y1, vi_y2, vi_y3, vi_y4, vi_y5, vi_seen, vi_cd, vi_old, vi_o1, vi_o2, vi_b1, vi_b2, vi_b3, vi_b4, vi_b5, vi_pow, vi_rsh, e_b0, e_b1, e_b2, e_b3, e_b4, e_b5, e_b6, vi_li1, vi_li2, vi_li3] <;> rfl) ?_
    refine w_loop (vals := [.int ((min (age.toNat + 1) xs.length : Nat) : Int)]) (fun i e => ∃ d3, e = [.nd t .lst (xs.map D.int), .int age, .int (xs.getD (i - 1) 0), d3]) (by simp -implicitDefEqProofs (decide := true) only [S.sem, e_nop, e_lit, e_loc, e_glb, e_bin, e_cmp, e_cm2, e_cmK, e_bop, e_and, e_or, e_one, e_anK, e_orK, e_anM, e_orM, e_not, e_noK, e_tru, e_tb, e_ti, e_tl, e_tt, e_tn, e_neg, e_neK, e_ife, e_ifK, e_tup, e_lst, e_ix, e_slc, e_call, e_blt, e_isi, e_comp, e_l0, e_l1, e_ixl, e_ixt, e_at, e_ixn, e_ixm, e_tyb1, e_tyb2, e_tyi1, e_tyi2, e_isn1, e_isn2, e_isn3, e_isn4, e_isn5, e_isb, e_eqni, e_eqin, vi_lb, vi_lm, vi_lc, vi_lbs, vi_lms, vi_lcs, vi_g0, vi_g1, vi_g2, vi_g3, vi_g4, vi_g5, vi_g6, vi_ti, vi_tb, vi_ts, vi_tn, vi_td, vi_tags0, vi_tags1, vi_tagsI, vi_tagsS, vi_tagsB, vi_allsI, vi_allsS, vi_allsB, vi_ai, vi_ab, vi_as, vi_an, vi_ad, vi_alls0, vi_alls1, vi_cl,
    vi_add, vi_sub, vi_mulr, vi_mull, vi_div, vi_mod, vi_lt, vi_le, vi_gt, vi_ge, vi_eqi, vi_nei, vi_eqb, vi_neb, vi_eqs, vi_nes, vi_lenl, vi_lent, vi_abs, vi_min, vi_max, vi_dm, vi_nm, vi_tp, vi_no, vi_app, vi_upd0, vi_upe, vi_fz0, vi_fz1, vi_fz2, vi_fz3, vi_go0, vi_go1, vi_pl0, vi_t1, vi_t2, vi_t3, vi_t4, vi_t5, vi_t6, vi_frz, vi_fn, vi_cst,
    R.bind_ok, R.of_some, Option.map_some, Option.bind_some, List.getElem?_cons_zero, List.getElem?_cons_succ, List.set_cons_zero, List.set_cons_succ, List.length_cons, List.length_nil, List.length_map, List.all_cons, List.all_nil, Bool.and_true, Bool.true_and, Bool.or_true, Bool.true_or, Bool.or_false, Bool.false_or, Bool.and_self, if_true, ite_true, reduceIte, Nat.reduceAdd, Nat.reduceSub, Nat.reduceMul, Nat.reduceLT, Nat.reduceLeDiff, Nat.reduceEqDiff, Int.reduceLT, Int.reduceLE, Int.reduceAdd, Int.reduceSub, Int.reduceMul, Int.reduceNeg, Int.reducePow, Int.reduceToNat, Int.natAbs_natCast, Nat.lt_add_one, decide_true, decide_false, Nat.zero_lt_succ, List.map_cons, List.map_nil, vi_y1, vi_y2, vi_y3, vi_y4, vi_y5, vi_seen, vi_cd, vi_old, vi_o1, vi_o2, vi_b1, vi_b2, vi_b3, vi_b4, vi_b5, vi_pow, vi_rsh, e_b0, e_b1, e_b2, e_b3, e_b4, e_b5, e_b6, vi_li1, vi_li2, vi_li3, e] <;> rfl) (by rfl) (rng1 (by omega) (by omega)) ⟨_, rfl⟩ ?_ ?_
    · rintro i env d hd ⟨d3, rfl⟩
      obtain ⟨hi, rfl⟩ := rng_item hd
      rw [Int.toNat_natCast] at hi
      have a1 := at_int (xs := xs) (i := (i : Int)) (by omega) (by omega)
      rw [Int.toNat_natCast] at a1
      refine ⟨rfl, _, rfl, ?_⟩
      refine w_step (by simp -implicitDefEqProofs (decide := true) only [S.sem, e_nop, e_lit, e_loc, e_glb, e_bin, e_cmp, e_cm2, e_cmK, e_bop, e_and, e_or, e_one, e_anK, e_orK, e_anM, e_orM, e_not, e_noK, e_tru, e_tb, e_ti, e_tl, e_tt, e_tn, e_neg, e_neK, e_ife, e_ifK, e_tup, e_lst, e_ix, e_slc, e_call, e_blt, e_isi, e_comp, e_l0, e_l1, e_ixl, e_ixt, e_at, e_ixn, e_ixm, e_tyb1, e_tyb2, e_tyi1, e_tyi2, e_isn1, e_isn2, e_isn3, e_isn4, e_isn5, e_isb, e_eqni, e_eqin, vi_lb, vi_lm, vi_lc, vi_lbs, vi_lms, vi_lcs, vi_g0, vi_g1, vi_g2, vi_g3, vi_g4, vi_g5, vi_g6, vi_ti, vi_tb, vi_ts, vi_tn, vi_td, vi_tags0, vi_tags1, vi_tagsI, vi_tagsS, vi_tagsB, vi_allsI, vi_allsS, vi_allsB, vi_ai, vi_ab, vi_as, vi_an, vi_ad, vi_alls0, vi_alls1, vi_cl,
    vi_add, vi_sub, vi_mulr, vi_mull, vi_div, vi_mod, vi_lt, vi_le, vi_gt, vi_ge, vi_eqi, vi_nei, vi_eqb, vi_neb, vi_eqs, vi_nes, vi_lenl, vi_lent, vi_abs, vi_min, vi_max, vi_dm, vi_nm, vi_tp, vi_no, vi_app, vi_upd0, vi_upe, vi_fz0, vi_fz1, vi_fz2, vi_fz3, vi_go0, vi_go1, vi_pl0, vi_t1, vi_t2, vi_t3, vi_t4, vi_t5, vi_t6, vi_frz, vi_fn, vi_cst,
    R.bind_ok, R.of_some, Option.map_some, Option.bind_some, List.getElem?_cons_zero, List.getElem?_cons_succ, List.set_cons_zero, List.set_cons_succ, List.length_cons, List.length_nil, List.length_map, List.all_cons, List.all_nil, Bool.and_true, Bool.true_and, Bool.or_true, Bool.true_or, Bool.or_false, Bool.false_or, Bool.and_self, if_true, ite_true, reduceIte, Nat.reduceAdd, Nat.reduceSub, Nat.reduceMul, Nat.reduceLT, Nat.reduceLeDiff, Nat.reduceEqDiff, Int.reduceLT, Int.reduceLE, Int.reduceAdd, Int.reduceSub, Int.reduceMul, Int.reduceNeg, Int.reducePow, Int.reduceToNat, Int.natAbs_natCast, Nat.lt_add_one, decide_true, decide_false, Nat.zero_lt_succ, List.map_cons, List.map_nil, vi_y1, vi_y2, vi_y3, vi_y4, vi_y5, vi_seen, vi_cd, vi_old, vi_o1, vi_o2, vi_b1, vi_b2, vi_b3, vi_b4, vi_b5, vi_pow, vi_rsh, e_b0, e_b1, e_b2, e_b3, e_b4, e_b5, e_b6, vi_li1, vi_li2, vi_li3, ↓a1] <;> rfl) ?_
      refine w_step (by simp -implicitDefEqProofs (decide := true) only [S.sem, e_nop, e_lit, e_loc, e_glb, e_bin, e_cmp, e_cm2, e_cmK, e_bop, e_and, e_or, e_one, e_anK, e_orK, e_anM, e_orM, e_not, e_noK, e_tru, e_tb, e_ti, e_tl, e_tt, e_tn, e_neg, e_neK, e_ife, e_ifK, e_tup, e_lst, e_ix, e_slc, e_call, e_blt, e_isi, e_comp, e_l0, e_l1, e_ixl, e_ixt, e_at, e_ixn, e_ixm, e_tyb1, e_tyb2, e_tyi1, e_tyi2, e_isn1, e_isn2, e_isn3, e_isn4, e_isn5, e_isb, e_eqni, e_eqin, vi_lb, vi_lm, vi_lc, vi_lbs, vi_lms, vi_lcs, vi_g0, vi_g1, vi_g2, vi_g3, vi_g4, vi_g5, vi_g6, vi_ti, vi_tb, vi_ts, vi_tn, vi_td, vi_tags0, vi_tags1, vi_tagsI, vi_tagsS, vi_tagsB, vi_allsI, vi_allsS, vi_allsB, vi_ai, vi_ab, vi_as, vi_an, vi_ad, vi_alls0, vi_alls1, vi_cl,
    vi_add, vi_sub, vi_mulr, vi_mull, vi_div, vi_mod, vi_lt, vi_le, vi_gt, vi_ge, vi_eqi, vi_nei, vi_eqb, vi_neb, vi_eqs, vi_nes, vi_lenl, vi_lent, vi_abs, vi_min, vi_max, vi_dm, vi_nm, vi_tp, vi_no, vi_app, vi_upd0, vi_upe, vi_fz0, vi_fz1, vi_fz2, vi_fz3, vi_go0, vi_go1, vi_pl0, vi_t1, vi_t2, vi_t3, vi_t4, vi_t5, vi_t6, vi_frz, vi_fn, vi_cst,
    R.bind_ok, R.of_some, Option.map_some, Option.bind_some, List.getElem?_cons_zero, List.getElem?_cons_succ, List.set_cons_zero, List.set_cons_succ, List.length_cons, List.length_nil, List.length_map, List.all_cons, List.all_nil, Bool.and_true, Bool.true_and, Bool.or_true, Bool.true_or, Bool.or_false, Bool.false_or, Bool.and_self, if_true, ite_true, reduceIte, Nat.reduceAdd, Nat.reduceSub, Nat.reduceMul, Nat.reduceLT, Nat.reduceLeDiff, Nat.reduceEqDiff, Int.reduceLT, Int.reduceLE, Int.reduceAdd, Int.reduceSub, Int.reduceMul, Int.reduceNeg, Int.reducePow, Int.reduceToNat, Int.natAbs_natCast, Nat.lt_add_one, decide_true, decide_false, Nat.zero_lt_succ, List.map_cons, List.map_nil, vi_y1, vi_y2, vi_y3, vi_y4, vi_y5, vi_seen, vi_cd, vi_old, vi_o1, vi_o2, vi_b1, vi_b2, vi_b3, vi_b4, vi_b5, vi_pow, vi_rsh, e_b0, e_b1, e_b2, e_b3, e_b4, e_b5, e_b6, vi_li1, vi_li2, vi_li3] <;> rfl) ?_
      exact w_nil ⟨_, rfl⟩
    · rintro e ⟨d3, rfl⟩
      refine w_ret (by simp -implicitDefEqProofs (decide := true) only [S.sem, e_nop, e_lit, e_loc, e_glb, e_bin, e_cmp, e_cm2, e_cmK, e_bop, e_and, e_or, e_one, e_anK, e_orK, e_anM, e_orM, e_not, e_noK, e_tru, e_tb, e_ti, e_tl, e_tt, e_tn, e_neg, e_neK, e_ife, e_ifK, e_tup, e_lst, e_ix, e_slc, e_call, e_blt, e_isi, e_comp, e_l0, e_l1, e_ixl, e_ixt, e_at, e_ixn, e_ixm, e_tyb1, e_tyb2, e_tyi1, e_tyi2, e_isn1, e_isn2, e_isn3, e_isn4, e_isn5, e_isb, e_eqni, e_eqin, vi_lb, vi_lm, vi_lc, vi_lbs, vi_lms, vi_lcs, vi_g0, vi_g1, vi_g2, vi_g3, vi_g4, vi_g5, vi_g6, vi_ti, vi_tb, vi_ts, vi_tn, vi_td, vi_tags0, vi_tags1, vi_tagsI, vi_tagsS, vi_tagsB, vi_allsI, vi_allsS, vi_allsB, vi_ai, vi_ab, vi_as, vi_an, vi_ad, vi_alls0, vi_alls1, vi_cl,
    vi_add, vi_sub, vi_mulr, vi_mull, vi_div, vi_mod, vi_lt, vi_le, vi_gt, vi_ge, vi_eqi, vi_nei, vi_eqb, vi_neb, vi_eqs, vi_nes, vi_lenl, vi_lent, vi_abs, vi_min, vi_max, vi_dm, vi_nm, vi_tp, vi_no, vi_app, vi_upd0, vi_upe, vi_fz0, vi_fz1, vi_fz2, vi_fz3, vi_go0, vi_go1, vi_pl0, vi_t1, vi_t2, vi_t3, vi_t4, vi_t5, vi_t6, vi_frz, vi_fn, vi_cst,
    R.bind_ok, R.of_some, Option.map_some, Option.bind_some, List.getElem?_cons_zero, List.getElem?_cons_succ, List.set_cons_zero, List.set_cons_succ, List.length_cons, List.length_nil, List.length_map, List.all_cons, List.all_nil, Bool.and_true, Bool.true_and, Bool.or_true, Bool.true_or, Bool.or_false, Bool.false_or, Bool.and_self, if_true, ite_true, reduceIte, Nat.reduceAdd, Nat.reduceSub, Nat.reduceMul, Nat.reduceLT, Nat.reduceLeDiff, Nat.reduceEqDiff, Int.reduceLT, Int.reduceLE, Int.reduceAdd, Int.reduceSub, Int.reduceMul, Int.reduceNeg, Int.reducePow, Int.reduceToNat, Int.natAbs_natCast, Nat.lt_add_one, decide_true, decide_false, Nat.zero_lt_succ, List.map_cons, List.map_nil, vi_y1, vi_y2, vi_y3, vi_y4, vi_y5, vi_seen, vi_cd, vi_old, vi_o1, vi_o2, vi_b1, vi_b2, vi_b3, vi_b4, vi_b5, vi_pow, vi_rsh, e_b0, e_b1, e_b2, e_b3, e_b4, e_b5, e_b6, vi_li1, vi_li2, vi_li3] <;> rfl) ?_
      show D.int _ = _
      rw [List.length_range, Int.toNat_natCast]
      unfold dk
      rw [show min (age.toNat + 1) xs.length - 1 = min age.toNat (xs.length - 1) by omega])
  exact h1
/-! ### the ages -/
def okAge (xs : List Int) (dark err : Int) (k : Nat) : Bool := decide ((if dk xs k - dark < 0 then -(dk xs k - dark) else dk xs k - dark) ≤ err)
def ages (xs : List Int) (dark err : Int) (g : Nat) : List Int := ((List.range g).filter (okAge xs dark err)).map fun (k : Nat) => (k : Int)
def told (t : Tag) (L : List Int) : D := if L = [] then .non else .nd t .tup [.int (L.getD 0 0), .int (L.getD (L.length - 1) 0)]
theorem ages_len (xs : List Int) (dark err : Int) (g : Nat) : (ages xs dark err g).length ≤ g := by
  unfold ages
  rw [List.length_map]
  have := List.length_filter_le (okAge xs dark err) (List.range g)
  rwa [List.length_range] at this
theorem eq_nil (t u : Tag) (L : List Int) : cmpV .Eq (.nd t .lst (L.map D.int)) (.nd u .lst []) = some (decide (L = [])) := eq_ints L []
theorem tell_end (G : Calls) (t : Tag) (L : List Int) (hf : G.frz = .new) (env : List D) (i : Nat) (hL : getL env i = some (.nd t .lst (L.map D.int))) : Wn { nx := fun _ => D.non = told .own L, rt := fun r => r = told .own L } (semSs G [
  .ifs (.cmp .Eq (.loc i .bor) (.lst [])) [
    .ret (.lit .non)] [],
  .ret (.tup [(.ix (.loc i .bor) (.lit (.int 0))), (.ix (.loc i .bor) (.neg (.lit (.int 1))))])] env) := by
  have e1 := eq_nil
  by_cases h : L = []
  · subst h
    refine w_ite (k := true) (by
      simp -implicitDefEqProofs (decide := true) only [S.sem, e_nop, e_lit, e_loc, e_glb, e_bin, e_cmp, e_cm2, e_cmK, e_bop, e_and, e_or, e_one, e_anK, e_orK, e_anM, e_orM, e_not, e_noK, e_tru, e_tb, e_ti, e_tl, e_tt, e_tn, e_neg, e_neK, e_ife, e_ifK, e_tup, e_lst, e_ix, e_slc, e_call, e_blt, e_isi, e_comp, e_l0, e_l1, e_ixl, e_ixt, e_at, e_ixn, e_ixm, e_tyb1, e_tyb2, e_tyi1, e_tyi2, e_isn1, e_isn2, e_isn3, e_isn4, e_isn5, e_isb, e_eqni, e_eqin, vi_lb, vi_lm, vi_lc, vi_lbs, vi_lms, vi_lcs, vi_g0, vi_g1, vi_g2, vi_g3, vi_g4, vi_g5, vi_g6, vi_ti, vi_tb, vi_ts, vi_tn, vi_td, vi_tags0, vi_tags1, vi_tagsI, vi_tagsS, vi_tagsB, vi_allsI, vi_allsS, vi_allsB, vi_ai, vi_ab, vi_as, vi_an, vi_ad, vi_alls0, vi_alls1, vi_cl,
    vi_add, vi_sub, vi_mulr, vi_mull, vi_div, vi_mod, vi_lt, vi_le, vi_gt, vi_ge, vi_eqi, vi_nei, vi_eqb, vi_neb, vi_eqs, vi_nes, vi_lenl, vi_lent, vi_abs, vi_min, vi_max, vi_dm, vi_nm, vi_tp, vi_no, vi_app, vi_upd0, vi_upe, vi_fz0, vi_fz1, vi_fz2, vi_fz3, vi_go0, vi_go1, vi_pl0, vi_t1, vi_t2, vi_t3, vi_t4, vi_t5, vi_t6, vi_frz, vi_fn, vi_cst,
    R.bind_ok, R.of_some, Option.map_some, Option.bind_some, List.getElem?_cons_zero, List.getElem?_cons_succ, List.set_cons_zero, List.set_cons_succ, List.length_cons, List.length_nil, List.length_map, List.all_cons, List.all_nil, Bool.and_true, Bool.true_and, Bool.or_true, Bool.true_or, Bool.or_false, Bool.false_or, Bool.and_self, if_true, ite_true, reduceIte, Nat.reduceAdd, Nat.reduceSub, Nat.reduceMul, Nat.reduceLT, Nat.reduceLeDiff, Nat.reduceEqDiff, Int.reduceLT, Int.reduceLE, Int.reduceAdd, Int.reduceSub, Int.reduceMul, Int.reduceNeg, Int.reducePow, Int.reduceToNat, Int.natAbs_natCast, Nat.lt_add_one, decide_true, decide_false, Nat.zero_lt_succ, List.map_cons, List.map_nil, vi_y1, vi_y2, vi_y3, vi_y4, vi_y5, vi_seen, vi_cd, vi_old, vi_o1, vi_o2, vi_b1, vi_b2, vi_b3, vi_b4, vi_b5, vi_pow, vi_rsh, e_b0, e_b1, e_b2, e_b3, e_b4, e_b5, e_b6, vi_li1, vi_li2, vi_li3, hL, locB, List.map_nil]
      rfl) (fun _ => ?_) (fun q => by cases q)
    exact w_ret (by simp -implicitDefEqProofs (decide := true) only [S.sem, e_nop, e_lit, e_loc, e_glb, e_bin, e_cmp, e_cm2, e_cmK, e_bop, e_and, e_or, e_one, e_anK, e_orK, e_anM, e_orM, e_not, e_noK, e_tru, e_tb, e_ti, e_tl, e_tt, e_tn, e_neg, e_neK, e_ife, e_ifK, e_tup, e_lst, e_ix, e_slc, e_call, e_blt, e_isi, e_comp, e_l0, e_l1, e_ixl, e_ixt, e_at, e_ixn, e_ixm, e_tyb1, e_tyb2, e_tyi1, e_tyi2, e_isn1, e_isn2, e_isn3, e_isn4, e_isn5, e_isb, e_eqni, e_eqin, vi_lb, vi_lm, vi_lc, vi_lbs, vi_lms, vi_lcs, vi_g0, vi_g1, vi_g2, vi_g3, vi_g4, vi_g5, vi_g6, vi_ti, vi_tb, vi_ts, vi_tn, vi_td, vi_tags0, vi_tags1, vi_tagsI, vi_tagsS, vi_tagsB, vi_allsI, vi_allsS, vi_allsB, vi_ai, vi_ab, vi_as, vi_an, vi_ad, vi_alls0, vi_alls1, vi_cl,
    vi_add, vi_sub, vi_mulr, vi_mull, vi_div, vi_mod, vi_lt, vi_le, vi_gt, vi_ge, vi_eqi, vi_nei, vi_eqb, vi_neb, vi_eqs, vi_nes, vi_lenl, vi_lent, vi_abs, vi_min, vi_max, vi_dm, vi_nm, vi_tp, vi_no, vi_app, vi_upd0, vi_upe, vi_fz0, vi_fz1, vi_fz2, vi_fz3, vi_go0, vi_go1, vi_pl0, vi_t1, vi_t2, vi_t3, vi_t4, vi_t5, vi_t6, vi_frz, vi_fn, vi_cst,
    R.bind_ok, R.of_some, Option.map_some, Option.bind_some, List.getElem?_cons_zero, List.getElem?_cons_succ, List.set_cons_zero, List.set_cons_succ, List.length_cons, List.length_nil, List.length_map, List.all_cons, List.all_nil, Bool.and_true, Bool.true_and, Bool.or_true, Bool.true_or, Bool.or_false, Bool.false_or, Bool.and_self, if_true, ite_true, reduceIte, Nat.reduceAdd, Nat.reduceSub, Nat.reduceMul, Nat.reduceLT, Nat.reduceLeDiff, Nat.reduceEqDiff, Int.reduceLT, Int.reduceLE, Int.reduceAdd, Int.reduceSub, Int.reduceMul, Int.reduceNeg, Int.reducePow, Int.reduceToNat, Int.natAbs_natCast, Nat.lt_add_one, decide_true, decide_false, Nat.zero_lt_succ, List.map_cons, List.map_nil, vi_y1, vi_y2, vi_y3, vi_y4, vi_y5, vi_seen, vi_cd, vi_old, vi_o1, vi_o2, vi_b1, vi_b2, vi_b3, vi_b4, vi_b5, vi_pow, vi_rsh, e_b0, e_b1, e_b2, e_b3, e_b4, e_b5, e_b6, vi_li1, vi_li2, vi_li3] <;> rfl) rfl
  · have hl : 1 ≤ L.length := by cases L with | nil => exact absurd rfl h | cons a b => show 1 ≤ b.length + 1; omega
    refine w_ifr (k := false) (by
      simp -implicitDefEqProofs (decide := true) only [S.sem, e_nop, e_lit, e_loc, e_glb, e_bin, e_cmp, e_cm2, e_cmK, e_bop, e_and, e_or, e_one, e_anK, e_orK, e_anM, e_orM, e_not, e_noK, e_tru, e_tb, e_ti, e_tl, e_tt, e_tn, e_neg, e_neK, e_ife, e_ifK, e_tup, e_lst, e_ix, e_slc, e_call, e_blt, e_isi, e_comp, e_l0, e_l1, e_ixl, e_ixt, e_at, e_ixn, e_ixm, e_tyb1, e_tyb2, e_tyi1, e_tyi2, e_isn1, e_isn2, e_isn3, e_isn4, e_isn5, e_isb, e_eqni, e_eqin, vi_lb, vi_lm, vi_lc, vi_lbs, vi_lms, vi_lcs, vi_g0, vi_g1, vi_g2, vi_g3, vi_g4, vi_g5, vi_g6, vi_ti, vi_tb, vi_ts, vi_tn, vi_td, vi_tags0, vi_tags1, vi_tagsI, vi_tagsS, vi_tagsB, vi_allsI, vi_allsS, vi_allsB, vi_ai, vi_ab, vi_as, vi_an, vi_ad, vi_alls0, vi_alls1, vi_cl,
    vi_add, vi_sub, vi_mulr, vi_mull, vi_div, vi_mod, vi_lt, vi_le, vi_gt, vi_ge, vi_eqi, vi_nei, vi_eqb, vi_neb, vi_eqs, vi_nes, vi_lenl, vi_lent, vi_abs, vi_min, vi_max, vi_dm, vi_nm, vi_tp, vi_no, vi_app, vi_upd0, vi_upe, vi_fz0, vi_fz1, vi_fz2, vi_fz3, vi_go0, vi_go1, vi_pl0, vi_t1, vi_t2, vi_t3, vi_t4, vi_t5, vi_t6, vi_frz, vi_fn, vi_cst,
    R.bind_ok, R.of_some, Option.map_some, Option.bind_some, List.getElem?_cons_zero, List.getElem?_cons_succ, List.set_cons_zero, List.set_cons_succ, List.length_cons, List.length_nil, List.length_map, List.all_cons, List.all_nil, Bool.and_true, Bool.true_and, Bool.or_true, Bool.true_or, Bool.or_false, Bool.false_or, Bool.and_self, if_true, ite_true, reduceIte, Nat.reduceAdd, Nat.reduceSub, Nat.reduceMul, Nat.reduceLT, Nat.reduceLeDiff, Nat.reduceEqDiff, Int.reduceLT, Int.reduceLE, Int.reduceAdd, Int.reduceSub, Int.reduceMul, Int.reduceNeg, Int.reducePow, Int.reduceToNat, Int.natAbs_natCast, Nat.lt_add_one, decide_true, decide_false, Nat.zero_lt_succ, List.map_cons, List.map_nil, vi_y1, vi_y2, vi_y3, vi_y4, vi_y5, vi_seen, vi_cd, vi_old, vi_o1, vi_o2, vi_b1, vi_b2, vi_b3, vi_b4, vi_b5, vi_pow, vi_rsh, e_b0, e_b1, e_b2, e_b3, e_b4, e_b5, e_b6, vi_li1, vi_li2, vi_li3, hL, locB, eq_nil, decide_eq_false h]
      rfl) (fun q => by cases q) (fun _ => ?_)
    have a0 := at_int (xs := L) (i := 0) (by decide) (by omega)
    have a1 := at_neg hl
    refine w_ret (by simp -implicitDefEqProofs (decide := true) only [S.sem, e_nop, e_lit, e_loc, e_glb, e_bin, e_cmp, e_cm2, e_cmK, e_bop, e_and, e_or, e_one, e_anK, e_orK, e_anM, e_orM, e_not, e_noK, e_tru, e_tb, e_ti, e_tl, e_tt, e_tn, e_neg, e_neK, e_ife, e_ifK, e_tup, e_lst, e_ix, e_slc, e_call, e_blt, e_isi, e_comp, e_l0, e_l1, e_ixl, e_ixt, e_at, e_ixn, e_ixm, e_tyb1, e_tyb2, e_tyi1, e_tyi2, e_isn1, e_isn2, e_isn3, e_isn4, e_isn5, e_isb, e_eqni, e_eqin, vi_lb, vi_lm, vi_lc, vi_lbs, vi_lms, vi_lcs, vi_g0, vi_g1, vi_g2, vi_g3, vi_g4, vi_g5, vi_g6, vi_ti, vi_tb, vi_ts, vi_tn, vi_td, vi_tags0, vi_tags1, vi_tagsI, vi_tagsS, vi_tagsB, vi_allsI, vi_allsS, vi_allsB, vi_ai, vi_ab, vi_as, vi_an, vi_ad, vi_alls0, vi_alls1, vi_cl,
    vi_add, vi_sub, vi_mulr, vi_mull, vi_div, vi_mod, vi_lt, vi_le, vi_gt, vi_ge, vi_eqi, vi_nei, vi_eqb, vi_neb, vi_eqs, vi_nes, vi_lenl, vi_lent, vi_abs, vi_min, vi_max, vi_dm, vi_nm, vi_tp, vi_no, vi_app, vi_upd0, vi_upe, vi_fz0, vi_fz1, vi_fz2, vi_fz3, vi_go0, vi_go1, vi_pl0, vi_t1, vi_t2, vi_t3, vi_t4, vi_t5, vi_t6, vi_frz, vi_fn, vi_cst,
    R.bind_ok, R.of_some, Option.map_some, Option.bind_some, List.getElem?_cons_zero, List.getElem?_cons_succ, List.set_cons_zero, List.set_cons_succ, List.length_cons, List.length_nil, List.length_map, List.all_cons, List.all_nil, Bool.and_true, Bool.true_and, Bool.or_true, Bool.true_or, Bool.or_false, Bool.false_or, Bool.and_self, if_true, ite_true, reduceIte, Nat.reduceAdd, Nat.reduceSub, Nat.reduceMul, Nat.reduceLT, Nat.reduceLeDiff, Nat.reduceEqDiff, Int.reduceLT, Int.reduceLE, Int.reduceAdd, Int.reduceSub, Int.reduceMul, Int.reduceNeg, Int.reducePow, Int.reduceToNat, Int.natAbs_natCast, Nat.lt_add_one, decide_true, decide_false, Nat.zero_lt_succ, List.map_cons, List.map_nil, vi_y1, vi_y2, vi_y3, vi_y4, vi_y5, vi_seen, vi_cd, vi_old, vi_o1, vi_o2, vi_b1, vi_b2, vi_b3, vi_b4, vi_b5, vi_pow, vi_rsh, e_b0, e_b1, e_b2, e_b3, e_b4, e_b5, e_b6, vi_li1, vi_li2, vi_li3, hL, locB, ↓a0, ↓a1] <;> rfl) ?_
    unfold told
    rw [if_neg h]
theorem f_lages (n : Nat) (t : Tag) (xs : List Int) (dark err : Int) (g : Nat) (hg : g ≤ 1000) (hx : 1 ≤ xs.length) : lw.pg.fn (n + 1) "_law_ages" [.nd t .lst (xs.map D.int), .int dark, .int err, .int ((g : Int) - 1)] = .ok (told .own (ages xs dark err g)) := by
  rw [Pg.fn_s (d := d_law_ages) rfl]
  obtain ⟨r, h1, rfl⟩ := call_rt (d := d_law_ages) (G := lw.pg.G n) (args := [.nd t .lst (xs.map D.int), .int dark, .int err, .int ((g : Int) - 1)]) (Q := fun r => r = told .own (ages xs dark err g)) rfl (by
    show Wn _ (semSs _ d_law_ages.body [.nd t .lst (xs.map D.int), .int dark, .int err, .int ((g : Int) - 1), .und, .und])
    unfold d_law_ages
    refine w_step (by simp -implicitDefEqProofs (decide := true) only [S.sem, e_nop, e_lit, e_loc, e_glb, e_bin, e_cmp, e_cm2, e_cmK, e_bop, e_and, e_or, e_one, e_anK, e_orK, e_anM, e_orM, e_not, e_noK, e_tru, e_tb, e_ti, e_tl, e_tt, e_tn, e_neg, e_neK, e_ife, e_ifK, e_tup, e_lst, e_ix, e_slc, e_call, e_blt, e_isi, e_comp, e_l0, e_l1, e_ixl, e_ixt, e_at, e_ixn, e_ixm, e_tyb1, e_tyb2, e_tyi1, e_tyi2, e_isn1, e_isn2, e_isn3, e_isn4, e_isn5, e_isb, e_eqni, e_eqin, vi_lb, vi_lm, vi_lc, vi_lbs, vi_lms, vi_lcs, vi_g0, vi_g1, vi_g2, vi_g3, vi_g4, vi_g5, vi_g6, vi_ti, vi_tb, vi_ts, vi_tn, vi_td, vi_tags0, vi_tags1, vi_tagsI, vi_tagsS, vi_tagsB, vi_allsI, vi_allsS, vi_allsB, vi_ai, vi_ab, vi_as, vi_an, vi_ad, vi_alls0, vi_alls1, vi_cl,
    vi_add, vi_sub, vi_mulr, vi_mull, vi_div, vi_mod, vi_lt, vi_le, vi_gt, vi_ge, vi_eqi, vi_nei, vi_eqb, vi_neb, vi_eqs, vi_nes, vi_lenl, vi_lent, vi_abs, vi_min, vi_max, vi_dm, vi_nm, vi_tp, vi_no, vi_app, vi_upd0, vi_upe, vi_fz0, vi_fz1, vi_fz2, vi_fz3, vi_go0, vi_go1, vi_pl0, vi_t1, vi_t2, vi_t3, vi_t4, vi_t5, vi_t6, vi_frz, vi_fn, vi_cst,
    R.bind_ok, R.of_some, Option.map_some, Option.bind_some, List.getElem?_cons_zero, List.getElem?_cons_succ, List.set_cons_zero, List.set_cons_succ, List.length_cons, List.length_nil, List.length_map, List.all_cons, List.all_nil, Bool.and_true, Bool.true_and, Bool.or_true, Bool.true_or, Bool.or_false, Bool.false_or, Bool.and_self, if_true, ite_true, reduceIte, Nat.reduceAdd, Nat.reduceSub, Nat.reduceMul, Nat.reduceLT, Nat.reduceLeDiff, Nat.reduceEqDiff, Int.reduceLT, Int.reduceLE, Int.reduceAdd, Int.reduceSub, Int.reduceMul, Int.reduceNeg, Int.reducePow, Int.reduceToNat, Int.natAbs_natCast, Nat.lt_add_one, decide_true, decide_false, Nat.zero_lt_succ, List.map_cons, List.map_nil, vi_y1, vi_y2, vi_y3, vi_y4, vi_y5, vi_seen, vi_cd, vi_old, vi_o1, vi_o2, vi_b1, vi_b2, vi_b3, vi_b4, vi_b5, vi_pow, vi_rsh, e_b0, e_b1, e_b2, e_b3, e_b4, e_b5, e_b6, vi_li1, vi_li2, vi_li3] <;> rfl) ?_
    have eg : (g : Int) - 1 + 1 = g := by omega
    refine w_loop (vals := [.int (g : Int)]) (fun i e => ∃ d5, e = [.nd t .lst (xs.map D.int), .int dark, .int err, .int ((g : Int) - 1), .nd .own .lst ((ages xs dark err i).map D.int), d5]) (by simp -implicitDefEqProofs (decide := true) only [S.sem, e_nop, e_lit, e_loc, e_glb, e_bin, e_cmp, e_cm2, e_cmK, e_bop, e_and, e_or, e_one, e_anK, e_orK, e_anM, e_orM, e_not, e_noK, e_tru, e_tb, e_ti, e_tl, e_tt, e_tn, e_neg, e_neK, e_ife, e_ifK, e_tup, e_lst, e_ix, e_slc, e_call, e_blt, e_isi, e_comp, e_l0, e_l1, e_ixl, e_ixt, e_at, e_ixn, e_ixm, e_tyb1, e_tyb2, e_tyi1, e_tyi2, e_isn1, e_isn2, e_isn3, e_isn4, e_isn5, e_isb, e_eqni, e_eqin, vi_lb, vi_lm, vi_lc, vi_lbs, vi_lms, vi_lcs, vi_g0, vi_g1, vi_g2, vi_g3, vi_g4, vi_g5, vi_g6, vi_ti, vi_tb, vi_ts, vi_tn, vi_td, vi_tags0, vi_tags1, vi_tagsI, vi_tagsS, vi_tagsB, vi_allsI, vi_allsS, vi_allsB, vi_ai, vi_ab, vi_as, vi_an, vi_ad, vi_alls0, vi_alls1, vi_cl,
    vi_add, vi_sub, vi_mulr, vi_mull, vi_div, vi_mod, vi_lt, vi_le, vi_gt, vi_ge, vi_eqi, vi_nei, vi_eqb, vi_neb, vi_eqs, vi_nes, vi_lenl, vi_lent, vi_abs, vi_min, vi_max, vi_dm, vi_nm, vi_tp, vi_no, vi_app, vi_upd0, vi_upe, vi_fz0, vi_fz1, vi_fz2, vi_fz3, vi_go0, vi_go1, vi_pl0, vi_t1, vi_t2, vi_t3, vi_t4, vi_t5, vi_t6, vi_frz, vi_fn, vi_cst,
    R.bind_ok, R.of_some, Option.map_some, Option.bind_some, List.getElem?_cons_zero, List.getElem?_cons_succ, List.set_cons_zero, List.set_cons_succ, List.length_cons, List.length_nil, List.length_map, List.all_cons, List.all_nil, Bool.and_true, Bool.true_and, Bool.or_true, Bool.true_or, Bool.or_false, Bool.false_or, Bool.and_self, if_true, ite_true, reduceIte, Nat.reduceAdd, Nat.reduceSub, Nat.reduceMul, Nat.reduceLT, Nat.reduceLeDiff, Nat.reduceEqDiff, Int.reduceLT, Int.reduceLE, Int.reduceAdd, Int.reduceSub, Int.reduceMul, Int.reduceNeg, Int.reducePow, Int.reduceToNat, Int.natAbs_natCast, Nat.lt_add_one, decide_true, decide_false, Nat.zero_lt_succ, List.map_cons, List.map_nil, vi_y1, vi_y2, vi_y3, vi_y4, vi_y5, vi_seen, vi_cd, vi_old, vi_o1, vi_o2, vi_b1, vi_b2, vi_b3, vi_b4, vi_b5, vi_pow, vi_rsh, e_b0, e_b1, e_b2, e_b3, e_b4, e_b5, e_b6, vi_li1, vi_li2, vi_li3, eg] <;> rfl) (by rfl) (rng1 (by omega) (by omega)) ⟨_, rfl⟩ ?_ ?_
    · rintro i env d hd ⟨d5, rfl⟩
      obtain ⟨hi, rfl⟩ := rng_item hd
      rw [Int.toNat_natCast] at hi
      have e : (if (xs.length : Int) - 1 < (i : Int) then (xs.length : Int) - 1 else (i : Int)) = ((min i (xs.length - 1) : Nat) : Int) := by split <;> omega
      have hat := at_int (xs := xs) (i := ((min i (xs.length - 1) : Nat) : Int)) (by omega) (by omega)
      rw [Int.toNat_natCast] at hat
      have hdk : xs.getD (min i (xs.length - 1)) 0 = dk xs (i : Int) := by unfold dk; rw [Int.toNat_natCast]
      rw [hdk] at hat
      have hs : ages xs dark err (i + 1) = ages xs dark err i ++ if okAge xs dark err i = true then [(i : Int)] else [] := by
        unfold ages
        rw [List.range_succ, List.filter_append, List.map_append]
        congr 1
        rw [List.filter_cons, List.filter_nil]
        split <;> rfl
      have hlen := ages_len xs dark err i
      refine ⟨rfl, _, rfl, ?_⟩
      refine w_ifr (k := okAge xs dark err i) (by simp -implicitDefEqProofs (decide := true) only [S.sem, e_nop, e_lit, e_loc, e_glb, e_bin, e_cmp, e_cm2, e_cmK, e_bop, e_and, e_or, e_one, e_anK, e_orK, e_anM, e_orM, e_not, e_noK, e_tru, e_tb, e_ti, e_tl, e_tt, e_tn, e_neg, e_neK, e_ife, e_ifK, e_tup, e_lst, e_ix, e_slc, e_call, e_blt, e_isi, e_comp, e_l0, e_l1, e_ixl, e_ixt, e_at, e_ixn, e_ixm, e_tyb1, e_tyb2, e_tyi1, e_tyi2, e_isn1, e_isn2, e_isn3, e_isn4, e_isn5, e_isb, e_eqni, e_eqin, vi_lb, vi_lm, vi_lc, vi_lbs, vi_lms, vi_lcs, vi_g0, vi_g1, vi_g2, vi_g3, vi_g4, vi_g5, vi_g6, vi_ti, vi_tb, vi_ts, vi_tn, vi_td, vi_tags0, vi_tags1, vi_tagsI, vi_tagsS, vi_tagsB, vi_allsI, vi_allsS, vi_allsB, vi_ai, vi_ab, vi_as, vi_an, vi_ad, vi_alls0, vi_alls1, vi_cl,
    vi_add, vi_sub, vi_mulr, vi_mull, vi_div, vi_mod, vi_lt, vi_le, vi_gt, vi_ge, vi_eqi, vi_nei, vi_eqb, vi_neb, vi_eqs, vi_nes, vi_lenl, vi_lent, vi_abs, vi_min, vi_max, vi_dm, vi_nm, vi_tp, vi_no, vi_app, vi_upd0, vi_upe, vi_fz0, vi_fz1, vi_fz2, vi_fz3, vi_go0, vi_go1, vi_pl0, vi_t1, vi_t2, vi_t3, vi_t4, vi_t5, vi_t6, vi_frz, vi_fn, vi_cst,
    R.bind_ok, R.of_some, Option.map_some, Option.bind_some, List.getElem?_cons_zero, List.getElem?_cons_succ, List.set_cons_zero, List.set_cons_succ, List.length_cons, List.length_nil, List.length_map, List.all_cons, List.all_nil, Bool.and_true, Bool.true_and, Bool.or_true, Bool.true_or, Bool.or_false, Bool.false_or, Bool.and_self, if_true, ite_true, reduceIte, Nat.reduceAdd, Nat.reduceSub, Nat.reduceMul, Nat.reduceLT, Nat.reduceLeDiff, Nat.reduceEqDiff, Int.reduceLT, Int.reduceLE, Int.reduceAdd, Int.reduceSub, Int.reduceMul, Int.reduceNeg, Int.reducePow, Int.reduceToNat, Int.natAbs_natCast, Nat.lt_add_one, decide_true, decide_false, Nat.zero_lt_succ, List.map_cons, List.map_nil, vi_y1, vi_y2, vi_y3, vi_y4, vi_y5, vi_seen, vi_cd, vi_old, vi_o1, vi_o2, vi_b1, vi_b2, vi_b3, vi_b4, vi_b5, vi_pow, vi_rsh, e_b0, e_b1, e_b2, e_b3, e_b4, e_b5, e_b6, vi_li1, vi_li2, vi_li3, e, ↓hat] <;> rfl) (fun hk => ?_) (fun hk => ?_)
      · rw [hs, hk, if_pos rfl]
        generalize ages xs dark err i = L at hlen
        have hlen : (L.map D.int).length < 16777216 := by rw [List.length_map]; omega
        refine w_step (by simp -implicitDefEqProofs (decide := true) only [S.sem, e_nop, e_lit, e_loc, e_glb, e_bin, e_cmp, e_cm2, e_cmK, e_bop, e_and, e_or, e_one, e_anK, e_orK, e_anM, e_orM, e_not, e_noK, e_tru, e_tb, e_ti, e_tl, e_tt, e_tn, e_neg, e_neK, e_ife, e_ifK, e_tup, e_lst, e_ix, e_slc, e_call, e_blt, e_isi, e_comp, e_l0, e_l1, e_ixl, e_ixt, e_at, e_ixn, e_ixm, e_tyb1, e_tyb2, e_tyi1, e_tyi2, e_isn1, e_isn2, e_isn3, e_isn4, e_isn5, e_isb, e_eqni, e_eqin, vi_lb, vi_lm, vi_lc, vi_lbs, vi_lms, vi_lcs, vi_g0, vi_g1, vi_g2, vi_g3, vi_g4, vi_g5, vi_g6, vi_ti, vi_tb, vi_ts, vi_tn, vi_td, vi_tags0, vi_tags1, vi_tagsI, vi_tagsS, vi_tagsB, vi_allsI, vi_allsS, vi_allsB, vi_ai, vi_ab, vi_as, vi_an, vi_ad, vi_alls0, vi_alls1, vi_cl,
    vi_add, vi_sub, vi_mulr, vi_mull, vi_div, vi_mod, vi_lt, vi_le, vi_gt, vi_ge, vi_eqi, vi_nei, vi_eqb, vi_neb, vi_eqs, vi_nes, vi_lenl, vi_lent, vi_abs, vi_min, vi_max, vi_dm, vi_nm, vi_tp, vi_no, vi_app, vi_upd0, vi_upe, vi_fz0, vi_fz1, vi_fz2, vi_fz3, vi_go0, vi_go1, vi_pl0, vi_t1, vi_t2, vi_t3, vi_t4, vi_t5, vi_t6, vi_frz, vi_fn, vi_cst,
    R.bind_ok, R.of_some, Option.map_some, Option.bind_some, List.getElem?_cons_zero, List.getElem?_cons_succ, List.set_cons_zero, List.set_cons_succ, List.length_cons, List.length_nil, List.length_map, List.all_cons, List.all_nil, Bool.and_true, Bool.true_and, Bool.or_true, Bool.true_or, Bool.or_false, Bool.false_or, Bool.and_self, if_true, ite_true, reduceIte, Nat.reduceAdd, Nat.reduceSub, Nat.reduceMul, Nat.reduceLT, Nat.reduceLeDiff, Nat.reduceEqDiff, Int.reduceLT, Int.reduceLE, Int.reduceAdd, Int.reduceSub, Int.reduceMul, Int.reduceNeg, Int.reducePow, Int.reduceToNat, Int.natAbs_natCast, Nat.lt_add_one, decide_true, decide_false, Nat.zero_lt_succ, List.map_cons, List.map_nil, vi_y1, vi_y2, vi_y3, vi_y4, vi_y5, vi_seen, vi_cd, vi_old, vi_o1, vi_o2, vi_b1, vi_b2, vi_b3, vi_b4, vi_b5, vi_pow, vi_rsh, e_b0, e_b1, e_b2, e_b3, e_b4, e_b5, e_b6, vi_li1, vi_li2, vi_li3, vi_app hlen] <;> rfl) ?_
        exact w_nilnil ⟨_, by rw [← map_snoc]⟩
      · rw [hs, hk, if_neg (by decide), List.append_nil]
        exact w_nil ⟨_, rfl⟩
    · rintro e ⟨d5, rfl⟩
      rw [List.length_map, List.length_range, Int.toNat_natCast]
      exact tell_end _ .own _ vi_frz _ 4 rfl)
  exact h1
theorem f_ages (n : Nat) (t : Tag) (xs : List Int) (dark err : Int) (g : Nat) (hg : g ≤ 1000) (hx : 1 ≤ xs.length) : lw.pg.fn (n + 2) "ages_of" [.nd t .lst (xs.map D.int), .int dark, .int err, .int ((g : Int) - 1)] = .ok (told .own (ages xs dark err g)) := by
  rw [Pg.fn_s (d := d_ages_of) rfl]
  obtain ⟨r, h1, rfl⟩ := call_rt (d := d_ages_of) (G := lw.pg.G (n + 1)) (args := [.nd t .lst (xs.map D.int), .int dark, .int err, .int ((g : Int) - 1)]) (Q := fun r => r = told .own (ages xs dark err g)) rfl (by
    show Wn _ (semSs _ d_ages_of.body [.nd t .lst (xs.map D.int), .int dark, .int err, .int ((g : Int) - 1), .und, .und])
    unfold d_ages_of
    have eg : (g : Int) - 1 + 1 = g := by omega
    have hc := comp_ok (G := lw.pg.G (n + 1)) (ws := [5]) (tg := .nm 5) (k := .rng) (its := [(.bin .Add (.loc 3 .bor) (.lit (.int 1)))]) (cond := [(.cmp .LtE (.blt .abs [(.bin .Sub (.call "darkness_at" [(.loc 0 .bor), (.loc 5 .bor)]) (.loc 1 .bor))]) (.loc 2 .bor))]) (elt := (.loc 5 .bor))
      (env := [.nd t .lst (xs.map D.int), .int dark, .int err, .int ((g : Int) - 1), .und, .und]) (fun d => match d with | .int k => okAge xs dark err k.toNat | _ => false) (fun d => d) (vals := [.int (g : Int)]) (by simp -implicitDefEqProofs (decide := true) only [S.sem, e_nop, e_lit, e_loc, e_glb, e_bin, e_cmp, e_cm2, e_cmK, e_bop, e_and, e_or, e_one, e_anK, e_orK, e_anM, e_orM, e_not, e_noK, e_tru, e_tb, e_ti, e_tl, e_tt, e_tn, e_neg, e_neK, e_ife, e_ifK, e_tup, e_lst, e_ix, e_slc, e_call, e_blt, e_isi, e_comp, e_l0, e_l1, e_ixl, e_ixt, e_at, e_ixn, e_ixm, e_tyb1, e_tyb2, e_tyi1, e_tyi2, e_isn1, e_isn2, e_isn3, e_isn4, e_isn5, e_isb, e_eqni, e_eqin, vi_lb, vi_lm, vi_lc, vi_lbs, vi_lms, vi_lcs, vi_g0, vi_g1, vi_g2, vi_g3, vi_g4, vi_g5, vi_g6, vi_ti, vi_tb, vi_ts, vi_tn, vi_td, vi_tags0, vi_tags1, vi_tagsI, vi_tagsS, vi_tagsB, vi_allsI, vi_allsS, vi_allsB, vi_ai, vi_ab, vi_as, vi_an, vi_ad, vi_alls0, vi_alls1, vi_cl,
    vi_add, vi_sub, vi_mulr, vi_mull, vi_div, vi_mod, vi_lt, vi_le, vi_gt, vi_ge, vi_eqi, vi_nei, vi_eqb, vi_neb, vi_eqs, vi_nes, vi_lenl, vi_lent, vi_abs, vi_min, vi_max, vi_dm, vi_nm, vi_tp, vi_no, vi_app, vi_upd0, vi_upe, vi_fz0, vi_fz1, vi_fz2, vi_fz3, vi_go0, vi_go1, vi_pl0, vi_t1, vi_t2, vi_t3, vi_t4, vi_t5, vi_t6, vi_frz, vi_fn, vi_cst,
    R.bind_ok, R.of_some, Option.map_some, Option.bind_some, List.getElem?_cons_zero, List.getElem?_cons_succ, List.set_cons_zero, List.set_cons_succ, List.length_cons, List.length_nil, List.length_map, List.all_cons, List.all_nil, Bool.and_true, Bool.true_and, Bool.or_true, Bool.true_or, Bool.or_false, Bool.false_or, Bool.and_self, if_true, ite_true, reduceIte, Nat.reduceAdd, Nat.reduceSub, Nat.reduceMul, Nat.reduceLT, Nat.reduceLeDiff, Nat.reduceEqDiff, Int.reduceLT, Int.reduceLE, Int.reduceAdd, Int.reduceSub, Int.reduceMul, Int.reduceNeg, Int.reducePow, Int.reduceToNat, Int.natAbs_natCast, Nat.lt_add_one, decide_true, decide_false, Nat.zero_lt_succ, List.map_cons, List.map_nil, vi_y1, vi_y2, vi_y3, vi_y4, vi_y5, vi_seen, vi_cd, vi_old, vi_o1, vi_o2, vi_b1, vi_b2, vi_b3, vi_b4, vi_b5, vi_pow, vi_rsh, e_b0, e_b1, e_b2, e_b3, e_b4, e_b5, e_b6, vi_li1, vi_li2, vi_li3, eg] <;> rfl) rfl rfl (rng1 (by omega) (by omega)) (fun d hd => by
        obtain ⟨k, hk, rfl⟩ := List.mem_map.mp hd
        have hdk := f_dark n (toAny (ownTo .bor t)) xs (k : Int) (by omega) hx
        refine ⟨rfl, _, rfl, ?_, fun _ => ⟨rfl, _, (by simp -implicitDefEqProofs (decide := true) only [S.sem, e_nop, e_lit, e_loc, e_glb, e_bin, e_cmp, e_cm2, e_cmK, e_bop, e_and, e_or, e_one, e_anK, e_orK, e_anM, e_orM, e_not, e_noK, e_tru, e_tb, e_ti, e_tl, e_tt, e_tn, e_neg, e_neK, e_ife, e_ifK, e_tup, e_lst, e_ix, e_slc, e_call, e_blt, e_isi, e_comp, e_l0, e_l1, e_ixl, e_ixt, e_at, e_ixn, e_ixm, e_tyb1, e_tyb2, e_tyi1, e_tyi2, e_isn1, e_isn2, e_isn3, e_isn4, e_isn5, e_isb, e_eqni, e_eqin, vi_lb, vi_lm, vi_lc, vi_lbs, vi_lms, vi_lcs, vi_g0, vi_g1, vi_g2, vi_g3, vi_g4, vi_g5, vi_g6, vi_ti, vi_tb, vi_ts, vi_tn, vi_td, vi_tags0, vi_tags1, vi_tagsI, vi_tagsS, vi_tagsB, vi_allsI, vi_allsS, vi_allsB, vi_ai, vi_ab, vi_as, vi_an, vi_ad, vi_alls0, vi_alls1, vi_cl,
    vi_add, vi_sub, vi_mulr, vi_mull, vi_div, vi_mod, vi_lt, vi_le, vi_gt, vi_ge, vi_eqi, vi_nei, vi_eqb, vi_neb, vi_eqs, vi_nes, vi_lenl, vi_lent, vi_abs, vi_min, vi_max, vi_dm, vi_nm, vi_tp, vi_no, vi_app, vi_upd0, vi_upe, vi_fz0, vi_fz1, vi_fz2, vi_fz3, vi_go0, vi_go1, vi_pl0, vi_t1, vi_t2, vi_t3, vi_t4, vi_t5, vi_t6, vi_frz, vi_fn, vi_cst,
    R.bind_ok, R.of_some, Option.map_some, Option.bind_some, List.getElem?_cons_zero, List.getElem?_cons_succ, List.set_cons_zero, List.set_cons_succ, List.length_cons, List.length_nil, List.length_map, List.all_cons, List.all_nil, Bool.and_true, Bool.true_and, Bool.or_true, Bool.true_or, Bool.or_false, Bool.false_or, Bool.and_self, if_true, ite_true, reduceIte, Nat.reduceAdd, Nat.reduceSub, Nat.reduceMul, Nat.reduceLT, Nat.reduceLeDiff, Nat.reduceEqDiff, Int.reduceLT, Int.reduceLE, Int.reduceAdd, Int.reduceSub, Int.reduceMul, Int.reduceNeg, Int.reducePow, Int.reduceToNat, Int.natAbs_natCast, Nat.lt_add_one, decide_true, decide_false, Nat.zero_lt_succ, List.map_cons, List.map_nil, vi_y1, vi_y2, vi_y3, vi_y4, vi_y5, vi_seen, vi_cd, vi_old, vi_o1, vi_o2, vi_b1, vi_b2, vi_b3, vi_b4, vi_b5, vi_pow, vi_rsh, e_b0, e_b1, e_b2, e_b3, e_b4, e_b5, e_b6, vi_li1, vi_li2, vi_li3] <;> rfl)⟩⟩
        show semC _ _ _ = VI.R.ok (okAge xs dark err k)
        rw [semC]
        unfold okAge
        exact (by simp -implicitDefEqProofs (decide := true) only [S.sem, e_nop, e_lit, e_loc, e_glb, e_bin, e_cmp, e_cm2, e_cmK, e_bop, e_and, e_or, e_one, e_anK, e_orK, e_anM, e_orM, e_not, e_noK, e_tru, e_tb, e_ti, e_tl, e_tt, e_tn, e_neg, e_neK, e_ife, e_ifK, e_tup, e_lst, e_ix, e_slc, e_call, e_blt, e_isi, e_comp, e_l0, e_l1, e_ixl, e_ixt, e_at, e_ixn, e_ixm, e_tyb1, e_tyb2, e_tyi1, e_tyi2, e_isn1, e_isn2, e_isn3, e_isn4, e_isn5, e_isb, e_eqni, e_eqin, vi_lb, vi_lm, vi_lc, vi_lbs, vi_lms, vi_lcs, vi_g0, vi_g1, vi_g2, vi_g3, vi_g4, vi_g5, vi_g6, vi_ti, vi_tb, vi_ts, vi_tn, vi_td, vi_tags0, vi_tags1, vi_tagsI, vi_tagsS, vi_tagsB, vi_allsI, vi_allsS, vi_allsB, vi_ai, vi_ab, vi_as, vi_an, vi_ad, vi_alls0, vi_alls1, vi_cl,
    vi_add, vi_sub, vi_mulr, vi_mull, vi_div, vi_mod, vi_lt, vi_le, vi_gt, vi_ge, vi_eqi, vi_nei, vi_eqb, vi_neb, vi_eqs, vi_nes, vi_lenl, vi_lent, vi_abs, vi_min, vi_max, vi_dm, vi_nm, vi_tp, vi_no, vi_app, vi_upd0, vi_upe, vi_fz0, vi_fz1, vi_fz2, vi_fz3, vi_go0, vi_go1, vi_pl0, vi_t1, vi_t2, vi_t3, vi_t4, vi_t5, vi_t6, vi_frz, vi_fn, vi_cst,
    R.bind_ok, R.of_some, Option.map_some, Option.bind_some, List.getElem?_cons_zero, List.getElem?_cons_succ, List.set_cons_zero, List.set_cons_succ, List.length_cons, List.length_nil, List.length_map, List.all_cons, List.all_nil, Bool.and_true, Bool.true_and, Bool.or_true, Bool.true_or, Bool.or_false, Bool.false_or, Bool.and_self, if_true, ite_true, reduceIte, Nat.reduceAdd, Nat.reduceSub, Nat.reduceMul, Nat.reduceLT, Nat.reduceLeDiff, Nat.reduceEqDiff, Int.reduceLT, Int.reduceLE, Int.reduceAdd, Int.reduceSub, Int.reduceMul, Int.reduceNeg, Int.reducePow, Int.reduceToNat, Int.natAbs_natCast, Nat.lt_add_one, decide_true, decide_false, Nat.zero_lt_succ, List.map_cons, List.map_nil, vi_y1, vi_y2, vi_y3, vi_y4, vi_y5, vi_seen, vi_cd, vi_old, vi_o1, vi_o2, vi_b1, vi_b2, vi_b3, vi_b4, vi_b5, vi_pow, vi_rsh, e_b0, e_b1, e_b2, e_b3, e_b4, e_b5, e_b6, vi_li1, vi_li2, vi_li3, hdk] <;> rfl)) (by rw [List.length_map, List.length_range]; omega)
    have e1 : (((List.range ((g : Int)).toNat).map fun (n : Nat) => D.int (n : Int)).filter fun d => match d with | .int k => okAge xs dark err k.toNat | _ => false).map (fun d => d) = (ages xs dark err g).map D.int := by
      rw [List.map_id', Int.toNat_natCast, List.filter_map]
      unfold ages
      rw [List.map_map]
      rfl
    rw [e1] at hc
    refine w_step (by simp -implicitDefEqProofs (decide := true) only [S.sem, e_nop, e_lit, e_loc, e_glb, e_bin, e_cmp, e_cm2, e_cmK, e_bop, e_and, e_or, e_one, e_anK, e_orK, e_anM, e_orM, e_not, e_noK, e_tru, e_tb, e_ti, e_tl, e_tt, e_tn, e_neg, e_neK, e_ife, e_ifK, e_tup, e_lst, e_ix, e_slc, e_call, e_blt, e_isi, e_comp, e_l0, e_l1, e_ixl, e_ixt, e_at, e_ixn, e_ixm, e_tyb1, e_tyb2, e_tyi1, e_tyi2, e_isn1, e_isn2, e_isn3, e_isn4, e_isn5, e_isb, e_eqni, e_eqin, vi_lb, vi_lm, vi_lc, vi_lbs, vi_lms, vi_lcs, vi_g0, vi_g1, vi_g2, vi_g3, vi_g4, vi_g5, vi_g6, vi_ti, vi_tb, vi_ts, vi_tn, vi_td, vi_tags0, vi_tags1, vi_tagsI, vi_tagsS, vi_tagsB, vi_allsI, vi_allsS, vi_allsB, vi_ai, vi_ab, vi_as, vi_an, vi_ad, vi_alls0, vi_alls1, vi_cl,
    vi_add, vi_sub, vi_mulr, vi_mull, vi_div, vi_mod, vi_lt, vi_le, vi_gt, vi_ge, vi_eqi, vi_nei, vi_eqb, vi_neb, vi_eqs, vi_nes, vi_lenl, vi_lent, vi_abs, vi_min, vi_max, vi_dm, vi_nm, vi_tp, vi_no, vi_app, vi_upd0, vi_upe, vi_fz0, vi_fz1, vi_fz2, vi_fz3, vi_go0, vi_go1, vi_pl0, vi_t1, vi_t2, vi_t3, vi_t4, vi_t5, vi_t6, vi_frz, vi_fn, vi_cst,
    R.bind_ok, R.of_some, Option.map_some, Option.bind_some, List.getElem?_cons_zero, List.getElem?_cons_succ, List.set_cons_zero, List.set_cons_succ, List.length_cons, List.length_nil, List.length_map, List.all_cons, List.all_nil, Bool.and_true, Bool.true_and, Bool.or_true, Bool.true_or, Bool.or_false, Bool.false_or, Bool.and_self, if_true, ite_true, reduceIte, Nat.reduceAdd, Nat.reduceSub, Nat.reduceMul, Nat.reduceLT, Nat.reduceLeDiff, Nat.reduceEqDiff, Int.reduceLT, Int.reduceLE, Int.reduceAdd, Int.reduceSub, Int.reduceMul, Int.reduceNeg, Int.reducePow, Int.reduceToNat, Int.natAbs_natCast, Nat.lt_add_one, decide_true, decide_false, Nat.zero_lt_succ, List.map_cons, List.map_nil, vi_y1, vi_y2, vi_y3, vi_y4, vi_y5, vi_seen, vi_cd, vi_old, vi_o1, vi_o2, vi_b1, vi_b2, vi_b3, vi_b4, vi_b5, vi_pow, vi_rsh, e_b0, e_b1, e_b2, e_b3, e_b4, e_b5, e_b6, vi_li1, vi_li2, vi_li3, ↓hc] <;> rfl) ?_
    refine w_step (by simp -implicitDefEqProofs (decide := true) only [S.sem, e_nop, e_lit, e_loc, e_glb, e_bin, e_cmp, e_cm2, e_cmK, e_bop, e_and, e_or, e_one, e_anK, e_orK, e_anM, e_orM, e_not, e_noK, e_tru, e_tb, e_ti, e_tl, e_tt, e_tn, e_neg, e_neK, e_ife, e_ifK, e_tup, e_lst, e_ix, e_slc, e_call, e_blt, e_isi, e_comp, e_l0, e_l1, e_ixl, e_ixt, e_at, e_ixn, e_ixm, e_tyb1, e_tyb2, e_tyi1, e_tyi2, e_isn1, e_isn2, e_isn3, e_isn4, e_isn5, e_isb, e_eqni, e_eqin, vi_lb, vi_lm, vi_lc, vi_lbs, vi_lms, vi_lcs, vi_g0, vi_g1, vi_g2, vi_g3, vi_g4, vi_g5, vi_g6, vi_ti, vi_tb, vi_ts, vi_tn, vi_td, vi_tags0, vi_tags1, vi_tagsI, vi_tagsS, vi_tagsB, vi_allsI, vi_allsS, vi_allsB, vi_ai, vi_ab, vi_as, vi_an, vi_ad, vi_alls0, vi_alls1, vi_cl,
    vi_add, vi_sub, vi_mulr, vi_mull, vi_div, vi_mod, vi_lt, vi_le, vi_gt, vi_ge, vi_eqi, vi_nei, vi_eqb, vi_neb, vi_eqs, vi_nes, vi_lenl, vi_lent, vi_abs, vi_min, vi_max, vi_dm, vi_nm, vi_tp, vi_no, vi_app, vi_upd0, vi_upe, vi_fz0, vi_fz1, vi_fz2, vi_fz3, vi_go0, vi_go1, vi_pl0, vi_t1, vi_t2, vi_t3, vi_t4, vi_t5, vi_t6, vi_frz, vi_fn, vi_cst,
    R.bind_ok, R.of_some, Option.map_some, Option.bind_some, List.getElem?_cons_zero, List.getElem?_cons_succ, List.set_cons_zero, List.set_cons_succ, List.length_cons, List.length_nil, List.length_map, List.all_cons, List.all_nil, Bool.and_true, Bool.true_and, Bool.or_true, Bool.true_or, Bool.or_false, Bool.false_or, Bool.and_self, if_true, ite_true, reduceIte, Nat.reduceAdd, Nat.reduceSub, Nat.reduceMul, Nat.reduceLT, Nat.reduceLeDiff, Nat.reduceEqDiff, Int.reduceLT, Int.reduceLE, Int.reduceAdd, Int.reduceSub, Int.reduceMul, Int.reduceNeg, Int.reducePow, Int.reduceToNat, Int.natAbs_natCast, Nat.lt_add_one, decide_true, decide_false, Nat.zero_lt_succ, List.map_cons, List.map_nil, vi_y1, vi_y2, vi_y3, vi_y4, vi_y5, vi_seen, vi_cd, vi_old, vi_o1, vi_o2, vi_b1, vi_b2, vi_b3, vi_b4, vi_b5, vi_pow, vi_rsh, e_b0, e_b1, e_b2, e_b3, e_b4, e_b5, e_b6, vi_li1, vi_li2, vi_li3] <;> rfl) ?_
    exact tell_end _ .new _ vi_frz _ 4 rfl)
  exact h1
theorem pyT {t : Tag} {a b : Int} : (D.nd t .tup [.int a, .int b]).py = some (.tuple [.int a, .int b]) := rfl
theorem eq_tup (t u : Tag) (a b : Int) : cmpV .Eq (.nd t .tup [.int a, .int b]) (.nd u .tup [.int a, .int b]) = some true := by
  show eqD (.nd t .tup [.int a, .int b]) (.nd u .tup [.int a, .int b]) = some true
  show (match (D.nd t .tup [.int a, .int b]).py, (D.nd u .tup [.int a, .int b]).py with
    | some d, some e => if SeqAt.shaped d && SeqAt.shaped e then some (PyData.eqv d e) else none
    | _, _ => none) = _
  rw [pyT, pyT]
  show some (((a == a) && ((b == b) && true))) = some true
  rw [beq_self_eq_true, beq_self_eq_true]; rfl
theorem f_told (n : Nat) (L : List Int) : lw.pg.fn (n + 1) "_law_told" [told .any L, told .any L] = .ok (.bl true) := by
  rw [Pg.fn_s (d := d_law_told) rfl]
  obtain ⟨r, h1, rfl⟩ := call_rt (d := d_law_told) (G := lw.pg.G n) (args := [told .any L, told .any L]) (Q := fun r => r = .bl true) rfl (by
    show Wn _ (semSs _ d_law_told.body [told .any L, told .any L, .und])
    unfold d_law_told told
    by_cases h : L = []
    · rw [if_pos h]
      refine w_ite (k := true) (by simp -implicitDefEqProofs (decide := true) only [S.sem, e_nop, e_lit, e_loc, e_glb, e_bin, e_cmp, e_cm2, e_cmK, e_bop, e_and, e_or, e_one, e_anK, e_orK, e_anM, e_orM, e_not, e_noK, e_tru, e_tb, e_ti, e_tl, e_tt, e_tn, e_neg, e_neK, e_ife, e_ifK, e_tup, e_lst, e_ix, e_slc, e_call, e_blt, e_isi, e_comp, e_l0, e_l1, e_ixl, e_ixt, e_at, e_ixn, e_ixm, e_tyb1, e_tyb2, e_tyi1, e_tyi2, e_isn1, e_isn2, e_isn3, e_isn4, e_isn5, e_isb, e_eqni, e_eqin, vi_lb, vi_lm, vi_lc, vi_lbs, vi_lms, vi_lcs, vi_g0, vi_g1, vi_g2, vi_g3, vi_g4, vi_g5, vi_g6, vi_ti, vi_tb, vi_ts, vi_tn, vi_td, vi_tags0, vi_tags1, vi_tagsI, vi_tagsS, vi_tagsB, vi_allsI, vi_allsS, vi_allsB, vi_ai, vi_ab, vi_as, vi_an, vi_ad, vi_alls0, vi_alls1, vi_cl,
    vi_add, vi_sub, vi_mulr, vi_mull, vi_div, vi_mod, vi_lt, vi_le, vi_gt, vi_ge, vi_eqi, vi_nei, vi_eqb, vi_neb, vi_eqs, vi_nes, vi_lenl, vi_lent, vi_abs, vi_min, vi_max, vi_dm, vi_nm, vi_tp, vi_no, vi_app, vi_upd0, vi_upe, vi_fz0, vi_fz1, vi_fz2, vi_fz3, vi_go0, vi_go1, vi_pl0, vi_t1, vi_t2, vi_t3, vi_t4, vi_t5, vi_t6, vi_frz, vi_fn, vi_cst,
    R.bind_ok, R.of_some, Option.map_some, Option.bind_some, List.getElem?_cons_zero, List.getElem?_cons_succ, List.set_cons_zero, List.set_cons_succ, List.length_cons, List.length_nil, List.length_map, List.all_cons, List.all_nil, Bool.and_true, Bool.true_and, Bool.or_true, Bool.true_or, Bool.or_false, Bool.false_or, Bool.and_self, if_true, ite_true, reduceIte, Nat.reduceAdd, Nat.reduceSub, Nat.reduceMul, Nat.reduceLT, Nat.reduceLeDiff, Nat.reduceEqDiff, Int.reduceLT, Int.reduceLE, Int.reduceAdd, Int.reduceSub, Int.reduceMul, Int.reduceNeg, Int.reducePow, Int.reduceToNat, Int.natAbs_natCast, Nat.lt_add_one, decide_true, decide_false, Nat.zero_lt_succ, List.map_cons, List.map_nil, vi_y1, vi_y2, vi_y3, vi_y4, vi_y5, vi_seen, vi_cd, vi_old, vi_o1, vi_o2, vi_b1, vi_b2, vi_b3, vi_b4, vi_b5, vi_pow, vi_rsh, e_b0, e_b1, e_b2, e_b3, e_b4, e_b5, e_b6, vi_li1, vi_li2, vi_li3] <;> rfl) (fun _ => ?_) (fun q => by cases q)
      exact w_ret (by simp -implicitDefEqProofs (decide := true) only [S.sem, e_nop, e_lit, e_loc, e_glb, e_bin, e_cmp, e_cm2, e_cmK, e_bop, e_and, e_or, e_one, e_anK, e_orK, e_anM, e_orM, e_not, e_noK, e_tru, e_tb, e_ti, e_tl, e_tt, e_tn, e_neg, e_neK, e_ife, e_ifK, e_tup, e_lst, e_ix, e_slc, e_call, e_blt, e_isi, e_comp, e_l0, e_l1, e_ixl, e_ixt, e_at, e_ixn, e_ixm, e_tyb1, e_tyb2, e_tyi1, e_tyi2, e_isn1, e_isn2, e_isn3, e_isn4, e_isn5, e_isb, e_eqni, e_eqin, vi_lb, vi_lm, vi_lc, vi_lbs, vi_lms, vi_lcs, vi_g0, vi_g1, vi_g2, vi_g3, vi_g4, vi_g5, vi_g6, vi_ti, vi_tb, vi_ts, vi_tn, vi_td, vi_tags0, vi_tags1, vi_tagsI, vi_tagsS, vi_tagsB, vi_allsI, vi_allsS, vi_allsB, vi_ai, vi_ab, vi_as, vi_an, vi_ad, vi_alls0, vi_alls1, vi_cl,
    vi_add, vi_sub, vi_mulr, vi_mull, vi_div, vi_mod, vi_lt, vi_le, vi_gt, vi_ge, vi_eqi, vi_nei, vi_eqb, vi_neb, vi_eqs, vi_nes, vi_lenl, vi_lent, vi_abs, vi_min, vi_max, vi_dm, vi_nm, vi_tp, vi_no, vi_app, vi_upd0, vi_upe, vi_fz0, vi_fz1, vi_fz2, vi_fz3, vi_go0, vi_go1, vi_pl0, vi_t1, vi_t2, vi_t3, vi_t4, vi_t5, vi_t6, vi_frz, vi_fn, vi_cst,
    R.bind_ok, R.of_some, Option.map_some, Option.bind_some, List.getElem?_cons_zero, List.getElem?_cons_succ, List.set_cons_zero, List.set_cons_succ, List.length_cons, List.length_nil, List.length_map, List.all_cons, List.all_nil, Bool.and_true, Bool.true_and, Bool.or_true, Bool.true_or, Bool.or_false, Bool.false_or, Bool.and_self, if_true, ite_true, reduceIte, Nat.reduceAdd, Nat.reduceSub, Nat.reduceMul, Nat.reduceLT, Nat.reduceLeDiff, Nat.reduceEqDiff, Int.reduceLT, Int.reduceLE, Int.reduceAdd, Int.reduceSub, Int.reduceMul, Int.reduceNeg, Int.reducePow, Int.reduceToNat, Int.natAbs_natCast, Nat.lt_add_one, decide_true, decide_false, Nat.zero_lt_succ, List.map_cons, List.map_nil, vi_y1, vi_y2, vi_y3, vi_y4, vi_y5, vi_seen, vi_cd, vi_old, vi_o1, vi_o2, vi_b1, vi_b2, vi_b3, vi_b4, vi_b5, vi_pow, vi_rsh, e_b0, e_b1, e_b2, e_b3, e_b4, e_b5, e_b6, vi_li1, vi_li2, vi_li3] <;> rfl) rfl
    · rw [if_neg h]
      refine w_ifr (k := false) (by simp -implicitDefEqProofs (decide := true) only [S.sem, e_nop, e_lit, e_loc, e_glb, e_bin, e_cmp, e_cm2, e_cmK, e_bop, e_and, e_or, e_one, e_anK, e_orK, e_anM, e_orM, e_not, e_noK, e_tru, e_tb, e_ti, e_tl, e_tt, e_tn, e_neg, e_neK, e_ife, e_ifK, e_tup, e_lst, e_ix, e_slc, e_call, e_blt, e_isi, e_comp, e_l0, e_l1, e_ixl, e_ixt, e_at, e_ixn, e_ixm, e_tyb1, e_tyb2, e_tyi1, e_tyi2, e_isn1, e_isn2, e_isn3, e_isn4, e_isn5, e_isb, e_eqni, e_eqin, vi_lb, vi_lm, vi_lc, vi_lbs, vi_lms, vi_lcs, vi_g0, vi_g1, vi_g2, vi_g3, vi_g4, vi_g5, vi_g6, vi_ti, vi_tb, vi_ts, vi_tn, vi_td, vi_tags0, vi_tags1, vi_tagsI, vi_tagsS, vi_tagsB, vi_allsI, vi_allsS, vi_allsB, vi_ai, vi_ab, vi_as, vi_an, vi_ad, vi_alls0, vi_alls1, vi_cl,
    vi_add, vi_sub, vi_mulr, vi_mull, vi_div, vi_mod, vi_lt, vi_le, vi_gt, vi_ge, vi_eqi, vi_nei, vi_eqb, vi_neb, vi_eqs, vi_nes, vi_lenl, vi_lent, vi_abs, vi_min, vi_max, vi_dm, vi_nm, vi_tp, vi_no, vi_app, vi_upd0, vi_upe, vi_fz0, vi_fz1, vi_fz2, vi_fz3, vi_go0, vi_go1, vi_pl0, vi_t1, vi_t2, vi_t3, vi_t4, vi_t5, vi_t6, vi_frz, vi_fn, vi_cst,
    R.bind_ok, R.of_some, Option.map_some, Option.bind_some, List.getElem?_cons_zero, List.getElem?_cons_succ, List.set_cons_zero, List.set_cons_succ, List.length_cons, List.length_nil, List.length_map, List.all_cons, List.all_nil, Bool.and_true, Bool.true_and, Bool.or_true, Bool.true_or, Bool.or_false, Bool.false_or, Bool.and_self, if_true, ite_true, reduceIte, Nat.reduceAdd, Nat.reduceSub, Nat.reduceMul, Nat.reduceLT, Nat.reduceLeDiff, Nat.reduceEqDiff, Int.reduceLT, Int.reduceLE, Int.reduceAdd, Int.reduceSub, Int.reduceMul, Int.reduceNeg, Int.reducePow, Int.reduceToNat, Int.natAbs_natCast, Nat.lt_add_one, decide_true, decide_false, Nat.zero_lt_succ, List.map_cons, List.map_nil, vi_y1, vi_y2, vi_y3, vi_y4, vi_y5, vi_seen, vi_cd, vi_old, vi_o1, vi_o2, vi_b1, vi_b2, vi_b3, vi_b4, vi_b5, vi_pow, vi_rsh, e_b0, e_b1, e_b2, e_b3, e_b4, e_b5, e_b6, vi_li1, vi_li2, vi_li3] <;> rfl) (fun q => by cases q) (fun _ => ?_)
      have hc := comp_ok (G := lw.pg.G n) (ws := [2]) (tg := .nm 2) (k := .lst) (its := [(.loc 0 .bor)]) (cond := []) (elt := (.isi (.loc 2 .bor) .bool)) (env := [.nd .any .tup [.int (L.getD 0 0), .int (L.getD (L.length - 1) 0)], .nd .any .tup [.int (L.getD 0 0), .int (L.getD (L.length - 1) 0)], .und])
        (fun _ => true) (fun _ => .bl false) (vals := [.nd .any .tup [.int (L.getD 0 0), .int (L.getD (L.length - 1) 0)]]) (items := [.int (L.getD 0 0), .int (L.getD (L.length - 1) 0)]) (by simp -implicitDefEqProofs (decide := true) only [S.sem, e_nop, e_lit, e_loc, e_glb, e_bin, e_cmp, e_cm2, e_cmK, e_bop, e_and, e_or, e_one, e_anK, e_orK, e_anM, e_orM, e_not, e_noK, e_tru, e_tb, e_ti, e_tl, e_tt, e_tn, e_neg, e_neK, e_ife, e_ifK, e_tup, e_lst, e_ix, e_slc, e_call, e_blt, e_isi, e_comp, e_l0, e_l1, e_ixl, e_ixt, e_at, e_ixn, e_ixm, e_tyb1, e_tyb2, e_tyi1, e_tyi2, e_isn1, e_isn2, e_isn3, e_isn4, e_isn5, e_isb, e_eqni, e_eqin, vi_lb, vi_lm, vi_lc, vi_lbs, vi_lms, vi_lcs, vi_g0, vi_g1, vi_g2, vi_g3, vi_g4, vi_g5, vi_g6, vi_ti, vi_tb, vi_ts, vi_tn, vi_td, vi_tags0, vi_tags1, vi_tagsI, vi_tagsS, vi_tagsB, vi_allsI, vi_allsS, vi_allsB, vi_ai, vi_ab, vi_as, vi_an, vi_ad, vi_alls0, vi_alls1, vi_cl,
    vi_add, vi_sub, vi_mulr, vi_mull, vi_div, vi_mod, vi_lt, vi_le, vi_gt, vi_ge, vi_eqi, vi_nei, vi_eqb, vi_neb, vi_eqs, vi_nes, vi_lenl, vi_lent, vi_abs, vi_min, vi_max, vi_dm, vi_nm, vi_tp, vi_no, vi_app, vi_upd0, vi_upe, vi_fz0, vi_fz1, vi_fz2, vi_fz3, vi_go0, vi_go1, vi_pl0, vi_t1, vi_t2, vi_t3, vi_t4, vi_t5, vi_t6, vi_frz, vi_fn, vi_cst,
    R.bind_ok, R.of_some, Option.map_some, Option.bind_some, List.getElem?_cons_zero, List.getElem?_cons_succ, List.set_cons_zero, List.set_cons_succ, List.length_cons, List.length_nil, List.length_map, List.all_cons, List.all_nil, Bool.and_true, Bool.true_and, Bool.or_true, Bool.true_or, Bool.or_false, Bool.false_or, Bool.and_self, if_true, ite_true, reduceIte, Nat.reduceAdd, Nat.reduceSub, Nat.reduceMul, Nat.reduceLT, Nat.reduceLeDiff, Nat.reduceEqDiff, Int.reduceLT, Int.reduceLE, Int.reduceAdd, Int.reduceSub, Int.reduceMul, Int.reduceNeg, Int.reducePow, Int.reduceToNat, Int.natAbs_natCast, Nat.lt_add_one, decide_true, decide_false, Nat.zero_lt_succ, List.map_cons, List.map_nil, vi_y1, vi_y2, vi_y3, vi_y4, vi_y5, vi_seen, vi_cd, vi_old, vi_o1, vi_o2, vi_b1, vi_b2, vi_b3, vi_b4, vi_b5, vi_pow, vi_rsh, e_b0, e_b1, e_b2, e_b3, e_b4, e_b5, e_b6, vi_li1, vi_li2, vi_li3] <;> rfl) rfl rfl rfl (fun d hd => by
          simp only [List.mem_cons, List.not_mem_nil, or_false] at hd
          rcases hd with rfl | rfl
          · exact ⟨rfl, _, rfl, by rw [semC], fun _ => ⟨rfl, _, (by simp -implicitDefEqProofs (decide := true) only [S.sem, e_nop, e_lit, e_loc, e_glb, e_bin, e_cmp, e_cm2, e_cmK, e_bop, e_and, e_or, e_one, e_anK, e_orK, e_anM, e_orM, e_not, e_noK, e_tru, e_tb, e_ti, e_tl, e_tt, e_tn, e_neg, e_neK, e_ife, e_ifK, e_tup, e_lst, e_ix, e_slc, e_call, e_blt, e_isi, e_comp, e_l0, e_l1, e_ixl, e_ixt, e_at, e_ixn, e_ixm, e_tyb1, e_tyb2, e_tyi1, e_tyi2, e_isn1, e_isn2, e_isn3, e_isn4, e_isn5, e_isb, e_eqni, e_eqin, vi_lb, vi_lm, vi_lc, vi_lbs, vi_lms, vi_lcs, vi_g0, vi_g1, vi_g2, vi_g3, vi_g4, vi_g5, vi_g6, vi_ti, vi_tb, vi_ts, vi_tn, vi_td, vi_tags0, vi_tags1, vi_tagsI, vi_tagsS, vi_tagsB, vi_allsI, vi_allsS, vi_allsB, vi_ai, vi_ab, vi_as, vi_an, vi_ad, vi_alls0, vi_alls1, vi_cl,
    vi_add, vi_sub, vi_mulr, vi_mull, vi_div, vi_mod, vi_lt, vi_le, vi_gt, vi_ge, vi_eqi, vi_nei, vi_eqb, vi_neb, vi_eqs, vi_nes, vi_lenl, vi_lent, vi_abs, vi_min, vi_max, vi_dm, vi_nm, vi_tp, vi_no, vi_app, vi_upd0, vi_upe, vi_fz0, vi_fz1, vi_fz2, vi_fz3, vi_go0, vi_go1, vi_pl0, vi_t1, vi_t2, vi_t3, vi_t4, vi_t5, vi_t6, vi_frz, vi_fn, vi_cst,
    R.bind_ok, R.of_some, Option.map_some, Option.bind_some, List.getElem?_cons_zero, List.getElem?_cons_succ, List.set_cons_zero, List.set_cons_succ, List.length_cons, List.length_nil, List.length_map, List.all_cons, List.all_nil, Bool.and_true, Bool.true_and, Bool.or_true, Bool.true_or, Bool.or_false, Bool.false_or, Bool.and_self, if_true, ite_true, reduceIte, Nat.reduceAdd, Nat.reduceSub, Nat.reduceMul, Nat.reduceLT, Nat.reduceLeDiff, Nat.reduceEqDiff, Int.reduceLT, Int.reduceLE, Int.reduceAdd, Int.reduceSub, Int.reduceMul, Int.reduceNeg, Int.reducePow, Int.reduceToNat, Int.natAbs_natCast, Nat.lt_add_one, decide_true, decide_false, Nat.zero_lt_succ, List.map_cons, List.map_nil, vi_y1, vi_y2, vi_y3, vi_y4, vi_y5, vi_seen, vi_cd, vi_old, vi_o1, vi_o2, vi_b1, vi_b2, vi_b3, vi_b4, vi_b5, vi_pow, vi_rsh, e_b0, e_b1, e_b2, e_b3, e_b4, e_b5, e_b6, vi_li1, vi_li2, vi_li3] <;> rfl)⟩⟩
          · exact ⟨rfl, _, rfl, by rw [semC], fun _ => ⟨rfl, _, (by simp -implicitDefEqProofs (decide := true) only [S.sem, e_nop, e_lit, e_loc, e_glb, e_bin, e_cmp, e_cm2, e_cmK, e_bop, e_and, e_or, e_one, e_anK, e_orK, e_anM, e_orM, e_not, e_noK, e_tru, e_tb, e_ti, e_tl, e_tt, e_tn, e_neg, e_neK, e_ife, e_ifK, e_tup, e_lst, e_ix, e_slc, e_call, e_blt, e_isi, e_comp, e_l0, e_l1, e_ixl, e_ixt, e_at, e_ixn, e_ixm, e_tyb1, e_tyb2, e_tyi1, e_tyi2, e_isn1, e_isn2, e_isn3, e_isn4, e_isn5, e_isb, e_eqni, e_eqin, vi_lb, vi_lm, vi_lc, vi_lbs, vi_lms, vi_lcs, vi_g0, vi_g1, vi_g2, vi_g3, vi_g4, vi_g5, vi_g6, vi_ti, vi_tb, vi_ts, vi_tn, vi_td, vi_tags0, vi_tags1, vi_tagsI, vi_tagsS, vi_tagsB, vi_allsI, vi_allsS, vi_allsB, vi_ai, vi_ab, vi_as, vi_an, vi_ad, vi_alls0, vi_alls1, vi_cl,
    vi_add, vi_sub, vi_mulr, vi_mull, vi_div, vi_mod, vi_lt, vi_le, vi_gt, vi_ge, vi_eqi, vi_nei, vi_eqb, vi_neb, vi_eqs, vi_nes, vi_lenl, vi_lent, vi_abs, vi_min, vi_max, vi_dm, vi_nm, vi_tp, vi_no, vi_app, vi_upd0, vi_upe, vi_fz0, vi_fz1, vi_fz2, vi_fz3, vi_go0, vi_go1, vi_pl0, vi_t1, vi_t2, vi_t3, vi_t4, vi_t5, vi_t6, vi_frz, vi_fn, vi_cst,
    R.bind_ok, R.of_some, Option.map_some, Option.bind_some, List.getElem?_cons_zero, List.getElem?_cons_succ, List.set_cons_zero, List.set_cons_succ, List.length_cons, List.length_nil, List.length_map, List.all_cons, List.all_nil, Bool.and_true, Bool.true_and, Bool.or_true, Bool.true_or, Bool.or_false, Bool.false_or, Bool.and_self, if_true, ite_true, reduceIte, Nat.reduceAdd, Nat.reduceSub, Nat.reduceMul, Nat.reduceLT, Nat.reduceLeDiff, Nat.reduceEqDiff, Int.reduceLT, Int.reduceLE, Int.reduceAdd, Int.reduceSub, Int.reduceMul, Int.reduceNeg, Int.reducePow, Int.reduceToNat, Int.natAbs_natCast, Nat.lt_add_one, decide_true, decide_false, Nat.zero_lt_succ, List.map_cons, List.map_nil, vi_y1, vi_y2, vi_y3, vi_y4, vi_y5, vi_seen, vi_cd, vi_old, vi_o1, vi_o2, vi_b1, vi_b2, vi_b3, vi_b4, vi_b5, vi_pow, vi_rsh, e_b0, e_b1, e_b2, e_b3, e_b4, e_b5, e_b6, vi_li1, vi_li2, vi_li3] <;> rfl)⟩⟩) (by show 2 ≤ 16777216; decide)
      have an : biV .any [.nd .own .lst [.bl false, .bl false]] = some (.bl false) := rfl
      have ty : ∀ w xs, isTy .tuple (.nd w .tup xs) = some true := fun _ _ => rfl
      refine w_ret (by simp -implicitDefEqProofs (decide := true) only [S.sem, e_nop, e_lit, e_loc, e_glb, e_bin, e_cmp, e_cm2, e_cmK, e_bop, e_and, e_or, e_one, e_anK, e_orK, e_anM, e_orM, e_not, e_noK, e_tru, e_tb, e_ti, e_tl, e_tt, e_tn, e_neg, e_neK, e_ife, e_ifK, e_tup, e_lst, e_ix, e_slc, e_call, e_blt, e_isi, e_comp, e_l0, e_l1, e_ixl, e_ixt, e_at, e_ixn, e_ixm, e_tyb1, e_tyb2, e_tyi1, e_tyi2, e_isn1, e_isn2, e_isn3, e_isn4, e_isn5, e_isb, e_eqni, e_eqin, vi_lb, vi_lm, vi_lc, vi_lbs, vi_lms, vi_lcs, vi_g0, vi_g1, vi_g2, vi_g3, vi_g4, vi_g5, vi_g6, vi_ti, vi_tb, vi_ts, vi_tn, vi_td, vi_tags0, vi_tags1, vi_tagsI, vi_tagsS, vi_tagsB, vi_allsI, vi_allsS, vi_allsB, vi_ai, vi_ab, vi_as, vi_an, vi_ad, vi_alls0, vi_alls1, vi_cl,
    vi_add, vi_sub, vi_mulr, vi_mull, vi_div, vi_mod, vi_lt, vi_le, vi_gt, vi_ge, vi_eqi, vi_nei, vi_eqb, vi_neb, vi_eqs, vi_nes, vi_lenl, vi_lent, vi_abs, vi_min, vi_max, vi_dm, vi_nm, vi_tp, vi_no, vi_app, vi_upd0, vi_upe, vi_fz0, vi_fz1, vi_fz2, vi_fz3, vi_go0, vi_go1, vi_pl0, vi_t1, vi_t2, vi_t3, vi_t4, vi_t5, vi_t6, vi_frz, vi_fn, vi_cst,
    R.bind_ok, R.of_some, Option.map_some, Option.bind_some, List.getElem?_cons_zero, List.getElem?_cons_succ, List.set_cons_zero, List.set_cons_succ, List.length_cons, List.length_nil, List.length_map, List.all_cons, List.all_nil, Bool.and_true, Bool.true_and, Bool.or_true, Bool.true_or, Bool.or_false, Bool.false_or, Bool.and_self, if_true, ite_true, reduceIte, Nat.reduceAdd, Nat.reduceSub, Nat.reduceMul, Nat.reduceLT, Nat.reduceLeDiff, Nat.reduceEqDiff, Int.reduceLT, Int.reduceLE, Int.reduceAdd, Int.reduceSub, Int.reduceMul, Int.reduceNeg, Int.reducePow, Int.reduceToNat, Int.natAbs_natCast, Nat.lt_add_one, decide_true, decide_false, Nat.zero_lt_succ, List.map_cons, List.map_nil, vi_y1, vi_y2, vi_y3, vi_y4, vi_y5, vi_seen, vi_cd, vi_old, vi_o1, vi_o2, vi_b1, vi_b2, vi_b3, vi_b4, vi_b5, vi_pow, vi_rsh, e_b0, e_b1, e_b2, e_b3, e_b4, e_b5, e_b6, vi_li1, vi_li2, vi_li3, ↓hc, an, ty, eq_tup, List.filter_cons, List.filter_nil] <;> rfl) rfl)
  exact h1
end K02

set_option maxHeartbeats 4000000
namespace K02
open PySem PySem.Spec L2 VI
theorem cmp_ints (t u : Tag) (xs ys : List Int) : cmpV .Eq (.nd t .lst (xs.map D.int)) (.nd u .lst (ys.map D.int)) = some (decide (xs = ys)) := eq_ints xs ys
theorem told_tag (L : List Int) : (told .own L).tag toAny = told .any L := by unfold told; split <;> rfl
theorem told_old (L : List Int) : (told .own L).all notOld = true := by unfold told; split <;> rfl
theorem f_right (n : Nat) (number : Int) : lw.pg.fn (n + 3) "_law_right" [.int number] = .ok (.bl true) := by
  rw [Pg.fn_s (d := d_law_right) rfl]
  obtain ⟨L, hL1, hL2, hL⟩ := f_list n number
  obtain ⟨a, l, rfl⟩ : ∃ a l, L = a :: l := by
    cases L with
    | nil => exact absurd hL1 (by decide)
    | cons a l => exact ⟨a, l, rfl⟩
  have hl : l.length ≤ 100 := by rw [List.length_cons] at hL2; omega
  have t1 := f_table (n + 1) .any (a :: l) (by omega)
  have t2 := f_good (n + 1) .any a l hl
  generalize hxs : a :: l = xs at hL hL1 hL2 t1 t2
  obtain ⟨ys, hy1, hy2, hy3⟩ := f_spread (n + 1) (number + 5) 6 (by decide)
  obtain ⟨x0, x1, x2, x3, x4, x5, rfl⟩ := six6 hy1
  have hy3 : lw.pg.fn (n + 2) "_law_spread" [.int (number + 5), .int 6] = .ok (.nd .own .lst [.int x0, .int x1, .int x2, .int x3, .int x4, .int x5]) := hy3
  obtain ⟨r, h1, rfl⟩ := call_rt (d := d_law_right) (G := lw.pg.G (n + 2)) (args := [.int number]) (Q := fun r => r = .bl true) rfl (by
    show Wn _ (semSs _ d_law_right.body [.int number, .und, .und, .und, .und, .und, .und, .und, .und])
    unfold d_law_right
    refine w_step (by simp -implicitDefEqProofs (decide := true) only [S.sem, e_nop, e_lit, e_loc, e_glb, e_bin, e_cmp, e_cm2, e_cmK, e_bop, e_and, e_or, e_one, e_anK, e_orK, e_anM, e_orM, e_not, e_noK, e_tru, e_tb, e_ti, e_tl, e_tt, e_tn, e_neg, e_neK, e_ife, e_ifK, e_tup, e_lst, e_ix, e_slc, e_call, e_blt, e_isi, e_comp, e_l0, e_l1, e_ixl, e_ixt, e_at, e_ixn, e_ixm, e_tyb1, e_tyb2, e_tyi1, e_tyi2, e_isn1, e_isn2, e_isn3, e_isn4, e_isn5, e_isb, e_eqni, e_eqin, vi_lb, vi_lm, vi_lc, vi_lbs, vi_lms, vi_lcs, vi_g0, vi_g1, vi_g2, vi_g3, vi_g4, vi_g5, vi_g6, vi_ti, vi_tb, vi_ts, vi_tn, vi_td, vi_tags0, vi_tags1, vi_tagsI, vi_tagsS, vi_tagsB, vi_allsI, vi_allsS, vi_allsB, vi_ai, vi_ab, vi_as, vi_an, vi_ad, vi_alls0, vi_alls1, vi_cl,
    vi_add, vi_sub, vi_mulr, vi_mull, vi_div, vi_mod, vi_lt, vi_le, vi_gt, vi_ge, vi_eqi, vi_nei, vi_eqb, vi_neb, vi_eqs, vi_nes, vi_lenl, vi_lent, vi_abs, vi_min, vi_max, vi_dm, vi_nm, vi_tp, vi_no, vi_app, vi_upd0, vi_upe, vi_fz0, vi_fz1, vi_fz2, vi_fz3, vi_go0, vi_go1, vi_pl0, vi_t1, vi_t2, vi_t3, vi_t4, vi_t5, vi_t6, vi_frz, vi_fn, vi_cst,
    R.bind_ok, R.of_some, Option.map_some, Option.bind_some, List.getElem?_cons_zero, List.getElem?_cons_succ, List.set_cons_zero, List.set_cons_succ, List.length_cons, List.length_nil, List.length_map, List.all_cons, List.all_nil, Bool.and_true, Bool.true_and, Bool.or_true, Bool.true_or, Bool.or_false, Bool.false_or, Bool.and_self, if_true, ite_true, reduceIte, Nat.reduceAdd, Nat.reduceSub, Nat.reduceMul, Nat.reduceLT, Nat.reduceLeDiff, Nat.reduceEqDiff, Int.reduceLT, Int.reduceLE, Int.reduceAdd, Int.reduceSub, Int.reduceMul, Int.reduceNeg, Int.reducePow, Int.reduceToNat, Int.natAbs_natCast, Nat.lt_add_one, decide_true, decide_false, Nat.zero_lt_succ, List.map_cons, List.map_nil, vi_y1, vi_y2, vi_y3, vi_y4, vi_y5, vi_seen, vi_cd, vi_old, vi_o1, vi_o2, vi_b1, vi_b2, vi_b3, vi_b4, vi_b5, vi_pow, vi_rsh, e_b0, e_b1, e_b2, e_b3, e_b4, e_b5, e_b6, vi_li1, vi_li2, vi_li3, hL] <;> rfl) ?_
    refine w_step (by simp -implicitDefEqProofs (decide := true) only [S.sem, e_nop, e_lit, e_loc, e_glb, e_bin, e_cmp, e_cm2, e_cmK, e_bop, e_and, e_or, e_one, e_anK, e_orK, e_anM, e_orM, e_not, e_noK, e_tru, e_tb, e_ti, e_tl, e_tt, e_tn, e_neg, e_neK, e_ife, e_ifK, e_tup, e_lst, e_ix, e_slc, e_call, e_blt, e_isi, e_comp, e_l0, e_l1, e_ixl, e_ixt, e_at, e_ixn, e_ixm, e_tyb1, e_tyb2, e_tyi1, e_tyi2, e_isn1, e_isn2, e_isn3, e_isn4, e_isn5, e_isb, e_eqni, e_eqin, vi_lb, vi_lm, vi_lc, vi_lbs, vi_lms, vi_lcs, vi_g0, vi_g1, vi_g2, vi_g3, vi_g4, vi_g5, vi_g6, vi_ti, vi_tb, vi_ts, vi_tn, vi_td, vi_tags0, vi_tags1, vi_tagsI, vi_tagsS, vi_tagsB, vi_allsI, vi_allsS, vi_allsB, vi_ai, vi_ab, vi_as, vi_an, vi_ad, vi_alls0, vi_alls1, vi_cl,
    vi_add, vi_sub, vi_mulr, vi_mull, vi_div, vi_mod, vi_lt, vi_le, vi_gt, vi_ge, vi_eqi, vi_nei, vi_eqb, vi_neb, vi_eqs, vi_nes, vi_lenl, vi_lent, vi_abs, vi_min, vi_max, vi_dm, vi_nm, vi_tp, vi_no, vi_app, vi_upd0, vi_upe, vi_fz0, vi_fz1, vi_fz2, vi_fz3, vi_go0, vi_go1, vi_pl0, vi_t1, vi_t2, vi_t3, vi_t4, vi_t5, vi_t6, vi_frz, vi_fn, vi_cst,
    R.bind_ok, R.of_some, Option.map_some, Option.bind_some, List.getElem?_cons_zero, List.getElem?_cons_succ, List.set_cons_zero, List.set_cons_succ, List.length_cons, List.length_nil, List.length_map, List.all_cons, List.all_nil, Bool.and_true, Bool.true_and, Bool.or_true, Bool.true_or, Bool.or_false, Bool.false_or, Bool.and_self, if_true, ite_true, reduceIte, Nat.reduceAdd, Nat.reduceSub, Nat.reduceMul, Nat.reduceLT, Nat.reduceLeDiff, Nat.reduceEqDiff, Int.reduceLT, Int.reduceLE, Int.reduceAdd, Int.reduceSub, Int.reduceMul, Int.reduceNeg, Int.reducePow, Int.reduceToNat, Int.natAbs_natCast, Nat.lt_add_one, decide_true, decide_false, Nat.zero_lt_succ, List.map_cons, List.map_nil, vi_y1, vi_y2, vi_y3, vi_y4, vi_y5, vi_seen, vi_cd, vi_old, vi_o1, vi_o2, vi_b1, vi_b2, vi_b3, vi_b4, vi_b5, vi_pow, vi_rsh, e_b0, e_b1, e_b2, e_b3, e_b4, e_b5, e_b6, vi_li1, vi_li2, vi_li3] <;> rfl) ?_
    refine w_step (by simp -implicitDefEqProofs (decide := true) only [S.sem, e_nop, e_lit, e_loc, e_glb, e_bin, e_cmp, e_cm2, e_cmK, e_bop, e_and, e_or, e_one, e_anK, e_orK, e_anM, e_orM, e_not, e_noK, e_tru, e_tb, e_ti, e_tl, e_tt, e_tn, e_neg, e_neK, e_ife, e_ifK, e_tup, e_lst, e_ix, e_slc, e_call, e_blt, e_isi, e_comp, e_l0, e_l1, e_ixl, e_ixt, e_at, e_ixn, e_ixm, e_tyb1, e_tyb2, e_tyi1, e_tyi2, e_isn1, e_isn2, e_isn3, e_isn4, e_isn5, e_isb, e_eqni, e_eqin, vi_lb, vi_lm, vi_lc, vi_lbs, vi_lms, vi_lcs, vi_g0, vi_g1, vi_g2, vi_g3, vi_g4, vi_g5, vi_g6, vi_ti, vi_tb, vi_ts, vi_tn, vi_td, vi_tags0, vi_tags1, vi_tagsI, vi_tagsS, vi_tagsB, vi_allsI, vi_allsS, vi_allsB, vi_ai, vi_ab, vi_as, vi_an, vi_ad, vi_alls0, vi_alls1, vi_cl,
    vi_add, vi_sub, vi_mulr, vi_mull, vi_div, vi_mod, vi_lt, vi_le, vi_gt, vi_ge, vi_eqi, vi_nei, vi_eqb, vi_neb, vi_eqs, vi_nes, vi_lenl, vi_lent, vi_abs, vi_min, vi_max, vi_dm, vi_nm, vi_tp, vi_no, vi_app, vi_upd0, vi_upe, vi_fz0, vi_fz1, vi_fz2, vi_fz3, vi_go0, vi_go1, vi_pl0, vi_t1, vi_t2, vi_t3, vi_t4, vi_t5, vi_t6, vi_frz, vi_fn, vi_cst,
    R.bind_ok, R.of_some, Option.map_some, Option.bind_some, List.getElem?_cons_zero, List.getElem?_cons_succ, List.set_cons_zero, List.set_cons_succ, List.length_cons, List.length_nil, List.length_map, List.all_cons, List.all_nil, Bool.and_true, Bool.true_and, Bool.or_true, Bool.true_or, Bool.or_false, Bool.false_or, Bool.and_self, if_true, ite_true, reduceIte, Nat.reduceAdd, Nat.reduceSub, Nat.reduceMul, Nat.reduceLT, Nat.reduceLeDiff, Nat.reduceEqDiff, Int.reduceLT, Int.reduceLE, Int.reduceAdd, Int.reduceSub, Int.reduceMul, Int.reduceNeg, Int.reducePow, Int.reduceToNat, Int.natAbs_natCast, Nat.lt_add_one, decide_true, decide_false, Nat.zero_lt_succ, List.map_cons, List.map_nil, vi_y1, vi_y2, vi_y3, vi_y4, vi_y5, vi_seen, vi_cd, vi_old, vi_o1, vi_o2, vi_b1, vi_b2, vi_b3, vi_b4, vi_b5, vi_pow, vi_rsh, e_b0, e_b1, e_b2, e_b3, e_b4, e_b5, e_b6, vi_li1, vi_li2, vi_li3] <;> rfl) ?_
    refine w_step (by simp -implicitDefEqProofs (decide := true) only [S.sem, e_nop, e_lit, e_loc, e_glb, e_bin, e_cmp, e_cm2, e_cmK, e_bop, e_and, e_or, e_one, e_anK, e_orK, e_anM, e_orM, e_not, e_noK, e_tru, e_tb, e_ti, e_tl, e_tt, e_tn, e_neg, e_neK, e_ife, e_ifK, e_tup, e_lst, e_ix, e_slc, e_call, e_blt, e_isi, e_comp, e_l0, e_l1, e_ixl, e_ixt, e_at, e_ixn, e_ixm, e_tyb1, e_tyb2, e_tyi1, e_tyi2, e_isn1, e_isn2, e_isn3, e_isn4, e_isn5, e_isb, e_eqni, e_eqin, vi_lb, vi_lm, vi_lc, vi_lbs, vi_lms, vi_lcs, vi_g0, vi_g1, vi_g2, vi_g3, vi_g4, vi_g5, vi_g6, vi_ti, vi_tb, vi_ts, vi_tn, vi_td, vi_tags0, vi_tags1, vi_tagsI, vi_tagsS, vi_tagsB, vi_allsI, vi_allsS, vi_allsB, vi_ai, vi_ab, vi_as, vi_an, vi_ad, vi_alls0, vi_alls1, vi_cl,
    vi_add, vi_sub, vi_mulr, vi_mull, vi_div, vi_mod, vi_lt, vi_le, vi_gt, vi_ge, vi_eqi, vi_nei, vi_eqb, vi_neb, vi_eqs, vi_nes, vi_lenl, vi_lent, vi_abs, vi_min, vi_max, vi_dm, vi_nm, vi_tp, vi_no, vi_app, vi_upd0, vi_upe, vi_fz0, vi_fz1, vi_fz2, vi_fz3, vi_go0, vi_go1, vi_pl0, vi_t1, vi_t2, vi_t3, vi_t4, vi_t5, vi_t6, vi_frz, vi_fn, vi_cst,
    R.bind_ok, R.of_some, Option.map_some, Option.bind_some, List.getElem?_cons_zero, List.getElem?_cons_succ, List.set_cons_zero, List.set_cons_succ, List.length_cons, List.length_nil, List.length_map, List.all_cons, List.all_nil, Bool.and_true, Bool.true_and, Bool.or_true, Bool.true_or, Bool.or_false, Bool.false_or, Bool.and_self, if_true, ite_true, reduceIte, Nat.reduceAdd, Nat.reduceSub, Nat.reduceMul, Nat.reduceLT, Nat.reduceLeDiff, Nat.reduceEqDiff, Int.reduceLT, Int.reduceLE, Int.reduceAdd, Int.reduceSub, Int.reduceMul, Int.reduceNeg, Int.reducePow, Int.reduceToNat, Int.natAbs_natCast, Nat.lt_add_one, decide_true, decide_false, Nat.zero_lt_succ, List.map_cons, List.map_nil, vi_y1, vi_y2, vi_y3, vi_y4, vi_y5, vi_seen, vi_cd, vi_old, vi_o1, vi_o2, vi_b1, vi_b2, vi_b3, vi_b4, vi_b5, vi_pow, vi_rsh, e_b0, e_b1, e_b2, e_b3, e_b4, e_b5, e_b6, vi_li1, vi_li2, vi_li3] <;> rfl) ?_
    refine w_step (by simp -implicitDefEqProofs (decide := true) only [S.sem, e_nop, e_lit, e_loc, e_glb, e_bin, e_cmp, e_cm2, e_cmK, e_bop, e_and, e_or, e_one, e_anK, e_orK, e_anM, e_orM, e_not, e_noK, e_tru, e_tb, e_ti, e_tl, e_tt, e_tn, e_neg, e_neK, e_ife, e_ifK, e_tup, e_lst, e_ix, e_slc, e_call, e_blt, e_isi, e_comp, e_l0, e_l1, e_ixl, e_ixt, e_at, e_ixn, e_ixm, e_tyb1, e_tyb2, e_tyi1, e_tyi2, e_isn1, e_isn2, e_isn3, e_isn4, e_isn5, e_isb, e_eqni, e_eqin, vi_lb, vi_lm, vi_lc, vi_lbs, vi_lms, vi_lcs, vi_g0, vi_g1, vi_g2, vi_g3, vi_g4, vi_g5, vi_g6, vi_ti, vi_tb, vi_ts, vi_tn, vi_td, vi_tags0, vi_tags1, vi_tagsI, vi_tagsS, vi_tagsB, vi_allsI, vi_allsS, vi_allsB, vi_ai, vi_ab, vi_as, vi_an, vi_ad, vi_alls0, vi_alls1, vi_cl,
    vi_add, vi_sub, vi_mulr, vi_mull, vi_div, vi_mod, vi_lt, vi_le, vi_gt, vi_ge, vi_eqi, vi_nei, vi_eqb, vi_neb, vi_eqs, vi_nes, vi_lenl, vi_lent, vi_abs, vi_min, vi_max, vi_dm, vi_nm, vi_tp, vi_no, vi_app, vi_upd0, vi_upe, vi_fz0, vi_fz1, vi_fz2, vi_fz3, vi_go0, vi_go1, vi_pl0, vi_t1, vi_t2, vi_t3, vi_t4, vi_t5, vi_t6, vi_frz, vi_fn, vi_cst,
    R.bind_ok, R.of_some, Option.map_some, Option.bind_some, List.getElem?_cons_zero, List.getElem?_cons_succ, List.set_cons_zero, List.set_cons_succ, List.length_cons, List.length_nil, List.length_map, List.all_cons, List.all_nil, Bool.and_true, Bool.true_and, Bool.or_true, Bool.true_or, Bool.or_false, Bool.false_or, Bool.and_self, if_true, ite_true, reduceIte, Nat.reduceAdd, Nat.reduceSub, Nat.reduceMul, Nat.reduceLT, Nat.reduceLeDiff, Nat.reduceEqDiff, Int.reduceLT, Int.reduceLE, Int.reduceAdd, Int.reduceSub, Int.reduceMul, Int.reduceNeg, Int.reducePow, Int.reduceToNat, Int.natAbs_natCast, Nat.lt_add_one, decide_true, decide_false, Nat.zero_lt_succ, List.map_cons, List.map_nil, vi_y1, vi_y2, vi_y3, vi_y4, vi_y5, vi_seen, vi_cd, vi_old, vi_o1, vi_o2, vi_b1, vi_b2, vi_b3, vi_b4, vi_b5, vi_pow, vi_rsh, e_b0, e_b1, e_b2, e_b3, e_b4, e_b5, e_b6, vi_li1, vi_li2, vi_li3, t1] <;> rfl) ?_
    refine w_step (by simp -implicitDefEqProofs (decide := true) only [S.sem, e_nop, e_lit, e_loc, e_glb, e_bin, e_cmp, e_cm2, e_cmK, e_bop, e_and, e_or, e_one, e_anK, e_orK, e_anM, e_orM, e_not, e_noK, e_tru, e_tb, e_ti, e_tl, e_tt, e_tn, e_neg, e_neK, e_ife, e_ifK, e_tup, e_lst, e_ix, e_slc, e_call, e_blt, e_isi, e_comp, e_l0, e_l1, e_ixl, e_ixt, e_at, e_ixn, e_ixm, e_tyb1, e_tyb2, e_tyi1, e_tyi2, e_isn1, e_isn2, e_isn3, e_isn4, e_isn5, e_isb, e_eqni, e_eqin, vi_lb, vi_lm, vi_lc, vi_lbs, vi_lms, vi_lcs, vi_g0, vi_g1, vi_g2, vi_g3, vi_g4, vi_g5, vi_g6, vi_ti, vi_tb, vi_ts, vi_tn, vi_td, vi_tags0, vi_tags1, vi_tagsI, vi_tagsS, vi_tagsB, vi_allsI, vi_allsS, vi_allsB, vi_ai, vi_ab, vi_as, vi_an, vi_ad, vi_alls0, vi_alls1, vi_cl,
    vi_add, vi_sub, vi_mulr, vi_mull, vi_div, vi_mod, vi_lt, vi_le, vi_gt, vi_ge, vi_eqi, vi_nei, vi_eqb, vi_neb, vi_eqs, vi_nes, vi_lenl, vi_lent, vi_abs, vi_min, vi_max, vi_dm, vi_nm, vi_tp, vi_no, vi_app, vi_upd0, vi_upe, vi_fz0, vi_fz1, vi_fz2, vi_fz3, vi_go0, vi_go1, vi_pl0, vi_t1, vi_t2, vi_t3, vi_t4, vi_t5, vi_t6, vi_frz, vi_fn, vi_cst,
    R.bind_ok, R.of_some, Option.map_some, Option.bind_some, List.getElem?_cons_zero, List.getElem?_cons_succ, List.set_cons_zero, List.set_cons_succ, List.length_cons, List.length_nil, List.length_map, List.all_cons, List.all_nil, Bool.and_true, Bool.true_and, Bool.or_true, Bool.true_or, Bool.or_false, Bool.false_or, Bool.and_self, if_true, ite_true, reduceIte, Nat.reduceAdd, Nat.reduceSub, Nat.reduceMul, Nat.reduceLT, Nat.reduceLeDiff, Nat.reduceEqDiff, Int.reduceLT, Int.reduceLE, Int.reduceAdd, Int.reduceSub, Int.reduceMul, Int.reduceNeg, Int.reducePow, Int.reduceToNat, Int.natAbs_natCast, Nat.lt_add_one, decide_true, decide_false, Nat.zero_lt_succ, List.map_cons, List.map_nil, vi_y1, vi_y2, vi_y3, vi_y4, vi_y5, vi_seen, vi_cd, vi_old, vi_o1, vi_o2, vi_b1, vi_b2, vi_b3, vi_b4, vi_b5, vi_pow, vi_rsh, e_b0, e_b1, e_b2, e_b3, e_b4, e_b5, e_b6, vi_li1, vi_li2, vi_li3] <;> rfl) ?_
    refine w_ifr (k := false) (by simp -implicitDefEqProofs (decide := true) only [S.sem, e_nop, e_lit, e_loc, e_glb, e_bin, e_cmp, e_cm2, e_cmK, e_bop, e_and, e_or, e_one, e_anK, e_orK, e_anM, e_orM, e_not, e_noK, e_tru, e_tb, e_ti, e_tl, e_tt, e_tn, e_neg, e_neK, e_ife, e_ifK, e_tup, e_lst, e_ix, e_slc, e_call, e_blt, e_isi, e_comp, e_l0, e_l1, e_ixl, e_ixt, e_at, e_ixn, e_ixm, e_tyb1, e_tyb2, e_tyi1, e_tyi2, e_isn1, e_isn2, e_isn3, e_isn4, e_isn5, e_isb, e_eqni, e_eqin, vi_lb, vi_lm, vi_lc, vi_lbs, vi_lms, vi_lcs, vi_g0, vi_g1, vi_g2, vi_g3, vi_g4, vi_g5, vi_g6, vi_ti, vi_tb, vi_ts, vi_tn, vi_td, vi_tags0, vi_tags1, vi_tagsI, vi_tagsS, vi_tagsB, vi_allsI, vi_allsS, vi_allsB, vi_ai, vi_ab, vi_as, vi_an, vi_ad, vi_alls0, vi_alls1, vi_cl,
    vi_add, vi_sub, vi_mulr, vi_mull, vi_div, vi_mod, vi_lt, vi_le, vi_gt, vi_ge, vi_eqi, vi_nei, vi_eqb, vi_neb, vi_eqs, vi_nes, vi_lenl, vi_lent, vi_abs, vi_min, vi_max, vi_dm, vi_nm, vi_tp, vi_no, vi_app, vi_upd0, vi_upe, vi_fz0, vi_fz1, vi_fz2, vi_fz3, vi_go0, vi_go1, vi_pl0, vi_t1, vi_t2, vi_t3, vi_t4, vi_t5, vi_t6, vi_frz, vi_fn, vi_cst,
    R.bind_ok, R.of_some, Option.map_some, Option.bind_some, List.getElem?_cons_zero, List.getElem?_cons_succ, List.set_cons_zero, List.set_cons_succ, List.length_cons, List.length_nil, List.length_map, List.all_cons, List.all_nil, Bool.and_true, Bool.true_and, Bool.or_true, Bool.true_or, Bool.or_false, Bool.false_or, Bool.and_self, if_true, ite_true, reduceIte, Nat.reduceAdd, Nat.reduceSub, Nat.reduceMul, Nat.reduceLT, Nat.reduceLeDiff, Nat.reduceEqDiff, Int.reduceLT, Int.reduceLE, Int.reduceAdd, Int.reduceSub, Int.reduceMul, Int.reduceNeg, Int.reducePow, Int.reduceToNat, Int.natAbs_natCast, Nat.lt_add_one, decide_true, decide_false, Nat.zero_lt_succ, List.map_cons, List.map_nil, vi_y1, vi_y2, vi_y3, vi_y4, vi_y5, vi_seen, vi_cd, vi_old, vi_o1, vi_o2, vi_b1, vi_b2, vi_b3, vi_b4, vi_b5, vi_pow, vi_rsh, e_b0, e_b1, e_b2, e_b3, e_b4, e_b5, e_b6, vi_li1, vi_li2, vi_li3, t2, bne_self_eq_false, Bool.not_true, beq_self_eq_true] <;> rfl) (fun q => by cases q) (fun _ => ?_)
    refine w_ifr (k := !tab xs) (by simp -implicitDefEqProofs (decide := true) only [S.sem, e_nop, e_lit, e_loc, e_glb, e_bin, e_cmp, e_cm2, e_cmK, e_bop, e_and, e_or, e_one, e_anK, e_orK, e_anM, e_orM, e_not, e_noK, e_tru, e_tb, e_ti, e_tl, e_tt, e_tn, e_neg, e_neK, e_ife, e_ifK, e_tup, e_lst, e_ix, e_slc, e_call, e_blt, e_isi, e_comp, e_l0, e_l1, e_ixl, e_ixt, e_at, e_ixn, e_ixm, e_tyb1, e_tyb2, e_tyi1, e_tyi2, e_isn1, e_isn2, e_isn3, e_isn4, e_isn5, e_isb, e_eqni, e_eqin, vi_lb, vi_lm, vi_lc, vi_lbs, vi_lms, vi_lcs, vi_g0, vi_g1, vi_g2, vi_g3, vi_g4, vi_g5, vi_g6, vi_ti, vi_tb, vi_ts, vi_tn, vi_td, vi_tags0, vi_tags1, vi_tagsI, vi_tagsS, vi_tagsB, vi_allsI, vi_allsS, vi_allsB, vi_ai, vi_ab, vi_as, vi_an, vi_ad, vi_alls0, vi_alls1, vi_cl,
    vi_add, vi_sub, vi_mulr, vi_mull, vi_div, vi_mod, vi_lt, vi_le, vi_gt, vi_ge, vi_eqi, vi_nei, vi_eqb, vi_neb, vi_eqs, vi_nes, vi_lenl, vi_lent, vi_abs, vi_min, vi_max, vi_dm, vi_nm, vi_tp, vi_no, vi_app, vi_upd0, vi_upe, vi_fz0, vi_fz1, vi_fz2, vi_fz3, vi_go0, vi_go1, vi_pl0, vi_t1, vi_t2, vi_t3, vi_t4, vi_t5, vi_t6, vi_frz, vi_fn, vi_cst,
    R.bind_ok, R.of_some, Option.map_some, Option.bind_some, List.getElem?_cons_zero, List.getElem?_cons_succ, List.set_cons_zero, List.set_cons_succ, List.length_cons, List.length_nil, List.length_map, List.all_cons, List.all_nil, Bool.and_true, Bool.true_and, Bool.or_true, Bool.true_or, Bool.or_false, Bool.false_or, Bool.and_self, if_true, ite_true, reduceIte, Nat.reduceAdd, Nat.reduceSub, Nat.reduceMul, Nat.reduceLT, Nat.reduceLeDiff, Nat.reduceEqDiff, Int.reduceLT, Int.reduceLE, Int.reduceAdd, Int.reduceSub, Int.reduceMul, Int.reduceNeg, Int.reducePow, Int.reduceToNat, Int.natAbs_natCast, Nat.lt_add_one, decide_true, decide_false, Nat.zero_lt_succ, List.map_cons, List.map_nil, vi_y1, vi_y2, vi_y3, vi_y4, vi_y5, vi_seen, vi_cd, vi_old, vi_o1, vi_o2, vi_b1, vi_b2, vi_b3, vi_b4, vi_b5, vi_pow, vi_rsh, e_b0, e_b1, e_b2, e_b3, e_b4, e_b5, e_b6, vi_li1, vi_li2, vi_li3] <;> rfl) (fun hk => ?_) (fun hk => ?_)
    · exact w_ret (by simp -implicitDefEqProofs (decide := true) only [S.sem, e_nop, e_lit, e_loc, e_glb, e_bin, e_cmp, e_cm2, e_cmK, e_bop, e_and, e_or, e_one, e_anK, e_orK, e_anM, e_orM, e_not, e_noK, e_tru, e_tb, e_ti, e_tl, e_tt, e_tn, e_neg, e_neK, e_ife, e_ifK, e_tup, e_lst, e_ix, e_slc, e_call, e_blt, e_isi, e_comp, e_l0, e_l1, e_ixl, e_ixt, e_at, e_ixn, e_ixm, e_tyb1, e_tyb2, e_tyi1, e_tyi2, e_isn1, e_isn2, e_isn3, e_isn4, e_isn5, e_isb, e_eqni, e_eqin, vi_lb, vi_lm, vi_lc, vi_lbs, vi_lms, vi_lcs, vi_g0, vi_g1, vi_g2, vi_g3, vi_g4, vi_g5, vi_g6, vi_ti, vi_tb, vi_ts, vi_tn, vi_td, vi_tags0, vi_tags1, vi_tagsI, vi_tagsS, vi_tagsB, vi_allsI, vi_allsS, vi_allsB, vi_ai, vi_ab, vi_as, vi_an, vi_ad, vi_alls0, vi_alls1, vi_cl,
    vi_add, vi_sub, vi_mulr, vi_mull, vi_div, vi_mod, vi_lt, vi_le, vi_gt, vi_ge, vi_eqi, vi_nei, vi_eqb, vi_neb, vi_eqs, vi_nes, vi_lenl, vi_lent, vi_abs, vi_min, vi_max, vi_dm, vi_nm, vi_tp, vi_no, vi_app, vi_upd0, vi_upe, vi_fz0, vi_fz1, vi_fz2, vi_fz3, vi_go0, vi_go1, vi_pl0, vi_t1, vi_t2, vi_t3, vi_t4, vi_t5, vi_t6, vi_frz, vi_fn, vi_cst,
    R.bind_ok, R.of_some, Option.map_some, Option.bind_some, List.getElem?_cons_zero, List.getElem?_cons_succ, List.set_cons_zero, List.set_cons_succ, List.length_cons, List.length_nil, List.length_map, List.all_cons, List.all_nil, Bool.and_true, Bool.true_and, Bool.or_true, Bool.true_or, Bool.or_false, Bool.false_or, Bool.and_self, if_true, ite_true, reduceIte, Nat.reduceAdd, Nat.reduceSub, Nat.reduceMul, Nat.reduceLT, Nat.reduceLeDiff, Nat.reduceEqDiff, Int.reduceLT, Int.reduceLE, Int.reduceAdd, Int.reduceSub, Int.reduceMul, Int.reduceNeg, Int.reducePow, Int.reduceToNat, Int.natAbs_natCast, Nat.lt_add_one, decide_true, decide_false, Nat.zero_lt_succ, List.map_cons, List.map_nil, vi_y1, vi_y2, vi_y3, vi_y4, vi_y5, vi_seen, vi_cd, vi_old, vi_o1, vi_o2, vi_b1, vi_b2, vi_b3, vi_b4, vi_b5, vi_pow, vi_rsh, e_b0, e_b1, e_b2, e_b3, e_b4, e_b5, e_b6, vi_li1, vi_li2, vi_li3, cmp_ints] <;> rfl) rfl
    refine w_step (by simp -implicitDefEqProofs (decide := true) only [S.sem, e_nop, e_lit, e_loc, e_glb, e_bin, e_cmp, e_cm2, e_cmK, e_bop, e_and, e_or, e_one, e_anK, e_orK, e_anM, e_orM, e_not, e_noK, e_tru, e_tb, e_ti, e_tl, e_tt, e_tn, e_neg, e_neK, e_ife, e_ifK, e_tup, e_lst, e_ix, e_slc, e_call, e_blt, e_isi, e_comp, e_l0, e_l1, e_ixl, e_ixt, e_at, e_ixn, e_ixm, e_tyb1, e_tyb2, e_tyi1, e_tyi2, e_isn1, e_isn2, e_isn3, e_isn4, e_isn5, e_isb, e_eqni, e_eqin, vi_lb, vi_lm, vi_lc, vi_lbs, vi_lms, vi_lcs, vi_g0, vi_g1, vi_g2, vi_g3, vi_g4, vi_g5, vi_g6, vi_ti, vi_tb, vi_ts, vi_tn, vi_td, vi_tags0, vi_tags1, vi_tagsI, vi_tagsS, vi_tagsB, vi_allsI, vi_allsS, vi_allsB, vi_ai, vi_ab, vi_as, vi_an, vi_ad, vi_alls0, vi_alls1, vi_cl,
    vi_add, vi_sub, vi_mulr, vi_mull, vi_div, vi_mod, vi_lt, vi_le, vi_gt, vi_ge, vi_eqi, vi_nei, vi_eqb, vi_neb, vi_eqs, vi_nes, vi_lenl, vi_lent, vi_abs, vi_min, vi_max, vi_dm, vi_nm, vi_tp, vi_no, vi_app, vi_upd0, vi_upe, vi_fz0, vi_fz1, vi_fz2, vi_fz3, vi_go0, vi_go1, vi_pl0, vi_t1, vi_t2, vi_t3, vi_t4, vi_t5, vi_t6, vi_frz, vi_fn, vi_cst,
    R.bind_ok, R.of_some, Option.map_some, Option.bind_some, List.getElem?_cons_zero, List.getElem?_cons_succ, List.set_cons_zero, List.set_cons_succ, List.length_cons, List.length_nil, List.length_map, List.all_cons, List.all_nil, Bool.and_true, Bool.true_and, Bool.or_true, Bool.true_or, Bool.or_false, Bool.false_or, Bool.and_self, if_true, ite_true, reduceIte, Nat.reduceAdd, Nat.reduceSub, Nat.reduceMul, Nat.reduceLT, Nat.reduceLeDiff, Nat.reduceEqDiff, Int.reduceLT, Int.reduceLE, Int.reduceAdd, Int.reduceSub, Int.reduceMul, Int.reduceNeg, Int.reducePow, Int.reduceToNat, Int.natAbs_natCast, Nat.lt_add_one, decide_true, decide_false, Nat.zero_lt_succ, List.map_cons, List.map_nil, vi_y1, vi_y2, vi_y3, vi_y4, vi_y5, vi_seen, vi_cd, vi_old, vi_o1, vi_o2, vi_b1, vi_b2, vi_b3, vi_b4, vi_b5, vi_pow, vi_rsh, e_b0, e_b1, e_b2, e_b3, e_b4, e_b5, e_b6, vi_li1, vi_li2, vi_li3, hy3] <;> rfl) ?_
    refine w_step (by simp -implicitDefEqProofs (decide := true) only [S.sem, e_nop, e_lit, e_loc, e_glb, e_bin, e_cmp, e_cm2, e_cmK, e_bop, e_and, e_or, e_one, e_anK, e_orK, e_anM, e_orM, e_not, e_noK, e_tru, e_tb, e_ti, e_tl, e_tt, e_tn, e_neg, e_neK, e_ife, e_ifK, e_tup, e_lst, e_ix, e_slc, e_call, e_blt, e_isi, e_comp, e_l0, e_l1, e_ixl, e_ixt, e_at, e_ixn, e_ixm, e_tyb1, e_tyb2, e_tyi1, e_tyi2, e_isn1, e_isn2, e_isn3, e_isn4, e_isn5, e_isb, e_eqni, e_eqin, vi_lb, vi_lm, vi_lc, vi_lbs, vi_lms, vi_lcs, vi_g0, vi_g1, vi_g2, vi_g3, vi_g4, vi_g5, vi_g6, vi_ti, vi_tb, vi_ts, vi_tn, vi_td, vi_tags0, vi_tags1, vi_tagsI, vi_tagsS, vi_tagsB, vi_allsI, vi_allsS, vi_allsB, vi_ai, vi_ab, vi_as, vi_an, vi_ad, vi_alls0, vi_alls1, vi_cl,
    vi_add, vi_sub, vi_mulr, vi_mull, vi_div, vi_mod, vi_lt, vi_le, vi_gt, vi_ge, vi_eqi, vi_nei, vi_eqb, vi_neb, vi_eqs, vi_nes, vi_lenl, vi_lent, vi_abs, vi_min, vi_max, vi_dm, vi_nm, vi_tp, vi_no, vi_app, vi_upd0, vi_upe, vi_fz0, vi_fz1, vi_fz2, vi_fz3, vi_go0, vi_go1, vi_pl0, vi_t1, vi_t2, vi_t3, vi_t4, vi_t5, vi_t6, vi_frz, vi_fn, vi_cst,
    R.bind_ok, R.of_some, Option.map_some, Option.bind_some, List.getElem?_cons_zero, List.getElem?_cons_succ, List.set_cons_zero, List.set_cons_succ, List.length_cons, List.length_nil, List.length_map, List.all_cons, List.all_nil, Bool.and_true, Bool.true_and, Bool.or_true, Bool.true_or, Bool.or_false, Bool.false_or, Bool.and_self, if_true, ite_true, reduceIte, Nat.reduceAdd, Nat.reduceSub, Nat.reduceMul, Nat.reduceLT, Nat.reduceLeDiff, Nat.reduceEqDiff, Int.reduceLT, Int.reduceLE, Int.reduceAdd, Int.reduceSub, Int.reduceMul, Int.reduceNeg, Int.reducePow, Int.reduceToNat, Int.natAbs_natCast, Nat.lt_add_one, decide_true, decide_false, Nat.zero_lt_succ, List.map_cons, List.map_nil, vi_y1, vi_y2, vi_y3, vi_y4, vi_y5, vi_seen, vi_cd, vi_old, vi_o1, vi_o2, vi_b1, vi_b2, vi_b3, vi_b4, vi_b5, vi_pow, vi_rsh, e_b0, e_b1, e_b2, e_b3, e_b4, e_b5, e_b6, vi_li1, vi_li2, vi_li3] <;> rfl) ?_
    refine w_loop (vals := [.nd .own .lst ([0, (xs.length : Int) - 1, xs.length, x0 % 70, 300].map D.int)]) (fun i e => ∃ d5 d6, e = [.int number, .nd .new .lst (xs.map D.int), .nd .new .lst (xs.map D.int), .bl (tab xs), .nd .new .lst [.int x0, .int x1, .int x2, .int x3, .int x4, .int x5], d5, d6, .und, .und]) (by simp -implicitDefEqProofs (decide := true) only [S.sem, e_nop, e_lit, e_loc, e_glb, e_bin, e_cmp, e_cm2, e_cmK, e_bop, e_and, e_or, e_one, e_anK, e_orK, e_anM, e_orM, e_not, e_noK, e_tru, e_tb, e_ti, e_tl, e_tt, e_tn, e_neg, e_neK, e_ife, e_ifK, e_tup, e_lst, e_ix, e_slc, e_call, e_blt, e_isi, e_comp, e_l0, e_l1, e_ixl, e_ixt, e_at, e_ixn, e_ixm, e_tyb1, e_tyb2, e_tyi1, e_tyi2, e_isn1, e_isn2, e_isn3, e_isn4, e_isn5, e_isb, e_eqni, e_eqin, vi_lb, vi_lm, vi_lc, vi_lbs, vi_lms, vi_lcs, vi_g0, vi_g1, vi_g2, vi_g3, vi_g4, vi_g5, vi_g6, vi_ti, vi_tb, vi_ts, vi_tn, vi_td, vi_tags0, vi_tags1, vi_tagsI, vi_tagsS, vi_tagsB, vi_allsI, vi_allsS, vi_allsB, vi_ai, vi_ab, vi_as, vi_an, vi_ad, vi_alls0, vi_alls1, vi_cl,
    vi_add, vi_sub, vi_mulr, vi_mull, vi_div, vi_mod, vi_lt, vi_le, vi_gt, vi_ge, vi_eqi, vi_nei, vi_eqb, vi_neb, vi_eqs, vi_nes, vi_lenl, vi_lent, vi_abs, vi_min, vi_max, vi_dm, vi_nm, vi_tp, vi_no, vi_app, vi_upd0, vi_upe, vi_fz0, vi_fz1, vi_fz2, vi_fz3, vi_go0, vi_go1, vi_pl0, vi_t1, vi_t2, vi_t3, vi_t4, vi_t5, vi_t6, vi_frz, vi_fn, vi_cst,
    R.bind_ok, R.of_some, Option.map_some, Option.bind_some, List.getElem?_cons_zero, List.getElem?_cons_succ, List.set_cons_zero, List.set_cons_succ, List.length_cons, List.length_nil, List.length_map, List.all_cons, List.all_nil, Bool.and_true, Bool.true_and, Bool.or_true, Bool.true_or, Bool.or_false, Bool.false_or, Bool.and_self, if_true, ite_true, reduceIte, Nat.reduceAdd, Nat.reduceSub, Nat.reduceMul, Nat.reduceLT, Nat.reduceLeDiff, Nat.reduceEqDiff, Int.reduceLT, Int.reduceLE, Int.reduceAdd, Int.reduceSub, Int.reduceMul, Int.reduceNeg, Int.reducePow, Int.reduceToNat, Int.natAbs_natCast, Nat.lt_add_one, decide_true, decide_false, Nat.zero_lt_succ, List.map_cons, List.map_nil, vi_y1, vi_y2, vi_y3, vi_y4, vi_y5, vi_seen, vi_cd, vi_old, vi_o1, vi_o2, vi_b1, vi_b2, vi_b3, vi_b4, vi_b5, vi_pow, vi_rsh, e_b0, e_b1, e_b2, e_b3, e_b4, e_b5, e_b6, vi_li1, vi_li2, vi_li3] <;> rfl) rfl (by rfl) ⟨_, _, rfl⟩ ?_ ?_
    · rintro i env d hd ⟨d5, d6, rfl⟩
      rw [vi_tagsI, List.getElem?_map] at hd
      obtain ⟨age, hf, rfl⟩ := Option.map_eq_some_iff.mp hd
      have hage : 0 ≤ age := by
        have hm := List.mem_of_getElem? hf
        simp only [List.mem_cons, List.not_mem_nil, or_false] at hm
        rcases hm with rfl | rfl | rfl | rfl | rfl <;> omega
      have q1 := f_dark (n + 1) .any xs age hage hL1
      have q2 := f_at (n + 1) .any xs age hage hL1 (by omega)
      refine ⟨rfl, _, rfl, ?_⟩
      refine w_step (by simp -implicitDefEqProofs (decide := true) only [S.sem, e_nop, e_lit, e_loc, e_glb, e_bin, e_cmp, e_cm2, e_cmK, e_bop, e_and, e_or, e_one, e_anK, e_orK, e_anM, e_orM, e_not, e_noK, e_tru, e_tb, e_ti, e_tl, e_tt, e_tn, e_neg, e_neK, e_ife, e_ifK, e_tup, e_lst, e_ix, e_slc, e_call, e_blt, e_isi, e_comp, e_l0, e_l1, e_ixl, e_ixt, e_at, e_ixn, e_ixm, e_tyb1, e_tyb2, e_tyi1, e_tyi2, e_isn1, e_isn2, e_isn3, e_isn4, e_isn5, e_isb, e_eqni, e_eqin, vi_lb, vi_lm, vi_lc, vi_lbs, vi_lms, vi_lcs, vi_g0, vi_g1, vi_g2, vi_g3, vi_g4, vi_g5, vi_g6, vi_ti, vi_tb, vi_ts, vi_tn, vi_td, vi_tags0, vi_tags1, vi_tagsI, vi_tagsS, vi_tagsB, vi_allsI, vi_allsS, vi_allsB, vi_ai, vi_ab, vi_as, vi_an, vi_ad, vi_alls0, vi_alls1, vi_cl,
    vi_add, vi_sub, vi_mulr, vi_mull, vi_div, vi_mod, vi_lt, vi_le, vi_gt, vi_ge, vi_eqi, vi_nei, vi_eqb, vi_neb, vi_eqs, vi_nes, vi_lenl, vi_lent, vi_abs, vi_min, vi_max, vi_dm, vi_nm, vi_tp, vi_no, vi_app, vi_upd0, vi_upe, vi_fz0, vi_fz1, vi_fz2, vi_fz3, vi_go0, vi_go1, vi_pl0, vi_t1, vi_t2, vi_t3, vi_t4, vi_t5, vi_t6, vi_frz, vi_fn, vi_cst,
    R.bind_ok, R.of_some, Option.map_some, Option.bind_some, List.getElem?_cons_zero, List.getElem?_cons_succ, List.set_cons_zero, List.set_cons_succ, List.length_cons, List.length_nil, List.length_map, List.all_cons, List.all_nil, Bool.and_true, Bool.true_and, Bool.or_true, Bool.true_or, Bool.or_false, Bool.false_or, Bool.and_self, if_true, ite_true, reduceIte, Nat.reduceAdd, Nat.reduceSub, Nat.reduceMul, Nat.reduceLT, Nat.reduceLeDiff, Nat.reduceEqDiff, Int.reduceLT, Int.reduceLE, Int.reduceAdd, Int.reduceSub, Int.reduceMul, Int.reduceNeg, Int.reducePow, Int.reduceToNat, Int.natAbs_natCast, Nat.lt_add_one, decide_true, decide_false, Nat.zero_lt_succ, List.map_cons, List.map_nil, vi_y1, vi_y2, vi_y3, vi_y4, vi_y5, vi_seen, vi_cd, vi_old, vi_o1, vi_o2, vi_b1, vi_b2, vi_b3, vi_b4, vi_b5, vi_pow, vi_rsh, e_b0, e_b1, e_b2, e_b3, e_b4, e_b5, e_b6, vi_li1, vi_li2, vi_li3, q1] <;> rfl) ?_
      refine w_step (by simp -implicitDefEqProofs (decide := true) only [S.sem, e_nop, e_lit, e_loc, e_glb, e_bin, e_cmp, e_cm2, e_cmK, e_bop, e_and, e_or, e_one, e_anK, e_orK, e_anM, e_orM, e_not, e_noK, e_tru, e_tb, e_ti, e_tl, e_tt, e_tn, e_neg, e_neK, e_ife, e_ifK, e_tup, e_lst, e_ix, e_slc, e_call, e_blt, e_isi, e_comp, e_l0, e_l1, e_ixl, e_ixt, e_at, e_ixn, e_ixm, e_tyb1, e_tyb2, e_tyi1, e_tyi2, e_isn1, e_isn2, e_isn3, e_isn4, e_isn5, e_isb, e_eqni, e_eqin, vi_lb, vi_lm, vi_lc, vi_lbs, vi_lms, vi_lcs, vi_g0, vi_g1, vi_g2, vi_g3, vi_g4, vi_g5, vi_g6, vi_ti, vi_tb, vi_ts, vi_tn, vi_td, vi_tags0, vi_tags1, vi_tagsI, vi_tagsS, vi_tagsB, vi_allsI, vi_allsS, vi_allsB, vi_ai, vi_ab, vi_as, vi_an, vi_ad, vi_alls0, vi_alls1, vi_cl,
    vi_add, vi_sub, vi_mulr, vi_mull, vi_div, vi_mod, vi_lt, vi_le, vi_gt, vi_ge, vi_eqi, vi_nei, vi_eqb, vi_neb, vi_eqs, vi_nes, vi_lenl, vi_lent, vi_abs, vi_min, vi_max, vi_dm, vi_nm, vi_tp, vi_no, vi_app, vi_upd0, vi_upe, vi_fz0, vi_fz1, vi_fz2, vi_fz3, vi_go0, vi_go1, vi_pl0, vi_t1, vi_t2, vi_t3, vi_t4, vi_t5, vi_t6, vi_frz, vi_fn, vi_cst,
    R.bind_ok, R.of_some, Option.map_some, Option.bind_some, List.getElem?_cons_zero, List.getElem?_cons_succ, List.set_cons_zero, List.set_cons_succ, List.length_cons, List.length_nil, List.length_map, List.all_cons, List.all_nil, Bool.and_true, Bool.true_and, Bool.or_true, Bool.true_or, Bool.or_false, Bool.false_or, Bool.and_self, if_true, ite_true, reduceIte, Nat.reduceAdd, Nat.reduceSub, Nat.reduceMul, Nat.reduceLT, Nat.reduceLeDiff, Nat.reduceEqDiff, Int.reduceLT, Int.reduceLE, Int.reduceAdd, Int.reduceSub, Int.reduceMul, Int.reduceNeg, Int.reducePow, Int.reduceToNat, Int.natAbs_natCast, Nat.lt_add_one, decide_true, decide_false, Nat.zero_lt_succ, List.map_cons, List.map_nil, vi_y1, vi_y2, vi_y3, vi_y4, vi_y5, vi_seen, vi_cd, vi_old, vi_o1, vi_o2, vi_b1, vi_b2, vi_b3, vi_b4, vi_b5, vi_pow, vi_rsh, e_b0, e_b1, e_b2, e_b3, e_b4, e_b5, e_b6, vi_li1, vi_li2, vi_li3] <;> rfl) ?_
      refine w_ifr (k := false) (by simp -implicitDefEqProofs (decide := true) only [S.sem, e_nop, e_lit, e_loc, e_glb, e_bin, e_cmp, e_cm2, e_cmK, e_bop, e_and, e_or, e_one, e_anK, e_orK, e_anM, e_orM, e_not, e_noK, e_tru, e_tb, e_ti, e_tl, e_tt, e_tn, e_neg, e_neK, e_ife, e_ifK, e_tup, e_lst, e_ix, e_slc, e_call, e_blt, e_isi, e_comp, e_l0, e_l1, e_ixl, e_ixt, e_at, e_ixn, e_ixm, e_tyb1, e_tyb2, e_tyi1, e_tyi2, e_isn1, e_isn2, e_isn3, e_isn4, e_isn5, e_isb, e_eqni, e_eqin, vi_lb, vi_lm, vi_lc, vi_lbs, vi_lms, vi_lcs, vi_g0, vi_g1, vi_g2, vi_g3, vi_g4, vi_g5, vi_g6, vi_ti, vi_tb, vi_ts, vi_tn, vi_td, vi_tags0, vi_tags1, vi_tagsI, vi_tagsS, vi_tagsB, vi_allsI, vi_allsS, vi_allsB, vi_ai, vi_ab, vi_as, vi_an, vi_ad, vi_alls0, vi_alls1, vi_cl,
    vi_add, vi_sub, vi_mulr, vi_mull, vi_div, vi_mod, vi_lt, vi_le, vi_gt, vi_ge, vi_eqi, vi_nei, vi_eqb, vi_neb, vi_eqs, vi_nes, vi_lenl, vi_lent, vi_abs, vi_min, vi_max, vi_dm, vi_nm, vi_tp, vi_no, vi_app, vi_upd0, vi_upe, vi_fz0, vi_fz1, vi_fz2, vi_fz3, vi_go0, vi_go1, vi_pl0, vi_t1, vi_t2, vi_t3, vi_t4, vi_t5, vi_t6, vi_frz, vi_fn, vi_cst,
    R.bind_ok, R.of_some, Option.map_some, Option.bind_some, List.getElem?_cons_zero, List.getElem?_cons_succ, List.set_cons_zero, List.set_cons_succ, List.length_cons, List.length_nil, List.length_map, List.all_cons, List.all_nil, Bool.and_true, Bool.true_and, Bool.or_true, Bool.true_or, Bool.or_false, Bool.false_or, Bool.and_self, if_true, ite_true, reduceIte, Nat.reduceAdd, Nat.reduceSub, Nat.reduceMul, Nat.reduceLT, Nat.reduceLeDiff, Nat.reduceEqDiff, Int.reduceLT, Int.reduceLE, Int.reduceAdd, Int.reduceSub, Int.reduceMul, Int.reduceNeg, Int.reducePow, Int.reduceToNat, Int.natAbs_natCast, Nat.lt_add_one, decide_true, decide_false, Nat.zero_lt_succ, List.map_cons, List.map_nil, vi_y1, vi_y2, vi_y3, vi_y4, vi_y5, vi_seen, vi_cd, vi_old, vi_o1, vi_o2, vi_b1, vi_b2, vi_b3, vi_b4, vi_b5, vi_pow, vi_rsh, e_b0, e_b1, e_b2, e_b3, e_b4, e_b5, e_b6, vi_li1, vi_li2, vi_li3, q2] <;> rfl) (fun q => by cases q) (fun _ => ?_)
      exact w_nil ⟨_, _, rfl⟩
    rintro e ⟨d5, d6, rfl⟩
    have rest : ∀ dk : Int, Wn { nx := fun _ => D.non = .bl true, rt := fun r => r = .bl true } (semSs (lw.pg.G (n + 2)) (d_law_right.body.drop 13) [.int number, .nd .new .lst (xs.map D.int), .nd .new .lst (xs.map D.int), .bl (tab xs), .nd .new .lst [.int x0, .int x1, .int x2, .int x3, .int x4, .int x5], d5, .int dk, .und, .und]) := fun dk => by
      show Wn _ (semSs _ (List.drop 13 d_law_right.body) _)
      unfold d_law_right
      obtain ⟨er, he, _⟩ : ∃ v, atI [D.int 0, D.int 1, D.int 2, D.int (x4 % 50), D.int (x4 % 1000001)] (x5 % 5) = some (D.int v) ∧ True := at_of (xs := [0, 1, 2, x4 % 50, x4 % 1000001]) (by omega) (by show x5 % 5 < 5; omega) (fun _ => True) fun _ _ => trivial
      obtain ⟨gr, hg, hg1⟩ : ∃ v, atI [D.int 0, D.int 300, D.int (x0 % 301), D.int ((xs.length : Int) - 1)] (x2 / 2 % 4) = some (D.int v) ∧ (0 ≤ v ∧ v ≤ 300) := at_of (xs := [0, 300, x0 % 301, (xs.length : Int) - 1]) (by omega) (by show x2 / 2 % 4 < 4; omega) (fun v => 0 ≤ v ∧ v ≤ 300) fun v hv => by
        simp only [List.mem_cons, List.not_mem_nil, or_false] at hv
        rcases hv with rfl | rfl | rfl | rfl <;> omega
      obtain ⟨g, rfl, hg2⟩ : ∃ g : Nat, gr = (g : Int) - 1 ∧ g ≤ 301 := ⟨(gr + 1).toNat, by omega, by omega⟩
      have q1 := f_ages n .any xs dk er g (by omega) hL1
      have q2 := f_lages (n + 1) .any xs dk er g (by omega) hL1
      have q3 := f_told (n + 1) (ages xs dk er g)
      refine w_step (by simp -implicitDefEqProofs (decide := true) only [S.sem, e_nop, e_lit, e_loc, e_glb, e_bin, e_cmp, e_cm2, e_cmK, e_bop, e_and, e_or, e_one, e_anK, e_orK, e_anM, e_orM, e_not, e_noK, e_tru, e_tb, e_ti, e_tl, e_tt, e_tn, e_neg, e_neK, e_ife, e_ifK, e_tup, e_lst, e_ix, e_slc, e_call, e_blt, e_isi, e_comp, e_l0, e_l1, e_ixl, e_ixt, e_at, e_ixn, e_ixm, e_tyb1, e_tyb2, e_tyi1, e_tyi2, e_isn1, e_isn2, e_isn3, e_isn4, e_isn5, e_isb, e_eqni, e_eqin, vi_lb, vi_lm, vi_lc, vi_lbs, vi_lms, vi_lcs, vi_g0, vi_g1, vi_g2, vi_g3, vi_g4, vi_g5, vi_g6, vi_ti, vi_tb, vi_ts, vi_tn, vi_td, vi_tags0, vi_tags1, vi_tagsI, vi_tagsS, vi_tagsB, vi_allsI, vi_allsS, vi_allsB, vi_ai, vi_ab, vi_as, vi_an, vi_ad, vi_alls0, vi_alls1, vi_cl,
    vi_add, vi_sub, vi_mulr, vi_mull, vi_div, vi_mod, vi_lt, vi_le, vi_gt, vi_ge, vi_eqi, vi_nei, vi_eqb, vi_neb, vi_eqs, vi_nes, vi_lenl, vi_lent, vi_abs, vi_min, vi_max, vi_dm, vi_nm, vi_tp, vi_no, vi_app, vi_upd0, vi_upe, vi_fz0, vi_fz1, vi_fz2, vi_fz3, vi_go0, vi_go1, vi_pl0, vi_t1, vi_t2, vi_t3, vi_t4, vi_t5, vi_t6, vi_frz, vi_fn, vi_cst,
    R.bind_ok, R.of_some, Option.map_some, Option.bind_some, List.getElem?_cons_zero, List.getElem?_cons_succ, List.set_cons_zero, List.set_cons_succ, List.length_cons, List.length_nil, List.length_map, List.all_cons, List.all_nil, Bool.and_true, Bool.true_and, Bool.or_true, Bool.true_or, Bool.or_false, Bool.false_or, Bool.and_self, if_true, ite_true, reduceIte, Nat.reduceAdd, Nat.reduceSub, Nat.reduceMul, Nat.reduceLT, Nat.reduceLeDiff, Nat.reduceEqDiff, Int.reduceLT, Int.reduceLE, Int.reduceAdd, Int.reduceSub, Int.reduceMul, Int.reduceNeg, Int.reducePow, Int.reduceToNat, Int.natAbs_natCast, Nat.lt_add_one, decide_true, decide_false, Nat.zero_lt_succ, List.map_cons, List.map_nil, vi_y1, vi_y2, vi_y3, vi_y4, vi_y5, vi_seen, vi_cd, vi_old, vi_o1, vi_o2, vi_b1, vi_b2, vi_b3, vi_b4, vi_b5, vi_pow, vi_rsh, e_b0, e_b1, e_b2, e_b3, e_b4, e_b5, e_b6, vi_li1, vi_li2, vi_li3, ↓he] <;> rfl) ?_
      refine w_step (by simp -implicitDefEqProofs (decide := true) only [S.sem, e_nop, e_lit, e_loc, e_glb, e_bin, e_cmp, e_cm2, e_cmK, e_bop, e_and, e_or, e_one, e_anK, e_orK, e_anM, e_orM, e_not, e_noK, e_tru, e_tb, e_ti, e_tl, e_tt, e_tn, e_neg, e_neK, e_ife, e_ifK, e_tup, e_lst, e_ix, e_slc, e_call, e_blt, e_isi, e_comp, e_l0, e_l1, e_ixl, e_ixt, e_at, e_ixn, e_ixm, e_tyb1, e_tyb2, e_tyi1, e_tyi2, e_isn1, e_isn2, e_isn3, e_isn4, e_isn5, e_isb, e_eqni, e_eqin, vi_lb, vi_lm, vi_lc, vi_lbs, vi_lms, vi_lcs, vi_g0, vi_g1, vi_g2, vi_g3, vi_g4, vi_g5, vi_g6, vi_ti, vi_tb, vi_ts, vi_tn, vi_td, vi_tags0, vi_tags1, vi_tagsI, vi_tagsS, vi_tagsB, vi_allsI, vi_allsS, vi_allsB, vi_ai, vi_ab, vi_as, vi_an, vi_ad, vi_alls0, vi_alls1, vi_cl,
    vi_add, vi_sub, vi_mulr, vi_mull, vi_div, vi_mod, vi_lt, vi_le, vi_gt, vi_ge, vi_eqi, vi_nei, vi_eqb, vi_neb, vi_eqs, vi_nes, vi_lenl, vi_lent, vi_abs, vi_min, vi_max, vi_dm, vi_nm, vi_tp, vi_no, vi_app, vi_upd0, vi_upe, vi_fz0, vi_fz1, vi_fz2, vi_fz3, vi_go0, vi_go1, vi_pl0, vi_t1, vi_t2, vi_t3, vi_t4, vi_t5, vi_t6, vi_frz, vi_fn, vi_cst,
    R.bind_ok, R.of_some, Option.map_some, Option.bind_some, List.getElem?_cons_zero, List.getElem?_cons_succ, List.set_cons_zero, List.set_cons_succ, List.length_cons, List.length_nil, List.length_map, List.all_cons, List.all_nil, Bool.and_true, Bool.true_and, Bool.or_true, Bool.true_or, Bool.or_false, Bool.false_or, Bool.and_self, if_true, ite_true, reduceIte, Nat.reduceAdd, Nat.reduceSub, Nat.reduceMul, Nat.reduceLT, Nat.reduceLeDiff, Nat.reduceEqDiff, Int.reduceLT, Int.reduceLE, Int.reduceAdd, Int.reduceSub, Int.reduceMul, Int.reduceNeg, Int.reducePow, Int.reduceToNat, Int.natAbs_natCast, Nat.lt_add_one, decide_true, decide_false, Nat.zero_lt_succ, List.map_cons, List.map_nil, vi_y1, vi_y2, vi_y3, vi_y4, vi_y5, vi_seen, vi_cd, vi_old, vi_o1, vi_o2, vi_b1, vi_b2, vi_b3, vi_b4, vi_b5, vi_pow, vi_rsh, e_b0, e_b1, e_b2, e_b3, e_b4, e_b5, e_b6, vi_li1, vi_li2, vi_li3] <;> rfl) ?_
      refine w_step (by simp -implicitDefEqProofs (decide := true) only [S.sem, e_nop, e_lit, e_loc, e_glb, e_bin, e_cmp, e_cm2, e_cmK, e_bop, e_and, e_or, e_one, e_anK, e_orK, e_anM, e_orM, e_not, e_noK, e_tru, e_tb, e_ti, e_tl, e_tt, e_tn, e_neg, e_neK, e_ife, e_ifK, e_tup, e_lst, e_ix, e_slc, e_call, e_blt, e_isi, e_comp, e_l0, e_l1, e_ixl, e_ixt, e_at, e_ixn, e_ixm, e_tyb1, e_tyb2, e_tyi1, e_tyi2, e_isn1, e_isn2, e_isn3, e_isn4, e_isn5, e_isb, e_eqni, e_eqin, vi_lb, vi_lm, vi_lc, vi_lbs, vi_lms, vi_lcs, vi_g0, vi_g1, vi_g2, vi_g3, vi_g4, vi_g5, vi_g6, vi_ti, vi_tb, vi_ts, vi_tn, vi_td, vi_tags0, vi_tags1, vi_tagsI, vi_tagsS, vi_tagsB, vi_allsI, vi_allsS, vi_allsB, vi_ai, vi_ab, vi_as, vi_an, vi_ad, vi_alls0, vi_alls1, vi_cl,
    vi_add, vi_sub, vi_mulr, vi_mull, vi_div, vi_mod, vi_lt, vi_le, vi_gt, vi_ge, vi_eqi, vi_nei, vi_eqb, vi_neb, vi_eqs, vi_nes, vi_lenl, vi_lent, vi_abs, vi_min, vi_max, vi_dm, vi_nm, vi_tp, vi_no, vi_app, vi_upd0, vi_upe, vi_fz0, vi_fz1, vi_fz2, vi_fz3, vi_go0, vi_go1, vi_pl0, vi_t1, vi_t2, vi_t3, vi_t4, vi_t5, vi_t6, vi_frz, vi_fn, vi_cst,
    R.bind_ok, R.of_some, Option.map_some, Option.bind_some, List.getElem?_cons_zero, List.getElem?_cons_succ, List.set_cons_zero, List.set_cons_succ, List.length_cons, List.length_nil, List.length_map, List.all_cons, List.all_nil, Bool.and_true, Bool.true_and, Bool.or_true, Bool.true_or, Bool.or_false, Bool.false_or, Bool.and_self, if_true, ite_true, reduceIte, Nat.reduceAdd, Nat.reduceSub, Nat.reduceMul, Nat.reduceLT, Nat.reduceLeDiff, Nat.reduceEqDiff, Int.reduceLT, Int.reduceLE, Int.reduceAdd, Int.reduceSub, Int.reduceMul, Int.reduceNeg, Int.reducePow, Int.reduceToNat, Int.natAbs_natCast, Nat.lt_add_one, decide_true, decide_false, Nat.zero_lt_succ, List.map_cons, List.map_nil, vi_y1, vi_y2, vi_y3, vi_y4, vi_y5, vi_seen, vi_cd, vi_old, vi_o1, vi_o2, vi_b1, vi_b2, vi_b3, vi_b4, vi_b5, vi_pow, vi_rsh, e_b0, e_b1, e_b2, e_b3, e_b4, e_b5, e_b6, vi_li1, vi_li2, vi_li3, ↓hg] <;> rfl) ?_
      refine w_step (by simp -implicitDefEqProofs (decide := true) only [S.sem, e_nop, e_lit, e_loc, e_glb, e_bin, e_cmp, e_cm2, e_cmK, e_bop, e_and, e_or, e_one, e_anK, e_orK, e_anM, e_orM, e_not, e_noK, e_tru, e_tb, e_ti, e_tl, e_tt, e_tn, e_neg, e_neK, e_ife, e_ifK, e_tup, e_lst, e_ix, e_slc, e_call, e_blt, e_isi, e_comp, e_l0, e_l1, e_ixl, e_ixt, e_at, e_ixn, e_ixm, e_tyb1, e_tyb2, e_tyi1, e_tyi2, e_isn1, e_isn2, e_isn3, e_isn4, e_isn5, e_isb, e_eqni, e_eqin, vi_lb, vi_lm, vi_lc, vi_lbs, vi_lms, vi_lcs, vi_g0, vi_g1, vi_g2, vi_g3, vi_g4, vi_g5, vi_g6, vi_ti, vi_tb, vi_ts, vi_tn, vi_td, vi_tags0, vi_tags1, vi_tagsI, vi_tagsS, vi_tagsB, vi_allsI, vi_allsS, vi_allsB, vi_ai, vi_ab, vi_as, vi_an, vi_ad, vi_alls0, vi_alls1, vi_cl,
    vi_add, vi_sub, vi_mulr, vi_mull, vi_div, vi_mod, vi_lt, vi_le, vi_gt, vi_ge, vi_eqi, vi_nei, vi_eqb, vi_neb, vi_eqs, vi_nes, vi_lenl, vi_lent, vi_abs, vi_min, vi_max, vi_dm, vi_nm, vi_tp, vi_no, vi_app, vi_upd0, vi_upe, vi_fz0, vi_fz1, vi_fz2, vi_fz3, vi_go0, vi_go1, vi_pl0, vi_t1, vi_t2, vi_t3, vi_t4, vi_t5, vi_t6, vi_frz, vi_fn, vi_cst,
    R.bind_ok, R.of_some, Option.map_some, Option.bind_some, List.getElem?_cons_zero, List.getElem?_cons_succ, List.set_cons_zero, List.set_cons_succ, List.length_cons, List.length_nil, List.length_map, List.all_cons, List.all_nil, Bool.and_true, Bool.true_and, Bool.or_true, Bool.true_or, Bool.or_false, Bool.false_or, Bool.and_self, if_true, ite_true, reduceIte, Nat.reduceAdd, Nat.reduceSub, Nat.reduceMul, Nat.reduceLT, Nat.reduceLeDiff, Nat.reduceEqDiff, Int.reduceLT, Int.reduceLE, Int.reduceAdd, Int.reduceSub, Int.reduceMul, Int.reduceNeg, Int.reducePow, Int.reduceToNat, Int.natAbs_natCast, Nat.lt_add_one, decide_true, decide_false, Nat.zero_lt_succ, List.map_cons, List.map_nil, vi_y1, vi_y2, vi_y3, vi_y4, vi_y5, vi_seen, vi_cd, vi_old, vi_o1, vi_o2, vi_b1, vi_b2, vi_b3, vi_b4, vi_b5, vi_pow, vi_rsh, e_b0, e_b1, e_b2, e_b3, e_b4, e_b5, e_b6, vi_li1, vi_li2, vi_li3] <;> rfl) ?_
      refine w_ifr (k := false) (by simp -implicitDefEqProofs (decide := true) only [S.sem, e_nop, e_lit, e_loc, e_glb, e_bin, e_cmp, e_cm2, e_cmK, e_bop, e_and, e_or, e_one, e_anK, e_orK, e_anM, e_orM, e_not, e_noK, e_tru, e_tb, e_ti, e_tl, e_tt, e_tn, e_neg, e_neK, e_ife, e_ifK, e_tup, e_lst, e_ix, e_slc, e_call, e_blt, e_isi, e_comp, e_l0, e_l1, e_ixl, e_ixt, e_at, e_ixn, e_ixm, e_tyb1, e_tyb2, e_tyi1, e_tyi2, e_isn1, e_isn2, e_isn3, e_isn4, e_isn5, e_isb, e_eqni, e_eqin, vi_lb, vi_lm, vi_lc, vi_lbs, vi_lms, vi_lcs, vi_g0, vi_g1, vi_g2, vi_g3, vi_g4, vi_g5, vi_g6, vi_ti, vi_tb, vi_ts, vi_tn, vi_td, vi_tags0, vi_tags1, vi_tagsI, vi_tagsS, vi_tagsB, vi_allsI, vi_allsS, vi_allsB, vi_ai, vi_ab, vi_as, vi_an, vi_ad, vi_alls0, vi_alls1, vi_cl,
    vi_add, vi_sub, vi_mulr, vi_mull, vi_div, vi_mod, vi_lt, vi_le, vi_gt, vi_ge, vi_eqi, vi_nei, vi_eqb, vi_neb, vi_eqs, vi_nes, vi_lenl, vi_lent, vi_abs, vi_min, vi_max, vi_dm, vi_nm, vi_tp, vi_no, vi_app, vi_upd0, vi_upe, vi_fz0, vi_fz1, vi_fz2, vi_fz3, vi_go0, vi_go1, vi_pl0, vi_t1, vi_t2, vi_t3, vi_t4, vi_t5, vi_t6, vi_frz, vi_fn, vi_cst,
    R.bind_ok, R.of_some, Option.map_some, Option.bind_some, List.getElem?_cons_zero, List.getElem?_cons_succ, List.set_cons_zero, List.set_cons_succ, List.length_cons, List.length_nil, List.length_map, List.all_cons, List.all_nil, Bool.and_true, Bool.true_and, Bool.or_true, Bool.true_or, Bool.or_false, Bool.false_or, Bool.and_self, if_true, ite_true, reduceIte, Nat.reduceAdd, Nat.reduceSub, Nat.reduceMul, Nat.reduceLT, Nat.reduceLeDiff, Nat.reduceEqDiff, Int.reduceLT, Int.reduceLE, Int.reduceAdd, Int.reduceSub, Int.reduceMul, Int.reduceNeg, Int.reducePow, Int.reduceToNat, Int.natAbs_natCast, Nat.lt_add_one, decide_true, decide_false, Nat.zero_lt_succ, List.map_cons, List.map_nil, vi_y1, vi_y2, vi_y3, vi_y4, vi_y5, vi_seen, vi_cd, vi_old, vi_o1, vi_o2, vi_b1, vi_b2, vi_b3, vi_b4, vi_b5, vi_pow, vi_rsh, e_b0, e_b1, e_b2, e_b3, e_b4, e_b5, e_b6, vi_li1, vi_li2, vi_li3, q1, q2, q3, told_tag, told_old] <;> rfl) (fun q => by cases q) (fun _ => ?_)
      exact w_ret (by simp -implicitDefEqProofs (decide := true) only [S.sem, e_nop, e_lit, e_loc, e_glb, e_bin, e_cmp, e_cm2, e_cmK, e_bop, e_and, e_or, e_one, e_anK, e_orK, e_anM, e_orM, e_not, e_noK, e_tru, e_tb, e_ti, e_tl, e_tt, e_tn, e_neg, e_neK, e_ife, e_ifK, e_tup, e_lst, e_ix, e_slc, e_call, e_blt, e_isi, e_comp, e_l0, e_l1, e_ixl, e_ixt, e_at, e_ixn, e_ixm, e_tyb1, e_tyb2, e_tyi1, e_tyi2, e_isn1, e_isn2, e_isn3, e_isn4, e_isn5, e_isb, e_eqni, e_eqin, vi_lb, vi_lm, vi_lc, vi_lbs, vi_lms, vi_lcs, vi_g0, vi_g1, vi_g2, vi_g3, vi_g4, vi_g5, vi_g6, vi_ti, vi_tb, vi_ts, vi_tn, vi_td, vi_tags0, vi_tags1, vi_tagsI, vi_tagsS, vi_tagsB, vi_allsI, vi_allsS, vi_allsB, vi_ai, vi_ab, vi_as, vi_an, vi_ad, vi_alls0, vi_alls1, vi_cl,
    vi_add, vi_sub, vi_mulr, vi_mull, vi_div, vi_mod, vi_lt, vi_le, vi_gt, vi_ge, vi_eqi, vi_nei, vi_eqb, vi_neb, vi_eqs, vi_nes, vi_lenl, vi_lent, vi_abs, vi_min, vi_max, vi_dm, vi_nm, vi_tp, vi_no, vi_app, vi_upd0, vi_upe, vi_fz0, vi_fz1, vi_fz2, vi_fz3, vi_go0, vi_go1, vi_pl0, vi_t1, vi_t2, vi_t3, vi_t4, vi_t5, vi_t6, vi_frz, vi_fn, vi_cst,
    R.bind_ok, R.of_some, Option.map_some, Option.bind_some, List.getElem?_cons_zero, List.getElem?_cons_succ, List.set_cons_zero, List.set_cons_succ, List.length_cons, List.length_nil, List.length_map, List.all_cons, List.all_nil, Bool.and_true, Bool.true_and, Bool.or_true, Bool.true_or, Bool.or_false, Bool.false_or, Bool.and_self, if_true, ite_true, reduceIte, Nat.reduceAdd, Nat.reduceSub, Nat.reduceMul, Nat.reduceLT, Nat.reduceLeDiff, Nat.reduceEqDiff, Int.reduceLT, Int.reduceLE, Int.reduceAdd, Int.reduceSub, Int.reduceMul, Int.reduceNeg, Int.reducePow, Int.reduceToNat, Int.natAbs_natCast, Nat.lt_add_one, decide_true, decide_false, Nat.zero_lt_succ, List.map_cons, List.map_nil, vi_y1, vi_y2, vi_y3, vi_y4, vi_y5, vi_seen, vi_cd, vi_old, vi_o1, vi_o2, vi_b1, vi_b2, vi_b3, vi_b4, vi_b5, vi_pow, vi_rsh, e_b0, e_b1, e_b2, e_b3, e_b4, e_b5, e_b6, vi_li1, vi_li2, vi_li3, cmp_ints] <;> rfl) rfl
    refine w_step (by simp -implicitDefEqProofs (decide := true) only [S.sem, e_nop, e_lit, e_loc, e_glb, e_bin, e_cmp, e_cm2, e_cmK, e_bop, e_and, e_or, e_one, e_anK, e_orK, e_anM, e_orM, e_not, e_noK, e_tru, e_tb, e_ti, e_tl, e_tt, e_tn, e_neg, e_neK, e_ife, e_ifK, e_tup, e_lst, e_ix, e_slc, e_call, e_blt, e_isi, e_comp, e_l0, e_l1, e_ixl, e_ixt, e_at, e_ixn, e_ixm, e_tyb1, e_tyb2, e_tyi1, e_tyi2, e_isn1, e_isn2, e_isn3, e_isn4, e_isn5, e_isb, e_eqni, e_eqin, vi_lb, vi_lm, vi_lc, vi_lbs, vi_lms, vi_lcs, vi_g0, vi_g1, vi_g2, vi_g3, vi_g4, vi_g5, vi_g6, vi_ti, vi_tb, vi_ts, vi_tn, vi_td, vi_tags0, vi_tags1, vi_tagsI, vi_tagsS, vi_tagsB, vi_allsI, vi_allsS, vi_allsB, vi_ai, vi_ab, vi_as, vi_an, vi_ad, vi_alls0, vi_alls1, vi_cl,
    vi_add, vi_sub, vi_mulr, vi_mull, vi_div, vi_mod, vi_lt, vi_le, vi_gt, vi_ge, vi_eqi, vi_nei, vi_eqb, vi_neb, vi_eqs, vi_nes, vi_lenl, vi_lent, vi_abs, vi_min, vi_max, vi_dm, vi_nm, vi_tp, vi_no, vi_app, vi_upd0, vi_upe, vi_fz0, vi_fz1, vi_fz2, vi_fz3, vi_go0, vi_go1, vi_pl0, vi_t1, vi_t2, vi_t3, vi_t4, vi_t5, vi_t6, vi_frz, vi_fn, vi_cst,
    R.bind_ok, R.of_some, Option.map_some, Option.bind_some, List.getElem?_cons_zero, List.getElem?_cons_succ, List.set_cons_zero, List.set_cons_succ, List.length_cons, List.length_nil, List.length_map, List.all_cons, List.all_nil, Bool.and_true, Bool.true_and, Bool.or_true, Bool.true_or, Bool.or_false, Bool.false_or, Bool.and_self, if_true, ite_true, reduceIte, Nat.reduceAdd, Nat.reduceSub, Nat.reduceMul, Nat.reduceLT, Nat.reduceLeDiff, Nat.reduceEqDiff, Int.reduceLT, Int.reduceLE, Int.reduceAdd, Int.reduceSub, Int.reduceMul, Int.reduceNeg, Int.reducePow, Int.reduceToNat, Int.natAbs_natCast, Nat.lt_add_one, decide_true, decide_false, Nat.zero_lt_succ, List.map_cons, List.map_nil, vi_y1, vi_y2, vi_y3, vi_y4, vi_y5, vi_seen, vi_cd, vi_old, vi_o1, vi_o2, vi_b1, vi_b2, vi_b3, vi_b4, vi_b5, vi_pow, vi_rsh, e_b0, e_b1, e_b2, e_b3, e_b4, e_b5, e_b6, vi_li1, vi_li2, vi_li3] <;> rfl) ?_
    have hpos : (0 : Int) < (xs.length : Int) := by omega
    have p0 := Int.emod_nonneg x3 (b := (xs.length : Int)) (by omega)
    have p1 := Int.emod_lt_of_pos x3 hpos
    obtain ⟨v, hv⟩ := at_any (xs := xs) (j := x3 % (xs.length : Int)) (by omega) p1
    refine w_ifr (k := decide (x2 % 2 = 0)) (by simp -implicitDefEqProofs (decide := true) only [S.sem, e_nop, e_lit, e_loc, e_glb, e_bin, e_cmp, e_cm2, e_cmK, e_bop, e_and, e_or, e_one, e_anK, e_orK, e_anM, e_orM, e_not, e_noK, e_tru, e_tb, e_ti, e_tl, e_tt, e_tn, e_neg, e_neK, e_ife, e_ifK, e_tup, e_lst, e_ix, e_slc, e_call, e_blt, e_isi, e_comp, e_l0, e_l1, e_ixl, e_ixt, e_at, e_ixn, e_ixm, e_tyb1, e_tyb2, e_tyi1, e_tyi2, e_isn1, e_isn2, e_isn3, e_isn4, e_isn5, e_isb, e_eqni, e_eqin, vi_lb, vi_lm, vi_lc, vi_lbs, vi_lms, vi_lcs, vi_g0, vi_g1, vi_g2, vi_g3, vi_g4, vi_g5, vi_g6, vi_ti, vi_tb, vi_ts, vi_tn, vi_td, vi_tags0, vi_tags1, vi_tagsI, vi_tagsS, vi_tagsB, vi_allsI, vi_allsS, vi_allsB, vi_ai, vi_ab, vi_as, vi_an, vi_ad, vi_alls0, vi_alls1, vi_cl,
    vi_add, vi_sub, vi_mulr, vi_mull, vi_div, vi_mod, vi_lt, vi_le, vi_gt, vi_ge, vi_eqi, vi_nei, vi_eqb, vi_neb, vi_eqs, vi_nes, vi_lenl, vi_lent, vi_abs, vi_min, vi_max, vi_dm, vi_nm, vi_tp, vi_no, vi_app, vi_upd0, vi_upe, vi_fz0, vi_fz1, vi_fz2, vi_fz3, vi_go0, vi_go1, vi_pl0, vi_t1, vi_t2, vi_t3, vi_t4, vi_t5, vi_t6, vi_frz, vi_fn, vi_cst,
    R.bind_ok, R.of_some, Option.map_some, Option.bind_some, List.getElem?_cons_zero, List.getElem?_cons_succ, List.set_cons_zero, List.set_cons_succ, List.length_cons, List.length_nil, List.length_map, List.all_cons, List.all_nil, Bool.and_true, Bool.true_and, Bool.or_true, Bool.true_or, Bool.or_false, Bool.false_or, Bool.and_self, if_true, ite_true, reduceIte, Nat.reduceAdd, Nat.reduceSub, Nat.reduceMul, Nat.reduceLT, Nat.reduceLeDiff, Nat.reduceEqDiff, Int.reduceLT, Int.reduceLE, Int.reduceAdd, Int.reduceSub, Int.reduceMul, Int.reduceNeg, Int.reducePow, Int.reduceToNat, Int.natAbs_natCast, Nat.lt_add_one, decide_true, decide_false, Nat.zero_lt_succ, List.map_cons, List.map_nil, vi_y1, vi_y2, vi_y3, vi_y4, vi_y5, vi_seen, vi_cd, vi_old, vi_o1, vi_o2, vi_b1, vi_b2, vi_b3, vi_b4, vi_b5, vi_pow, vi_rsh, e_b0, e_b1, e_b2, e_b3, e_b4, e_b5, e_b6, vi_li1, vi_li2, vi_li3] <;> rfl) (fun hk => ?_) (fun hk => ?_)
    · refine w_step (by simp -implicitDefEqProofs (decide := true) only [S.sem, e_nop, e_lit, e_loc, e_glb, e_bin, e_cmp, e_cm2, e_cmK, e_bop, e_and, e_or, e_one, e_anK, e_orK, e_anM, e_orM, e_not, e_noK, e_tru, e_tb, e_ti, e_tl, e_tt, e_tn, e_neg, e_neK, e_ife, e_ifK, e_tup, e_lst, e_ix, e_slc, e_call, e_blt, e_isi, e_comp, e_l0, e_l1, e_ixl, e_ixt, e_at, e_ixn, e_ixm, e_tyb1, e_tyb2, e_tyi1, e_tyi2, e_isn1, e_isn2, e_isn3, e_isn4, e_isn5, e_isb, e_eqni, e_eqin, vi_lb, vi_lm, vi_lc, vi_lbs, vi_lms, vi_lcs, vi_g0, vi_g1, vi_g2, vi_g3, vi_g4, vi_g5, vi_g6, vi_ti, vi_tb, vi_ts, vi_tn, vi_td, vi_tags0, vi_tags1, vi_tagsI, vi_tagsS, vi_tagsB, vi_allsI, vi_allsS, vi_allsB, vi_ai, vi_ab, vi_as, vi_an, vi_ad, vi_alls0, vi_alls1, vi_cl,
    vi_add, vi_sub, vi_mulr, vi_mull, vi_div, vi_mod, vi_lt, vi_le, vi_gt, vi_ge, vi_eqi, vi_nei, vi_eqb, vi_neb, vi_eqs, vi_nes, vi_lenl, vi_lent, vi_abs, vi_min, vi_max, vi_dm, vi_nm, vi_tp, vi_no, vi_app, vi_upd0, vi_upe, vi_fz0, vi_fz1, vi_fz2, vi_fz3, vi_go0, vi_go1, vi_pl0, vi_t1, vi_t2, vi_t3, vi_t4, vi_t5, vi_t6, vi_frz, vi_fn, vi_cst,
    R.bind_ok, R.of_some, Option.map_some, Option.bind_some, List.getElem?_cons_zero, List.getElem?_cons_succ, List.set_cons_zero, List.set_cons_succ, List.length_cons, List.length_nil, List.length_map, List.all_cons, List.all_nil, Bool.and_true, Bool.true_and, Bool.or_true, Bool.true_or, Bool.or_false, Bool.false_or, Bool.and_self, if_true, ite_true, reduceIte, Nat.reduceAdd, Nat.reduceSub, Nat.reduceMul, Nat.reduceLT, Nat.reduceLeDiff, Nat.reduceEqDiff, Int.reduceLT, Int.reduceLE, Int.reduceAdd, Int.reduceSub, Int.reduceMul, Int.reduceNeg, Int.reducePow, Int.reduceToNat, Int.natAbs_natCast, Nat.lt_add_one, decide_true, decide_false, Nat.zero_lt_succ, List.map_cons, List.map_nil, vi_y1, vi_y2, vi_y3, vi_y4, vi_y5, vi_seen, vi_cd, vi_old, vi_o1, vi_o2, vi_b1, vi_b2, vi_b3, vi_b4, vi_b5, vi_pow, vi_rsh, e_b0, e_b1, e_b2, e_b3, e_b4, e_b5, e_b6, vi_li1, vi_li2, vi_li3, ↓hv, vi_mod hpos] <;> rfl) ?_
      exact w_nil (rest _)
    · exact rest _)
  exact h1
theorem cut10 (t : Tag) (ys : List Int) : slcV (.nd t .lst (ys.map D.int)) none (some 10) = some (.nd .own .lst ((ys.take 10).map D.int)) := by
  have : cutD (ys.map D.int) none (some 10) = (ys.take 10).map D.int := by
    unfold cutD
    have e1 : HT.sIx (ys.map D.int).length 0 none = 0 := rfl
    have e2 : HT.sIx (ys.map D.int).length (ys.map D.int).length (some 10) = min 10 ys.length := by
      rw [List.length_map]
      unfold HT.sIx
      simp
      try omega
    rw [e1, e2, List.drop_zero, Nat.sub_zero, ← List.take_take, show (ys.map D.int).take ys.length = ys.map D.int from List.take_of_length_le (by rw [List.length_map]; exact Nat.le_refl _), List.map_take]
  show some (D.nd .own .lst (cutD (ys.map D.int) none (some 10))) = _
  rw [this]
theorem all (ns : List Int) (hl : ns.length ≤ 63) (hb : ∀ z ∈ ns, PySem.Builtin.Int.intBits z ≤ 1048576) : lw.pg.fn (depth + 1) "law" [scr ns] = .ok (.bl true) := by
  rw [Pg.fn_s (d := d_law) rfl]
  obtain ⟨ys, hy1, hy2⟩ := script_ok (p := lw.pg) (n := depth - 1) (fun c k => ⟨lw.pg.G (depth - 2), by show lw.pg.fn ((depth - 2) + 1) _ _ = _; rw [Pg.fn_s (d := c_law_stirred) rfl]⟩) .sta ns hl hb
  have hy3 : lw.pg.fn depth "_law_stirred_script" [.nd .sta .lst (ns.map D.int)] = .ok (.nd .own .lst (ys.map D.int)) := by
    show lw.pg.fn ((depth - 1) + 1) _ _ = _
    rw [Pg.fn_s (d := c_law_stirred_script) rfl, hy2]
  obtain ⟨r, h1, rfl⟩ := call_rt (d := d_law) (G := lw.pg.G depth) (args := [scr ns]) (Q := fun r => r = .bl true) rfl (by
    show Wn _ (semSs _ d_law.body [.nd .sta .lst (ns.map D.int), .und])
    unfold d_law
    refine w_step (by simp -implicitDefEqProofs (decide := true) only [S.sem, e_nop, e_lit, e_loc, e_glb, e_bin, e_cmp, e_cm2, e_cmK, e_bop, e_and, e_or, e_one, e_anK, e_orK, e_anM, e_orM, e_not, e_noK, e_tru, e_tb, e_ti, e_tl, e_tt, e_tn, e_neg, e_neK, e_ife, e_ifK, e_tup, e_lst, e_ix, e_slc, e_call, e_blt, e_isi, e_comp, e_l0, e_l1, e_ixl, e_ixt, e_at, e_ixn, e_ixm, e_tyb1, e_tyb2, e_tyi1, e_tyi2, e_isn1, e_isn2, e_isn3, e_isn4, e_isn5, e_isb, e_eqni, e_eqin, vi_lb, vi_lm, vi_lc, vi_lbs, vi_lms, vi_lcs, vi_g0, vi_g1, vi_g2, vi_g3, vi_g4, vi_g5, vi_g6, vi_ti, vi_tb, vi_ts, vi_tn, vi_td, vi_tags0, vi_tags1, vi_tagsI, vi_tagsS, vi_tagsB, vi_allsI, vi_allsS, vi_allsB, vi_ai, vi_ab, vi_as, vi_an, vi_ad, vi_alls0, vi_alls1, vi_cl,
    vi_add, vi_sub, vi_mulr, vi_mull, vi_div, vi_mod, vi_lt, vi_le, vi_gt, vi_ge, vi_eqi, vi_nei, vi_eqb, vi_neb, vi_eqs, vi_nes, vi_lenl, vi_lent, vi_abs, vi_min, vi_max, vi_dm, vi_nm, vi_tp, vi_no, vi_app, vi_upd0, vi_upe, vi_fz0, vi_fz1, vi_fz2, vi_fz3, vi_go0, vi_go1, vi_pl0, vi_t1, vi_t2, vi_t3, vi_t4, vi_t5, vi_t6, vi_frz, vi_fn, vi_cst,
    R.bind_ok, R.of_some, Option.map_some, Option.bind_some, List.getElem?_cons_zero, List.getElem?_cons_succ, List.set_cons_zero, List.set_cons_succ, List.length_cons, List.length_nil, List.length_map, List.all_cons, List.all_nil, Bool.and_true, Bool.true_and, Bool.or_true, Bool.true_or, Bool.or_false, Bool.false_or, Bool.and_self, if_true, ite_true, reduceIte, Nat.reduceAdd, Nat.reduceSub, Nat.reduceMul, Nat.reduceLT, Nat.reduceLeDiff, Nat.reduceEqDiff, Int.reduceLT, Int.reduceLE, Int.reduceAdd, Int.reduceSub, Int.reduceMul, Int.reduceNeg, Int.reducePow, Int.reduceToNat, Int.natAbs_natCast, Nat.lt_add_one, decide_true, decide_false, Nat.zero_lt_succ, List.map_cons, List.map_nil, vi_y1, vi_y2, vi_y3, vi_y4, vi_y5, vi_seen, vi_cd, vi_old, vi_o1, vi_o2, vi_b1, vi_b2, vi_b3, vi_b4, vi_b5, vi_pow, vi_rsh, e_b0, e_b1, e_b2, e_b3, e_b4, e_b5, e_b6, vi_li1, vi_li2, vi_li3, hy3] <;> rfl) ?_
    refine w_step (by simp -implicitDefEqProofs (decide := true) only [S.sem, e_nop, e_lit, e_loc, e_glb, e_bin, e_cmp, e_cm2, e_cmK, e_bop, e_and, e_or, e_one, e_anK, e_orK, e_anM, e_orM, e_not, e_noK, e_tru, e_tb, e_ti, e_tl, e_tt, e_tn, e_neg, e_neK, e_ife, e_ifK, e_tup, e_lst, e_ix, e_slc, e_call, e_blt, e_isi, e_comp, e_l0, e_l1, e_ixl, e_ixt, e_at, e_ixn, e_ixm, e_tyb1, e_tyb2, e_tyi1, e_tyi2, e_isn1, e_isn2, e_isn3, e_isn4, e_isn5, e_isb, e_eqni, e_eqin, vi_lb, vi_lm, vi_lc, vi_lbs, vi_lms, vi_lcs, vi_g0, vi_g1, vi_g2, vi_g3, vi_g4, vi_g5, vi_g6, vi_ti, vi_tb, vi_ts, vi_tn, vi_td, vi_tags0, vi_tags1, vi_tagsI, vi_tagsS, vi_tagsB, vi_allsI, vi_allsS, vi_allsB, vi_ai, vi_ab, vi_as, vi_an, vi_ad, vi_alls0, vi_alls1, vi_cl,
    vi_add, vi_sub, vi_mulr, vi_mull, vi_div, vi_mod, vi_lt, vi_le, vi_gt, vi_ge, vi_eqi, vi_nei, vi_eqb, vi_neb, vi_eqs, vi_nes, vi_lenl, vi_lent, vi_abs, vi_min, vi_max, vi_dm, vi_nm, vi_tp, vi_no, vi_app, vi_upd0, vi_upe, vi_fz0, vi_fz1, vi_fz2, vi_fz3, vi_go0, vi_go1, vi_pl0, vi_t1, vi_t2, vi_t3, vi_t4, vi_t5, vi_t6, vi_frz, vi_fn, vi_cst,
    R.bind_ok, R.of_some, Option.map_some, Option.bind_some, List.getElem?_cons_zero, List.getElem?_cons_succ, List.set_cons_zero, List.set_cons_succ, List.length_cons, List.length_nil, List.length_map, List.all_cons, List.all_nil, Bool.and_true, Bool.true_and, Bool.or_true, Bool.true_or, Bool.or_false, Bool.false_or, Bool.and_self, if_true, ite_true, reduceIte, Nat.reduceAdd, Nat.reduceSub, Nat.reduceMul, Nat.reduceLT, Nat.reduceLeDiff, Nat.reduceEqDiff, Int.reduceLT, Int.reduceLE, Int.reduceAdd, Int.reduceSub, Int.reduceMul, Int.reduceNeg, Int.reducePow, Int.reduceToNat, Int.natAbs_natCast, Nat.lt_add_one, decide_true, decide_false, Nat.zero_lt_succ, List.map_cons, List.map_nil, vi_y1, vi_y2, vi_y3, vi_y4, vi_y5, vi_seen, vi_cd, vi_old, vi_o1, vi_o2, vi_b1, vi_b2, vi_b3, vi_b4, vi_b5, vi_pow, vi_rsh, e_b0, e_b1, e_b2, e_b3, e_b4, e_b5, e_b6, vi_li1, vi_li2, vi_li3] <;> rfl) ?_
    refine w_loop (vals := [.nd .own .lst ((ys.take 10 ++ [7]).map D.int)]) (fun i e => ∃ d, e = [.nd .new .lst (ys.map D.int), d]) (by
      simp -implicitDefEqProofs (decide := true) only [S.sem, e_nop, e_lit, e_loc, e_glb, e_bin, e_cmp, e_cm2, e_cmK, e_bop, e_and, e_or, e_one, e_anK, e_orK, e_anM, e_orM, e_not, e_noK, e_tru, e_tb, e_ti, e_tl, e_tt, e_tn, e_neg, e_neK, e_ife, e_ifK, e_tup, e_lst, e_ix, e_slc, e_call, e_blt, e_isi, e_comp, e_l0, e_l1, e_ixl, e_ixt, e_at, e_ixn, e_ixm, e_tyb1, e_tyb2, e_tyi1, e_tyi2, e_isn1, e_isn2, e_isn3, e_isn4, e_isn5, e_isb, e_eqni, e_eqin, vi_lb, vi_lm, vi_lc, vi_lbs, vi_lms, vi_lcs, vi_g0, vi_g1, vi_g2, vi_g3, vi_g4, vi_g5, vi_g6, vi_ti, vi_tb, vi_ts, vi_tn, vi_td, vi_tags0, vi_tags1, vi_tagsI, vi_tagsS, vi_tagsB, vi_allsI, vi_allsS, vi_allsB, vi_ai, vi_ab, vi_as, vi_an, vi_ad, vi_alls0, vi_alls1, vi_cl,
    vi_add, vi_sub, vi_mulr, vi_mull, vi_div, vi_mod, vi_lt, vi_le, vi_gt, vi_ge, vi_eqi, vi_nei, vi_eqb, vi_neb, vi_eqs, vi_nes, vi_lenl, vi_lent, vi_abs, vi_min, vi_max, vi_dm, vi_nm, vi_tp, vi_no, vi_app, vi_upd0, vi_upe, vi_fz0, vi_fz1, vi_fz2, vi_fz3, vi_go0, vi_go1, vi_pl0, vi_t1, vi_t2, vi_t3, vi_t4, vi_t5, vi_t6, vi_frz, vi_fn, vi_cst,
    R.bind_ok, R.of_some, Option.map_some, Option.bind_some, List.getElem?_cons_zero, List.getElem?_cons_succ, List.set_cons_zero, List.set_cons_succ, List.length_cons, List.length_nil, List.length_map, List.all_cons, List.all_nil, Bool.and_true, Bool.true_and, Bool.or_true, Bool.true_or, Bool.or_false, Bool.false_or, Bool.and_self, if_true, ite_true, reduceIte, Nat.reduceAdd, Nat.reduceSub, Nat.reduceMul, Nat.reduceLT, Nat.reduceLeDiff, Nat.reduceEqDiff, Int.reduceLT, Int.reduceLE, Int.reduceAdd, Int.reduceSub, Int.reduceMul, Int.reduceNeg, Int.reducePow, Int.reduceToNat, Int.natAbs_natCast, Nat.lt_add_one, decide_true, decide_false, Nat.zero_lt_succ, List.map_cons, List.map_nil, vi_y1, vi_y2, vi_y3, vi_y4, vi_y5, vi_seen, vi_cd, vi_old, vi_o1, vi_o2, vi_b1, vi_b2, vi_b3, vi_b4, vi_b5, vi_pow, vi_rsh, e_b0, e_b1, e_b2, e_b3, e_b4, e_b5, e_b6, vi_li1, vi_li2, vi_li3, cut10, vi_cat (show (Tag.own : Tag) ≠ .sta by decide) (show (Tag.own : Tag) ≠ .sta by decide) (show ((ys.take 10).map D.int).length + [D.int 7].length ≤ 16777216 by rw [List.length_map, List.length_take]; show min 10 _ + 1 ≤ _; omega), map_snoc]
      try rfl) (by show (true && D.alls notBor ((ys.take 10 ++ [7]).map D.int) && true) = true; rw [vi_allsI]; rfl) (by rfl) ⟨_, rfl⟩ ?_ ?_
    · rintro i env d hd ⟨d1, rfl⟩
      rw [vi_tagsI, List.getElem?_map] at hd
      obtain ⟨c, hc, rfl⟩ := Option.map_eq_some_iff.mp hd
      have q := f_right (depth - 3) (if c < 0 then -c else c)
      have q : lw.pg.fn depth "_law_right" [.int (if c < 0 then -c else c)] = .ok (.bl true) := q
      refine ⟨rfl, _, rfl, ?_⟩
      refine w_ifr (k := false) (by simp -implicitDefEqProofs (decide := true) only [S.sem, e_nop, e_lit, e_loc, e_glb, e_bin, e_cmp, e_cm2, e_cmK, e_bop, e_and, e_or, e_one, e_anK, e_orK, e_anM, e_orM, e_not, e_noK, e_tru, e_tb, e_ti, e_tl, e_tt, e_tn, e_neg, e_neK, e_ife, e_ifK, e_tup, e_lst, e_ix, e_slc, e_call, e_blt, e_isi, e_comp, e_l0, e_l1, e_ixl, e_ixt, e_at, e_ixn, e_ixm, e_tyb1, e_tyb2, e_tyi1, e_tyi2, e_isn1, e_isn2, e_isn3, e_isn4, e_isn5, e_isb, e_eqni, e_eqin, vi_lb, vi_lm, vi_lc, vi_lbs, vi_lms, vi_lcs, vi_g0, vi_g1, vi_g2, vi_g3, vi_g4, vi_g5, vi_g6, vi_ti, vi_tb, vi_ts, vi_tn, vi_td, vi_tags0, vi_tags1, vi_tagsI, vi_tagsS, vi_tagsB, vi_allsI, vi_allsS, vi_allsB, vi_ai, vi_ab, vi_as, vi_an, vi_ad, vi_alls0, vi_alls1, vi_cl,
    vi_add, vi_sub, vi_mulr, vi_mull, vi_div, vi_mod, vi_lt, vi_le, vi_gt, vi_ge, vi_eqi, vi_nei, vi_eqb, vi_neb, vi_eqs, vi_nes, vi_lenl, vi_lent, vi_abs, vi_min, vi_max, vi_dm, vi_nm, vi_tp, vi_no, vi_app, vi_upd0, vi_upe, vi_fz0, vi_fz1, vi_fz2, vi_fz3, vi_go0, vi_go1, vi_pl0, vi_t1, vi_t2, vi_t3, vi_t4, vi_t5, vi_t6, vi_frz, vi_fn, vi_cst,
    R.bind_ok, R.of_some, Option.map_some, Option.bind_some, List.getElem?_cons_zero, List.getElem?_cons_succ, List.set_cons_zero, List.set_cons_succ, List.length_cons, List.length_nil, List.length_map, List.all_cons, List.all_nil, Bool.and_true, Bool.true_and, Bool.or_true, Bool.true_or, Bool.or_false, Bool.false_or, Bool.and_self, if_true, ite_true, reduceIte, Nat.reduceAdd, Nat.reduceSub, Nat.reduceMul, Nat.reduceLT, Nat.reduceLeDiff, Nat.reduceEqDiff, Int.reduceLT, Int.reduceLE, Int.reduceAdd, Int.reduceSub, Int.reduceMul, Int.reduceNeg, Int.reducePow, Int.reduceToNat, Int.natAbs_natCast, Nat.lt_add_one, decide_true, decide_false, Nat.zero_lt_succ, List.map_cons, List.map_nil, vi_y1, vi_y2, vi_y3, vi_y4, vi_y5, vi_seen, vi_cd, vi_old, vi_o1, vi_o2, vi_b1, vi_b2, vi_b3, vi_b4, vi_b5, vi_pow, vi_rsh, e_b0, e_b1, e_b2, e_b3, e_b4, e_b5, e_b6, vi_li1, vi_li2, vi_li3, q] <;> rfl) (fun q => by cases q) (fun _ => ?_)
      exact w_nil ⟨_, rfl⟩
    · rintro e ⟨d1, rfl⟩
      have q : lw.pg.fn depth "is_table" [.nd .any .lst []] = .ok (.bl false) := f_table (depth - 1) .any [] (by decide)
      exact w_ret (by simp -implicitDefEqProofs (decide := true) only [S.sem, e_nop, e_lit, e_loc, e_glb, e_bin, e_cmp, e_cm2, e_cmK, e_bop, e_and, e_or, e_one, e_anK, e_orK, e_anM, e_orM, e_not, e_noK, e_tru, e_tb, e_ti, e_tl, e_tt, e_tn, e_neg, e_neK, e_ife, e_ifK, e_tup, e_lst, e_ix, e_slc, e_call, e_blt, e_isi, e_comp, e_l0, e_l1, e_ixl, e_ixt, e_at, e_ixn, e_ixm, e_tyb1, e_tyb2, e_tyi1, e_tyi2, e_isn1, e_isn2, e_isn3, e_isn4, e_isn5, e_isb, e_eqni, e_eqin, vi_lb, vi_lm, vi_lc, vi_lbs, vi_lms, vi_lcs, vi_g0, vi_g1, vi_g2, vi_g3, vi_g4, vi_g5, vi_g6, vi_ti, vi_tb, vi_ts, vi_tn, vi_td, vi_tags0, vi_tags1, vi_tagsI, vi_tagsS, vi_tagsB, vi_allsI, vi_allsS, vi_allsB, vi_ai, vi_ab, vi_as, vi_an, vi_ad, vi_alls0, vi_alls1, vi_cl,
    vi_add, vi_sub, vi_mulr, vi_mull, vi_div, vi_mod, vi_lt, vi_le, vi_gt, vi_ge, vi_eqi, vi_nei, vi_eqb, vi_neb, vi_eqs, vi_nes, vi_lenl, vi_lent, vi_abs, vi_min, vi_max, vi_dm, vi_nm, vi_tp, vi_no, vi_app, vi_upd0, vi_upe, vi_fz0, vi_fz1, vi_fz2, vi_fz3, vi_go0, vi_go1, vi_pl0, vi_t1, vi_t2, vi_t3, vi_t4, vi_t5, vi_t6, vi_frz, vi_fn, vi_cst,
    R.bind_ok, R.of_some, Option.map_some, Option.bind_some, List.getElem?_cons_zero, List.getElem?_cons_succ, List.set_cons_zero, List.set_cons_succ, List.length_cons, List.length_nil, List.length_map, List.all_cons, List.all_nil, Bool.and_true, Bool.true_and, Bool.or_true, Bool.true_or, Bool.or_false, Bool.false_or, Bool.and_self, if_true, ite_true, reduceIte, Nat.reduceAdd, Nat.reduceSub, Nat.reduceMul, Nat.reduceLT, Nat.reduceLeDiff, Nat.reduceEqDiff, Int.reduceLT, Int.reduceLE, Int.reduceAdd, Int.reduceSub, Int.reduceMul, Int.reduceNeg, Int.reducePow, Int.reduceToNat, Int.natAbs_natCast, Nat.lt_add_one, decide_true, decide_false, Nat.zero_lt_succ, List.map_cons, List.map_nil, vi_y1, vi_y2, vi_y3, vi_y4, vi_y5, vi_seen, vi_cd, vi_old, vi_o1, vi_o2, vi_b1, vi_b2, vi_b3, vi_b4, vi_b5, vi_pow, vi_rsh, e_b0, e_b1, e_b2, e_b3, e_b4, e_b5, e_b6, vi_li1, vi_li2, vi_li3, q] <;> rfl) rfl)
  exact h1
end K02

set_option maxHeartbeats 0
open PySem PySem.W PySem.Calls PyProof.Rows
theorem PySem.Challenge.cw_inkyears_k02_inks_holds : PySem.Challenge.rw_inkyears_k02_inks.Holds := by
  w_on; o_law
  refine HandSHeadRun.head_any (r := OpenLaw.row PySem.Challenge.rw_inkyears_k02_inks) (q := view (OpenLaw.row PySem.Challenge.rw_inkyears_k02_inks).prog [17]) (H := K02.hk) (ob := K02.ob) (M := 20000) (loose := K02.loose) (d := HandSHeadRun.topDef (OpenLaw.row PySem.Challenge.rw_inkyears_k02_inks).prog 17) (kwd := []) K02.ob_eq
    (by kernel_rfl) (fun s => by kernel_rfl) K02.run (by kernel_rfl) (by kernel_rfl) (by kernel_rfl) (by rfl) (by first | assumption | decide +kernel) (by decide +kernel) ⟨rfl, rfl, rfl, rfl, rfl, by decide +kernel⟩ ?hw ?hc
  case hw => w_witness2
  case hc => exact VI.Lw.walk K02.lw (l := PySem.Challenge.rw_inkyears_k02_inks) (n := K02.depth) rfl (by kernel_rfl) (by kernel_rfl) ⟨rfl, by decide, by decide⟩ K02.wf K02.chk K02.chkI K02.bnd K02.bndI (e0 := ⟨"law", none, "law", 17, 0⟩) (fd0 := K02.d_law) (x := "_law_script") rfl rfl ⟨rfl, rfl, rfl⟩ rfl rfl K02.bl K02.all

