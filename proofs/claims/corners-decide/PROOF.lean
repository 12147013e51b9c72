import PyProof.Rows.All
import Wide.All
import OpenK.AllK
import Wide.FinOn
import HandS.ForMost
import HandS.ForExc
import HandS.Walk
import HandS.Evl
import HandS.More
import HandS.Defaults
import HandS.MakeKwOnly
import HandS.Property
import HandS.ClsMeth
import HandS.Star
import HandS.IsInst
import HandS.Codes
import HandS.DictComp
import HandS.TupAny
import HandS.RevRange
import HandS.SortInts
import HandS.Strs
import HandS.SlotsOwn
import HandS.ListItems
import KE.KSuper
import HandS.HeadHook1
import HandS.HeadHook2
import HandS.HeadHook3
import HandS.ExcInit
import OpenK.Lit
import KE.KStateDown
import HandS.Head0
import HandS.Head1
import HandS.Head2
import HandS.HeadEnd
import KE.GoesMore
import PyProof.Draws
import HandS.Iter
import HandS.ExcSuper
import KE.KExcIs
import HandS.ExcOwn
import HandS.ExcField
import HandS.WordsExc
import PySem.Challenge.RW_barbreaks_k34_corners_decide
set_option Elab.async false
set_option linter.all false
set_option maxRecDepth 100000
set_option maxHeartbeats 4000000
/-! own rules over the layer -/
namespace BB
open PySem PySem.Spec PyProof.Rows L2

/-! ### a comparison of four -/
section
variable {X : Cx} {a b c d : Expr} {ta tb tc td : TE} {pos : Pos}
def tChain3 (r r' r'' : R2) (ta tb tc td : TE) : TE := fun σ H Q => ta σ H fun x H1 => tb σ H1 fun y H2 => r x y H2 fun z H3 => ∃ k, z = .bl k ∧
  (if k = true then tc σ H3 fun x2 H4 => r' y x2 H4 fun z2 H5 => ∃ k2, z2 = .bl k2 ∧ (if k2 = true then td σ H5 fun x3 H6 => r'' x2 x3 H6 Q else Q (.bl false) H5) else Q (.bl false) H3)
theorem pt_chain3 {op op' op'' : CmpOp} {r r' r'' : R2} (ho : OpR X (compareOp op) r) (ho' : OpR X (compareOp op') r') (ho'' : OpR X (compareOp op'') r'') (ha : PE X a ta) (hb : PE X b tb) (hc : PE X c tc) (hd : PE X d td)
    (hm : lastMarks [op, op', op''] [b, c, d] = false := by with_unfolding_all rfl) : PT X (.Compare a [op, op', op''] [b, c, d] pos) (tTest (tChain3 r r' r'' ta tb tc td)) := by
  refine ⟨fun pins s σ H Q I h => ?_⟩
  refine isTrue_chain (thn (ha.run pins s σ H _ I h) fun v s1 ⟨x, H1, I1, r1, q1⟩ => test_link (thn (hb.run pins s1 σ H1 _ I1 q1) fun u s2 ⟨y, H2, I2, r2, q2⟩ =>
    thn (ho pins s2 σ H2 x y v u _ I2 r1 r2 q2) fun d s3 ⟨z, H3, I3, r3, k, e, q3⟩ => ?_)) hm
  subst e
  cases r3
  refine wpAny_truthy_bool ?_
  cases k with
  | false =>
    obtain ⟨k', e', q'⟩ := q3
    cases e'
    exact ite_ff ⟨H3, I3, q'⟩
  | true =>
    refine ite_tt (test_link (thn (hc.run pins s3 σ H3 _ I3 q3) fun w' s4 ⟨z', H4, I4, r4, q4⟩ => thn (ho' pins s4 σ H4 y z' u w' _ I4 r2 r4 q4) fun d' s5 ⟨z2, H5, I5, r5, k2, e2, q5⟩ => ?_))
    subst e2
    cases r5
    refine wpAny_truthy_bool ?_
    cases k2 with
    | false =>
      obtain ⟨k', e', q'⟩ := q5
      cases e'
      exact ite_ff ⟨H5, I5, q'⟩
    | true =>
      refine ite_tt (test_last (thn (hd.run pins s5 σ H5 _ I5 q5) fun w6 s6 ⟨z6, H6, I6, r6, q6⟩ => thn (ho'' pins s6 σ H6 z' z6 w' w6 _ I6 r4 r6 q6) fun d7 s7 ⟨z7, H7, I7, r7, k7, e7, q7⟩ => ?_))
      subst e7
      cases r7
      exact wpAny_truthy_bool ⟨H7, I7, q7⟩
end

/-! ### a promise by a body -/
section
variable {P : Program} {w : World} {K : PySem.W.Frag} {mg : Str → Option Value} {base : Heap}
/-- a def of the text without defaults, by its body -/
theorem mkR {x qual : Str} {params : Arguments} {body : List Stmt} {scope : Scope} {f : Addr} {fd : FuncData} {N ps : List Str} {k : Nat} {sp : Sp} (F : FunD K x qual params body scope [] [] f fd) (S : FnScope N ps scope) (b : Binds K fd ps [])
    (len : ∀ vs H Q E, sp vs H Q E → vs.length = ps.length)
    (hbody : ∀ (cdv : Value) (A : Around) (outer : List Env) (s : Shared) (H : Hp) (vs : List V) (Q : VK) (E : XK), Room k (A.deeper (envOfC qual scope s.heap.objs.size f cdv)) → sp vs H Q E →
      ∃ t, PSs (cxOf CX0 P w K mg base N qual scope f cdv A outer s H E).nox body t ∧ t { nx := fun _ H' => Q .non H', rt := Q } (start N vs) H) : FnR P w K mg base CX0 (k + 1) f sp := by
  have G : FnOk P w K mg base CX0 (k + 1) f fd ps sp := F.ok S len fun cdv A outer s H vs Q E hr h => by
    obtain ⟨t, h1, h2⟩ := hbody cdv A outer s H vs Q E hr h
    exact ⟨t, PSs.nox h1, h2⟩
  have R := G.raw b .nil
  exact R.imp fun vs H Q E h => by rw [List.append_nil]; exact h
end

/-! ### calls -/
section
variable {X : Cx} {k : Nat} {f C : Addr} {sp : Sp} {x m : Str} {p pos apos : Pos} {e o : Expr} {es : List Expr} {ta : TE} {t : TA}
/-- f(..) | o.m(..): the values, then the promise -/
def tFn (sp : Sp) (t : TA) : TE := fun σ H Q => t σ H fun vs H1 => sp vs H1 Q E0
theorem pe_fn (F : FnR X.prog X.w X.K X.mg X.base CX0 k f sp) (hr : Room k X.A) (hk : PySem.W.keepIn X.K (.ref f) = true) (hm : X.mg x = some (.ref f)) (ha : PA X (e :: es) t) (hg : Gl X x := by rfl)
    (hdb : (x == ("__debug__" : Str)) = false := by decide) (he : starEach (e :: es) X.env = (false, eval e X.env) :: starEach es X.env := by rfl) (hpl : (backTo pos (starEach es X.env)).any (·.1) = false := by rfl) :
    PE X (.Call (.Name x p) (e :: es) [] pos) (tFn sp t) := by
  refine ⟨fun pins s σ H Q I h => ?_⟩
  refine wpAny_Call_Name_kw (ld_glob I hg hm ?_ hdb)
  refine PySem.W.callWith_K (h₀ := X.base) I.ok.mod.kin hk (thn (ha.run pos pins s σ H _ I h) fun us s1 ⟨vs, H1, I1, r, q⟩ => ⟨I1.kIn, ?_⟩) he hpl
  exact wpAny_call (run_fnR (us := us) (vs := vs) F hr pass0 I1 r q)
def tMt (K : PySem.W.Frag) (f : Addr) (m : Str) (sp : Sp) (ta : TE) (t : TA) : TE := fun σ H Q => ta σ H fun x H1 => ∃ a C dx fs, x = .ref a ∧ H1 a = some (.ins C dx fs) ∧ Cls K C ∧ Meth K C m f ∧ fs.lookup m = none ∧
  t σ H1 fun vs H2 => sp (x :: vs) H2 Q E0
theorem pe_mt {pl : Sem Bool} (he : PE X o ta) (F : FnR X.prog X.w X.K X.mg X.base CX0 k f sp) (hr : Room k X.A) (hk : PySem.W.keepIn X.K (.ref f) = true) (ha : PA X (e :: es) t)
    (hst : starEach (e :: es) X.env = (false, eval e X.env) :: starEach es X.env := by rfl) (hpl : (backTo pos (starEach es X.env)).any (·.1) = false := by rfl)
    (ht : eval (.Call (.Attribute o m apos) (e :: es) [] pos) X.env = (do
      let ov ← eval o X.env
      standAt apos.atName
      let (f, first) ← holding [ov] (getMethod ov m pl)
      callWith pos f first (backTo pos (starEach (e :: es) X.env)) (backToKw pos (keywordEach [] X.env))) := by rfl) :
    PE X (.Call (.Attribute o m apos) (e :: es) [] pos) (tMt X.K f m sp ta t) := by
  refine ⟨fun pins s σ H Q I h => ?_⟩
  refine PySem.W.methodCall_KW (pl := pl) (thn (he.run pins s σ H _ I h) fun u s1 ⟨x, H1, I1, rx, a, C, dx, fs, ex, ea, c, hm, l, q⟩ => ?_) ht
  subst ex
  obtain rfl : u = Value.ref a := rx
  refine getmeth_ok I1 ea c hm l ?_
  refine PySem.W.callWith_K (first := [.ref a]) (h₀ := X.base) I.ok.mod.kin hm.kp (thn (ha.run pos pins s1 σ H1 _ I1 q) fun us s2 ⟨vs, H2, I2, r, q2⟩ => ⟨I2.kIn, ?_⟩) hst hpl
  exact wpAny_call (run_fnR (us := .ref a :: us) (vs := .ref a :: vs) F hr pass0 I2 (.cons rfl r) q2)
theorem pe_mt0 {pl : Sem Bool} (he : PE X o ta) (F : FnR X.prog X.w X.K X.mg X.base CX0 k f sp) (hr : Room k X.A)
    (ht : eval (.Call (.Attribute o m apos) [] [] pos) X.env = (do
      let ov ← eval o X.env
      standAt apos.atName
      let (f, first) ← holding [ov] (getMethod ov m pl)
      callWith pos f first (backTo pos (starEach [] X.env)) (backToKw pos (keywordEach [] X.env))) := by rfl) :
    PE X (.Call (.Attribute o m apos) [] [] pos) (tMt X.K f m sp ta tNil) := by
  refine ⟨fun pins s σ H Q I h => ?_⟩
  refine PySem.W.methodCall_KW (pl := pl) (thn (he.run pins s σ H _ I h) fun u s1 ⟨x, H1, I1, rx, a, C, dx, fs, ex, ea, c, hm, l, q⟩ => ?_) ht
  subst ex
  obtain rfl : u = Value.ref a := rx
  refine getmeth_ok I1 ea c hm l ?_
  exact PySem.W.callWith_K0 (first := [.ref a]) I1.kIn hm.kp (wpAny_call (run_fnR (us := [.ref a]) (vs := [.ref a]) F hr pass0 I1 (.cons rfl .nil) q))
/-- C.m(..), C a class of the text, m a plain def -/
structure ClsFn (K : PySem.W.Frag) (C : Addr) (m : Str) (f : Addr) : Prop where
  rd : PySem.W.readsIn K C (.type "type") = true
  ga : PySem.W.specialIn K (.ref C) "__getattribute__" = some (some (.builtin "type.__getattribute__"))
  at_ : PySem.W.findCls K (.ref C) (.type "type") m = some (.val (.ref f))
  kp : PySem.W.keepIn K (.ref f) = true
theorem pe_cfn {pl : Sem Bool} (he : PE X o (tC (.ref C))) (c : ClsFn X.K C m f) (F : FnR X.prog X.w X.K X.mg X.base CX0 k f sp) (hr : Room k X.A) (ha : PA X (e :: es) t)
    (hst : starEach (e :: es) X.env = (false, eval e X.env) :: starEach es X.env := by rfl) (hpl : (backTo pos (starEach es X.env)).any (·.1) = false := by rfl)
    (ht : eval (.Call (.Attribute o m apos) (e :: es) [] pos) X.env = (do
      let ov ← eval o X.env
      standAt apos.atName
      let (f, first) ← holding [ov] (getMethod ov m pl)
      callWith pos f first (backTo pos (starEach (e :: es) X.env)) (backToKw pos (keywordEach [] X.env))) := by rfl) :
    PE X (.Call (.Attribute o m apos) (e :: es) [] pos) (tFn sp t) := by
  refine ⟨fun pins s σ H Q I h => ?_⟩
  refine PySem.W.methodCall_KW (pl := pl) (thn (he.run pins s σ H (fun v H' => v = .ref C ∧ H' = H) I ⟨rfl, rfl⟩) fun u s1 ⟨x, H1, I1, rx, ex, eh⟩ => ?_) ht
  subst ex
  subst eh
  obtain rfl : u = Value.ref C := rx
  refine PySem.W.method_cls I1.kIn c.ga (PySem.W.cls_value I1.kIn c.rd c.at_ rfl ?_)
  refine PySem.W.callWith_K (first := []) (h₀ := X.base) I.ok.mod.kin c.kp (thn (ha.run pos pins _ σ H1 _ (I1.tok _) h) fun us s2 ⟨vs, H2, I2, r, q2⟩ => ⟨I2.kIn, ?_⟩) hst hpl
  exact wpAny_call (run_fnR (us := us) (vs := vs) F hr pass0 I2 r q2)
/-- a class that is made by its name -/
structure Ctor (P : Program) (w : World) (K : PySem.W.Frag) (mg : Str → Option Value) (base : Heap) (k : Nat) (x : Str) (C : Addr) (sp : Sp) : Prop where
  ex : ∃ (f : Addr) (spI : Sp), Mk K C f ∧ mg x = some (.ref C) ∧ FnR P w K mg base CX0 k f spI ∧
    ∀ vs H Q, sp vs H Q E0 → ∀ y dx, H y = none → H dx = none → dx ≠ y → spI (.ref y :: vs) (upd (upd H dx (.own y)) y (.ins C dx [])) (fun v H2 => v = .non ∧ Q (.ref y) H2) E0
theorem pe_ctor (c : Ctor X.prog X.w X.K X.mg X.base k x C sp) (hr : Room (k + 1) X.A) (ha : PA X (e :: es) t) (hg : Gl X x := by rfl) (hdb : (x == ("__debug__" : Str)) = false := by decide)
    (he : starEach (e :: es) X.env = (false, eval e X.env) :: starEach es X.env := by rfl) (hpl : (backTo pos (starEach es X.env)).any (·.1) = false := by rfl) : PE X (.Call (.Name x p) (e :: es) [] pos) (tFn sp t) := by
  obtain ⟨f, spI, M, hm, F, im⟩ := c.ex
  refine ⟨fun pins s σ H Q I h => ?_⟩
  refine wpAny_Call_Name_kw (ld_glob I hg hm ?_ hdb)
  refine PySem.W.callWith_K (h₀ := X.base) I.ok.mod.kin M.kp (thn (ha.run pos pins s σ H _ I h) fun us s1 ⟨vs, H1, I1, r, q⟩ => ⟨I1.kIn, ?_⟩) he hpl
  exact StX.run_makeR M F hr pass0 I1 r (im vs H1 Q q)
/-- o(..), o an instance whose class has a __call__ -/
def tCl (X : Cx) (C : Addr) (sp : Sp) (tf : TE) (t : TA) : TE := StX.tCallO X C sp E0 tf t
/-- k in o, o an instance with its own __contains__ -/
def rInO (C : Addr) (sp : Sp) (n : Bool) : R2 := fun x y H Q => ∃ a dx fs, y = .ref a ∧ H a = some (.ins C dx fs) ∧ sp [y, x] H (fun z H' => ∃ b, z = .bl b ∧ Q (.bl (if n then !b else b)) H') E0
theorem ins_inst {pins : List (Addr × Obj)} {σ : L2.St} {H : Hp} {s : Shared} {a C dx : Addr} {fs : List (Str × V)} (I : Inv X pins σ H s) (ea : H a = some (.ins C dx fs)) : ∃ od, PySem.W.InstAt s.heap a (PySem.W.instObj C dx) C (some od) := by
  obtain ⟨mA, O, _⟩ := ins_get I.hok ea
  obtain ⟨od, J, _⟩ := O.look
  exact ⟨od, J⟩
theorem op_inO (hs : PySem.W.findIn X.K (.ref C) "__contains__" = some (some (.ref f))) (hf : PySem.W.isFn X.K (.ref f) = true) (F : FnR X.prog X.w X.K X.mg X.base CX0 k f sp) (hr : Room k X.A) : OpR X (compareOp .In) (rInO C sp false) := by
  intro pins s σ H x y v u Q I rx ry h
  obtain ⟨a, dx, fs, rfl, ea, q⟩ := h
  obtain rfl : u = Value.ref a := ry
  obtain ⟨od, J⟩ := ins_inst I ea
  obtain ⟨m, hF⟩ := I.fr
  refine PySem.W.in_K hF I.ok.mod.kin J hs hf (wpAny_mono (wpAny_call (run_fnR (us := [.ref a, v]) (vs := [.ref a, x]) F hr pass0 I (.cons rfl (.cons rx .nil)) q)) (fun w s' z => ?_) fun _ _ x => x)
  obtain ⟨z', H', I', rz, b, ez, q'⟩ := z
  subst ez
  cases rz
  exact wpAny_truthy_bool ⟨.bl b, H', I', rfl, q'⟩
theorem op_notInO (hs : PySem.W.findIn X.K (.ref C) "__contains__" = some (some (.ref f))) (hf : PySem.W.isFn X.K (.ref f) = true) (F : FnR X.prog X.w X.K X.mg X.base CX0 k f sp) (hr : Room k X.A) : OpR X (compareOp .NotIn) (rInO C sp true) := by
  intro pins s σ H x y v u Q I rx ry h
  obtain ⟨a, dx, fs, rfl, ea, q⟩ := h
  obtain rfl : u = Value.ref a := ry
  obtain ⟨od, J⟩ := ins_inst I ea
  obtain ⟨m, hF⟩ := I.fr
  refine PySem.W.notIn_K hF I.ok.mod.kin J hs hf (wpAny_mono (wpAny_call (run_fnR (us := [.ref a, v]) (vs := [.ref a, x]) F hr pass0 I (.cons rfl (.cons rx .nil)) q)) (fun w s' z => ?_) fun _ _ x => x)
  obtain ⟨z', H', I', rz, b, ez, q'⟩ := z
  subst ez
  cases rz
  exact wpAny_truthy_bool ⟨.bl (!b), H', I', rfl, q'⟩
/-- o[k], o an instance with its own __getitem__ -/
def rIxO (C : Addr) (sp : Sp) : R2 := fun x y H Q => ∃ a dx fs, x = .ref a ∧ H a = some (.ins C dx fs) ∧ sp [x, y] H Q E0
theorem ix_own (hs : PySem.W.findIn X.K (.ref C) "__getitem__" = some (some (.ref f))) (hf : PySem.W.isFn X.K (.ref f) = true) (hi : PySem.W.fnIn X.K f = true) (F : FnR X.prog X.w X.K X.mg X.base CX0 k f sp) (hr : Room (k + 1) X.A) {a b : Expr} {ta tb : TE} (ha : PE X a ta) (hb : PE X b tb)
    (hsl : ∀ o i, subscripted b true o i = runValue (.builtin "lifetime.subscript" ⟨[o, i], []⟩) := by intro _ _; with_unfolding_all rfl) : PE X (.Subscript a b pos) (tOp (rIxO C sp) ta tb) := by
  refine ⟨fun pins s σ H Q I h => ?_⟩
  exact Subscript_ (binT ha hb I h fun v u s2 x y H2 I2 rx ry q => by
    obtain ⟨c, dx, fs, ex, ea, q2⟩ := q
    subst ex
    obtain rfl : v = Value.ref c := rx
    obtain ⟨od, J⟩ := ins_inst I2 ea
    obtain ⟨m, hF⟩ := I2.fr
    refine PySem.W.sub_K hF I2.ok.mod.kin J hs hi hf ?_ (hsl _ _)
    exact wpAny_call (SlX.run_at (us := [.ref c, u]) (ws := [.ref c, y]) F hr.in1 I2.env0.in1 pass0 I2 (.cons rfl (.cons ry .nil)) q2))
end
end BB
namespace BB
open PySem PySem.Spec PyProof.Rows L2
open Sem (wp)

/-! ### min of a list of pairs of ints -/
def CmpAt (prog : Program) (w : World) (A : Around) (T : Heap → Prop) (P : Nat → Value → Prop) (bt : Nat → Nat → Bool) : Prop :=
  ∀ i j vi vj (s : Shared) (Q : Value → Shared → Prop) (E : Value → Shared → Prop), T s.heap → P i vi → P j vj → Q (.bool (bt i j)) s → wpAny (model prog w) A (richCompare .Lt vi vj) Q E s
section
variable {prog : Program} {w : World} {A : Around} {R : Result → Shared → Prop} {I : Addr} {fp wr : List Addr} {n : Nat} {P : Nat → Value → Prop} {St : Nat → Heap → Prop} {T : Heap → Prop}
theorem minT_loop (W : Walks prog w A.in1 I fp wr n P St) (bt : Nat → Nat → Bool) (hcmp : CmpAt prog w A.in1 T P bt) (S : Addr) (hSf : S ∉ fp)
    (hT : ∀ h h', T h → (∀ b o, b ∉ wr → b ≠ S → h.get? b = some o → h'.get? b = some o) → T h') :
    ∀ (k j : Nat) (s : Shared) (vb : Value) (c : Nat), n - (j + 1) = k → j + 1 ≤ n → St (j + 1) s.heap → T s.heap → P (argBest bt j) vb →
    s.heap.get? S = some { cls := .type "list", dict := none, data := .seq #[vb, vb] c, slots := #[] } →
    (∀ v h' tk, P (argBest bt (n - 1)) v → (∀ b o, b ∉ wr → b ≠ S → s.heap.get? b = some o → h'.get? b = some o) → R (.ok (.ret v)) { s with heap := h', toks := tk }) →
    codeAny (model prog w) A (.builtin "min.loop" ⟨[.ref I, .none, .ref S], []⟩) R s := by
  have hSw : S ∉ wr := fun h => hSf (W.sub _ h)
  have hname : (toString "min" ++ toString ".loop" : String) = "min.loop" := by decide
  intro k
  induction k with
  | zero =>
    intro j s vb c hk hj hst hTs hPb hS hR
    have hin : j + 1 = n := by omega
    refine codeAny_builtin F.entry_min_loop ?_
    rw [Around.under_plainId F.plain_min_loop _]
    show wpAny _ A.in1 (seqItems? (.ref S) >>= _) _ _ s
    refine wpAny_bind (wpAny_seqItems hS rfl ?_)
    show wpAny _ A.in1 (tryCatch (pyNext (.ref I)) _ >>= _) _ _ s
    refine wpAny_bind (wpAny_tryCatch (W.done s _ _ (hin ▸ hst) fun h' tk hk' => ?_))
    have hS' := hk' S _ hSw hS
    show wpAny _ A.in1 (updateSeq S (fun _ => #[]) >>= _) _ _ _
    refine wpAny_bind ?_
    refine wpAny_updateSeq hS' rfl (wpAny_bind (wpAny_letGo (wpAny_pure ?_)))
    refine hR vb _ tk (by rw [← hin]; exact hPb) fun b o hbw hbS e => (Heap.get?_update_other _ _ (Ne.symm hbS)).trans (hk' b o hbw e)
  | succ k ih =>
    intro j s vb c hk hj hst hTs hPb hS hR
    have hlt : j + 1 < n := by omega
    refine codeAny_builtin F.entry_min_loop ?_
    rw [Around.under_plainId F.plain_min_loop _]
    show wpAny _ A.in1 (seqItems? (.ref S) >>= _) _ _ s
    refine wpAny_bind (wpAny_seqItems hS rfl ?_)
    show wpAny _ A.in1 (tryCatch (pyNext (.ref I)) _ >>= _) _ _ s
    refine wpAny_bind (wpAny_tryCatch (W.item (j + 1) s _ _ hlt hst fun v h' tk hP hst' hk' => ?_))
    have hS' := hk' S _ hSw hS
    have hT1 : T h' := hT _ _ hTs fun b o hbw _ e => hk' b o hbw e
    show wpAny _ A.in1 (tryCatch (holding [v, v] (richCompare .Lt v vb >>= _)) _ >>= _) _ _ _
    refine wpAny_bind (wpAny_tryCatch (wpAny_holding (wpAny_bind (hcmp (j + 1) (argBest bt j) v vb _ _ _ hT1 hP hPb ?_))))
    refine wpAny_bind (wpAny_holding (wpAny_truthy_bool ?_))
    refine wpAny_bind (wpAny_letGo (wpAny_pure ?_))
    cases hb : bt (j + 1) (argBest bt j) with
    | true =>
      simp only [if_true]
      refine wpAny_bind ?_
      refine wpAny_updateSeq hS' rfl (wpAny_bind (wpAny_letGo ?_))
      rw [hname]
      refine wpAny_pure ⟨plainId_quiet F.plain_min_loop _, ih (j + 1) _ v _ (by omega) hlt (W.frame _ _ _ hst' fun b hbf o e => ?_) (hT _ _ hT1 fun b o _ hbS e => ?_) (by simp only [argBest, hb, if_true]; exact hP) (Heap.get?_update_self _ hS' rfl)
        fun v' h'' tk'' hP' hk'' => ?_⟩
      · exact (Heap.get?_update_other _ _ (fun h : S = b => hSf (by rw [h]; exact hbf))).trans e
      · exact (Heap.get?_update_other _ _ (Ne.symm hbS)).trans e
      · exact hR v' h'' tk'' hP' fun b o hbw hbS e => hk'' b o hbw hbS ((Heap.get?_update_other _ _ (Ne.symm hbS)).trans (hk' b o hbw e))
    | false =>
      simp only [Bool.false_eq_true, if_false]
      refine wpAny_bind (wpAny_letGo ?_)
      rw [hname]
      refine wpAny_pure ⟨plainId_quiet F.plain_min_loop _, ih (j + 1) _ vb c (by omega) hlt hst' hT1 (by simp only [argBest, hb, Bool.false_eq_true, if_false]; exact hPb) hS' fun v' h'' tk'' hP' hk'' => ?_⟩
      exact hR v' h'' tk'' hP' fun b o hbw hbS e => hk'' b o hbw hbS (hk' b o hbw e)
theorem minT_first (W : Walks prog w A.in1 I fp wr n P St) (bt : Nat → Nat → Bool) (hcmp : CmpAt prog w A.in1 T P bt) (S : Addr) (hSf : S ∉ fp) (hn : 0 < n)
    (hT : ∀ h h', T h → (∀ b o, b ∉ wr → b ≠ S → h.get? b = some o → h'.get? b = some o) → T h') {s : Shared} {c : Nat} (hst : St 0 s.heap) (hTs : T s.heap)
    (hS : s.heap.get? S = some { cls := .type "list", dict := none, data := .seq #[] c, slots := #[] })
    (hR : ∀ v h' tk, P (argBest bt (n - 1)) v → (∀ b o, b ∉ wr → b ≠ S → s.heap.get? b = some o → h'.get? b = some o) → R (.ok (.ret v)) { s with heap := h', toks := tk }) :
    codeAny (model prog w) A (.builtin "min.loop" ⟨[.ref I, .none, .ref S], []⟩) R s := by
  have hSw : S ∉ wr := fun h => hSf (W.sub _ h)
  have hname : (toString "min" ++ toString ".loop" : String) = "min.loop" := by decide
  refine codeAny_builtin F.entry_min_loop ?_
  rw [Around.under_plainId F.plain_min_loop _]
  show wpAny _ A.in1 (seqItems? (.ref S) >>= _) _ _ s
  refine wpAny_bind (wpAny_seqItems hS rfl ?_)
  show wpAny _ A.in1 (tryCatch (pyNext (.ref I)) _ >>= _) _ _ s
  refine wpAny_bind (wpAny_tryCatch (W.item 0 s _ _ hn hst fun v h' tk hP hst' hk' => ?_))
  have hS' := hk' S _ hSw hS
  have hT1 : T h' := hT _ _ hTs fun b o hbw _ e => hk' b o hbw e
  show wpAny _ A.in1 (updateSeq S (fun _ => #[v, v]) >>= _) _ _ _
  refine wpAny_bind ?_
  refine wpAny_updateSeq hS' rfl ?_
  rw [hname]
  refine wpAny_pure ⟨plainId_quiet F.plain_min_loop _, minT_loop W bt hcmp S hSf hT _ 0 _ v _ rfl hn (W.frame _ _ _ hst' fun b hbf o e => ?_) (hT _ _ hT1 fun b o _ hbS e => ?_) hP (Heap.get?_update_self _ hS' rfl) fun v' h'' tk'' hP' hk'' => ?_⟩
  · exact (Heap.get?_update_other _ _ (fun h : S = b => hSf (by rw [h]; exact hbf))).trans e
  · exact (Heap.get?_update_other _ _ (Ne.symm hbS)).trans e
  · exact hR v' h'' tk'' hP' fun b o hbw hbS e => hk'' b o hbw hbS ((Heap.get?_update_other _ _ (Ne.symm hbS)).trans (hk' b o hbw e))
end
section
variable {prog : Program} {w : World} {A : Around} {E : Value → Shared → Prop} {s : Shared}
theorem call_min_T {x : Value} {Q : Value → Shared → Prop}
    (h : wpAny (model prog w) A.in1 (pyIter x) (fun it s₂ => ∃ I fp wr n P St bt T, it = .ref I ∧ Walks prog w A.in1 I fp wr n P St ∧ St 0 s₂.heap ∧ (∀ b ∈ fp, b < s₂.heap.objs.size) ∧ 0 < n ∧ CmpAt prog w A.in1 T P bt ∧ T s₂.heap ∧
      (∀ h h', T h → (∀ b o, b ∉ wr → b < s₂.heap.objs.size → h.get? b = some o → h'.get? b = some o) → T h') ∧
      ∀ v h' tk, P (argBest bt (n - 1)) v → (∀ b o, b ∉ wr → s₂.heap.get? b = some o → h'.get? b = some o) → Q v { s₂ with heap := h', toks := tk }) E s) :
    wpAny (model prog w) A (call (.builtin "min") [x]) Q E s := by
  have hname : (toString "min" ++ toString ".loop" : String) = "min.loop" := by decide
  refine call_function_tree F.kind_min F.plain_min F.entry_min (F.args_min1 _) ?_
  show wpAny _ A.in1 (Builtin.Builtins.bindParams "min" ["key", "default"] 0 ⟨[], []⟩ >>= _) _ _ s
  refine wpAny_bind (wpAny_of_eq (show Builtin.Builtins.bindParams "min" ["key", "default"] 0 ⟨[], []⟩ = pure [none, none] from rfl) ?_)
  refine wpAny_bind (wpAny_pure ?_)
  refine wpAny_bind (wpAny_mono h (fun it s₂ h₂ => ?_) fun _ _ e => e)
  obtain ⟨I, fp, wr, n, P, St, bt, T, rfl, W, hst, hfp, hn, hcmp, hTs, hT, hQ⟩ := h₂
  refine wpAny_bind (wpAny_newObj_type ?_)
  have hSf : s₂.heap.objs.size ∉ fp := fun hm => Nat.lt_irrefl _ (hfp _ hm)
  rw [hname]
  have hk0 : ∀ b o, s₂.heap.get? b = some o → (s₂.heap.push { cls := .type "list", data := .seq #[] }).get? b = some o := fun b o e => Heap.get?_push_of_some _ e
  refine wpAny_pure ⟨plainId_quiet F.plain_min_loop _, minT_first W bt hcmp s₂.heap.objs.size hSf hn (fun h h' t k => hT h h' t fun b o hw hb e => k b o hw (Nat.ne_of_lt hb) e) (W.frame _ _ _ hst fun b _ o e => hk0 b o e) (hT _ _ hTs fun b o _ _ e => hk0 b o e) (Heap.get?_push_size _ rfl) fun v h' tk hP hk => ?_⟩
  exact hQ v h' tk hP fun b o hbw e => hk b o hbw (Nat.ne_of_lt (Heap.lt_size e)) (Heap.get?_push_of_some _ e)
end

/-- the least of a list of values under an order -/
theorem argBest_spec {bt : Nat → Nat → Bool} (tr : ∀ i j k, bt j i = false → bt k j = false → bt k i = false) (ir : ∀ i, bt i i = false) (as : ∀ i j, bt i j = true → bt j i = false) :
    ∀ m, argBest bt m ≤ m ∧ ∀ i, i ≤ m → bt i (argBest bt m) = false
  | 0 => ⟨Nat.le_refl _, fun i hi => by
      obtain rfl : i = 0 := by omega
      exact ir _⟩
  | m + 1 => by
    obtain ⟨h1, h2⟩ := argBest_spec tr ir as m
    unfold argBest
    cases hb : bt (m + 1) (argBest bt m) with
    | true =>
      rw [if_pos rfl]
      refine ⟨Nat.le_refl _, fun i hi => ?_⟩
      by_cases e : i = m + 1
      · rw [e]; exact ir _
      · exact tr _ _ _ (as _ _ hb) (h2 i (by omega))
    | false =>
      rw [if_neg Bool.false_ne_true]
      refine ⟨by omega, fun i hi => ?_⟩
      by_cases e : i = m + 1
      · rw [e]; exact hb
      · exact h2 i (by omega)
/-- min(xs), xs a list of pairs of ints -/
def rMinP (K : PySem.W.Frag) : List V → Hp → VK → Prop := fun vs H Q => ∃ (a : Addr) (xs : List V) (k : Nat → Int × Int), vs = [V.ref a] ∧ SqL K H a xs ∧ 0 < xs.length ∧
  (∀ i x, xs[i]? = some x → ∃ t, x = .ref t ∧ H t = some (.tup [.int (k i).1, .int (k i).2])) ∧
  ∀ (j : Nat) (t : Addr), j < xs.length → xs[j]? = some (.ref t) → (∀ i, i < xs.length → (k j).1 ≤ (k i).1) → Q (.ref t) H
def lexLt2 (p q : Int × Int) : Bool := HT.lexLt [p.1, p.2] [q.1, q.2]
theorem lexLt2_iff {p q : Int × Int} : lexLt2 p q = true ↔ p.1 < q.1 ∨ (p.1 = q.1 ∧ p.2 < q.2) := by
  unfold lexLt2
  rw [HT.lexLt_cons, HT.lexLt_cons, HT.lexLt_nil_nil]
  by_cases e : p.1 = q.1
  · rw [if_pos e]
    by_cases e2 : p.2 = q.2
    · rw [if_pos e2]
      constructor
      · intro h; cases h
      · intro h; omega
    · rw [if_neg e2, decide_eq_true_eq]; omega
  · rw [if_neg e, decide_eq_true_eq]; omega
theorem lexLt2_no {p q : Int × Int} : lexLt2 p q = false ↔ ¬ (p.1 < q.1 ∨ (p.1 = q.1 ∧ p.2 < q.2)) := by
  rw [← lexLt2_iff]
  cases lexLt2 p q <;> simp
section
variable {X : Cx}
theorem cr_minP (hc : X.calm = true) (hu : X.A.units + 1 < cLine) : CallR X (.builtin "min") (rMinP X.K) := by
  intro pins s σ H vs us Q I r h
  obtain ⟨a, xs, k, rfl, hs, hne, hx, q⟩ := h
  obtain ⟨its, rv, hl, hz⟩ := I.list hs
  rw [Vals.ref1 r]
  have hlen : xs.length = its.length := Vals.length rv
  obtain ⟨oL, eL, cL⟩ := hl.isList
  have hlt : a < s.heap.objs.size := Heap.lt_size eL
  -- the tuples as they stand
  have tup : ∀ i v, its[i]? = some v → ∃ t, v = .ref t ∧ xs[i]? = some (.ref t) ∧ ∃ ws : List Value, IsTup s.heap t ws.toArray ∧ IntsAre ws [(k i).1, (k i).2] := fun i v e => by
    have hi : i < its.length := (List.getElem?_eq_some_iff.mp e).1
    obtain ⟨t, ex, ht⟩ := hx i (xs[i]'(by omega)) (List.getElem?_eq_getElem (by omega))
    have ex' : xs[i]? = some (.ref t) := by rw [← ex]; exact List.getElem?_eq_getElem (by omega)
    obtain ⟨u, eu, ru⟩ := rv.get ex'
    rw [e] at eu
    obtain rfl : v = u := Option.some.inj eu
    obtain ⟨ws, rw_, pw, _⟩ := I.tuple (SqT.of ht)
    exact ⟨t, ru, ex', ws, pw, intsAre_of (ns := [(k i).1, (k i).2]) rw_⟩
  refine call_min_T (wpAny_pyIter_list hl.isList ?_)
  have k1 : ∀ b u, s.heap.get? b = some u → (s.heap.push { cls := .type "list_iterator", data := .fields #[.ref a, .int 0 0] }).get? b = some u := fun b u e => Heap.get?_push_of_some _ e
  have hsz : (s.heap.push { cls := .type "list_iterator", data := .fields #[.ref a, .int 0 0] }).objs.size = s.heap.objs.size + 1 := Heap.size_push ..
  refine ⟨s.heap.objs.size, [s.heap.objs.size, a], [s.heap.objs.size], _, fun i v => its.toArray[i]? = some v, _, fun i j => lexLt2 (k i) (k j),
    fun h => ∀ b o, s.heap.get? b = some o → h.get? b = some o, rfl, Walks.list (A := X.A.in1) (I.ok.hd hc) _ a (Nat.ne_of_lt hlt) its.toArray, ⟨⟨_, Heap.get?_push_size _ rfl, rfl, rfl⟩, hl.isList.push _⟩, fun b hb => ?_, by rw [List.size_toArray]; omega, ?_, k1, ?_, ?_⟩
  · show b < (s.heap.push _).objs.size
    rw [hsz]
    rcases List.mem_cons.mp hb with rfl | hb
    · exact Nat.lt_succ_self _
    · rcases List.mem_cons.mp hb with rfl | hb
      · exact Nat.lt_succ_of_lt hlt
      · cases hb
  · intro i j vi vj s' Q' E' hT hi hj hQ
    obtain ⟨ti, rfl, _, wi, pi, ii⟩ := tup i vi (by simpa using hi)
    obtain ⟨tj, rfl, _, wj, pj, ij⟩ := tup j vj (by simpa using hj)
    exact HT.lt_tupInts (let ⟨o, e, c⟩ := pi; ⟨o, hT _ o e, c⟩) (let ⟨o, e, c⟩ := pj; ⟨o, hT _ o e, c⟩) ii ij hu hQ
  · intro h h' hT hk b o e
    refine hk b o (fun hm => ?_) (by rw [hsz]; exact Nat.lt_succ_of_lt (Heap.lt_size e)) (hT b o e)
    rcases List.mem_cons.mp hm with rfl | hm
    · exact absurd (Heap.lt_size e) (Nat.lt_irrefl _)
    · cases hm
  · intro v h' tk hP hk
    obtain ⟨g1, g2⟩ := argBest_spec (bt := fun i j => lexLt2 (k i) (k j)) (fun i j l h1 h2 => by
        have a1 := lexLt2_no.mp h1
        have a2 := lexLt2_no.mp h2
        exact lexLt2_no.mpr (by omega)) (fun i => lexLt2_no.mpr (by omega)) (fun i j h => by
        have a1 := lexLt2_iff.mp h
        exact lexLt2_no.mpr (by omega)) (its.toArray.size - 1)
    have hP' : its.toArray[argBest (fun i j => lexLt2 (k i) (k j)) (its.toArray.size - 1)]? = some v := hP
    rw [List.size_toArray] at hP' g1 g2
    rw [List.getElem?_toArray] at hP'
    obtain ⟨t, rfl, ex, _⟩ := tup _ v hP'
    have hk' : ∀ b o, s.heap.get? b = some o → h'.get? b = some o := fun b o e => by
      refine hk b o (fun hm => ?_) (k1 b o e)
      rcases List.mem_cons.mp hm with rfl | hm
      · exact absurd (Heap.lt_size e) (Nat.lt_irrefl _)
      · cases hm
    refine ⟨.ref t, H, I.kept hk', rfl, q _ t ((List.getElem?_eq_some_iff.mp ex).1) ex fun i hi => ?_⟩
    have a1 := lexLt2_no.mp (g2 i (by omega))
    omega
end

/-! ### sorted(d), int keys, any number of them -/
section
variable {X : Cx}
theorem cr_sortedDK (hcalm : X.calm = true) : CallR X (.builtin "sorted") (fun xs H Q => ∃ (a : Addr) (kvs : List (Key × V)) (ks : List Int), xs = [.ref a] ∧ Rd H a (.dK kvs) ∧ kvs.map (·.1) = ks.map Sum.inl ∧
    ∀ (ys : List Int) (p : Addr), ys.Perm ks → ys.Pairwise (· ≤ ·) → H p = none → Q (.ref p) (upd H p (.lst (ys.map V.int)))) := by
  intro pins s σ H xs us Q I r q
  obtain ⟨a, kvs, ks, ex, hd, hks, q⟩ := q
  subst ex
  obtain ⟨u, eu, rx⟩ := vals1 r
  subst eu
  cases rx
  obtain ⟨z, lo, vs, rel, dd⟩ := dk_rd I.hok hd
  obtain ⟨ep, hat⟩ := dd.dictAt
  have hkeys : vs.map (·.1) = ks.map Sum.inl := rel.keys.symm.trans hks
  have hl : vs.length = ks.length := by
    have e := congrArg List.length hkeys
    rw [List.length_map, List.length_map] at e
    exact e
  have h16 : vs.length ≤ sizeLine := by rw [← rel.length]; exact z
  refine Calls.call_function_entry PyProof.Rows.kind_sorted PyProof.Rows.plain_sorted PyProof.Rows.entry_sorted (PyProof.Rows.args_sorted1 _) ?_
  unfold Builtin.«sorted»
  refine wpAny_bind (m := checkCount "sorted" 1 1 _) (wpAny_pure ?_)
  refine wpAny_bind (PySem.W.kdu_collect (A := X.A.in1) (PySem.W.kdl_dict (knd := mixKind X.prog X.w) (kvs := vs) (ep := ep) lo) (I.ok.hd hcalm) hat h16 fun h' tk acc hk hacc => ?_)
  have hal : acc.toList.length = ks.length := by rw [Array.length_toList, hacc.1, hl]
  have hS : IntsAre acc.toList ks := ints_each hal fun j v e => by
    obtain ⟨k, x, e1, e2⟩ := hacc.2 j v (by rw [← Array.getElem?_toList]; exact e)
    have e3 : (vs.map (·.1))[j]? = some k := by rw [List.getElem?_map, e1]; rfl
    rw [hkeys, List.getElem?_map] at e3
    cases e4 : ks[j]? with
    | none => rw [e4] at e3; cases e3
    | some y =>
      rw [e4] at e3
      have e5 : Sum.inl y = k := Option.some.inj e3
      subst e5
      rcases keyIs_shape (show keyIs (Sum.inl y) v = true from e2) with ⟨i, t, ek, ev⟩ | ⟨z, t, ek, ev⟩
      · cases ek
        exact ⟨y, t, rfl, ev⟩
      · cases ek
  have I1 : Inv X pins σ H { s with heap := h', toks := tk } := I.kept hk
  have hline : acc.toList.length ≤ sizeLine := by rw [hal, ← hl]; exact h16
  refine wpAny_bind (wpAny_newList ?_ hline)
  have hoL : (h'.push (seqObj "list" acc.toList.toArray 0)).get? h'.objs.size = some (seqObj "list" acc.toList.toArray 0) := Heap.get?_push_size _ rfl
  show wpAny _ _ _ _ _ { s with heap := h'.push (seqObj "list" acc.toList.toArray 0), toks := tk }
  refine wpAny_bind (wpAny_holding (wpAny_call_entry PyProof.Rows.slot_list_sort ⟨_, hoL, rfl⟩ PyProof.Rows.entry_list_sort
    (SrtO.list_sort_ord (s := { s with heap := h'.push (seqObj "list" acc.toList.toArray 0), toks := tk }) SrtO.swo_int hoL hline (fun h2 => SrtO.ints_sortable hS h2) fun out g1 g2 => ⟨_, rfl, ?_⟩) (PyProof.Rows.args_list_sort _)))
  obtain ⟨k1, k2, k3⟩ := SrtO.ints_out hS g1 g2
  obtain ⟨e', he'⟩ := PyProof.Rows.sortedHeap_at (vs := acc.toList) (out := out.toArray) hoL
  have hlen : ((out.map SrtO.iv).map V.int).length ≤ sizeLine := by
    rw [List.length_map, k2.length_eq, ← hal]
    exact hline
  refine wpAny_pure ⟨_, rfl, .ref h'.objs.size, upd H h'.objs.size (.lst ((out.map SrtO.iv).map V.int)), I1.laid (t' := tk) (fun b u e => ?_) (Nat.le_refl _)
    (show ObjOk X.prog X.w _ _ _ (.lst ((out.map SrtO.iv).map V.int)) from ⟨hlen, out, e', vals_of_ints k1, he'⟩), rfl, q _ _ k2 k3 (I1.hok.fresh (Nat.le_refl _))⟩
  have hb : b < h'.objs.size := Heap.lt_size e
  rw [PyProof.Rows.sortedHeap_old (Nat.ne_of_lt hb) (by rw [size_push']; exact Nat.lt_succ_of_lt hb)]
  exact Heap.get?_push_of_some _ e

/-! ### list(d.values()) -/
variable {e : Expr} {p pos apos cpos : Pos} {te : TE}
def tListVals (te : TE) : TE := fun σ H Q => te σ H fun x H1 => ∃ d kvs, x = .ref d ∧ H1 d = some (.dK kvs) ∧ ∀ p, H1 p = none → Q (.ref p) (upd H1 p (.lst (kvs.map (·.2))))
theorem vals_kv : ∀ {kvs : List (Key × V)} {vs : List (Key × Value)}, KV kvs vs → Vals (kvs.map (·.2)) (vs.map (·.2))
  | _, _, .nil => .nil
  | _, _, .cons r t => .cons r.2 (vals_kv t)
theorem pe_listVals (hc : X.calm = true) (he : PE X e te) (hm : X.mg "list" = none) (hg : Gl X "list" := by rfl) (hv : bootBuiltins "list" = some (.type "list") := by decide +kernel) (hbase : attributeBase e "values" X.env (eval e X.env) = eval e X.env := by rfl) (hline : (apos.endLine == cpos.line) = true := by rfl)
    (hs : starEach [.Call (.Attribute e "values" apos) [] [] cpos] X.env = (false, eval (.Call (.Attribute e "values" apos) [] [] cpos) X.env) :: starEach [] X.env := by rfl) :
    PE X (.Call (.Name "list" p) [.Call (.Attribute e "values" apos) [] [] cpos] [] pos) (tListVals te) := by
  refine ⟨fun pins s σ H Q I hq => ?_⟩
  refine wpAny_Call_Name_kw (ld_blt I hg hm hv ?_)
  refine PyProof.Rows.callWith_type1 ?_ hs rfl
  rw [hs]
  show wpAny _ _ (spliced ((false, eval (.Call (.Attribute e "values" apos) [] [] cpos) X.env) :: backTo pos (starEach [] X.env))) _ _ s
  refine Calls.spliced_cons ?_
  refine wpAny_Call_method (T := "dict") (id := "dict.values") hbase rfl hline F.plainAttrs_dict F.slot_dict_values F.type_dict_values (thn (he.run pins s σ H _ I hq) fun u s1 ⟨x, H1, I1, rx, d, kvs, ex, hd, q⟩ => ?_)
  subst ex
  obtain rfl : u = Value.ref d := rx
  obtain ⟨hz, hs0, vs, kv, hdo⟩ := I1.hok d _ hd
  obtain ⟨ep, hat⟩ := hdo.dictAt
  have lk : kvs.length = vs.length := Paired.length kv
  have I2 : Inv X pins σ H1 { s1 with heap := s1.heap.push { cls := .type "dict_values", data := .fields #[.ref d] } } := I1.kept (t' := s1.toks) fun b ob q => Heap.get?_push_of_some _ q
  refine ⟨hdo.typeIs, hdo.mapOf.noDict, ?_⟩
  show wpAny _ _ (callWith cpos (.builtin "dict.values") [.ref d] [] []) _ X.xe s1
  refine method_meetsIn F.slot_dict_values F.entry_dict_values rfl (PySem.evalArgs_none ⟨rfl, hdo.typeIs, F.args_dict_values_1 _, _, meets_dict_values (mixKind X.prog X.w) d hs0, ⟨vs, hdo⟩, ?_⟩)
  refine Calls.spliced_nil ?_
  refine PySem.W.kdl_call (PySem.W.kdl_values (knd := mixKind X.prog X.w) (kvs := vs) (ep := ep)) (I1.ok.hd hc) ⟨⟨_, Heap.get?_push_size _ rfl, rfl, rfl⟩, hat.keep fun b u e => Heap.get?_push_of_some _ e⟩ (by omega) fun h' tk acc c hk hS hacc => ?_
  have eacc : acc.toList = vs.map (·.2) := PySem.W.kdl_vals_eq _ (by rw [Array.length_toList]; exact hacc.1) fun j v e => hacc.2 j v (by rw [← Array.getElem?_toList]; exact e)
  exact ⟨.ref _, upd H1 _ (.lst (kvs.map (·.2))), I2.laid hk (Nat.le_refl _) (show ObjOk X.prog X.w _ _ _ (.lst (kvs.map (·.2))) from ⟨by rw [List.length_map]; exact hz, acc.toList, c, by rw [eacc]; exact vals_kv kv, by rw [Array.toArray_toList]; exact hS⟩), rfl, q _ (I2.hok.fresh (Nat.le_refl _))⟩
end
end BB
/-! a def whose first statement is super().__init__(..) -/
namespace BB
open PySem PySem.Spec PyProof.Rows L2
open PySem.W (ksEnv ksFn)

/-- its context: the one free name is __class__ -/
def cxS (P : Program) (w : World) (K : PySem.W.Frag) (mg : Str → Option Value) (base : Heap) (N : List Str) (qual : Str) (scope : Scope) (f : Addr) (cd : Value) (cc : Addr) (A : Around) (outer : List Env) (s : Shared) (H : Hp) : Cx where
  prog := P
  w := w
  K := K
  mg := mg
  base := base
  A := A.deeper (ksEnv qual scope s.heap.objs.size f cd cc)
  N := N
  s_0 := s
  H_0 := H
  env := ksEnv qual scope s.heap.objs.size f cd cc
  outer := outer
  stack := ksEnv qual scope s.heap.objs.size f cd cc :: outer
  ex := []
  calm := true
  fn := fun _ => false
  pn := []
  xe := fun _ _ => False
/-- the names of such a def -/
structure SupScope (N P : List Str) (sc : Scope) : Prop where
  kind : sc.kind = .function
  co : sc.isCoroutine = false
  gen : sc.isGenerator = false
  nd : N.Nodup
  pre : N.take P.length = P
  par : ∀ x ∈ P, sc.names.lookup x = some .local
  one : ∀ y ∈ sc.names, y.2 = .cell ∨ y.2 = .free → y.1 = ("__class__" : Str)
  ncell : ∀ y ∈ sc.names, y.2 ≠ .cell
  sup : sc.names.lookup ("super" : Str) = some .globalImplicit
  cls : sc.names.lookup ("__class__" : Str) = some .free
section
variable {P : Program} {w : World} {K : PySem.W.Frag} {mg : Str → Option Value} {base : Heap} {N ps : List Str} {qual : Str} {scope : Scope} {f cc : Addr} {cd : Value} {A : Around} {outer : List Env} {s : Shared} {H : Hp} {us : List Value} {vs : List V}
theorem zip_rev_get {x : Str} {v : Value} : ∀ {ps : List Str} {us : List Value} {i : Nat}, ps.Nodup → ps[i]? = some x → us[i]? = some v → ps.length = us.length → (ps.zip us).reverse.lookup x = some v := by
  intro ps us i nd hp hu hl
  have mem : (x, v) ∈ (ps.zip us).reverse := by
    rw [List.mem_reverse]
    exact List.mem_of_getElem? (i := i) (by rw [List.getElem?_zip_eq_some]; exact ⟨hp, hu⟩)
  have uniq : ∀ v', (x, v') ∈ (ps.zip us).reverse → v' = v := by
    intro v' hm
    rw [List.mem_reverse] at hm
    obtain ⟨j, hj⟩ := List.getElem?_of_mem hm
    rw [List.getElem?_zip_eq_some] at hj
    have e : j = i := nodup_ix nd hj.1 hp
    subst e
    have := hj.2
    rw [hu] at this
    exact (Option.some.inj this).symm
  obtain ⟨c', hc⟩ := mem_lookup mem
  rw [hc, uniq c' (PySem.mem_of_lookup hc)]
theorem inv_sup {h₀ : Heap} {t : Nat} (S : SupScope N ps scope) (hd : A.handled = none) (e0 : Env0 P w K mg base A outer s H) (hl : vs.length = ps.length) (r : Vals vs us) {cl : Value} {cld : Option Addr} {csl : Array (Option Value)} {cv : Option Value} (hcell : K.lookup cc = some ⟨cl, cld, .cell cv, csl⟩)
    (hn : h₀.Ns s.heap.objs.size (fun x => (ps.zip us).reverse.lookup x)) (hk : ∀ b o, s.heap.get? b = some o → h₀.get? b = some o) :
    Inv (cxS P w K mg base N qual scope f cd cc A outer s H) [] (L2.start N vs) H { s with heap := h₀, toks := t } := by
  have hpl : ps.length ≤ N.length := by have := congrArg List.length S.pre; rw [List.length_take] at this; omega
  have noA : ∀ b : Addr, b ∉ (cxS P w K mg base N qual scope f cd cc A outer s H).ex := fun b z => absurd (show b ∈ ([] : List Addr) from z) (by simp)
  have one : ∀ y, (cxS P w K mg base N qual scope f cd cc A outer s H).env.kindOf y = some .cell ∨ (cxS P w K mg base N qual scope f cd cc A outer s H).env.kindOf y = some .free → y = ("__class__" : Str) := fun y hy => by
    have hy : scope.names.lookup y = some .cell ∨ scope.names.lookup y = some .free := hy
    rcases hy with hy | hy
    · exact S.one _ (PySem.mem_of_lookup hy) (.inl rfl)
    · exact S.one _ (PySem.mem_of_lookup hy) (.inr rfl)
  have cells : ∀ y c, (cxS P w K mg base N qual scope f cd cc A outer s H).env.cells.lookup y = some c → y = ("__class__" : Str) ∧ c = cc := fun y c h => by
    have h' : List.lookup y [(("__class__" : Str), cc)] = some c := h
    have m := PySem.mem_of_lookup h'
    simp only [List.mem_singleton, Prod.mk.injEq] at m
    exact m
  have hbase : base.get? cc = some ⟨cl, cld, .cell cv, csl⟩ := e0.mod.kin _ _ hcell
  obtain ⟨hs, hH⟩ := e0.bs _ _ hbase
  refine ⟨⟨e0.mod, S.kind, rfl, rfl, Nat.le_refl _, fun y z c h1 h2 => ?_, fun y hy => ?_, fun y c hf _ => ?_, fun _ => hd, Around.frames_deeper e0.frames, .inr ⟨rfl, rfl⟩, fun b z => absurd z (noA b), e0.bs, e0.bsz, fun b _ _ => noA b, fun b z => absurd z (noA b), e0.funs, e0.frf⟩,
    rfl, e0.bare, Un.kept hk, ⟨_, hn, fun i y v h1 h2 h3 => ?_⟩, fun y c h => ?_, e0.hok.fresh (Nat.le_refl _), fun y c h => ?_, fun p hp => absurd (show p ∈ ([] : List (Addr × Obj)) from hp) (by simp), e0.hok.kept hk, ?_⟩
  · rw [(cells y c h1).1, (cells z c h2).1]
  · rw [one y hy]
    exact ⟨cc, by show List.lookup _ [(_, cc)] = _; simp⟩
  · exact absurd hf (by show ¬ (false = true); decide)
  · have hi : i < vs.length := by
      unfold L2.start at h2
      by_cases hi : i < vs.length
      · exact hi
      · rw [List.getElem?_append_right (by simpa using hi)] at h2
        rw [List.getElem?_replicate] at h2
        split at h2 <;> cases h2
    have ha : vs[i]? = some v := by
      unfold L2.start at h2
      rw [List.getElem?_append_left (by simpa using hi), List.getElem?_map] at h2
      cases e : vs[i]? with
      | none => rw [e] at h2; cases h2
      | some a => rw [e] at h2; cases h2; rfl
    obtain ⟨u, hu, rv⟩ := r.get ha
    have hp : ps[i]? = some y := by
      rw [← S.pre, List.getElem?_take_of_lt (by omega)]; exact h1
    have ndP : ps.Nodup := by rw [← S.pre]; exact S.nd.sublist (List.take_sublist _ _)
    exact ⟨u, rv, .inl ⟨S.par y (List.mem_of_getElem? hp), zip_rev_get ndP hp hu (by rw [← hl, r.length])⟩⟩
  · obtain ⟨_, rfl⟩ := cells y c h
    exact ⟨cv, ⟨_, hk _ _ hs, rfl⟩⟩
  · obtain ⟨_, rfl⟩ := cells y c h
    exact hH
  · unfold L2.start
    show _ = N.length
    rw [List.length_append, List.length_map, List.length_replicate]
    omega
end
/-- what of the text such a def must have -/
structure SupF (P : Program) (K : PySem.W.Frag) (x qual : Str) (params : Arguments) (body : List Stmt) (scope : Scope) (dvs : List V) (kws : List (Str × V)) (f D cc : Addr) (fd : FuncData) : Prop where
  ex : ∃ (oc : Value) (od : Option Addr) (dV kV doc pm : Value) (an : Option Addr) (cda : Addr) (ct : Value) (osl : Array (Option Value)) (ccl : Value) (cdd : Option Addr) (cvs : Array Value) (ccs : Array (Option Value)) (file : Str) (tf : Tok),
    fd = ksFn x qual params body scope dV kV doc pm an (.ref cda) ct cc ∧ K.lookup f = some ⟨oc, od, .func fd, osl⟩ ∧ PySem.W.codeIn K (.ref cda) qual = true ∧ DflV K dV dvs ∧ KwdV K kV kws ∧
    K.lookup cda = some ⟨ccl, cdd, .fields cvs, ccs⟩ ∧ cvs[2]? = some (.str file tf) ∧ ((P.main.file : Str) == file) = true
  cell : ∃ (cl : Value) (cld : Option Addr) (csl : Array (Option Value)), K.lookup cc = some ⟨cl, cld, .cell (some (.ref D)), csl⟩
  cls : ∃ cdD, PySem.W.clsIn K D = some cdD
  sub : PySem.W.mroIn K D (.ref D) = some true
  sup : PySem.W.nsIn K mainGlobals "super" = some none
  nop : PySem.W.nsIn K cStatics "thirdparty.any" = some none
  kp : PySem.W.keepIn K (.ref f) = true
section
variable {M : Model} {A : Around} {E : Value → Shared → Prop} {s : Shared} {env : Env} {c : Code}
theorem wpAt_MethodCallK {o : Expr} {name : Str} {apos pos : Pos} {args : List Expr} {kws : List Keyword} {pl : Sem Bool} {Q : Value → Shared → Prop}
    (h : PySem.wpAt M A c (attributeBase o name env (eval o env)) (fun ov s₁ => wpAny M A (getMethod ov name pl) (fun fx s₂ => wpAny M A (callWith pos fx.1 fx.2 (backTo pos (starEach args env)) (backToKw pos (keywordEach kws env))) Q E s₂) E s₁) E s)
    (he : eval (.Call (.Attribute o name apos) args kws pos) env = (do
      let ov ← attributeBase o name env (eval o env)
      standAt apos.atName
      let (f, first) ← holding [ov] (getMethod ov name pl)
      callWith pos f first (backTo pos (starEach args env)) (backToKw pos (keywordEach kws env))) := by rfl) :
    PySem.wpAt M A c (eval (.Call (.Attribute o name apos) args kws pos) env) Q E s := by
  rw [he]
  refine PySem.wpAt_bind (PySem.ks_wpAt_mono h (fun ov s₁ h₁ => PySem.wpAt_of_wpAny (wpAny_bind (wpAny_standAt (wpAny_bind (wpAny_holding (wpAny_mono h₁ (fun fx s₂ h₂ => ?_) fun _ _ x => x)))))) fun _ _ x => x)
  exact h₂
end
section
variable {P : Program} {w : World} {K : PySem.W.Frag} {mg : Str → Option Value} {base : Heap}
/-- THE RULE for such a def -/
theorem fn_sup {x qual : Str} {params : Arguments} {rest : List Stmt} {scope : Scope} {dvs : List V} {kwd : List (Str × V)} {f D cc f2 : Addr} {fd fd2 : FuncData} {N ps ps2 ks : List Str} {k n : Nat} {sp sp2 : Sp} {p0 p1 apos pos spos : Pos} {e : Expr} {es : List Expr} {kws : List Keyword}
    {g : List Value → List Value → List Value} {gV : List V → List V → List V}
    (F : SupF P K x qual params (.Expr (.Call (.Attribute (.Call (.Name "super" p0) [] [] p1) "__init__" apos) (e :: es) kws pos) spos :: rest) scope dvs kwd f D cc fd) (S : SupScope N ps scope)
    (hp : ((params.posonlyargs ++ params.args).head?.map (·.arg)) = ps.head?) (hbt : (P.main.scope.names.lookup ("super" : Str)).isSome = false)
    (G : FnOk P w K mg base CX0 k f2 fd2 ps2 sp2) (hfi : PySem.W.fnIn K f2 = true) (hm : PySem.W.ks_superIn K D D "__init__" = some (some (.ref f2))) (hty : PySem.W.typeIn K (.ref f2) = some (.type "function")) (hb : KBn K fd2 ps2 (n + 1) ks g gV)
    (len : ∀ vs H Q E, sp vs H Q E → vs.length = ps.length)
    (hbody : ∀ (cdv : Value) (A : Around) (outer : List Env) (s : Shared) (H : Hp) (vs : List V) (Q : VK) (E : XK), Room k (A.deeper (ksEnv qual scope s.heap.objs.size f cdv cc)) → sp vs H Q E →
      ∃ (y : Addr) (dx : Addr) (fs : List (Str × V)) (tA tK : TA) (t : TS), vs.head? = some (.ref y) ∧ H y = some (.ins D dx fs) ∧ PA (cxS P w K mg base N qual scope f cdv cc A outer s H) (e :: es) tA ∧ PK (cxS P w K mg base N qual scope f cdv cc A outer s H) kws tK ∧
        PSs (cxS P w K mg base N qual scope f cdv cc A outer s H) rest t ∧
        tA (L2.start N vs) H fun zs H1 => tK (L2.start N vs) H1 fun ws H2 => zs.length = n ∧ ws.length = ks.length ∧ sp2 (gV (.ref y :: zs) ws) H2 (fun _ H3 => t { nx := fun _ H' => Q .non H', rt := Q } (L2.start N vs) H3) E0)
    (hks : ∀ (cdv : Value) (L : Addr), (backToKw pos (keywordEach kws (ksEnv qual scope L f cdv cc))).filterMap (·.1) = ks)
    (hall : ∀ (cdv : Value) (L : Addr), (backToKw pos (keywordEach kws (ksEnv qual scope L f cdv cc))).all (·.1.isSome) = true)
    (hpl : ∀ (cdv : Value) (L : Addr), ((backTo pos (starEach (e :: es) (ksEnv qual scope L f cdv cc))).any (·.1) || (backToKw pos (keywordEach kws (ksEnv qual scope L f cdv cc))).any (·.1.isNone)) = false)
    (he : ∀ (cdv : Value) (L : Addr), starEach (e :: es) (ksEnv qual scope L f cdv cc) = (false, eval e (ksEnv qual scope L f cdv cc)) :: starEach es (ksEnv qual scope L f cdv cc))
    (hsw : ∀ (cdv : Value) (L : Addr), swapsWith (.Call (.Attribute (.Call (.Name "super" p0) [] [] p1) "__init__" apos) (e :: es) kws pos) none spos.line (ksEnv qual scope L f cdv cc) = pure false)
    {pl : Sem Bool} (hev : ∀ (cdv : Value) (L : Addr), eval (.Call (.Attribute (.Call (.Name "super" p0) [] [] p1) "__init__" apos) (e :: es) kws pos) (ksEnv qual scope L f cdv cc) = (do
      let ov ← attributeBase (.Call (.Name "super" p0) [] [] p1) "__init__" (ksEnv qual scope L f cdv cc) (eval (.Call (.Name "super" p0) [] [] p1) (ksEnv qual scope L f cdv cc))
      standAt apos.atName
      let (fv, first) ← holding [ov] (getMethod ov "__init__" pl)
      callWith pos fv first (backTo pos (starEach (e :: es) (ksEnv qual scope L f cdv cc))) (backToKw pos (keywordEach kws (ksEnv qual scope L f cdv cc))))) :
    FnOk P w K mg base CX0 (k + 1) f fd ps sp := by
  obtain ⟨oc, od, dV, kV, doc, pm, an, cda, ct, osl, ccl, cdd, cvs, ccs, file, tf, rfl, lk, hcd, _, _, lcda, hvs, hfile⟩ := F.ex
  obtain ⟨cl, cld, csl, lcc⟩ := F.cell
  obtain ⟨cdD, hD⟩ := F.cls
  refine ⟨len, fun A outer s H args us vs Q E hr e0 hbd r hsp => ?_⟩
  have hl := len _ _ _ _ hsp
  have KX : K.In s.heap := e0.mod.kin.keeps fun b o q => (e0.bs b o q).1
  have lim : s.heap.NoLimit := e0.mod.nolimit.keeps fun b o q => (e0.bs b o q).1
  refine PySem.ks_codeAny_call_defAt (fd := ksFn x qual params _ scope dV kV doc pm an (.ref cda) ct cc) (binds := ps.zip us) hr.depth (KX _ _ lk) rfl lim (PySem.W.codeRec_of KX hcd) rfl hbd S.ncell (fun y hy => S.par _ (List.of_mem_zip hy).1) (fun h₀ hns hk => ?_) S.co S.gen S.kind
  obtain ⟨y, dx, fs, tA, tK, t, hv0, hy, hPA, hPK, hPS, hq⟩ := hbody (.ref cda) A outer s H vs Q E (hr.deeper _) hsp
  have I : Inv (cxS P w K mg base N qual scope f (.ref cda) cc A outer s H) [] (L2.start N vs) H { s with heap := h₀, toks := s.toks + (ps.zip us).length } := inv_sup S hr.hd e0 hl r lcc hns hk
  -- the first parameter
  obtain ⟨ar, har, hpn⟩ : ∃ ar : Arg, (params.posonlyargs ++ params.args).head? = some ar ∧ ps.head? = some ar.arg := by
    cases q : (params.posonlyargs ++ params.args).head? with
    | none =>
      rw [q] at hp
      cases hps : ps with
      | nil =>
        rw [hps] at hl
        cases vs with
        | nil => cases hv0
        | cons _ _ => cases hl
      | cons _ _ => rw [hps] at hp; cases hp
    | some ar => rw [q] at hp; exact ⟨ar, rfl, hp.symm⟩
  have hp0 : ps[0]? = some ar.arg := by rw [← List.head?_eq_getElem?]; exact hpn
  have hu0 : us[0]? = some (.ref y) := by
    obtain ⟨u, e1, e2⟩ := r.get (i := 0) (x := .ref y) (by rw [← List.head?_eq_getElem?]; exact hv0)
    rw [e1]
    exact congrArg some e2
  have ndP : ps.Nodup := by rw [← S.pre]; exact S.nd.sublist (List.take_sublist _ _)
  have hself : (fun z => (ps.zip us).reverse.lookup z) ar.arg = some (.ref y) := zip_rev_get ndP hp0 hu0 (by rw [← hl, r.length])
  obtain ⟨odx, J⟩ := ins_inst I hy
  have I0 := I
  have KX0 : K.In h₀ := I.kIn
  obtain ⟨oD, hD1, hD2⟩ : ∃ oD, h₀.get? D = some oD ∧ oD.data = .cls cdD := by
    unfold PySem.W.clsIn at hD
    split at hD
    · rename_i c d cd' sl ho
      cases hD
      exact ⟨_, KX0 _ _ ho, rfl⟩
    · cases hD
  have hbl : ∃ mb, h₀.Ns builtinsNs mb ∧ mb ("super" : Str) = some (.type "super") := by
    obtain ⟨mb, h1, h2⟩ := I.mod.blt
    exact ⟨mb, h1.keeps I.bk, (h2 "super" (by decide +kernel)).trans (by decide +kernel)⟩
  obtain ⟨mb, hmb, hmbs⟩ := hbl
  refine PySem.ks_wpAt_mono (Q := SP (cxS P w K mg base N qual scope f (.ref cda) cc A outer s H) [] { nx := fun _ H' => Q .non H', rt := Q }) (E := fun _ _ => False) ?_ (fun fl s' hs => ?_) fun _ _ z => z.elim
  · refine PySem.ks_wpAt_execs_cons (PySem.ks_wpAt_Expr_any (wpAt_MethodCallK (pl := pl) ?_ (hev _ _)) I.quiet (hsw _ _))
    refine PySem.ks_wpAt_super_base (env := ksEnv qual scope s.heap.objs.size f (.ref cda) cc) S.sup S.cls (by decide +kernel) rfl (KX0 _ _ lk) rfl har rfl (KX0 _ _ lcda) rfl hvs hfile hbt ?_
    refine PySem.W.ks_loadName_global S.kind S.sup (PySem.Calls.loadGlobal_builtin (env := ksEnv qual scope s.heap.objs.size f (.ref cda) cc) (I.mod.glob.keeps I.bk) (PySem.W.mg_none_of I.mod.kin I.mod.glob F.sup) hmb hmbs ⟨rfl, ?_⟩)
    refine wpAny_loadName_free S.kind S.cls rfl ⟨_, KX0 _ _ lcc, rfl⟩ ?_
    refine wpAny_loadName_local S.kind (S.par _ (List.mem_of_getElem? hp0)) hns hself ?_
    refine PySem.ks_wpAny_isType_cls hD1 hD2 ⟨rfl, ?_⟩
    refine PySem.ks_wpAny_call_super hD1 hD2 J.at_ J.cls (fun c e => ?_) (PySem.W.looks_mroIn KX0 F.sub) (fun h' e1 k1 => ?_)
    · have := J.no
      unfold PySem.W.notCls at this
      rw [e] at this
      exact Bool.noConfusion this
    have I1 : Inv (cxS P w K mg base N qual scope f (.ref cda) cc A outer s H) [] (L2.start N vs) H { s with heap := h', toks := s.toks + (ps.zip us).length } := I.kept (h' := h') (t' := s.toks + (ps.zip us).length) k1
    have KX1 : K.In h' := I1.kIn
    -- the bound method
    obtain ⟨of, hof, hofc⟩ : ∃ of, h'.get? f2 = some of ∧ of.cls = .type "function" := by
      have ht' : (K.lookup f2).map (·.cls) = some (.type "function") := hty
      cases z : K.lookup f2 with
      | none => rw [z] at ht'; cases ht'
      | some of => rw [z] at ht'; exact ⟨of, KX1 _ _ z, Option.some.inj ht'⟩
    have hm' : PySem.W.alongIn K "__init__" ((cdD.mro.dropWhile (· != .ref D)).drop 1) = some (some (.ref f2)) := by
      have q := hm
      unfold PySem.W.ks_superIn at q
      rw [hD] at q
      exact q
    refine PySem.ks_wpAny_getMethod_super e1 (PySem.W.looks_opaque KX1 F.nop) (l₀ := cdD.mro) (fun A Q E s k q => wpAny_bind ((PySem.W.looks_clsIn KX1 hD) A _ E s k (wpAny_pure q))) rfl KX1 hm' hof hofc (PySem.W.ks_ne KX0 J hD) (by decide +kernel) ?_
    have I2 := ClX.pin_new (o := PySem.W.methodObj (.ref f2) (.ref y)) (h' := h'.push (PySem.W.methodObj (.ref f2) (.ref y))) (a := h'.objs.size) (t' := s.toks + (ps.zip us).length + 1) I1 (fun b u q => Heap.get?_push_of_some _ q) (Nat.le_refl _) (Heap.get?_push_size _ rfl) (fun v q => by cases q)
    refine PySem.W.callWith_of (P := PySem.W.MethP K h'.objs.size f2 (.ref y)) (hpl _ _) (PySem.W.keeps_M hfi) (evalArgs_kw2 (hall _ _) ?_ (he _ _))
    refine thn (hPA.run pos _ _ _ _ _ I2 hq) fun zs' s3 ⟨zs, H3, I3, rz, q3⟩ => ?_
    refine thn (hPK.run pos _ _ _ _ _ I3 q3) fun ws' s4 ⟨ws, H4, I4, rw_, l1, l2, q4⟩ => ⟨⟨ClX.pin_at I4, I4.kIn⟩, ?_⟩
    rw [show (backToKw pos (keywordEach kws (callEnv (ksFn x qual params (.Expr (.Call (.Attribute (.Call (.Name "super" p0) [] [] p1) "__init__" apos) (e :: es) kws pos) spos :: rest) scope dV kV doc pm an (.ref cda) ct cc) s.heap.objs.size f))).filterMap (·.1) = ks from hks _ _]
    refine wpAny_call (PySem.W.method_call (ClX.pin_at I4) ?_)
    have nz : (Value.ref y :: zs').length = n + 1 := by rw [List.length_cons, ← rz.length, l1]
    refine codeAny_mono (G.run _ (ksEnv qual scope s.heap.objs.size f (.ref cda) cc :: outer) _ _ ⟨Value.ref y :: zs', ks.zip ws'⟩ (g (Value.ref y :: zs') ws') _ _ E0 (hr.deeper _) I4.env0 (hb.to _ (Value.ref y :: zs') ws' I4.kIn nz (rw_.length.symm.trans l2)) (hb.rel (.cons (show L2.RelV (V.ref y) (Value.ref y) from rfl) rz) rw_) q4) fun rr s' hq' => ?_
    cases rr with
    | error er => exact hq'.elim
    | ok fl =>
      cases fl with
      | ret u =>
        obtain ⟨v, H', I5, rv, q5⟩ := I4.after hq'
        exact PySem.wpAt_of_wpAny (hPS.run [] s' _ H' _ (ClX.unpin I5) q5)
      | next => exact False.elim hq'
      | brk => exact False.elim hq'
      | cont => exact False.elim hq'
  · have fin : ∀ {σ' : L2.St} {H' : Hp} {v : V} {u : Value}, Inv (cxS P w K mg base N qual scope f (.ref cda) cc A outer s H) [] σ' H' s' → RelV v u → Q v H' → CE outer P w H s Q u s' :=
      fun {σ' H' v u} J rv q => ⟨v, H', J.os, J.bare, J.base, J.hok, rv, q⟩
    cases fl with
    | ret u =>
      obtain ⟨v, σ', H', J, rv, q⟩ := hs
      exact fin J rv q
    | next =>
      obtain ⟨σ', H', J, q⟩ := hs
      exact fin (v := V.non) (u := Value.none) J rfl q
    | brk =>
      obtain ⟨_, _, _, q⟩ := hs
      exact False.elim q
    | cont =>
      obtain ⟨_, _, _, q⟩ := hs
      exact False.elim q
end
end BB
/-! the head's Hook: facts, defs, defs that say super(), tables, Bools -/
namespace BB
open PySem PySem.Spec PyProof.Rows L2 He
open PySem.W (ksEnv ksFn)
/-! ### defs at an address of one's own: property getters, defs that say super() -/
abbrev FnS : Type := Option (Str × Str × Arguments × FuncBody × Scope × Addr × List Str × Addr)
def fnS (K : PySem.W.Frag) (a : Addr) : FnS := match K.lookup a with
  | some ⟨_, _, .func fd, _⟩ => some (fd.name, fd.qualname, fd.params, fd.body, fd.scope, fd.globals, fd.closure.map (·.1), fd.builtins)
  | _ => none
structure DefA where
  d : DefD
  ad : PySem.W.Frag → Addr
  cl : List Str
def DefA.val (d : DefA) : FnS := some (d.d.name, d.d.qual, d.d.params, .stmts d.d.body, d.d.scope, mainGlobals, d.cl, builtinsNs)
/-- the getter of the property m of the class x -/
def getAd (x m : Str) (K : PySem.W.Frag) : Addr := match PySem.W.recIn K (ma K (ga K x) m) "property" with
  | some (.ref g :: _) => g
  | _ => 0
def getB (K : PySem.W.Frag) (d : DefA) : Bool := PySem.W.keepIn K (.ref (d.ad K)) && (match K.lookup (d.ad K) with
  | some ⟨_, _, .func fd, _⟩ => PySem.W.codeIn K fd.code d.d.qual && (dflB K fd.defaults (d.d.dvs K) && kwdB K fd.kwdefaults (d.d.kws K))
  | _ => false)
theorem get_ok {K : PySem.W.Frag} {d : DefA} (e : fnS K (d.ad K) = d.val) (hcl : d.cl = []) (c : getB K d = true) : ∃ fd, FunD K d.d.name d.d.qual d.d.params d.d.body d.d.scope (d.d.dvs K) (d.d.kws K) (d.ad K) fd := by
  obtain ⟨c1, c2⟩ := ba c
  unfold fnS DefA.val at e
  rw [hcl] at e
  cases q : K.lookup (d.ad K) with
  | none =>
    rw [q] at c2
    cases c2
  | some o =>
    obtain ⟨oc, od, dt, osl⟩ := o
    rw [q] at c2 e
    cases dt with
    | func fd =>
      obtain ⟨n1, n2, n3, n4, n5, n6, n7, n8, n9, n10, n11, n12, n13, n14, n15⟩ := fd
      have e2 : (some (n1, n2, n3, n4, n5, n6, n7.map (·.1), n15) : FnS) = some (d.d.name, d.d.qual, d.d.params, FuncBody.stmts d.d.body, d.d.scope, mainGlobals, [], builtinsNs) := e
      simp only [Option.some.injEq, Prod.mk.injEq, List.map_eq_nil_iff] at e2
      obtain ⟨h1, h2, h3, h4, h5, h6, h7, h8⟩ := e2
      subst h1 h2 h3 h4 h5 h6 h7 h8
      have c3 : (PySem.W.codeIn K n13 d.d.qual && (dflB K n8 (d.d.dvs K) && kwdB K n9 (d.d.kws K))) = true := c2
      obtain ⟨k1, k2⟩ := ba c3
      obtain ⟨k3, k4⟩ := ba k2
      exact ⟨_, ⟨⟨oc, od, n8, n9, n10, n11, n12, n13, n14, osl, rfl, q, k1, dflB_ok k3, kwdB_ok k4⟩, c1⟩⟩
    | _ => cases c2
/-- the cell of its class, its class -/
def ccAd (K : PySem.W.Frag) (p : Str × Option Str) : Addr := match K.lookup (fAd K p) with
  | some ⟨_, _, .func fd, _⟩ => (match fd.closure with
    | [(_, c)] => c
    | _ => 0)
  | _ => 0
def codeFile (K : PySem.W.Frag) (cd : Value) (file : Str) : Bool := match cd with
  | .ref cda => (match K.lookup cda with
    | some ⟨_, _, .fields cvs, _⟩ => (match (cvs[2]? : Option Value) with
      | some (.str f _) => file == f
      | _ => false)
    | _ => false)
  | _ => false
def cellB (K : PySem.W.Frag) (cc D : Addr) : Bool := match K.lookup cc with
  | some ⟨_, _, .cell (some (.ref E)), _⟩ => decide (E = D)
  | _ => false
theorem cellB_ok {K : PySem.W.Frag} {cc D : Addr} (h : cellB K cc D = true) : ∃ (cl : Value) (cld : Option Addr) (csl : Array (Option Value)), K.lookup cc = some ⟨cl, cld, .cell (some (.ref D)), csl⟩ := by
  unfold cellB at h
  split at h
  · rename_i a b E c q
    rw [of_decide_eq_true h] at q
    exact ⟨_, _, _, q⟩
  · cases h
def supB (K : PySem.W.Frag) (file : Str) (d : DefD) : Bool := (match K.lookup (fAd K d.at_) with
  | some ⟨_, _, .func fd, _⟩ => PySem.W.codeIn K fd.code d.qual && (dflB K fd.defaults (d.dvs K) && (kwdB K fd.kwdefaults (d.kws K) && codeFile K fd.code file))
  | _ => false) && (cellB K (ccAd K d.at_) (ga K d.at_.1) && ((PySem.W.clsIn K (ga K d.at_.1)).isSome && (decide (PySem.W.mroIn K (ga K d.at_.1) (.ref (ga K d.at_.1)) = some true) && (eqO (PySem.W.nsIn K mainGlobals "super") (some none) &&
    (eqO (PySem.W.nsIn K cStatics "thirdparty.any") (some none) && PySem.W.keepIn K (.ref (fAd K d.at_)))))))
theorem codeFile_ok {K : PySem.W.Frag} {cd : Value} {file : Str} (h : codeFile K cd file = true) : ∃ (cda : Addr) (ccl : Value) (cdd : Option Addr) (cvs : Array Value) (ccs : Array (Option Value)) (f : Str) (tf : Tok), cd = .ref cda ∧
    K.lookup cda = some ⟨ccl, cdd, .fields cvs, ccs⟩ ∧ cvs[2]? = some (.str f tf) ∧ (file == f) = true := by
  unfold codeFile at h
  split at h
  · split at h
    · split at h
      · exact ⟨_, _, _, _, _, _, _, rfl, by assumption, by assumption, h⟩
      · cases h
    · cases h
  · cases h
theorem sup_ok {P : Program} {K : PySem.W.Frag} {d : DefD} (e : fnS K (fAd K d.at_) = DefA.val ⟨d, fun K => fAd K d.at_, ["__class__"]⟩) (c : supB K P.main.file d = true) :
    ∃ fd, SupF P K d.name d.qual d.params d.body d.scope (d.dvs K) (d.kws K) (fAd K d.at_) (ga K d.at_.1) (ccAd K d.at_) fd := by
  obtain ⟨c1, c⟩ := ba c
  obtain ⟨c2, c⟩ := ba c
  obtain ⟨c3, c⟩ := ba c
  obtain ⟨c4, c⟩ := ba c
  obtain ⟨c5, c⟩ := ba c
  obtain ⟨c6, c7⟩ := ba c
  unfold fnS at e
  cases q : K.lookup (fAd K d.at_) with
  | none =>
    rw [q] at c1
    cases c1
  | some o =>
    obtain ⟨oc, od, dt, osl⟩ := o
    rw [q] at c1 e
    cases dt with
    | func fd =>
      have ecc : ccAd K d.at_ = (match fd.closure with
        | [(_, c)] => c
        | _ => 0) := by
        unfold ccAd
        rw [q]
      obtain ⟨n1, n2, n3, n4, n5, n6, n7, n8, n9, n10, n11, n12, n13, n14, n15⟩ := fd
      have e2 : (some (n1, n2, n3, n4, n5, n6, n7.map (·.1), n15) : FnS) = some (d.name, d.qual, d.params, FuncBody.stmts d.body, d.scope, mainGlobals, [("__class__" : Str)], builtinsNs) := e
      simp only [Option.some.injEq, Prod.mk.injEq] at e2
      obtain ⟨h1, h2, h3, h4, h5, h6, h7, h8⟩ := e2
      subst h1 h2 h3 h4 h5 h6 h8
      have e7 : n7 = [(("__class__" : Str), ccAd K d.at_)] := by
        rw [ecc]
        match n7, h7 with
        | [(a, b)], h7 =>
          have h8 : ([a] : List Str) = [("__class__" : Str)] := h7
          injection h8 with h9 _
          rw [h9]
      have c3' : (PySem.W.codeIn K n13 d.qual && (dflB K n8 (d.dvs K) && (kwdB K n9 (d.kws K) && codeFile K n13 P.main.file))) = true := c1
      obtain ⟨k1, k2⟩ := ba c3'
      obtain ⟨k3, k4⟩ := ba k2
      obtain ⟨k5, k6⟩ := ba k4
      obtain ⟨cda, ccl, cdd, cvs, ccs, f, tf, rfl, g1, g2, g3⟩ := codeFile_ok k6
      exact ⟨_, ⟨⟨oc, od, n8, n9, n10, n11, n12, cda, n14, osl, ccl, cdd, cvs, ccs, f, tf, by rw [e7], q, k1, dflB_ok k3, kwdB_ok k5, g1, g2, g3⟩, cellB_ok c2, Option.isSome_iff_exists.mp c3, of_decide_eq_true c4, eqO_ok c5, eqO_ok c6, c7⟩⟩
    | _ => cases c1
/-! ### an exception class with an own __init__ -/
def oexB (K : PySem.W.Frag) (C : Addr) : Bool := match K.lookup C with
  | some ⟨.type "type", _, .cls cd, sl⟩ => (match cd.mro, sl.toList with
    | .ref C' :: bm, [_, _, _, _, some (.builtin n), _] => C' == C && n == "ValueError.__new__" && !cd.hasDel && cd.hasDict && HandSPX.refsVE bm
    | _, _ => false)
  | _ => false
theorem oex_of {K : PySem.W.Frag} {C : Addr} (h : oexB K C = true) (h1 : PySem.W.findIn K (.ref C) "__setattr__" = some (some (.builtin "object.__setattr__"))) (h2 : PySem.W.subIn K (.ref C) (.type "BaseException") = some true) (h3 : PySem.W.typeIn K (.ref C) = some (.type "type"))
    (h4 : PySem.W.keepIn K (.ref C) = true) : OexC K C := by
  refine ⟨?_, h1, h2, h3, h4⟩
  unfold oexB at h
  split at h
  · rename_i dd cd sl ho
    split at h
    · rename_i C' bm k0 k1 k2 k3 n k5 hm hs
      simp only [Bool.and_eq_true, beq_iff_eq, Bool.not_eq_true'] at h
      obtain ⟨⟨⟨⟨rfl, rfl⟩, hdel⟩, hdct⟩, hve⟩ := h
      obtain ⟨nm, bs, mro, ns, qn, hd, sn, sub, ab, col, del⟩ := cd
      dsimp only at hm hdel hdct hve
      subst hm hdel hdct
      have hsl : sl = #[k0, k1, k2, k3, some (.builtin "ValueError.__new__"), k5] := by
        obtain ⟨l⟩ := sl
        simp only at hs
        rw [hs]
      subst hsl
      exact ⟨nm, qn, ns, bs, bm, sn, sub, ab, col, dd, k0, k1, k2, k3, k5, ho, hve⟩
    · cases h
  · cases h
/-! ### the Hook -/
abbrev AlB : Type := AlT × Bool × List FnS
def asB (g : Addr → Option Obj) (n : Nat) : List Addr := asD g n ++ [cStatics]
def obsB (fa : List Fa) (fn : List DefD) (ts : List Tab) (fs : List DefA) (ex : List (PySem.W.Frag → Bool)) (K : PySem.W.Frag) : AlB := (obsT fa fn ts K, ex.all fun f => f K, fs.map fun d => fnS K (d.ad K))
def valB (fn : List DefD) (ts : List Tab) (fs : List DefA) (w : World) : AlB := (valT fn ts w, true, fs.map DefA.val)
def SaysB (fa : List Fa) (fn : List DefD) (ts : List Tab) (fs : List DefA) (ex : List (PySem.W.Frag → Bool)) (w : World) (K : PySem.W.Frag) : Prop := obsB fa fn ts fs ex K = valB fn ts fs w
def obsBG (n : Nat) (fa : List Fa) (fn : List DefD) (ts : List Tab) (fs : List DefA) (ex : List (PySem.W.Frag → Bool)) (g : Addr → Option Obj) : AlB := obsB fa fn ts fs ex (frG g (asB g n))
def hookB (n : Nat) (fa : List Fa) (fn : List DefD) (ts : List Tab) (fs : List DefA) (ex : List (PySem.W.Frag → Bool)) : PySem.W.Hook where
  α := AlB
  obs := fun s => obsBG n fa fn ts fs ex s.heap.get?
  val := fun w => valB fn ts fs w
  says := fun w h => ∃ K : PySem.W.Frag, K.In h ∧ SaysB fa fn ts fs ex w K
  of := fun _ _ e => ⟨_, frG_in, e⟩
  keeps := fun _ _ _ ⟨K, hK, c⟩ k => ⟨K, PySem.W.Frag.In.keeps hK k, c⟩
theorem obsBG_eq {n : Nat} {fa : List Fa} {fn : List DefD} {ts : List Tab} {fs : List DefA} {ex : List (PySem.W.Frag → Bool)} {g : Addr → Option Obj} {s : Shared} (h : ∀ a, g a = s.heap.get? a) : obsBG n fa fn ts fs ex g = (hookB n fa fn ts fs ex).obs s := by
  have e : g = s.heap.get? := funext h
  rw [e] <;> rfl
section
variable {fa : List Fa} {fn : List DefD} {ts : List Tab} {fs : List DefA} {ex : List (PySem.W.Frag → Bool)} {w : World} {K : PySem.W.Frag}
theorem SaysB.t (c : SaysB fa fn ts fs ex w K) : SaysT fa fn ts w K := congrArg (fun z : AlB => z.1) c
theorem SaysB.d (c : SaysB fa fn ts fs ex w K) : SaysD fa fn K := c.t.d
theorem SaysB.more (c : SaysB fa fn ts fs ex w K) (i : Nat) {f : PySem.W.Frag → Bool} (h : ex[i]? = some f := by rfl) : f K = true := by
  have c1 : (ex.all fun f => f K) = true := congrArg (fun z : AlB => z.2.1) c
  exact List.all_eq_true.mp c1 f (List.mem_of_getElem? h)
theorem SaysB.sup (c : SaysB fa fn ts fs ex w K) (i : Nat) {d : DefA} (h : fs[i]? = some d := by rfl) : fnS K (d.ad K) = d.val := by
  have e : (fs.map fun d => fnS K (d.ad K)) = fs.map DefA.val := congrArg (fun z : AlB => z.2.2) c
  have e2 : (fs.map fun d => fnS K (d.ad K))[i]? = (fs.map DefA.val)[i]? := by rw [e]
  rw [List.getElem?_map, List.getElem?_map, h] at e2
  exact Option.some.inj e2
end
end BB
/-! the text: defs, facts (printed by gen_txt.py) -/
namespace BB
open PySem PySem.Spec PyProof.Rows L2 He
abbrev PP : Program := PySem.Challenge.rw_barbreaks_k34_corners_decide.prog
def top (i : Nat) : Stmt := PySem.Challenge.pw_barbreaks_k34_corners_decide.main.body.getD i (.Pass ⟨0, 0, 0, 0⟩)

abbrev s_Named_init : Stmt := inClass (top 26) 0
abbrev s_Timed_init : Stmt := inClass (top 27) 1
abbrev s_Timed_begin_at : Stmt := inClass (top 27) 2
abbrev s_Item_init : Stmt := inClass (top 28) 0
abbrev s_Piece_init : Stmt := inClass (top 29) 1
abbrev s_Break_init : Stmt := inClass (top 30) 2
abbrev s_Break_length : Stmt := inClass (top 30) 3
abbrev s_Span_init : Stmt := inClass (top 37) 0
abbrev s_Span_contains : Stmt := inClass (top 37) 3
abbrev s_Course_init : Stmt := inClass (top 42) 0
abbrev s_Course_call : Stmt := inClass (top 42) 1
abbrev s_Course_latest : Stmt := inClass (top 42) 2
abbrev s_Hang_init : Stmt := inClass (top 52) 0
abbrev s_Hang_with_excess : Stmt := inClass (top 52) 1
abbrev s_Distance_init : Stmt := inClass (top 54) 0
abbrev s_Grid_init : Stmt := inClass (top 61) 0
abbrev s_Grid_first_bar : Stmt := inClass (top 61) 2
abbrev s_House_init : Stmt := inClass (top 70) 0
abbrev s_Order_init : Stmt := inClass (top 74) 0
abbrev s_Order_points : Stmt := inClass (top 74) 1
abbrev s_Order_contains : Stmt := inClass (top 74) 4
abbrev s_Order_getitem : Stmt := inClass (top 74) 5
abbrev s_Order_number_of : Stmt := inClass (top 74) 6
abbrev s_Order_begin_of : Stmt := inClass (top 74) 9
abbrev s_Order_end_of : Stmt := inClass (top 74) 10
abbrev s_Order_call_of : Stmt := inClass (top 74) 11
abbrev s_Outlook_init : Stmt := inClass (top 84) 0
abbrev s_Outlook_span_of : Stmt := inClass (top 84) 2
abbrev s_Outlook_narrowed : Stmt := inClass (top 84) 3
abbrev s_Outlook_first_row : Stmt := inClass (top 84) 7
abbrev s_Outlook_limits : Stmt := inClass (top 84) 12
abbrev s_Outlook_replaced : Stmt := inClass (top 84) 13
abbrev s_Reach_init : Stmt := inClass (top 87) 0
abbrev s_Reach_moments_at : Stmt := inClass (top 87) 1
abbrev s_Reach_row_to : Stmt := inClass (top 87) 4
abbrev s_Reach_check_point : Stmt := inClass (top 87) 5
abbrev s_Reach_check_moment : Stmt := inClass (top 87) 6
abbrev s_NoPoint_init : Stmt := inClass (top 14) 0
abbrev s_is_name : Stmt := top 22
abbrev s_corner : Stmt := top 32
abbrev s_hollow : Stmt := top 33
abbrev s_bent_row : Stmt := top 34
abbrev s_extreme : Stmt := top 35
abbrev s_step_span : Stmt := top 39
abbrev s_next_moment : Stmt := top 40
abbrev s_has_event : Stmt := top 44
abbrev s_point_of : Stmt := top 45
abbrev s_step_lag : Stmt := top 48
abbrev s_with_lag : Stmt := top 49
abbrev s_nearest : Stmt := top 55
abbrev s_farthest : Stmt := top 56
abbrev s_least_ahead : Stmt := top 57
abbrev s_least_back : Stmt := top 58
abbrev s_check_kinds : Stmt := top 68
abbrev s_span_of_bounds : Stmt := top 69
abbrev s_lag_spans : Stmt := top 78
abbrev s_with_spans : Stmt := top 83
abbrev s_next_table : Stmt := top 86
abbrev s_is_int : Stmt := top 89
abbrev s_pool : Stmt := top 90
abbrev s_take : Stmt := top 91
abbrev s_big : Stmt := top 92
abbrev s_names : Stmt := top 93
abbrev s_first : Stmt := top 94
abbrev s_opens : Stmt := top 95
abbrev s_items : Stmt := top 96
abbrev s_day : Stmt := top 97
abbrev s_item : Stmt := top 98
abbrev s_house : Stmt := top 99
abbrev s_order : Stmt := top 100
abbrev s_moments : Stmt := top 101
abbrev s_at : Stmt := top 102
abbrev s_call : Stmt := top 103
abbrev s_point : Stmt := top 104
abbrev s_moment : Stmt := top 105
abbrev s_events : Stmt := top 106
abbrev s_apart : Stmt := top 107
abbrev s_spans : Stmt := top 108
abbrev s_narrow : Stmt := top 110
abbrev s_same : Stmt := top 111
abbrev s_bent : Stmt := top 112
abbrev s_event : Stmt := top 113
abbrev s_refused : Stmt := top 114
abbrev s_rows : Stmt := top 115
abbrev s_law : Stmt := top 116
abbrev N_Named_init : List Str := ["self", "name"]
theorem sc_Named_init : FnScope N_Named_init ["self", "name"] (defScope s_Named_init) := ⟨rfl, rfl, rfl, by decide +kernel, rfl, by decide +kernel, by decide +kernel⟩
abbrev N_Timed_init : List Str := ["self", "grid", "minute", "delay"]
theorem sc_Timed_init : FnScope N_Timed_init ["self", "grid", "minute", "delay"] (defScope s_Timed_init) := ⟨rfl, rfl, rfl, by decide +kernel, rfl, by decide +kernel, by decide +kernel⟩
abbrev N_Timed_begin_at : List Str := ["self", "moment", "delay", "ready"]
theorem sc_Timed_begin_at : FnScope N_Timed_begin_at ["self", "moment", "delay"] (defScope s_Timed_begin_at) := ⟨rfl, rfl, rfl, by decide +kernel, rfl, by decide +kernel, by decide +kernel⟩
abbrev N_Item_init : List Str := ["self", "name", "grid", "minute", "delay"]
theorem sc_Item_init : FnScope N_Item_init ["self", "name", "grid", "minute", "delay"] (defScope s_Item_init) := ⟨rfl, rfl, rfl, by decide +kernel, rfl, by decide +kernel, by decide +kernel⟩
abbrev N_Piece_init : List Str := ["self", "name", "grid", "least", "most", "minute", "delay"]
theorem sc_Piece_init : SupScope N_Piece_init ["self", "name", "grid", "least", "most", "minute", "delay"] (defScope s_Piece_init) := ⟨rfl, rfl, rfl, by decide +kernel, rfl, by decide +kernel, by decide +kernel, by decide +kernel, by decide +kernel, by decide +kernel⟩
abbrev N_Break_init : List Str := ["self", "name", "grid", "minute", "places", "unit", "delay", "patience"]
theorem sc_Break_init : SupScope N_Break_init ["self", "name", "grid", "minute", "places", "unit", "delay", "patience"] (defScope s_Break_init) := ⟨rfl, rfl, rfl, by decide +kernel, rfl, by decide +kernel, by decide +kernel, by decide +kernel, by decide +kernel, by decide +kernel⟩
abbrev N_Break_length : List Str := ["self"]
theorem sc_Break_length : FnScope N_Break_length ["self"] (defScope s_Break_length) := ⟨rfl, rfl, rfl, by decide +kernel, rfl, by decide +kernel, by decide +kernel⟩
abbrev N_Span_init : List Str := ["self", "low", "high"]
theorem sc_Span_init : FnScope N_Span_init ["self", "low", "high"] (defScope s_Span_init) := ⟨rfl, rfl, rfl, by decide +kernel, rfl, by decide +kernel, by decide +kernel⟩
abbrev N_Span_contains : List Str := ["self", "number"]
theorem sc_Span_contains : FnScope N_Span_contains ["self", "number"] (defScope s_Span_contains) := ⟨rfl, rfl, rfl, by decide +kernel, rfl, by decide +kernel, by decide +kernel⟩
abbrev N_Course_init : List Str := ["self", "outlook", "start", "goal", "last", "point"]
theorem sc_Course_init : FnScope N_Course_init ["self", "outlook", "start", "goal"] (defScope s_Course_init) := ⟨rfl, rfl, rfl, by decide +kernel, rfl, by decide +kernel, by decide +kernel⟩
abbrev N_Course_call : List Str := ["self", "moment", "reached", "number", "span"]
theorem sc_Course_call : FnScope N_Course_call ["self", "moment"] (defScope s_Course_call) := ⟨rfl, rfl, rfl, by decide +kernel, rfl, by decide +kernel, by decide +kernel⟩
abbrev N_Course_latest : List Str := ["self", "moment", "reached", "number", "span"]
theorem sc_Course_latest : FnScope N_Course_latest ["self", "moment"] (defScope s_Course_latest) := ⟨rfl, rfl, rfl, by decide +kernel, rfl, by decide +kernel, by decide +kernel⟩
abbrev N_Hang_init : List Str := ["self", "outlook", "event", "span"]
theorem sc_Hang_init : FnScope N_Hang_init ["self", "outlook", "event"] (defScope s_Hang_init) := ⟨rfl, rfl, rfl, by decide +kernel, rfl, by decide +kernel, by decide +kernel⟩
abbrev N_Hang_with_excess : List Str := ["self", "row", "excess", "word"]
theorem sc_Hang_with_excess : FnScope N_Hang_with_excess ["self", "row", "excess"] (defScope s_Hang_with_excess) := ⟨rfl, rfl, rfl, by decide +kernel, rfl, by decide +kernel, by decide +kernel⟩
abbrev N_Distance_init : List Str := ["self", "ticks", "row"]
theorem sc_Distance_init : FnScope N_Distance_init ["self", "ticks", "row"] (defScope s_Distance_init) := ⟨rfl, rfl, rfl, by decide +kernel, rfl, by decide +kernel, by decide +kernel⟩
abbrev N_Grid_init : List Str := ["self", "step", "offset"]
theorem sc_Grid_init : FnScope N_Grid_init ["self", "step", "offset"] (defScope s_Grid_init) := ⟨rfl, rfl, rfl, by decide +kernel, rfl, by decide +kernel, by decide +kernel⟩
abbrev N_Grid_first_bar : List Str := ["self", "tick"]
theorem sc_Grid_first_bar : FnScope N_Grid_first_bar ["self", "tick"] (defScope s_Grid_first_bar) := ⟨rfl, rfl, rfl, by decide +kernel, rfl, by decide +kernel, by decide +kernel⟩
abbrev N_House_init : List Str := ["self", "studios", "crews", "kinds", "walk", "pack", "ahead", "apart", "walk_span", "pack_span"]
theorem sc_House_init : FnScope N_House_init ["self", "studios", "crews", "kinds", "walk", "pack", "ahead", "apart"] (defScope s_House_init) := ⟨rfl, rfl, rfl, by decide +kernel, rfl, by decide +kernel, by decide +kernel⟩
abbrev N_Order_init : List Str := ["self", "house", "opens", "lineup", "items", "numbers", "number", "item"]
theorem sc_Order_init : FnScope N_Order_init ["self", "house", "opens", "lineup"] (defScope s_Order_init) := ⟨rfl, rfl, rfl, by decide +kernel, rfl, by decide +kernel, by decide +kernel⟩
abbrev N_Order_points : List Str := ["self"]
theorem sc_Order_points : FnScope N_Order_points ["self"] (defScope s_Order_points) := ⟨rfl, rfl, rfl, by decide +kernel, rfl, by decide +kernel, by decide +kernel⟩
abbrev N_Order_contains : List Str := ["self", "name"]
theorem sc_Order_contains : FnScope N_Order_contains ["self", "name"] (defScope s_Order_contains) := ⟨rfl, rfl, rfl, by decide +kernel, rfl, by decide +kernel, by decide +kernel⟩
abbrev N_Order_getitem : List Str := ["self", "name"]
theorem sc_Order_getitem : FnScope N_Order_getitem ["self", "name"] (defScope s_Order_getitem) := ⟨rfl, rfl, rfl, by decide +kernel, rfl, by decide +kernel, by decide +kernel⟩
abbrev N_Order_number_of : List Str := ["self", "name"]
theorem sc_Order_number_of : FnScope N_Order_number_of ["self", "name"] (defScope s_Order_number_of) := ⟨rfl, rfl, rfl, by decide +kernel, rfl, by decide +kernel, by decide +kernel⟩
abbrev N_Order_begin_of : List Str := ["self", "name"]
theorem sc_Order_begin_of : FnScope N_Order_begin_of ["self", "name"] (defScope s_Order_begin_of) := ⟨rfl, rfl, rfl, by decide +kernel, rfl, by decide +kernel, by decide +kernel⟩
abbrev N_Order_end_of : List Str := ["self", "name"]
theorem sc_Order_end_of : FnScope N_Order_end_of ["self", "name"] (defScope s_Order_end_of) := ⟨rfl, rfl, rfl, by decide +kernel, rfl, by decide +kernel, by decide +kernel⟩
abbrev N_Order_call_of : List Str := ["self", "name", "number"]
theorem sc_Order_call_of : FnScope N_Order_call_of ["self", "name"] (defScope s_Order_call_of) := ⟨rfl, rfl, rfl, by decide +kernel, rfl, by decide +kernel, by decide +kernel⟩
abbrev N_Outlook_init : List Str := ["self", "order", "item"]
theorem sc_Outlook_init : FnScope N_Outlook_init ["self", "order"] (defScope s_Outlook_init) := ⟨rfl, rfl, rfl, by decide +kernel, rfl, by decide +kernel, by decide +kernel⟩
abbrev N_Outlook_span_of : List Str := ["self", "name", "word"]
theorem sc_Outlook_span_of : FnScope N_Outlook_span_of ["self", "name", "word"] (defScope s_Outlook_span_of) := ⟨rfl, rfl, rfl, by decide +kernel, rfl, by decide +kernel, by decide +kernel⟩
abbrev N_Outlook_narrowed : List Str := ["self", "name", "word", "low", "high", "span"]
theorem sc_Outlook_narrowed : FnScope N_Outlook_narrowed ["self", "name", "word", "low", "high"] (defScope s_Outlook_narrowed) := ⟨rfl, rfl, rfl, by decide +kernel, rfl, by decide +kernel, by decide +kernel⟩
abbrev N_Outlook_first_row : List Str := ["self", "spans", "span"]
theorem sc_Outlook_first_row : FnScope N_Outlook_first_row ["self"] (defScope s_Outlook_first_row) := ⟨rfl, rfl, rfl, by decide +kernel, rfl, by decide +kernel, by decide +kernel⟩
abbrev N_Outlook_limits : List Str := ["self", "item"]
theorem sc_Outlook_limits : FnScope N_Outlook_limits ["self"] (defScope s_Outlook_limits) := ⟨rfl, rfl, rfl, by decide +kernel, rfl, by decide +kernel, by decide +kernel⟩
abbrev N_Outlook_replaced : List Str := ["self", "name", "word", "span", "spans", "key", "lags"]
theorem sc_Outlook_replaced : FnScope N_Outlook_replaced ["self", "name", "word", "span"] (defScope s_Outlook_replaced) := ⟨rfl, rfl, rfl, by decide +kernel, rfl, by decide +kernel, by decide +kernel⟩
abbrev N_Reach_init : List Str := ["self", "outlook", "tables", "origins", "point", "table", "sources"]
theorem sc_Reach_init : FnScope N_Reach_init ["self", "outlook"] (defScope s_Reach_init) := ⟨rfl, rfl, rfl, by decide +kernel, rfl, by decide +kernel, by decide +kernel⟩
abbrev N_Reach_moments_at : List Str := ["self", "point", "moment", "lateness"]
theorem sc_Reach_moments_at : FnScope N_Reach_moments_at ["self", "point"] (defScope s_Reach_moments_at) := ⟨rfl, rfl, rfl, by decide +kernel, rfl, by decide +kernel, by decide +kernel⟩
abbrev N_Reach_row_to : List Str := ["self", "point", "moment", "row", "reached", "start", "lag", "number", "lags"]
theorem sc_Reach_row_to : FnScope N_Reach_row_to ["self", "point", "moment"] (defScope s_Reach_row_to) := ⟨rfl, rfl, rfl, by decide +kernel, rfl, by decide +kernel, by decide +kernel⟩
abbrev N_Reach_check_point : List Str := ["self", "point"]
theorem sc_Reach_check_point : FnScope N_Reach_check_point ["self", "point"] (defScope s_Reach_check_point) := ⟨rfl, rfl, rfl, by decide +kernel, rfl, by decide +kernel, by decide +kernel⟩
abbrev N_Reach_check_moment : List Str := ["self", "point", "moment"]
theorem sc_Reach_check_moment : FnScope N_Reach_check_moment ["self", "point", "moment"] (defScope s_Reach_check_moment) := ⟨rfl, rfl, rfl, by decide +kernel, rfl, by decide +kernel, by decide +kernel⟩
abbrev N_NoPoint_init : List Str := ["self", "point"]
theorem sc_NoPoint_init : SupScope N_NoPoint_init ["self", "point"] (defScope s_NoPoint_init) := ⟨rfl, rfl, rfl, by decide +kernel, rfl, by decide +kernel, by decide +kernel, by decide +kernel, by decide +kernel, by decide +kernel⟩
abbrev N_is_name : List Str := ["text", "char"]
theorem sc_is_name : FnScope N_is_name ["text"] (defScope s_is_name) := ⟨rfl, rfl, rfl, by decide +kernel, rfl, by decide +kernel, by decide +kernel⟩
abbrev N_corner : List Str := ["outlook", "point"]
theorem sc_corner : FnScope N_corner ["outlook", "point"] (defScope s_corner) := ⟨rfl, rfl, rfl, by decide +kernel, rfl, by decide +kernel, by decide +kernel⟩
abbrev N_hollow : List Str := ["outlook", "point"]
theorem sc_hollow : FnScope N_hollow ["outlook", "point"] (defScope s_hollow) := ⟨rfl, rfl, rfl, by decide +kernel, rfl, by decide +kernel, by decide +kernel⟩
abbrev N_bent_row : List Str := ["outlook", "point", "late", "row", "number", "item", "lags"]
theorem sc_bent_row : FnScope N_bent_row ["outlook", "point", "late"] (defScope s_bent_row) := ⟨rfl, rfl, rfl, by decide +kernel, rfl, by decide +kernel, by decide +kernel⟩
abbrev N_extreme : List Str := ["span", "high"]
theorem sc_extreme : FnScope N_extreme ["span", "high"] (defScope s_extreme) := ⟨rfl, rfl, rfl, by decide +kernel, rfl, by decide +kernel, by decide +kernel⟩
abbrev N_step_span : List Str := ["outlook", "point", "item"]
theorem sc_step_span : FnScope N_step_span ["outlook", "point"] (defScope s_step_span) := ⟨rfl, rfl, rfl, by decide +kernel, rfl, by decide +kernel, by decide +kernel⟩
abbrev N_next_moment : List Str := ["order", "point", "moment", "lag"]
theorem sc_next_moment : FnScope N_next_moment ["order", "point", "moment", "lag"] (defScope s_next_moment) := ⟨rfl, rfl, rfl, by decide +kernel, rfl, by decide +kernel, by decide +kernel⟩
abbrev N_has_event : List Str := ["order", "event", "word", "name", "item"]
theorem sc_has_event : FnScope N_has_event ["order", "event"] (defScope s_has_event) := ⟨rfl, rfl, rfl, by decide +kernel, rfl, by decide +kernel, by decide +kernel⟩
abbrev N_point_of : List Str := ["order", "event", "word"]
theorem sc_point_of : FnScope N_point_of ["order", "event"] (defScope s_point_of) := ⟨rfl, rfl, rfl, by decide +kernel, rfl, by decide +kernel, by decide +kernel⟩
abbrev N_step_lag : List Str := ["order", "point", "item"]
theorem sc_step_lag : FnScope N_step_lag ["order", "point"] (defScope s_step_lag) := ⟨rfl, rfl, rfl, by decide +kernel, rfl, by decide +kernel, by decide +kernel⟩
abbrev N_with_lag : List Str := ["order", "row", "name", "word", "ticks", "number", "lags", "changed"]
theorem sc_with_lag : FnScope N_with_lag ["order", "row", "name", "word", "ticks"] (defScope s_with_lag) := ⟨rfl, rfl, rfl, by decide +kernel, rfl, by decide +kernel, by decide +kernel⟩
abbrev N_nearest : List Str := ["reach", "first", "second", "outlook", "early", "late", "ticks", "row"]
theorem sc_nearest : FnScope N_nearest ["reach", "first", "second"] (defScope s_nearest) := ⟨rfl, rfl, rfl, by decide +kernel, rfl, by decide +kernel, by decide +kernel⟩
abbrev N_farthest : List Str := ["reach", "first", "second", "turned"]
theorem sc_farthest : FnScope N_farthest ["reach", "first", "second"] (defScope s_farthest) := ⟨rfl, rfl, rfl, by decide +kernel, rfl, by decide +kernel, by decide +kernel⟩
abbrev N_least_ahead : List Str := ["reach", "start", "goal", "course", "ticks", "moment", "at"]
theorem sc_least_ahead : FnScope N_least_ahead ["reach", "start", "goal"] (defScope s_least_ahead) := ⟨rfl, rfl, rfl, by decide +kernel, rfl, by decide +kernel, by decide +kernel⟩
abbrev N_least_back : List Str := ["reach", "start", "goal", "outlook", "course", "ticks", "moment", "row", "point", "found", "name", "word", "at"]
theorem sc_least_back : FnScope N_least_back ["reach", "start", "goal"] (defScope s_least_back) := ⟨rfl, rfl, rfl, by decide +kernel, rfl, by decide +kernel, by decide +kernel⟩
abbrev N_check_kinds : List Str := ["kinds", "number", "kind"]
theorem sc_check_kinds : FnScope N_check_kinds ["kinds"] (defScope s_check_kinds) := ⟨rfl, rfl, rfl, by decide +kernel, rfl, by decide +kernel, by decide +kernel⟩
abbrev N_span_of_bounds : List Str := ["bounds", "low", "high"]
theorem sc_span_of_bounds : FnScope N_span_of_bounds ["bounds"] (defScope s_span_of_bounds) := ⟨rfl, rfl, rfl, by decide +kernel, rfl, by decide +kernel, by decide +kernel⟩
abbrev N_lag_spans : List Str := ["house", "item", "spans"]
theorem sc_lag_spans : FnScope N_lag_spans ["house", "item"] (defScope s_lag_spans) := ⟨rfl, rfl, rfl, by decide +kernel, rfl, by decide +kernel, by decide +kernel⟩
abbrev N_with_spans : List Str := ["order", "spans", "outlook"]
theorem sc_with_spans : FnScope N_with_spans ["order", "spans"] (defScope s_with_spans) := ⟨rfl, rfl, rfl, by decide +kernel, rfl, by decide +kernel, by decide +kernel⟩
abbrev N_next_table : List Str := ["outlook", "point", "table", "span", "least", "origins", "moment", "lateness", "lag", "reached", "total"]
theorem sc_next_table : FnScope N_next_table ["outlook", "point", "table"] (defScope s_next_table) := ⟨rfl, rfl, rfl, by decide +kernel, rfl, by decide +kernel, by decide +kernel⟩
abbrev N_is_int : List Str := ["_law_x"]
theorem sc_is_int : FnScope N_is_int ["_law_x"] (defScope s_is_int) := ⟨rfl, rfl, rfl, by decide +kernel, rfl, by decide +kernel, by decide +kernel⟩
abbrev N_pool : List Str := ["_law_script", "_law_seed", "_law_cell"]
theorem sc_pool : FnScope N_pool ["_law_script"] (defScope s_pool) := ⟨rfl, rfl, rfl, by decide +kernel, rfl, by decide +kernel, by decide +kernel⟩
abbrev N_take : List Str := ["_law_pool_here", "_law_size", "_law_cells", "_law_mixed", "_law_cell", "_law_digit"]
theorem sc_take : FnScope N_take ["_law_pool_here", "_law_size"] (defScope s_take) := ⟨rfl, rfl, rfl, by decide +kernel, rfl, by decide +kernel, by decide +kernel⟩
abbrev N_big : List Str := ["_law_pool_here", "_law_value", "_law_k"]
theorem sc_big : FnScope N_big ["_law_pool_here"] (defScope s_big) := ⟨rfl, rfl, rfl, by decide +kernel, rfl, by decide +kernel, by decide +kernel⟩
abbrev N_names : List Str := ["_law_pool_here", "_law_many", "_law_letters", "_law_signs", "_law_alike", "_law_size", "_law_at_here", "_law_turn", "_law_names_here", "_law_k", "_law_text", "_law_word", "_law_t", "_law_j"]
theorem sc_names : FnScope N_names ["_law_pool_here", "_law_many"] (defScope s_names) := ⟨rfl, rfl, rfl, by decide +kernel, rfl, by decide +kernel, by decide +kernel⟩
abbrev N_first : List Str := ["_law_step", "_law_offset", "_law_tick"]
theorem sc_first : FnScope N_first ["_law_step", "_law_offset", "_law_tick"] (defScope s_first) := ⟨rfl, rfl, rfl, by decide +kernel, rfl, by decide +kernel, by decide +kernel⟩
abbrev N_opens : List Str := ["_law_pool_here", "_law_way"]
theorem sc_opens : FnScope N_opens ["_law_pool_here"] (defScope s_opens) := ⟨rfl, rfl, rfl, by decide +kernel, rfl, by decide +kernel, by decide +kernel⟩
abbrev N_items : List Str := ["_law_pool_here", "_law_names_here", "_law_now", "_law_wide", "_law_spread", "_law_plain", "_law_pieces", "_law_items_here", "_law_used", "_law_k", "_law_bar", "_law_shift", "_law_late", "_law_clock", "_law_start", "_law_low", "_law_cells", "_law_ticks", "_law_bars"]
theorem sc_items : FnScope N_items ["_law_pool_here", "_law_names_here", "_law_now", "_law_wide", "_law_spread", "_law_plain", "_law_pieces"] (defScope s_items) := ⟨rfl, rfl, rfl, by decide +kernel, rfl, by decide +kernel, by decide +kernel⟩
abbrev N_day : List Str := ["_law_pool_here", "_law_plain", "_law_pieces", "_law_wide", "_law_count", "_law_spread", "_law_many", "_law_names_here", "_law_walks", "_law_packs", "_law_day_here"]
theorem sc_day : FnScope N_day ["_law_pool_here", "_law_plain", "_law_pieces"] (defScope s_day) := ⟨rfl, rfl, rfl, by decide +kernel, rfl, by decide +kernel, by decide +kernel⟩
abbrev N_item : List Str := ["_law_item_here"]
theorem sc_item : FnScope N_item ["_law_item_here"] (defScope s_item) := ⟨rfl, rfl, rfl, by decide +kernel, rfl, by decide +kernel, by decide +kernel⟩
abbrev N_house : List Str := ["_law_day_here"]
theorem sc_house : FnScope N_house ["_law_day_here"] (defScope s_house) := ⟨rfl, rfl, rfl, by decide +kernel, rfl, by decide +kernel, by decide +kernel⟩
abbrev N_order : List Str := ["_law_day_here", "_law_item_here"]
theorem sc_order : FnScope N_order ["_law_day_here"] (defScope s_order) := ⟨rfl, rfl, rfl, by decide +kernel, rfl, by decide +kernel, by decide +kernel⟩
abbrev N_moments : List Str := ["_law_day_here", "_law_row_here", "_law_moments_here", "_law_k", "_law_item_here", "_law_start", "_law_begin"]
theorem sc_moments : FnScope N_moments ["_law_day_here", "_law_row_here"] (defScope s_moments) := ⟨rfl, rfl, rfl, by decide +kernel, rfl, by decide +kernel, by decide +kernel⟩
abbrev N_at : List Str := ["_law_day_here", "_law_text", "_law_k"]
theorem sc_at : FnScope N_at ["_law_day_here", "_law_text"] (defScope s_at) := ⟨rfl, rfl, rfl, by decide +kernel, rfl, by decide +kernel, by decide +kernel⟩
abbrev N_call : List Str := ["_law_day_here", "_law_k"]
theorem sc_call : FnScope N_call ["_law_day_here", "_law_k"] (defScope s_call) := ⟨rfl, rfl, rfl, by decide +kernel, rfl, by decide +kernel, by decide +kernel⟩
abbrev N_point : List Str := ["_law_day_here", "_law_event_here", "_law_k"]
theorem sc_point : FnScope N_point ["_law_day_here", "_law_event_here"] (defScope s_point) := ⟨rfl, rfl, rfl, by decide +kernel, rfl, by decide +kernel, by decide +kernel⟩
abbrev N_moment : List Str := ["_law_day_here", "_law_row_here", "_law_moments_here", "_law_event_here", "_law_found"]
theorem sc_moment : FnScope N_moment ["_law_day_here", "_law_row_here", "_law_moments_here", "_law_event_here"] (defScope s_moment) := ⟨rfl, rfl, rfl, by decide +kernel, rfl, by decide +kernel, by decide +kernel⟩
abbrev N_events : List Str := ["_law_day_here", "_law_events_here", "_law_item_here", "_law_word", "_law_k"]
theorem sc_events : FnScope N_events ["_law_day_here"] (defScope s_events) := ⟨rfl, rfl, rfl, by decide +kernel, rfl, by decide +kernel, by decide +kernel⟩
abbrev N_apart : List Str := ["_law_day_here", "_law_row_here", "_law_first_here", "_law_second", "_law_moments_here"]
theorem sc_apart : FnScope N_apart ["_law_day_here", "_law_row_here", "_law_first_here", "_law_second"] (defScope s_apart) := ⟨rfl, rfl, rfl, by decide +kernel, rfl, by decide +kernel, by decide +kernel⟩
abbrev N_spans : List Str := ["_law_day_here", "_law_spans_here", "_law_item_here"]
theorem sc_spans : FnScope N_spans ["_law_day_here"] (defScope s_spans) := ⟨rfl, rfl, rfl, by decide +kernel, rfl, by decide +kernel, by decide +kernel⟩
abbrev N_narrow : List Str := ["_law_pool_here", "_law_day_here", "_law_spans_here", "_law_outlook", "_law_times", "_law_words", "_law_k", "_law_at_here", "_law_lag", "_law_low", "_law_high"]
theorem sc_narrow : FnScope N_narrow ["_law_pool_here", "_law_day_here", "_law_spans_here", "_law_outlook", "_law_times"] (defScope s_narrow) := ⟨rfl, rfl, rfl, by decide +kernel, rfl, by decide +kernel, by decide +kernel⟩
abbrev N_same : List Str := ["_law_got", "_law_due", "_law_k", "_law_key"]
theorem sc_same : FnScope N_same ["_law_got", "_law_due"] (defScope s_same) := ⟨rfl, rfl, rfl, by decide +kernel, rfl, by decide +kernel, by decide +kernel⟩
abbrev N_bent : List Str := ["_law_day_here", "_law_spans_here", "_law_point_here", "_law_sides", "_law_row_here", "_law_k", "_law_lags"]
theorem sc_bent : FnScope N_bent ["_law_day_here", "_law_spans_here", "_law_point_here", "_law_sides"] (defScope s_bent) := ⟨rfl, rfl, rfl, by decide +kernel, rfl, by decide +kernel, by decide +kernel⟩
abbrev N_event : List Str := ["_law_day_here", "_law_point_here"]
theorem sc_event : FnScope N_event ["_law_day_here", "_law_point_here"] (defScope s_event) := ⟨rfl, rfl, rfl, by decide +kernel, rfl, by decide +kernel, by decide +kernel⟩
abbrev N_refused : List Str := ["_law_outlook", "_law_door", "_law_point_here", "_law_told", "e"]
theorem sc_refused : FnScope N_refused ["_law_outlook", "_law_door", "_law_point_here"] (defScope s_refused) := ⟨rfl, rfl, rfl, by decide +kernel, rfl, by decide +kernel, by decide +kernel⟩
abbrev N_rows : List Str := ["_law_day_here", "_law_spans_here", "_law_outlook", "_law_point_here", "_law_late", "_law_early"]
theorem sc_rows : FnScope N_rows ["_law_day_here", "_law_spans_here", "_law_outlook", "_law_point_here"] (defScope s_rows) := ⟨rfl, rfl, rfl, by decide +kernel, rfl, by decide +kernel, by decide +kernel⟩
abbrev N_law : List Str := ["_law_script", "_law_pool_here", "_law_day_here", "_law_wide", "_law_spans_here", "_law_outlook", "_law_many", "_law_start", "_law_goal", "_law_firsts", "_law_seconds", "_law_first_here", "_law_second", "_law_reach", "_law_one", "_law_two", "_law_late", "_law_early", "_law_due", "_law_strange", "_law_door", "_law_step", "_law_shift", "_law_coarse", "_law_full", "_law_row_here", "_law_event_here", "_law_item_here"]
theorem sc_law : FnScope N_law ["_law_script"] (defScope s_law) := ⟨rfl, rfl, rfl, by decide +kernel, rfl, by decide +kernel, by decide +kernel⟩
/-- a keyword-only default, if it is an object -/
def kwAt (f : Str × Option Str) (x : Str) (K : PySem.W.Frag) : Addr := match K.lookup (fAd K f) with
  | some ⟨_, _, .func fd, _⟩ => (match fd.kwdefaults with
    | .ref D => (match PySem.W.nsIn K D x with
      | some (some (.ref a)) => a
      | _ => 0)
    | _ => 0)
  | _ => 0
def d_Named_init : DefD := ⟨("Named", some "__init__"), "__init__", "Named.__init__", defArgs s_Named_init, defBody s_Named_init, defScope s_Named_init, [], []⟩
def d_Timed_init : DefD := ⟨("Timed", some "__init__"), "__init__", "Timed.__init__", defArgs s_Timed_init, defBody s_Timed_init, defScope s_Timed_init, [.non, .int 0], []⟩
def d_Timed_begin_at : DefD := ⟨("Timed", some "begin_at"), "begin_at", "Timed.begin_at", defArgs s_Timed_begin_at, defBody s_Timed_begin_at, defScope s_Timed_begin_at, [], []⟩
def d_Item_init : DefD := ⟨("Item", some "__init__"), "__init__", "Item.__init__", defArgs s_Item_init, defBody s_Item_init, defScope s_Item_init, [], [("minute", .non), ("delay", .int 0)]⟩
def d_Piece_init : DefD := ⟨("Piece", some "__init__"), "__init__", "Piece.__init__", defArgs s_Piece_init, defBody s_Piece_init, defScope s_Piece_init, [], [("minute", .non), ("delay", .int 0)]⟩
def d_Break_init : DefD := ⟨("Break", some "__init__"), "__init__", "Break.__init__", defArgs s_Break_init, defBody s_Break_init, defScope s_Break_init, [], [("delay", .int 0), ("patience", .int 1)]⟩
def d_Break_length : DefD := ⟨("Break", some "length"), "length", "Break.length", defArgs s_Break_length, defBody s_Break_length, defScope s_Break_length, [], []⟩
def d_Span_init : DefD := ⟨("Span", some "__init__"), "__init__", "Span.__init__", defArgs s_Span_init, defBody s_Span_init, defScope s_Span_init, [], []⟩
def d_Span_contains : DefD := ⟨("Span", some "__contains__"), "__contains__", "Span.__contains__", defArgs s_Span_contains, defBody s_Span_contains, defScope s_Span_contains, [], []⟩
def d_Course_init : DefD := ⟨("Course", some "__init__"), "__init__", "Course.__init__", defArgs s_Course_init, defBody s_Course_init, defScope s_Course_init, [], []⟩
def d_Course_call : DefD := ⟨("Course", some "__call__"), "__call__", "Course.__call__", defArgs s_Course_call, defBody s_Course_call, defScope s_Course_call, [], []⟩
def d_Course_latest : DefD := ⟨("Course", some "latest"), "latest", "Course.latest", defArgs s_Course_latest, defBody s_Course_latest, defScope s_Course_latest, [], []⟩
def d_Hang_init : DefD := ⟨("Hang", some "__init__"), "__init__", "Hang.__init__", defArgs s_Hang_init, defBody s_Hang_init, defScope s_Hang_init, [], []⟩
def d_Hang_with_excess : DefD := ⟨("Hang", some "with_excess"), "with_excess", "Hang.with_excess", defArgs s_Hang_with_excess, defBody s_Hang_with_excess, defScope s_Hang_with_excess, [], []⟩
def d_Distance_init : DefD := ⟨("Distance", some "__init__"), "__init__", "Distance.__init__", defArgs s_Distance_init, defBody s_Distance_init, defScope s_Distance_init, [], []⟩
def d_Grid_init : DefD := ⟨("Grid", some "__init__"), "__init__", "Grid.__init__", defArgs s_Grid_init, defBody s_Grid_init, defScope s_Grid_init, [.int 0], []⟩
def d_Grid_first_bar : DefD := ⟨("Grid", some "first_bar"), "first_bar", "Grid.first_bar", defArgs s_Grid_first_bar, defBody s_Grid_first_bar, defScope s_Grid_first_bar, [], []⟩
def d_House_init : DefD := ⟨("House", some "__init__"), "__init__", "House.__init__", defArgs s_House_init, defBody s_House_init, defScope s_House_init, [.adr (dflAt ("House", some "__init__") 0)], [("walk", .adr (kwAt ("House", some "__init__") "walk")), ("pack", .adr (kwAt ("House", some "__init__") "pack")), ("ahead", .int 1), ("apart", .int 1)]⟩
def d_Order_init : DefD := ⟨("Order", some "__init__"), "__init__", "Order.__init__", defArgs s_Order_init, defBody s_Order_init, defScope s_Order_init, [], []⟩
def d_Order_points : DefD := ⟨("Order", some "points"), "points", "Order.points", defArgs s_Order_points, defBody s_Order_points, defScope s_Order_points, [], []⟩
def d_Order_contains : DefD := ⟨("Order", some "__contains__"), "__contains__", "Order.__contains__", defArgs s_Order_contains, defBody s_Order_contains, defScope s_Order_contains, [], []⟩
def d_Order_getitem : DefD := ⟨("Order", some "__getitem__"), "__getitem__", "Order.__getitem__", defArgs s_Order_getitem, defBody s_Order_getitem, defScope s_Order_getitem, [], []⟩
def d_Order_number_of : DefD := ⟨("Order", some "number_of"), "number_of", "Order.number_of", defArgs s_Order_number_of, defBody s_Order_number_of, defScope s_Order_number_of, [], []⟩
def d_Order_begin_of : DefD := ⟨("Order", some "begin_of"), "begin_of", "Order.begin_of", defArgs s_Order_begin_of, defBody s_Order_begin_of, defScope s_Order_begin_of, [], []⟩
def d_Order_end_of : DefD := ⟨("Order", some "end_of"), "end_of", "Order.end_of", defArgs s_Order_end_of, defBody s_Order_end_of, defScope s_Order_end_of, [], []⟩
def d_Order_call_of : DefD := ⟨("Order", some "call_of"), "call_of", "Order.call_of", defArgs s_Order_call_of, defBody s_Order_call_of, defScope s_Order_call_of, [], []⟩
def d_Outlook_init : DefD := ⟨("Outlook", some "__init__"), "__init__", "Outlook.__init__", defArgs s_Outlook_init, defBody s_Outlook_init, defScope s_Outlook_init, [], []⟩
def d_Outlook_span_of : DefD := ⟨("Outlook", some "span_of"), "span_of", "Outlook.span_of", defArgs s_Outlook_span_of, defBody s_Outlook_span_of, defScope s_Outlook_span_of, [], []⟩
def d_Outlook_narrowed : DefD := ⟨("Outlook", some "narrowed"), "narrowed", "Outlook.narrowed", defArgs s_Outlook_narrowed, defBody s_Outlook_narrowed, defScope s_Outlook_narrowed, [], []⟩
def d_Outlook_first_row : DefD := ⟨("Outlook", some "first_row"), "first_row", "Outlook.first_row", defArgs s_Outlook_first_row, defBody s_Outlook_first_row, defScope s_Outlook_first_row, [], []⟩
def d_Outlook_limits : DefD := ⟨("Outlook", some "_limits"), "_limits", "Outlook._limits", defArgs s_Outlook_limits, defBody s_Outlook_limits, defScope s_Outlook_limits, [], []⟩
def d_Outlook_replaced : DefD := ⟨("Outlook", some "_replaced"), "_replaced", "Outlook._replaced", defArgs s_Outlook_replaced, defBody s_Outlook_replaced, defScope s_Outlook_replaced, [], []⟩
def d_Reach_init : DefD := ⟨("Reach", some "__init__"), "__init__", "Reach.__init__", defArgs s_Reach_init, defBody s_Reach_init, defScope s_Reach_init, [], []⟩
def d_Reach_moments_at : DefD := ⟨("Reach", some "moments_at"), "moments_at", "Reach.moments_at", defArgs s_Reach_moments_at, defBody s_Reach_moments_at, defScope s_Reach_moments_at, [], []⟩
def d_Reach_row_to : DefD := ⟨("Reach", some "row_to"), "row_to", "Reach.row_to", defArgs s_Reach_row_to, defBody s_Reach_row_to, defScope s_Reach_row_to, [], []⟩
def d_Reach_check_point : DefD := ⟨("Reach", some "_check_point"), "_check_point", "Reach._check_point", defArgs s_Reach_check_point, defBody s_Reach_check_point, defScope s_Reach_check_point, [], []⟩
def d_Reach_check_moment : DefD := ⟨("Reach", some "_check_moment"), "_check_moment", "Reach._check_moment", defArgs s_Reach_check_moment, defBody s_Reach_check_moment, defScope s_Reach_check_moment, [], []⟩
def d_NoPoint_init : DefD := ⟨("NoPoint", some "__init__"), "__init__", "NoPoint.__init__", defArgs s_NoPoint_init, defBody s_NoPoint_init, defScope s_NoPoint_init, [], []⟩
def d_is_name : DefD := ⟨("is_name", none), "is_name", "is_name", defArgs s_is_name, defBody s_is_name, defScope s_is_name, [], []⟩
def d_corner : DefD := ⟨("corner", none), "corner", "corner", defArgs s_corner, defBody s_corner, defScope s_corner, [], []⟩
def d_hollow : DefD := ⟨("hollow", none), "hollow", "hollow", defArgs s_hollow, defBody s_hollow, defScope s_hollow, [], []⟩
def d_bent_row : DefD := ⟨("bent_row", none), "bent_row", "bent_row", defArgs s_bent_row, defBody s_bent_row, defScope s_bent_row, [], []⟩
def d_extreme : DefD := ⟨("extreme", none), "extreme", "extreme", defArgs s_extreme, defBody s_extreme, defScope s_extreme, [], []⟩
def d_step_span : DefD := ⟨("step_span", none), "step_span", "step_span", defArgs s_step_span, defBody s_step_span, defScope s_step_span, [], []⟩
def d_next_moment : DefD := ⟨("next_moment", none), "next_moment", "next_moment", defArgs s_next_moment, defBody s_next_moment, defScope s_next_moment, [], []⟩
def d_has_event : DefD := ⟨("has_event", none), "has_event", "has_event", defArgs s_has_event, defBody s_has_event, defScope s_has_event, [], []⟩
def d_point_of : DefD := ⟨("point_of", none), "point_of", "point_of", defArgs s_point_of, defBody s_point_of, defScope s_point_of, [], []⟩
def d_step_lag : DefD := ⟨("step_lag", none), "step_lag", "step_lag", defArgs s_step_lag, defBody s_step_lag, defScope s_step_lag, [], []⟩
def d_with_lag : DefD := ⟨("with_lag", none), "with_lag", "with_lag", defArgs s_with_lag, defBody s_with_lag, defScope s_with_lag, [], []⟩
def d_nearest : DefD := ⟨("nearest", none), "nearest", "nearest", defArgs s_nearest, defBody s_nearest, defScope s_nearest, [], []⟩
def d_farthest : DefD := ⟨("farthest", none), "farthest", "farthest", defArgs s_farthest, defBody s_farthest, defScope s_farthest, [], []⟩
def d_least_ahead : DefD := ⟨("least_ahead", none), "least_ahead", "least_ahead", defArgs s_least_ahead, defBody s_least_ahead, defScope s_least_ahead, [], []⟩
def d_least_back : DefD := ⟨("least_back", none), "least_back", "least_back", defArgs s_least_back, defBody s_least_back, defScope s_least_back, [], []⟩
def d_check_kinds : DefD := ⟨("check_kinds", none), "check_kinds", "check_kinds", defArgs s_check_kinds, defBody s_check_kinds, defScope s_check_kinds, [], []⟩
def d_span_of_bounds : DefD := ⟨("span_of_bounds", none), "span_of_bounds", "span_of_bounds", defArgs s_span_of_bounds, defBody s_span_of_bounds, defScope s_span_of_bounds, [], []⟩
def d_lag_spans : DefD := ⟨("lag_spans", none), "lag_spans", "lag_spans", defArgs s_lag_spans, defBody s_lag_spans, defScope s_lag_spans, [], []⟩
def d_with_spans : DefD := ⟨("with_spans", none), "with_spans", "with_spans", defArgs s_with_spans, defBody s_with_spans, defScope s_with_spans, [], []⟩
def d_next_table : DefD := ⟨("next_table", none), "next_table", "next_table", defArgs s_next_table, defBody s_next_table, defScope s_next_table, [], []⟩
def d_is_int : DefD := ⟨("_law_is_int", none), "_law_is_int", "_law_is_int", defArgs s_is_int, defBody s_is_int, defScope s_is_int, [], []⟩
def d_pool : DefD := ⟨("_law_pool", none), "_law_pool", "_law_pool", defArgs s_pool, defBody s_pool, defScope s_pool, [], []⟩
def d_take : DefD := ⟨("_law_take", none), "_law_take", "_law_take", defArgs s_take, defBody s_take, defScope s_take, [], []⟩
def d_big : DefD := ⟨("_law_big", none), "_law_big", "_law_big", defArgs s_big, defBody s_big, defScope s_big, [], []⟩
def d_names : DefD := ⟨("_law_names", none), "_law_names", "_law_names", defArgs s_names, defBody s_names, defScope s_names, [], []⟩
def d_first : DefD := ⟨("_law_first", none), "_law_first", "_law_first", defArgs s_first, defBody s_first, defScope s_first, [], []⟩
def d_opens : DefD := ⟨("_law_opens", none), "_law_opens", "_law_opens", defArgs s_opens, defBody s_opens, defScope s_opens, [], []⟩
def d_items : DefD := ⟨("_law_items", none), "_law_items", "_law_items", defArgs s_items, defBody s_items, defScope s_items, [], []⟩
def d_day : DefD := ⟨("_law_day", none), "_law_day", "_law_day", defArgs s_day, defBody s_day, defScope s_day, [], []⟩
def d_item : DefD := ⟨("_law_item", none), "_law_item", "_law_item", defArgs s_item, defBody s_item, defScope s_item, [], []⟩
def d_house : DefD := ⟨("_law_house", none), "_law_house", "_law_house", defArgs s_house, defBody s_house, defScope s_house, [], []⟩
def d_order : DefD := ⟨("_law_order", none), "_law_order", "_law_order", defArgs s_order, defBody s_order, defScope s_order, [], []⟩
def d_moments : DefD := ⟨("_law_moments", none), "_law_moments", "_law_moments", defArgs s_moments, defBody s_moments, defScope s_moments, [], []⟩
def d_at : DefD := ⟨("_law_at", none), "_law_at", "_law_at", defArgs s_at, defBody s_at, defScope s_at, [], []⟩
def d_call : DefD := ⟨("_law_call", none), "_law_call", "_law_call", defArgs s_call, defBody s_call, defScope s_call, [], []⟩
def d_point : DefD := ⟨("_law_point", none), "_law_point", "_law_point", defArgs s_point, defBody s_point, defScope s_point, [], []⟩
def d_moment : DefD := ⟨("_law_moment", none), "_law_moment", "_law_moment", defArgs s_moment, defBody s_moment, defScope s_moment, [], []⟩
def d_events : DefD := ⟨("_law_events", none), "_law_events", "_law_events", defArgs s_events, defBody s_events, defScope s_events, [], []⟩
def d_apart : DefD := ⟨("_law_apart", none), "_law_apart", "_law_apart", defArgs s_apart, defBody s_apart, defScope s_apart, [], []⟩
def d_spans : DefD := ⟨("_law_spans", none), "_law_spans", "_law_spans", defArgs s_spans, defBody s_spans, defScope s_spans, [], []⟩
def d_narrow : DefD := ⟨("_law_narrow", none), "_law_narrow", "_law_narrow", defArgs s_narrow, defBody s_narrow, defScope s_narrow, [], []⟩
def d_same : DefD := ⟨("_law_same", none), "_law_same", "_law_same", defArgs s_same, defBody s_same, defScope s_same, [], []⟩
def d_bent : DefD := ⟨("_law_bent", none), "_law_bent", "_law_bent", defArgs s_bent, defBody s_bent, defScope s_bent, [], []⟩
def d_event : DefD := ⟨("_law_event", none), "_law_event", "_law_event", defArgs s_event, defBody s_event, defScope s_event, [], []⟩
def d_refused : DefD := ⟨("_law_refused", none), "_law_refused", "_law_refused", defArgs s_refused, defBody s_refused, defScope s_refused, [], []⟩
def d_rows : DefD := ⟨("_law_rows", none), "_law_rows", "_law_rows", defArgs s_rows, defBody s_rows, defScope s_rows, [], []⟩
def d_law : DefD := ⟨("law", none), "law", "law", defArgs s_law, defBody s_law, defScope s_law, [], []⟩
def fnL : List DefD := [d_Named_init, d_Timed_init, d_Timed_begin_at, d_Item_init, d_Span_init, d_Span_contains, d_Course_init, d_Course_call, d_Course_latest, d_Hang_init, d_Hang_with_excess, d_Distance_init, d_Grid_init, d_Grid_first_bar, d_House_init, d_Order_init, d_Order_contains, d_Order_getitem, d_Order_number_of, d_Order_begin_of, d_Order_end_of, d_Order_call_of, d_Outlook_init, d_Outlook_span_of, d_Outlook_narrowed, d_Outlook_first_row, d_Outlook_limits, d_Outlook_replaced, d_Reach_init, d_Reach_moments_at, d_Reach_row_to, d_Reach_check_point, d_Reach_check_moment, d_is_name, d_corner, d_hollow, d_bent_row, d_extreme, d_step_span, d_next_moment, d_has_event, d_point_of, d_step_lag, d_with_lag, d_nearest, d_farthest, d_least_ahead, d_least_back, d_check_kinds, d_span_of_bounds, d_lag_spans, d_with_spans, d_next_table, d_is_int, d_pool, d_take, d_big, d_names, d_first, d_opens, d_items, d_day, d_item, d_house, d_order, d_moments, d_at, d_call, d_point, d_moment, d_events, d_apart, d_spans, d_narrow, d_same, d_bent, d_event, d_refused, d_rows, d_law]
def fsL : List DefA := [⟨d_Break_length, getAd "Break" "length", []⟩, ⟨d_Order_points, getAd "Order" "points", []⟩, ⟨d_Piece_init, fun K => fAd K ("Piece", some "__init__"), ["__class__"]⟩, ⟨d_Break_init, fun K => fAd K ("Break", some "__init__"), ["__class__"]⟩, ⟨d_NoPoint_init, fun K => fAd K ("NoPoint", some "__init__"), ["__class__"]⟩]
def tsL : List Tab := [(fun K => ga K "OWN_LAGS", ["enter", "out"])]
def fa0 : List Fa := [.glo "BadEvent", .glo "BadName", .glo "BadNumber", .glo "BadSpan", .glo "BadWord", .glo "BarbreaksError", .glo "Break", .glo "Course", .glo "Distance", .glo "Grid", .glo "Hang", .glo "House", .glo "Named", .glo "NoPoint", .glo "NotReached", .glo "OWN_LAGS", .glo "Order", .glo "Outlook", .glo "Outside", .glo "Piece", .glo "Reach", .glo "Refused", .glo "Span", .glo "Timed", .glo "TooMany"]
def fa1 : List Fa := [.glo "Twice", .glo "Unknown", .glo "WORDS", .glo "_law_apart", .glo "_law_at", .glo "_law_bent", .glo "_law_big", .glo "_law_call", .glo "_law_day", .glo "_law_event", .glo "_law_events", .glo "_law_first", .glo "_law_house", .glo "_law_is_int", .glo "_law_item", .glo "_law_items", .glo "_law_moment", .glo "_law_moments", .glo "_law_names", .glo "_law_narrow", .glo "_law_opens", .glo "_law_order", .glo "_law_point", .glo "_law_pool", .glo "_law_refused"]
def fa2 : List Fa := [.glo "_law_rows", .glo "_law_same", .glo "_law_spans", .glo "_law_take", .glo "bent_row", .glo "check_kinds", .glo "corner", .glo "extreme", .glo "farthest", .glo "has_event", .glo "hollow", .glo "is_name", .glo "lag_spans", .glo "least_ahead", .glo "least_back", .glo "nearest", .glo "next_moment", .glo "next_table", .glo "point_of", .glo "span_of_bounds", .glo "step_lag", .glo "step_span", .glo "with_lag", .glo "with_spans", .free "ValueError"]
def fa3 : List Fa := [.free "all", .free "bool", .free "dict", .free "enumerate", .free "int", .free "isinstance", .free "len", .free "list", .free "max", .free "min", .free "property", .free "range", .free "reversed", .free "sorted", .free "str", .free "sum", .free "super", .free "tuple", .int "DELAY" 0, .int "LENGTH" 1, .int "LONGEST_NAME" 12, .int "MOST_AHEAD" 3, .int "MOST_CREWS" 6, .int "MOST_ITEMS" 8, .int "MOST_KINDS" 5]
def fa4 : List Fa := [.int "MOST_PLACES_IN_ALL" 30, .int "MOST_STUDIOS" 6, .int "WIDEST_BOUNDS" 8, .str "DIGITS" "0123456789", .str "LETTERS" "abcdefghijklmnopqrstuvwxyz", .cls "Piece", .cls "Break", .cls "Grid", .cls "Span", .cls "House", .cls "Order", .cls "Outlook", .cls "Reach", .cls "Course", .cls "Hang", .cls "Distance", .noat "Piece" "name", .noat "Piece" "grid", .noat "Piece" "minute", .noat "Piece" "delay", .noat "Piece" "least", .noat "Piece" "most", .noat "Break" "name", .noat "Break" "grid", .noat "Break" "minute"]
def fa5 : List Fa := [.noat "Break" "delay", .noat "Break" "places", .noat "Break" "unit", .noat "Break" "patience", .noat "Grid" "step", .noat "Grid" "offset", .noat "Span" "low", .noat "Span" "high", .noat "House" "studios", .noat "House" "crews", .noat "House" "kinds", .noat "House" "walk", .noat "House" "pack", .noat "House" "ahead", .noat "House" "apart", .noat "Order" "house", .noat "Order" "opens", .noat "Order" "lineup", .noat "Order" "_numbers", .noat "Outlook" "order", .noat "Outlook" "_spans", .noat "Reach" "outlook", .noat "Reach" "tables", .noat "Reach" "_origins", .noat "Reach" "_least"]
def fa6 : List Fa := [.noat "Course" "outlook", .noat "Course" "start", .noat "Course" "goal", .noat "Course" "_spans", .noat "Hang" "outlook", .noat "Hang" "event", .noat "Hang" "point", .noat "Hang" "least", .noat "Hang" "greatest", .noat "Distance" "ticks", .noat "Distance" "row", .meth "Timed" "begin_at", .meth "Grid" "first_bar", .meth "Order" "number_of", .meth "Order" "begin_of", .meth "Order" "end_of", .meth "Order" "call_of", .meth "Outlook" "span_of", .meth "Outlook" "narrowed", .meth "Outlook" "_limits", .meth "Outlook" "_replaced", .meth "Outlook" "first_row", .meth "Reach" "moments_at", .meth "Reach" "row_to", .meth "Reach" "_check_point"]
def fa7 : List Fa := [.meth "Reach" "_check_moment", .meth "Course" "latest", .meth "Hang" "with_excess", .mkr "Piece", .mkr "Break", .mkr "Grid", .mkr "Span", .mkr "House", .mkr "Order", .mkr "Outlook", .mkr "Reach", .mkr "Course", .mkr "Hang", .mkr "Distance"]
def faL : List Fa := fa0 ++ (fa1 ++ (fa2 ++ (fa3 ++ (fa4 ++ (fa5 ++ (fa6 ++ (fa7)))))))
def eqT (a b : Option Value) : Bool := decide (a = b)
theorem eqT_ok {a b : Option Value} (h : eqT a b = true) : a = b := of_decide_eq_true h
def cvalB (K : PySem.W.Frag) (C : Addr) (f : Str) (v : Dv) : Bool := match PySem.W.findCls K (.ref C) (.type "type") f with
  | some (.val u) => relB (v.v K) u
  | _ => false
theorem cvalB_ok {K : PySem.W.Frag} {C : Addr} {f : Str} {v : Dv} (h : cvalB K C f v = true) : ∃ u, ClX.CVal K C (.type "type") f (v.v K) u := by
  unfold cvalB at h
  split at h
  · exact ⟨_, by assumption, relB_ok h⟩
  · cases h
def clsFnB (K : PySem.W.Frag) (C : Addr) (m : Str) (f : Addr) : Bool := PySem.W.readsIn K C (.type "type") && (eqO (PySem.W.specialIn K (.ref C) "__getattribute__") (some (some (.builtin "type.__getattribute__"))) && ((match PySem.W.findCls K (.ref C) (.type "type") m with
  | some (.val (.ref g)) => decide (g = f)
  | _ => false) && PySem.W.keepIn K (.ref f)))
theorem clsFnB_ok {K : PySem.W.Frag} {C : Addr} {m : Str} {f : Addr} (h : clsFnB K C m f = true) : ClsFn K C m f := by
  obtain ⟨h1, h⟩ := ba h
  obtain ⟨h2, h⟩ := ba h
  obtain ⟨h3, h4⟩ := ba h
  refine ⟨h1, eqO_ok h2, ?_, h4⟩
  split at h3
  · rename_i g q
    rw [q, of_decide_eq_true h3]
  · cases h3
def methB (K : PySem.W.Frag) (C : Addr) (m : Str) (f : Addr) : Bool := eqO (PySem.W.findIn K (.ref C) m) (some (some (.ref f))) && (PySem.W.isFn K (.ref f) && PySem.W.keepIn K (.ref f))
theorem methB_ok {K : PySem.W.Frag} {C : Addr} {m : Str} {f : Addr} (h : methB K C m f = true) : Meth K C m f := ⟨eqO_ok (ba h).1, (ba (ba h).2).1, (ba (ba h).2).2⟩
def propB (K : PySem.W.Frag) (C : Addr) (m : Str) (p g : Addr) : Bool := eqO (PySem.W.findIn K (.ref C) m) (some (some (.ref p))) && (eqO (PySem.W.specialIn K (.ref p) "__get__") (some (some (.builtin "property.__get__"))) && (decide (PySem.W.takesIn K (.ref p) = some true) && (match PySem.W.recIn K p "property" with
  | some (.ref f :: _) => decide (f = g)
  | _ => false)))
theorem propB_ok {K : PySem.W.Frag} {C : Addr} {m : Str} {p g : Addr} (h : propB K C m p g = true) : PropOf K C m p g := by
  obtain ⟨h1, h⟩ := ba h
  obtain ⟨h2, h⟩ := ba h
  obtain ⟨h3, h4⟩ := ba h
  refine ⟨eqO_ok h1, eqO_ok h2, of_decide_eq_true h3, ?_⟩
  split at h4
  · rename_i f r q
    rw [of_decide_eq_true h4] at q
    exact ⟨r, q⟩
  · cases h4
def tyB (K : PySem.W.Frag) (C : Addr) : Bool := eqO (PySem.W.findIn K (.ref C) "__class__") (some (some (.builtin "object.__class__"))) && (eqO (PySem.W.specialIn K (.builtin "object.__class__") "__get__") (some (some (.builtin "getset_descriptor.__get__"))) && (decide (PySem.W.takesIn K (.builtin "object.__class__") = some true) &&
  decide (PySem.W.mroIn K C (.type "object") = some true)))
theorem tyB_ok {K : PySem.W.Frag} {C : Addr} (c : Cls K C) (h : tyB K C = true) {H : Hp} {a dx : Addr} {fs : List (Str × V)} (e : H a = some (.ins C dx fs)) : TyOf K H (.ref a) (.ref C) :=
  .ins e c (eqO_ok (ba h).1) (eqO_ok (ba (ba h).2).1) (of_decide_eq_true (ba (ba (ba h).2).2).1) (of_decide_eq_true (ba (ba (ba h).2).2).2)
theorem wordsO_ok {K : PySem.W.Frag} {a : Addr} (h : (match K.lookup a with | some o => decide (o.cls = .type "tuple") && o.dict.isNone | none => false) = true) : ∃ o, K.lookup a = some o ∧ o.cls = .type "tuple" ∧ o.dict = none := by
  cases q : K.lookup a with
  | none => rw [q] at h; cases h
  | some o =>
    rw [q] at h
    exact ⟨o, rfl, of_decide_eq_true (ba h).1, Option.isNone_iff_eq_none.mp (ba h).2⟩
structure Dun (K : PySem.W.Frag) (C : Addr) (m : Str) (f : Addr) : Prop where
  at_ : PySem.W.findIn K (.ref C) m = some (some (.ref f))
  fn : PySem.W.isFn K (.ref f) = true
  fi : PySem.W.fnIn K f = true
def dunB (K : PySem.W.Frag) (C : Addr) (m : Str) : Bool := eqO (PySem.W.findIn K (.ref C) m) (some (some (.ref (ma K C m)))) && (PySem.W.isFn K (.ref (ma K C m)) && PySem.W.fnIn K (ma K C m))
theorem dunB_ok {K : PySem.W.Frag} {C : Addr} {m : Str} (h : dunB K C m = true) : Dun K C m (ma K C m) := ⟨eqO_ok (ba h).1, (ba (ba h).2).1, (ba (ba h).2).2⟩
def tupA (K : PySem.W.Frag) (a : Addr) (vs : List Dv) : Bool := match K.lookup a with
  | some ⟨.type c, _, .seq its _, _⟩ => decide (c = "tuple") && (decide (its.size ≤ sizeLine) && relAll (vs.map (Dv.v K)) its.toList)
  | _ => false
theorem tupA_ok {K : PySem.W.Frag} {a : Addr} {vs : List Dv} (h : tupA K a vs = true) (H : Hp) : SqT K H a (vs.map (Dv.v K)) := by
  unfold tupA at h
  split at h
  · rename_i c od its n sl q
    obtain ⟨h1, h2⟩ := ba h
    obtain ⟨h3, h4⟩ := ba h2
    exact .inr ⟨_, its, n, q, congrArg Value.type (of_decide_eq_true h1), rfl, of_decide_eq_true h3, relAll_ok h4⟩
  · cases h
def x_cr_Timed (K : PySem.W.Frag) : Bool := PySem.W.readsIn K (ga K "Timed") (.type "type") && eqO (PySem.W.specialIn K (.ref (ga K "Timed")) "__getattribute__") (some (some (.builtin "type.__getattribute__")))
def x_cr_Piece (K : PySem.W.Frag) : Bool := PySem.W.readsIn K (ga K "Piece") (.type "type") && eqO (PySem.W.specialIn K (.ref (ga K "Piece")) "__getattribute__") (some (some (.builtin "type.__getattribute__")))
def x_cr_Break (K : PySem.W.Frag) : Bool := PySem.W.readsIn K (ga K "Break") (.type "type") && eqO (PySem.W.specialIn K (.ref (ga K "Break")) "__getattribute__") (some (some (.builtin "type.__getattribute__")))
def x_cr_Named (K : PySem.W.Frag) : Bool := PySem.W.readsIn K (ga K "Named") (.type "type") && eqO (PySem.W.specialIn K (.ref (ga K "Named")) "__getattribute__") (some (some (.builtin "type.__getattribute__")))
def x_v_Timed_MOST_DELAY (K : PySem.W.Frag) : Bool := cvalB K (ga K "Timed") "MOST_DELAY" (.int 8)
def x_v_Piece_MOST_SPREAD (K : PySem.W.Frag) : Bool := cvalB K (ga K "Piece") "MOST_SPREAD" (.int 8)
def x_v_Break_MOST_PLACES (K : PySem.W.Frag) : Bool := cvalB K (ga K "Break") "MOST_PLACES" (.int 12)
def x_v_Break_MOST_PATIENCE (K : PySem.W.Frag) : Bool := cvalB K (ga K "Break") "MOST_PATIENCE" (.int 64)
def x_cf_Timed (K : PySem.W.Frag) : Bool := clsFnB K (ga K "Timed") "__init__" (ma K (ga K "Timed") "__init__")
def x_cf_Named (K : PySem.W.Frag) : Bool := clsFnB K (ga K "Named") "__init__" (ma K (ga K "Named") "__init__")
def x_m_Piece_begin_at (K : PySem.W.Frag) : Bool := methB K (ga K "Piece") "begin_at" (ma K (ga K "Timed") "begin_at")
def x_m_Break_begin_at (K : PySem.W.Frag) : Bool := methB K (ga K "Break") "begin_at" (ma K (ga K "Timed") "begin_at")
def x_p_Break_length (K : PySem.W.Frag) : Bool := propB K (ga K "Break") "length" (ma K (ga K "Break") "length") (getAd "Break" "length" K)
def x_p_Order_points (K : PySem.W.Frag) : Bool := propB K (ga K "Order") "points" (ma K (ga K "Order") "points") (getAd "Order" "points" K)
def x_ty_Piece (K : PySem.W.Frag) : Bool := tyB K (ga K "Piece")
def x_ty_Break (K : PySem.W.Frag) : Bool := tyB K (ga K "Break")
def x_ty_Outlook (K : PySem.W.Frag) : Bool := tyB K (ga K "Outlook")
def x_ty_Reach (K : PySem.W.Frag) : Bool := tyB K (ga K "Reach")
def x_ty_Span (K : PySem.W.Frag) : Bool := tyB K (ga K "Span")
def x_ty_Grid (K : PySem.W.Frag) : Bool := tyB K (ga K "Grid")
def x_is_Piece_Piece (K : PySem.W.Frag) : Bool := decide (PySem.W.kitOne K (.ref (ga K "Piece")) (.ref (ga K "Piece")) = some true)
def x_is_Piece_Break (K : PySem.W.Frag) : Bool := decide (PySem.W.kitOne K (.ref (ga K "Piece")) (.ref (ga K "Break")) = some false)
def x_is_Break_Piece (K : PySem.W.Frag) : Bool := decide (PySem.W.kitOne K (.ref (ga K "Break")) (.ref (ga K "Piece")) = some false)
def x_is_Break_Break (K : PySem.W.Frag) : Bool := decide (PySem.W.kitOne K (.ref (ga K "Break")) (.ref (ga K "Break")) = some true)
def x_d_Span_contains (K : PySem.W.Frag) : Bool := dunB K (ga K "Span") "__contains__"
def x_d_Order_contains (K : PySem.W.Frag) : Bool := dunB K (ga K "Order") "__contains__"
def x_d_Order_getitem (K : PySem.W.Frag) : Bool := dunB K (ga K "Order") "__getitem__"
def x_d_Course_call (K : PySem.W.Frag) : Bool := dunB K (ga K "Course") "__call__"
def x_words (K : PySem.W.Frag) : Bool := tupB K "WORDS" [.str "delay", .str "length", .str "walk", .str "pack"]
def x_wordsO (K : PySem.W.Frag) : Bool := (match K.lookup (ga K "WORDS") with | some o => decide (o.cls = .type "tuple") && o.dict.isNone | none => false)
def x_own_lags (K : PySem.W.Frag) : Bool := valsB K (ga K "OWN_LAGS") [("enter", .str "walk"), ("out", .str "pack")]
def x_own_no_opens (K : PySem.W.Frag) : Bool := eqO (PySem.W.nsIn K (ga K "OWN_LAGS") "opens") (some none)
def x_own_no_begin (K : PySem.W.Frag) : Bool := eqO (PySem.W.nsIn K (ga K "OWN_LAGS") "begin") (some none)
def x_own_no_end (K : PySem.W.Frag) : Bool := eqO (PySem.W.nsIn K (ga K "OWN_LAGS") "end") (some none)
def x_own_no_call (K : PySem.W.Frag) : Bool := eqO (PySem.W.nsIn K (ga K "OWN_LAGS") "call") (some none)
def x_own_no_place (K : PySem.W.Frag) : Bool := eqO (PySem.W.nsIn K (ga K "OWN_LAGS") "place") (some none)
def x_sup_Piece (K : PySem.W.Frag) : Bool := supB K PP.main.file d_Piece_init
def x_si_Piece (K : PySem.W.Frag) : Bool := eqO (PySem.W.ks_superIn K (ga K "Piece") (ga K "Piece") "__init__") (some (some (.ref (ma K (ga K "Item") "__init__"))))
def x_sup_Break (K : PySem.W.Frag) : Bool := supB K PP.main.file d_Break_init
def x_si_Break (K : PySem.W.Frag) : Bool := eqO (PySem.W.ks_superIn K (ga K "Break") (ga K "Break") "__init__") (some (some (.ref (ma K (ga K "Item") "__init__"))))
def x_ty_item (K : PySem.W.Frag) : Bool := eqT (PySem.W.typeIn K (.ref (ma K (ga K "Item") "__init__"))) (some (.type "function")) && PySem.W.fnIn K (ma K (ga K "Item") "__init__")
def x_wp (K : PySem.W.Frag) : Bool := tupA K (kwAt ("House", some "__init__") "walk" K) [.int 0, .int 0] && tupA K (kwAt ("House", some "__init__") "pack" K) [.int 0, .int 0] && tupA K (dflAt ("House", some "__init__") 0 K) []
def x_np_oex (K : PySem.W.Frag) : Bool := oexB K (ga K "NoPoint") && (eqO (PySem.W.findIn K (.ref (ga K "NoPoint")) "__setattr__") (some (some (.builtin "object.__setattr__"))) && (decide (PySem.W.subIn K (.ref (ga K "NoPoint")) (.type "BaseException") = some true) && (eqT (PySem.W.typeIn K (.ref (ga K "NoPoint"))) (some (.type "type")) && PySem.W.keepIn K (.ref (ga K "NoPoint")))))
def x_np_sup (K : PySem.W.Frag) : Bool := supB K PP.main.file d_NoPoint_init
def x_np_si (K : PySem.W.Frag) : Bool := eqO (PySem.W.ks_superIn K (ga K "NoPoint") (ga K "NoPoint") "__init__") (some (some (.builtin "ValueError.__init__")))
def x_np_at (K : PySem.W.Frag) : Bool := eqO (PySem.W.findIn K (.ref (ga K "NoPoint")) "point") (some none) && (eqO (PySem.W.findIn K (.ref (ga K "NoPoint")) "__getattr__") (some none) && eqO (PySem.W.findIn K (.ref (ga K "NoPoint")) "__init__") (some (some (.ref (ma K (ga K "NoPoint") "__init__")))))
def x_np_ga (K : PySem.W.Frag) : Bool := eqO (PySem.W.findIn K (.ref (ga K "NoPoint")) "__getattribute__") (some (some (.builtin "BaseException.__getattribute__"))) && (PySem.W.hasDictIn K (ga K "NoPoint") && (eqT (PySem.W.typeIn K (.ref (ma K (ga K "NoPoint") "__init__"))) (some (.type "function")) && PySem.W.keepIn K (.ref (ma K (ga K "NoPoint") "__init__"))))
def x_np_is_NoPoint (K : PySem.W.Frag) : Bool := decide (PySem.W.exmOne K (.ref (ga K "NoPoint")) (.ref (ga K "NoPoint")) = some true) && decide (PySem.W.kitOne K (.ref (ga K "NoPoint")) (.ref (ga K "NoPoint")) = some true)
def x_np_is_BarbreaksError (K : PySem.W.Frag) : Bool := decide (PySem.W.exmOne K (.ref (ga K "NoPoint")) (.ref (ga K "BarbreaksError")) = some true) && decide (PySem.W.kitOne K (.ref (ga K "NoPoint")) (.ref (ga K "BarbreaksError")) = some true)
def x_np_is_Refused (K : PySem.W.Frag) : Bool := decide (PySem.W.exmOne K (.ref (ga K "NoPoint")) (.ref (ga K "Refused")) = some false) && decide (PySem.W.kitOne K (.ref (ga K "NoPoint")) (.ref (ga K "Refused")) = some false)
def x_np_is_NotReached (K : PySem.W.Frag) : Bool := decide (PySem.W.exmOne K (.ref (ga K "NoPoint")) (.ref (ga K "NotReached")) = some false) && decide (PySem.W.kitOne K (.ref (ga K "NoPoint")) (.ref (ga K "NotReached")) = some false)
def x_np_isV (K : PySem.W.Frag) : Bool := decide (PySem.W.kitOne K (.ref (ga K "NoPoint")) (.type "ValueError") = some true)
def x_np_cls (K : PySem.W.Frag) : Bool := eqO (PySem.W.findIn K (.ref (ga K "NoPoint")) "__class__") (some (some (.builtin "object.__class__"))) && (eqO (PySem.W.specialIn K (.builtin "object.__class__") "__get__") (some (some (.builtin "getset_descriptor.__get__"))) && (decide (PySem.W.takesIn K (.builtin "object.__class__") = some true) && decide (PySem.W.mroIn K (ga K "NoPoint") (.type "object") = some true)))
def x_gb_Break_length (K : PySem.W.Frag) : Bool := getB K ⟨d_Break_length, getAd "Break" "length", []⟩
def x_gb_Order_points (K : PySem.W.Frag) : Bool := getB K ⟨d_Order_points, getAd "Order" "points", []⟩
def exL : List (PySem.W.Frag → Bool) := [x_cr_Timed, x_cr_Piece, x_cr_Break, x_cr_Named, x_v_Timed_MOST_DELAY, x_v_Piece_MOST_SPREAD, x_v_Break_MOST_PLACES, x_v_Break_MOST_PATIENCE, x_cf_Timed, x_cf_Named, x_m_Piece_begin_at, x_m_Break_begin_at, x_p_Break_length, x_p_Order_points, x_ty_Piece, x_ty_Break, x_ty_Outlook, x_ty_Reach, x_ty_Span, x_ty_Grid, x_is_Piece_Piece, x_is_Piece_Break, x_is_Break_Piece, x_is_Break_Break, x_d_Span_contains, x_d_Order_contains, x_d_Order_getitem, x_d_Course_call, x_words, x_wordsO, x_own_lags, x_own_no_opens, x_own_no_begin, x_own_no_end, x_own_no_call, x_own_no_place, x_sup_Piece, x_si_Piece, x_sup_Break, x_si_Break, x_ty_item, x_wp, x_np_oex, x_np_sup, x_np_si, x_np_at, x_np_ga, x_np_is_NoPoint, x_np_is_BarbreaksError, x_np_is_Refused, x_np_is_NotReached, x_np_isV, x_np_cls, x_gb_Break_length, x_gb_Order_points]
/-- what the head tells -/
structure TX (K : PySem.W.Frag) (mg : Str → Option Value) (w : World) : Prop where
  c : SaysB faL fnL tsL fsL exL w K
  h : ∃ h : Heap, K.In h ∧ h.Ns mainGlobals mg
section
variable {K : PySem.W.Frag} {mg : Str → Option Value} {w : World}
noncomputable def TX.hp (T : TX K mg w) : Heap := T.h.choose
theorem TX.kx (T : TX K mg w) : K.In T.hp := T.h.choose_spec.1
theorem TX.gx (T : TX K mg w) : T.hp.Ns mainGlobals mg := T.h.choose_spec.2
theorem TX.g_BadEvent (T : TX K mg w) : mg "BadEvent" = some (.ref (ga K "BadEvent")) := glo_ok T.kx T.gx (T.c.d.fact 0 (f := .glo "BadEvent"))
theorem TX.g_BadName (T : TX K mg w) : mg "BadName" = some (.ref (ga K "BadName")) := glo_ok T.kx T.gx (T.c.d.fact 1 (f := .glo "BadName"))
theorem TX.g_BadNumber (T : TX K mg w) : mg "BadNumber" = some (.ref (ga K "BadNumber")) := glo_ok T.kx T.gx (T.c.d.fact 2 (f := .glo "BadNumber"))
theorem TX.g_BadSpan (T : TX K mg w) : mg "BadSpan" = some (.ref (ga K "BadSpan")) := glo_ok T.kx T.gx (T.c.d.fact 3 (f := .glo "BadSpan"))
theorem TX.g_BadWord (T : TX K mg w) : mg "BadWord" = some (.ref (ga K "BadWord")) := glo_ok T.kx T.gx (T.c.d.fact 4 (f := .glo "BadWord"))
theorem TX.g_BarbreaksError (T : TX K mg w) : mg "BarbreaksError" = some (.ref (ga K "BarbreaksError")) := glo_ok T.kx T.gx (T.c.d.fact 5 (f := .glo "BarbreaksError"))
theorem TX.g_Break (T : TX K mg w) : mg "Break" = some (.ref (ga K "Break")) := glo_ok T.kx T.gx (T.c.d.fact 6 (f := .glo "Break"))
theorem TX.g_Course (T : TX K mg w) : mg "Course" = some (.ref (ga K "Course")) := glo_ok T.kx T.gx (T.c.d.fact 7 (f := .glo "Course"))
theorem TX.g_Distance (T : TX K mg w) : mg "Distance" = some (.ref (ga K "Distance")) := glo_ok T.kx T.gx (T.c.d.fact 8 (f := .glo "Distance"))
theorem TX.g_Grid (T : TX K mg w) : mg "Grid" = some (.ref (ga K "Grid")) := glo_ok T.kx T.gx (T.c.d.fact 9 (f := .glo "Grid"))
theorem TX.g_Hang (T : TX K mg w) : mg "Hang" = some (.ref (ga K "Hang")) := glo_ok T.kx T.gx (T.c.d.fact 10 (f := .glo "Hang"))
theorem TX.g_House (T : TX K mg w) : mg "House" = some (.ref (ga K "House")) := glo_ok T.kx T.gx (T.c.d.fact 11 (f := .glo "House"))
theorem TX.g_Named (T : TX K mg w) : mg "Named" = some (.ref (ga K "Named")) := glo_ok T.kx T.gx (T.c.d.fact 12 (f := .glo "Named"))
theorem TX.g_NoPoint (T : TX K mg w) : mg "NoPoint" = some (.ref (ga K "NoPoint")) := glo_ok T.kx T.gx (T.c.d.fact 13 (f := .glo "NoPoint"))
theorem TX.g_NotReached (T : TX K mg w) : mg "NotReached" = some (.ref (ga K "NotReached")) := glo_ok T.kx T.gx (T.c.d.fact 14 (f := .glo "NotReached"))
theorem TX.g_OWN_LAGS (T : TX K mg w) : mg "OWN_LAGS" = some (.ref (ga K "OWN_LAGS")) := glo_ok T.kx T.gx (T.c.d.fact 15 (f := .glo "OWN_LAGS"))
theorem TX.g_Order (T : TX K mg w) : mg "Order" = some (.ref (ga K "Order")) := glo_ok T.kx T.gx (T.c.d.fact 16 (f := .glo "Order"))
theorem TX.g_Outlook (T : TX K mg w) : mg "Outlook" = some (.ref (ga K "Outlook")) := glo_ok T.kx T.gx (T.c.d.fact 17 (f := .glo "Outlook"))
theorem TX.g_Outside (T : TX K mg w) : mg "Outside" = some (.ref (ga K "Outside")) := glo_ok T.kx T.gx (T.c.d.fact 18 (f := .glo "Outside"))
theorem TX.g_Piece (T : TX K mg w) : mg "Piece" = some (.ref (ga K "Piece")) := glo_ok T.kx T.gx (T.c.d.fact 19 (f := .glo "Piece"))
theorem TX.g_Reach (T : TX K mg w) : mg "Reach" = some (.ref (ga K "Reach")) := glo_ok T.kx T.gx (T.c.d.fact 20 (f := .glo "Reach"))
theorem TX.g_Refused (T : TX K mg w) : mg "Refused" = some (.ref (ga K "Refused")) := glo_ok T.kx T.gx (T.c.d.fact 21 (f := .glo "Refused"))
theorem TX.g_Span (T : TX K mg w) : mg "Span" = some (.ref (ga K "Span")) := glo_ok T.kx T.gx (T.c.d.fact 22 (f := .glo "Span"))
theorem TX.g_Timed (T : TX K mg w) : mg "Timed" = some (.ref (ga K "Timed")) := glo_ok T.kx T.gx (T.c.d.fact 23 (f := .glo "Timed"))
theorem TX.g_TooMany (T : TX K mg w) : mg "TooMany" = some (.ref (ga K "TooMany")) := glo_ok T.kx T.gx (T.c.d.fact 24 (f := .glo "TooMany"))
theorem TX.g_Twice (T : TX K mg w) : mg "Twice" = some (.ref (ga K "Twice")) := glo_ok T.kx T.gx (T.c.d.fact 25 (f := .glo "Twice"))
theorem TX.g_Unknown (T : TX K mg w) : mg "Unknown" = some (.ref (ga K "Unknown")) := glo_ok T.kx T.gx (T.c.d.fact 26 (f := .glo "Unknown"))
theorem TX.g_WORDS (T : TX K mg w) : mg "WORDS" = some (.ref (ga K "WORDS")) := glo_ok T.kx T.gx (T.c.d.fact 27 (f := .glo "WORDS"))
theorem TX.g__law_apart (T : TX K mg w) : mg "_law_apart" = some (.ref (ga K "_law_apart")) := glo_ok T.kx T.gx (T.c.d.fact 28 (f := .glo "_law_apart"))
theorem TX.g__law_at (T : TX K mg w) : mg "_law_at" = some (.ref (ga K "_law_at")) := glo_ok T.kx T.gx (T.c.d.fact 29 (f := .glo "_law_at"))
theorem TX.g__law_bent (T : TX K mg w) : mg "_law_bent" = some (.ref (ga K "_law_bent")) := glo_ok T.kx T.gx (T.c.d.fact 30 (f := .glo "_law_bent"))
theorem TX.g__law_big (T : TX K mg w) : mg "_law_big" = some (.ref (ga K "_law_big")) := glo_ok T.kx T.gx (T.c.d.fact 31 (f := .glo "_law_big"))
theorem TX.g__law_call (T : TX K mg w) : mg "_law_call" = some (.ref (ga K "_law_call")) := glo_ok T.kx T.gx (T.c.d.fact 32 (f := .glo "_law_call"))
theorem TX.g__law_day (T : TX K mg w) : mg "_law_day" = some (.ref (ga K "_law_day")) := glo_ok T.kx T.gx (T.c.d.fact 33 (f := .glo "_law_day"))
theorem TX.g__law_event (T : TX K mg w) : mg "_law_event" = some (.ref (ga K "_law_event")) := glo_ok T.kx T.gx (T.c.d.fact 34 (f := .glo "_law_event"))
theorem TX.g__law_events (T : TX K mg w) : mg "_law_events" = some (.ref (ga K "_law_events")) := glo_ok T.kx T.gx (T.c.d.fact 35 (f := .glo "_law_events"))
theorem TX.g__law_first (T : TX K mg w) : mg "_law_first" = some (.ref (ga K "_law_first")) := glo_ok T.kx T.gx (T.c.d.fact 36 (f := .glo "_law_first"))
theorem TX.g__law_house (T : TX K mg w) : mg "_law_house" = some (.ref (ga K "_law_house")) := glo_ok T.kx T.gx (T.c.d.fact 37 (f := .glo "_law_house"))
theorem TX.g__law_is_int (T : TX K mg w) : mg "_law_is_int" = some (.ref (ga K "_law_is_int")) := glo_ok T.kx T.gx (T.c.d.fact 38 (f := .glo "_law_is_int"))
theorem TX.g__law_item (T : TX K mg w) : mg "_law_item" = some (.ref (ga K "_law_item")) := glo_ok T.kx T.gx (T.c.d.fact 39 (f := .glo "_law_item"))
theorem TX.g__law_items (T : TX K mg w) : mg "_law_items" = some (.ref (ga K "_law_items")) := glo_ok T.kx T.gx (T.c.d.fact 40 (f := .glo "_law_items"))
theorem TX.g__law_moment (T : TX K mg w) : mg "_law_moment" = some (.ref (ga K "_law_moment")) := glo_ok T.kx T.gx (T.c.d.fact 41 (f := .glo "_law_moment"))
theorem TX.g__law_moments (T : TX K mg w) : mg "_law_moments" = some (.ref (ga K "_law_moments")) := glo_ok T.kx T.gx (T.c.d.fact 42 (f := .glo "_law_moments"))
theorem TX.g__law_names (T : TX K mg w) : mg "_law_names" = some (.ref (ga K "_law_names")) := glo_ok T.kx T.gx (T.c.d.fact 43 (f := .glo "_law_names"))
theorem TX.g__law_narrow (T : TX K mg w) : mg "_law_narrow" = some (.ref (ga K "_law_narrow")) := glo_ok T.kx T.gx (T.c.d.fact 44 (f := .glo "_law_narrow"))
theorem TX.g__law_opens (T : TX K mg w) : mg "_law_opens" = some (.ref (ga K "_law_opens")) := glo_ok T.kx T.gx (T.c.d.fact 45 (f := .glo "_law_opens"))
theorem TX.g__law_order (T : TX K mg w) : mg "_law_order" = some (.ref (ga K "_law_order")) := glo_ok T.kx T.gx (T.c.d.fact 46 (f := .glo "_law_order"))
theorem TX.g__law_point (T : TX K mg w) : mg "_law_point" = some (.ref (ga K "_law_point")) := glo_ok T.kx T.gx (T.c.d.fact 47 (f := .glo "_law_point"))
theorem TX.g__law_pool (T : TX K mg w) : mg "_law_pool" = some (.ref (ga K "_law_pool")) := glo_ok T.kx T.gx (T.c.d.fact 48 (f := .glo "_law_pool"))
theorem TX.g__law_refused (T : TX K mg w) : mg "_law_refused" = some (.ref (ga K "_law_refused")) := glo_ok T.kx T.gx (T.c.d.fact 49 (f := .glo "_law_refused"))
theorem TX.g__law_rows (T : TX K mg w) : mg "_law_rows" = some (.ref (ga K "_law_rows")) := glo_ok T.kx T.gx (T.c.d.fact 50 (f := .glo "_law_rows"))
theorem TX.g__law_same (T : TX K mg w) : mg "_law_same" = some (.ref (ga K "_law_same")) := glo_ok T.kx T.gx (T.c.d.fact 51 (f := .glo "_law_same"))
theorem TX.g__law_spans (T : TX K mg w) : mg "_law_spans" = some (.ref (ga K "_law_spans")) := glo_ok T.kx T.gx (T.c.d.fact 52 (f := .glo "_law_spans"))
theorem TX.g__law_take (T : TX K mg w) : mg "_law_take" = some (.ref (ga K "_law_take")) := glo_ok T.kx T.gx (T.c.d.fact 53 (f := .glo "_law_take"))
theorem TX.g_bent_row (T : TX K mg w) : mg "bent_row" = some (.ref (ga K "bent_row")) := glo_ok T.kx T.gx (T.c.d.fact 54 (f := .glo "bent_row"))
theorem TX.g_check_kinds (T : TX K mg w) : mg "check_kinds" = some (.ref (ga K "check_kinds")) := glo_ok T.kx T.gx (T.c.d.fact 55 (f := .glo "check_kinds"))
theorem TX.g_corner (T : TX K mg w) : mg "corner" = some (.ref (ga K "corner")) := glo_ok T.kx T.gx (T.c.d.fact 56 (f := .glo "corner"))
theorem TX.g_extreme (T : TX K mg w) : mg "extreme" = some (.ref (ga K "extreme")) := glo_ok T.kx T.gx (T.c.d.fact 57 (f := .glo "extreme"))
theorem TX.g_farthest (T : TX K mg w) : mg "farthest" = some (.ref (ga K "farthest")) := glo_ok T.kx T.gx (T.c.d.fact 58 (f := .glo "farthest"))
theorem TX.g_has_event (T : TX K mg w) : mg "has_event" = some (.ref (ga K "has_event")) := glo_ok T.kx T.gx (T.c.d.fact 59 (f := .glo "has_event"))
theorem TX.g_hollow (T : TX K mg w) : mg "hollow" = some (.ref (ga K "hollow")) := glo_ok T.kx T.gx (T.c.d.fact 60 (f := .glo "hollow"))
theorem TX.g_is_name (T : TX K mg w) : mg "is_name" = some (.ref (ga K "is_name")) := glo_ok T.kx T.gx (T.c.d.fact 61 (f := .glo "is_name"))
theorem TX.g_lag_spans (T : TX K mg w) : mg "lag_spans" = some (.ref (ga K "lag_spans")) := glo_ok T.kx T.gx (T.c.d.fact 62 (f := .glo "lag_spans"))
theorem TX.g_least_ahead (T : TX K mg w) : mg "least_ahead" = some (.ref (ga K "least_ahead")) := glo_ok T.kx T.gx (T.c.d.fact 63 (f := .glo "least_ahead"))
theorem TX.g_least_back (T : TX K mg w) : mg "least_back" = some (.ref (ga K "least_back")) := glo_ok T.kx T.gx (T.c.d.fact 64 (f := .glo "least_back"))
theorem TX.g_nearest (T : TX K mg w) : mg "nearest" = some (.ref (ga K "nearest")) := glo_ok T.kx T.gx (T.c.d.fact 65 (f := .glo "nearest"))
theorem TX.g_next_moment (T : TX K mg w) : mg "next_moment" = some (.ref (ga K "next_moment")) := glo_ok T.kx T.gx (T.c.d.fact 66 (f := .glo "next_moment"))
theorem TX.g_next_table (T : TX K mg w) : mg "next_table" = some (.ref (ga K "next_table")) := glo_ok T.kx T.gx (T.c.d.fact 67 (f := .glo "next_table"))
theorem TX.g_point_of (T : TX K mg w) : mg "point_of" = some (.ref (ga K "point_of")) := glo_ok T.kx T.gx (T.c.d.fact 68 (f := .glo "point_of"))
theorem TX.g_span_of_bounds (T : TX K mg w) : mg "span_of_bounds" = some (.ref (ga K "span_of_bounds")) := glo_ok T.kx T.gx (T.c.d.fact 69 (f := .glo "span_of_bounds"))
theorem TX.g_step_lag (T : TX K mg w) : mg "step_lag" = some (.ref (ga K "step_lag")) := glo_ok T.kx T.gx (T.c.d.fact 70 (f := .glo "step_lag"))
theorem TX.g_step_span (T : TX K mg w) : mg "step_span" = some (.ref (ga K "step_span")) := glo_ok T.kx T.gx (T.c.d.fact 71 (f := .glo "step_span"))
theorem TX.g_with_lag (T : TX K mg w) : mg "with_lag" = some (.ref (ga K "with_lag")) := glo_ok T.kx T.gx (T.c.d.fact 72 (f := .glo "with_lag"))
theorem TX.g_with_spans (T : TX K mg w) : mg "with_spans" = some (.ref (ga K "with_spans")) := glo_ok T.kx T.gx (T.c.d.fact 73 (f := .glo "with_spans"))
theorem TX.n_ValueError (T : TX K mg w) : mg "ValueError" = none := free_ok T.kx T.gx (T.c.d.fact 74 (f := .free "ValueError"))
theorem TX.n_all (T : TX K mg w) : mg "all" = none := free_ok T.kx T.gx (T.c.d.fact 75 (f := .free "all"))
theorem TX.n_bool (T : TX K mg w) : mg "bool" = none := free_ok T.kx T.gx (T.c.d.fact 76 (f := .free "bool"))
theorem TX.n_dict (T : TX K mg w) : mg "dict" = none := free_ok T.kx T.gx (T.c.d.fact 77 (f := .free "dict"))
theorem TX.n_enumerate (T : TX K mg w) : mg "enumerate" = none := free_ok T.kx T.gx (T.c.d.fact 78 (f := .free "enumerate"))
theorem TX.n_int (T : TX K mg w) : mg "int" = none := free_ok T.kx T.gx (T.c.d.fact 79 (f := .free "int"))
theorem TX.n_isinstance (T : TX K mg w) : mg "isinstance" = none := free_ok T.kx T.gx (T.c.d.fact 80 (f := .free "isinstance"))
theorem TX.n_len (T : TX K mg w) : mg "len" = none := free_ok T.kx T.gx (T.c.d.fact 81 (f := .free "len"))
theorem TX.n_list (T : TX K mg w) : mg "list" = none := free_ok T.kx T.gx (T.c.d.fact 82 (f := .free "list"))
theorem TX.n_max (T : TX K mg w) : mg "max" = none := free_ok T.kx T.gx (T.c.d.fact 83 (f := .free "max"))
theorem TX.n_min (T : TX K mg w) : mg "min" = none := free_ok T.kx T.gx (T.c.d.fact 84 (f := .free "min"))
theorem TX.n_property (T : TX K mg w) : mg "property" = none := free_ok T.kx T.gx (T.c.d.fact 85 (f := .free "property"))
theorem TX.n_range (T : TX K mg w) : mg "range" = none := free_ok T.kx T.gx (T.c.d.fact 86 (f := .free "range"))
theorem TX.n_reversed (T : TX K mg w) : mg "reversed" = none := free_ok T.kx T.gx (T.c.d.fact 87 (f := .free "reversed"))
theorem TX.n_sorted (T : TX K mg w) : mg "sorted" = none := free_ok T.kx T.gx (T.c.d.fact 88 (f := .free "sorted"))
theorem TX.n_str (T : TX K mg w) : mg "str" = none := free_ok T.kx T.gx (T.c.d.fact 89 (f := .free "str"))
theorem TX.n_sum (T : TX K mg w) : mg "sum" = none := free_ok T.kx T.gx (T.c.d.fact 90 (f := .free "sum"))
theorem TX.n_super (T : TX K mg w) : mg "super" = none := free_ok T.kx T.gx (T.c.d.fact 91 (f := .free "super"))
theorem TX.n_tuple (T : TX K mg w) : mg "tuple" = none := free_ok T.kx T.gx (T.c.d.fact 92 (f := .free "tuple"))
theorem TX.i_DELAY (T : TX K mg w) : ∃ t, mg "DELAY" = some (.int 0 t) := int_ok T.kx T.gx (T.c.d.fact 93 (f := .int "DELAY" 0))
theorem TX.i_LENGTH (T : TX K mg w) : ∃ t, mg "LENGTH" = some (.int 1 t) := int_ok T.kx T.gx (T.c.d.fact 94 (f := .int "LENGTH" 1))
theorem TX.i_LONGEST_NAME (T : TX K mg w) : ∃ t, mg "LONGEST_NAME" = some (.int 12 t) := int_ok T.kx T.gx (T.c.d.fact 95 (f := .int "LONGEST_NAME" 12))
theorem TX.i_MOST_AHEAD (T : TX K mg w) : ∃ t, mg "MOST_AHEAD" = some (.int 3 t) := int_ok T.kx T.gx (T.c.d.fact 96 (f := .int "MOST_AHEAD" 3))
theorem TX.i_MOST_CREWS (T : TX K mg w) : ∃ t, mg "MOST_CREWS" = some (.int 6 t) := int_ok T.kx T.gx (T.c.d.fact 97 (f := .int "MOST_CREWS" 6))
theorem TX.i_MOST_ITEMS (T : TX K mg w) : ∃ t, mg "MOST_ITEMS" = some (.int 8 t) := int_ok T.kx T.gx (T.c.d.fact 98 (f := .int "MOST_ITEMS" 8))
theorem TX.i_MOST_KINDS (T : TX K mg w) : ∃ t, mg "MOST_KINDS" = some (.int 5 t) := int_ok T.kx T.gx (T.c.d.fact 99 (f := .int "MOST_KINDS" 5))
theorem TX.i_MOST_PLACES_IN_ALL (T : TX K mg w) : ∃ t, mg "MOST_PLACES_IN_ALL" = some (.int 30 t) := int_ok T.kx T.gx (T.c.d.fact 100 (f := .int "MOST_PLACES_IN_ALL" 30))
theorem TX.i_MOST_STUDIOS (T : TX K mg w) : ∃ t, mg "MOST_STUDIOS" = some (.int 6 t) := int_ok T.kx T.gx (T.c.d.fact 101 (f := .int "MOST_STUDIOS" 6))
theorem TX.i_WIDEST_BOUNDS (T : TX K mg w) : ∃ t, mg "WIDEST_BOUNDS" = some (.int 8 t) := int_ok T.kx T.gx (T.c.d.fact 102 (f := .int "WIDEST_BOUNDS" 8))
theorem TX.s_DIGITS (T : TX K mg w) : ∃ t, mg "DIGITS" = some (.str "0123456789" t) := str_ok T.kx T.gx (T.c.d.fact 103 (f := .str "DIGITS" "0123456789"))
theorem TX.s_LETTERS (T : TX K mg w) : ∃ t, mg "LETTERS" = some (.str "abcdefghijklmnopqrstuvwxyz" t) := str_ok T.kx T.gx (T.c.d.fact 104 (f := .str "LETTERS" "abcdefghijklmnopqrstuvwxyz"))
theorem TX.c_Piece (T : TX K mg w) : Cls K (ga K "Piece") := cls_ok (T.c.d.fact 105 (f := .cls "Piece"))
theorem TX.c_Break (T : TX K mg w) : Cls K (ga K "Break") := cls_ok (T.c.d.fact 106 (f := .cls "Break"))
theorem TX.c_Grid (T : TX K mg w) : Cls K (ga K "Grid") := cls_ok (T.c.d.fact 107 (f := .cls "Grid"))
theorem TX.c_Span (T : TX K mg w) : Cls K (ga K "Span") := cls_ok (T.c.d.fact 108 (f := .cls "Span"))
theorem TX.c_House (T : TX K mg w) : Cls K (ga K "House") := cls_ok (T.c.d.fact 109 (f := .cls "House"))
theorem TX.c_Order (T : TX K mg w) : Cls K (ga K "Order") := cls_ok (T.c.d.fact 110 (f := .cls "Order"))
theorem TX.c_Outlook (T : TX K mg w) : Cls K (ga K "Outlook") := cls_ok (T.c.d.fact 111 (f := .cls "Outlook"))
theorem TX.c_Reach (T : TX K mg w) : Cls K (ga K "Reach") := cls_ok (T.c.d.fact 112 (f := .cls "Reach"))
theorem TX.c_Course (T : TX K mg w) : Cls K (ga K "Course") := cls_ok (T.c.d.fact 113 (f := .cls "Course"))
theorem TX.c_Hang (T : TX K mg w) : Cls K (ga K "Hang") := cls_ok (T.c.d.fact 114 (f := .cls "Hang"))
theorem TX.c_Distance (T : TX K mg w) : Cls K (ga K "Distance") := cls_ok (T.c.d.fact 115 (f := .cls "Distance"))
theorem TX.a_Piece_name (T : TX K mg w) : NoAttr K (ga K "Piece") "name" := noat_ok (T.c.d.fact 116 (f := .noat "Piece" "name"))
theorem TX.a_Piece_grid (T : TX K mg w) : NoAttr K (ga K "Piece") "grid" := noat_ok (T.c.d.fact 117 (f := .noat "Piece" "grid"))
theorem TX.a_Piece_minute (T : TX K mg w) : NoAttr K (ga K "Piece") "minute" := noat_ok (T.c.d.fact 118 (f := .noat "Piece" "minute"))
theorem TX.a_Piece_delay (T : TX K mg w) : NoAttr K (ga K "Piece") "delay" := noat_ok (T.c.d.fact 119 (f := .noat "Piece" "delay"))
theorem TX.a_Piece_least (T : TX K mg w) : NoAttr K (ga K "Piece") "least" := noat_ok (T.c.d.fact 120 (f := .noat "Piece" "least"))
theorem TX.a_Piece_most (T : TX K mg w) : NoAttr K (ga K "Piece") "most" := noat_ok (T.c.d.fact 121 (f := .noat "Piece" "most"))
theorem TX.a_Break_name (T : TX K mg w) : NoAttr K (ga K "Break") "name" := noat_ok (T.c.d.fact 122 (f := .noat "Break" "name"))
theorem TX.a_Break_grid (T : TX K mg w) : NoAttr K (ga K "Break") "grid" := noat_ok (T.c.d.fact 123 (f := .noat "Break" "grid"))
theorem TX.a_Break_minute (T : TX K mg w) : NoAttr K (ga K "Break") "minute" := noat_ok (T.c.d.fact 124 (f := .noat "Break" "minute"))
theorem TX.a_Break_delay (T : TX K mg w) : NoAttr K (ga K "Break") "delay" := noat_ok (T.c.d.fact 125 (f := .noat "Break" "delay"))
theorem TX.a_Break_places (T : TX K mg w) : NoAttr K (ga K "Break") "places" := noat_ok (T.c.d.fact 126 (f := .noat "Break" "places"))
theorem TX.a_Break_unit (T : TX K mg w) : NoAttr K (ga K "Break") "unit" := noat_ok (T.c.d.fact 127 (f := .noat "Break" "unit"))
theorem TX.a_Break_patience (T : TX K mg w) : NoAttr K (ga K "Break") "patience" := noat_ok (T.c.d.fact 128 (f := .noat "Break" "patience"))
theorem TX.a_Grid_step (T : TX K mg w) : NoAttr K (ga K "Grid") "step" := noat_ok (T.c.d.fact 129 (f := .noat "Grid" "step"))
theorem TX.a_Grid_offset (T : TX K mg w) : NoAttr K (ga K "Grid") "offset" := noat_ok (T.c.d.fact 130 (f := .noat "Grid" "offset"))
theorem TX.a_Span_low (T : TX K mg w) : NoAttr K (ga K "Span") "low" := noat_ok (T.c.d.fact 131 (f := .noat "Span" "low"))
theorem TX.a_Span_high (T : TX K mg w) : NoAttr K (ga K "Span") "high" := noat_ok (T.c.d.fact 132 (f := .noat "Span" "high"))
theorem TX.a_House_studios (T : TX K mg w) : NoAttr K (ga K "House") "studios" := noat_ok (T.c.d.fact 133 (f := .noat "House" "studios"))
theorem TX.a_House_crews (T : TX K mg w) : NoAttr K (ga K "House") "crews" := noat_ok (T.c.d.fact 134 (f := .noat "House" "crews"))
theorem TX.a_House_kinds (T : TX K mg w) : NoAttr K (ga K "House") "kinds" := noat_ok (T.c.d.fact 135 (f := .noat "House" "kinds"))
theorem TX.a_House_walk (T : TX K mg w) : NoAttr K (ga K "House") "walk" := noat_ok (T.c.d.fact 136 (f := .noat "House" "walk"))
theorem TX.a_House_pack (T : TX K mg w) : NoAttr K (ga K "House") "pack" := noat_ok (T.c.d.fact 137 (f := .noat "House" "pack"))
theorem TX.a_House_ahead (T : TX K mg w) : NoAttr K (ga K "House") "ahead" := noat_ok (T.c.d.fact 138 (f := .noat "House" "ahead"))
theorem TX.a_House_apart (T : TX K mg w) : NoAttr K (ga K "House") "apart" := noat_ok (T.c.d.fact 139 (f := .noat "House" "apart"))
theorem TX.a_Order_house (T : TX K mg w) : NoAttr K (ga K "Order") "house" := noat_ok (T.c.d.fact 140 (f := .noat "Order" "house"))
theorem TX.a_Order_opens (T : TX K mg w) : NoAttr K (ga K "Order") "opens" := noat_ok (T.c.d.fact 141 (f := .noat "Order" "opens"))
theorem TX.a_Order_lineup (T : TX K mg w) : NoAttr K (ga K "Order") "lineup" := noat_ok (T.c.d.fact 142 (f := .noat "Order" "lineup"))
theorem TX.a_Order__numbers (T : TX K mg w) : NoAttr K (ga K "Order") "_numbers" := noat_ok (T.c.d.fact 143 (f := .noat "Order" "_numbers"))
theorem TX.a_Outlook_order (T : TX K mg w) : NoAttr K (ga K "Outlook") "order" := noat_ok (T.c.d.fact 144 (f := .noat "Outlook" "order"))
theorem TX.a_Outlook__spans (T : TX K mg w) : NoAttr K (ga K "Outlook") "_spans" := noat_ok (T.c.d.fact 145 (f := .noat "Outlook" "_spans"))
theorem TX.a_Reach_outlook (T : TX K mg w) : NoAttr K (ga K "Reach") "outlook" := noat_ok (T.c.d.fact 146 (f := .noat "Reach" "outlook"))
theorem TX.a_Reach_tables (T : TX K mg w) : NoAttr K (ga K "Reach") "tables" := noat_ok (T.c.d.fact 147 (f := .noat "Reach" "tables"))
theorem TX.a_Reach__origins (T : TX K mg w) : NoAttr K (ga K "Reach") "_origins" := noat_ok (T.c.d.fact 148 (f := .noat "Reach" "_origins"))
theorem TX.a_Reach__least (T : TX K mg w) : NoAttr K (ga K "Reach") "_least" := noat_ok (T.c.d.fact 149 (f := .noat "Reach" "_least"))
theorem TX.a_Course_outlook (T : TX K mg w) : NoAttr K (ga K "Course") "outlook" := noat_ok (T.c.d.fact 150 (f := .noat "Course" "outlook"))
theorem TX.a_Course_start (T : TX K mg w) : NoAttr K (ga K "Course") "start" := noat_ok (T.c.d.fact 151 (f := .noat "Course" "start"))
theorem TX.a_Course_goal (T : TX K mg w) : NoAttr K (ga K "Course") "goal" := noat_ok (T.c.d.fact 152 (f := .noat "Course" "goal"))
theorem TX.a_Course__spans (T : TX K mg w) : NoAttr K (ga K "Course") "_spans" := noat_ok (T.c.d.fact 153 (f := .noat "Course" "_spans"))
theorem TX.a_Hang_outlook (T : TX K mg w) : NoAttr K (ga K "Hang") "outlook" := noat_ok (T.c.d.fact 154 (f := .noat "Hang" "outlook"))
theorem TX.a_Hang_event (T : TX K mg w) : NoAttr K (ga K "Hang") "event" := noat_ok (T.c.d.fact 155 (f := .noat "Hang" "event"))
theorem TX.a_Hang_point (T : TX K mg w) : NoAttr K (ga K "Hang") "point" := noat_ok (T.c.d.fact 156 (f := .noat "Hang" "point"))
theorem TX.a_Hang_least (T : TX K mg w) : NoAttr K (ga K "Hang") "least" := noat_ok (T.c.d.fact 157 (f := .noat "Hang" "least"))
theorem TX.a_Hang_greatest (T : TX K mg w) : NoAttr K (ga K "Hang") "greatest" := noat_ok (T.c.d.fact 158 (f := .noat "Hang" "greatest"))
theorem TX.a_Distance_ticks (T : TX K mg w) : NoAttr K (ga K "Distance") "ticks" := noat_ok (T.c.d.fact 159 (f := .noat "Distance" "ticks"))
theorem TX.a_Distance_row (T : TX K mg w) : NoAttr K (ga K "Distance") "row" := noat_ok (T.c.d.fact 160 (f := .noat "Distance" "row"))
theorem TX.m_Timed_begin_at (T : TX K mg w) : Meth K (ga K "Timed") "begin_at" (ma K (ga K "Timed") "begin_at") := meth_ok (T.c.d.fact 161 (f := .meth "Timed" "begin_at"))
theorem TX.m_Grid_first_bar (T : TX K mg w) : Meth K (ga K "Grid") "first_bar" (ma K (ga K "Grid") "first_bar") := meth_ok (T.c.d.fact 162 (f := .meth "Grid" "first_bar"))
theorem TX.m_Order_number_of (T : TX K mg w) : Meth K (ga K "Order") "number_of" (ma K (ga K "Order") "number_of") := meth_ok (T.c.d.fact 163 (f := .meth "Order" "number_of"))
theorem TX.m_Order_begin_of (T : TX K mg w) : Meth K (ga K "Order") "begin_of" (ma K (ga K "Order") "begin_of") := meth_ok (T.c.d.fact 164 (f := .meth "Order" "begin_of"))
theorem TX.m_Order_end_of (T : TX K mg w) : Meth K (ga K "Order") "end_of" (ma K (ga K "Order") "end_of") := meth_ok (T.c.d.fact 165 (f := .meth "Order" "end_of"))
theorem TX.m_Order_call_of (T : TX K mg w) : Meth K (ga K "Order") "call_of" (ma K (ga K "Order") "call_of") := meth_ok (T.c.d.fact 166 (f := .meth "Order" "call_of"))
theorem TX.m_Outlook_span_of (T : TX K mg w) : Meth K (ga K "Outlook") "span_of" (ma K (ga K "Outlook") "span_of") := meth_ok (T.c.d.fact 167 (f := .meth "Outlook" "span_of"))
theorem TX.m_Outlook_narrowed (T : TX K mg w) : Meth K (ga K "Outlook") "narrowed" (ma K (ga K "Outlook") "narrowed") := meth_ok (T.c.d.fact 168 (f := .meth "Outlook" "narrowed"))
theorem TX.m_Outlook__limits (T : TX K mg w) : Meth K (ga K "Outlook") "_limits" (ma K (ga K "Outlook") "_limits") := meth_ok (T.c.d.fact 169 (f := .meth "Outlook" "_limits"))
theorem TX.m_Outlook__replaced (T : TX K mg w) : Meth K (ga K "Outlook") "_replaced" (ma K (ga K "Outlook") "_replaced") := meth_ok (T.c.d.fact 170 (f := .meth "Outlook" "_replaced"))
theorem TX.m_Outlook_first_row (T : TX K mg w) : Meth K (ga K "Outlook") "first_row" (ma K (ga K "Outlook") "first_row") := meth_ok (T.c.d.fact 171 (f := .meth "Outlook" "first_row"))
theorem TX.m_Reach_moments_at (T : TX K mg w) : Meth K (ga K "Reach") "moments_at" (ma K (ga K "Reach") "moments_at") := meth_ok (T.c.d.fact 172 (f := .meth "Reach" "moments_at"))
theorem TX.m_Reach_row_to (T : TX K mg w) : Meth K (ga K "Reach") "row_to" (ma K (ga K "Reach") "row_to") := meth_ok (T.c.d.fact 173 (f := .meth "Reach" "row_to"))
theorem TX.m_Reach__check_point (T : TX K mg w) : Meth K (ga K "Reach") "_check_point" (ma K (ga K "Reach") "_check_point") := meth_ok (T.c.d.fact 174 (f := .meth "Reach" "_check_point"))
theorem TX.m_Reach__check_moment (T : TX K mg w) : Meth K (ga K "Reach") "_check_moment" (ma K (ga K "Reach") "_check_moment") := meth_ok (T.c.d.fact 175 (f := .meth "Reach" "_check_moment"))
theorem TX.m_Course_latest (T : TX K mg w) : Meth K (ga K "Course") "latest" (ma K (ga K "Course") "latest") := meth_ok (T.c.d.fact 176 (f := .meth "Course" "latest"))
theorem TX.m_Hang_with_excess (T : TX K mg w) : Meth K (ga K "Hang") "with_excess" (ma K (ga K "Hang") "with_excess") := meth_ok (T.c.d.fact 177 (f := .meth "Hang" "with_excess"))
theorem TX.k_Piece (T : TX K mg w) : Mk K (ga K "Piece") (ma K (ga K "Piece") "__init__") := mkr_ok (T.c.d.fact 178 (f := .mkr "Piece"))
theorem TX.k_Break (T : TX K mg w) : Mk K (ga K "Break") (ma K (ga K "Break") "__init__") := mkr_ok (T.c.d.fact 179 (f := .mkr "Break"))
theorem TX.k_Grid (T : TX K mg w) : Mk K (ga K "Grid") (ma K (ga K "Grid") "__init__") := mkr_ok (T.c.d.fact 180 (f := .mkr "Grid"))
theorem TX.k_Span (T : TX K mg w) : Mk K (ga K "Span") (ma K (ga K "Span") "__init__") := mkr_ok (T.c.d.fact 181 (f := .mkr "Span"))
theorem TX.k_House (T : TX K mg w) : Mk K (ga K "House") (ma K (ga K "House") "__init__") := mkr_ok (T.c.d.fact 182 (f := .mkr "House"))
theorem TX.k_Order (T : TX K mg w) : Mk K (ga K "Order") (ma K (ga K "Order") "__init__") := mkr_ok (T.c.d.fact 183 (f := .mkr "Order"))
theorem TX.k_Outlook (T : TX K mg w) : Mk K (ga K "Outlook") (ma K (ga K "Outlook") "__init__") := mkr_ok (T.c.d.fact 184 (f := .mkr "Outlook"))
theorem TX.k_Reach (T : TX K mg w) : Mk K (ga K "Reach") (ma K (ga K "Reach") "__init__") := mkr_ok (T.c.d.fact 185 (f := .mkr "Reach"))
theorem TX.k_Course (T : TX K mg w) : Mk K (ga K "Course") (ma K (ga K "Course") "__init__") := mkr_ok (T.c.d.fact 186 (f := .mkr "Course"))
theorem TX.k_Hang (T : TX K mg w) : Mk K (ga K "Hang") (ma K (ga K "Hang") "__init__") := mkr_ok (T.c.d.fact 187 (f := .mkr "Hang"))
theorem TX.k_Distance (T : TX K mg w) : Mk K (ga K "Distance") (ma K (ga K "Distance") "__init__") := mkr_ok (T.c.d.fact 188 (f := .mkr "Distance"))
theorem TX.f_Named_init (T : TX K mg w) : ∃ fd, FunD K "__init__" "Named.__init__" (defArgs s_Named_init) (defBody s_Named_init) (defScope s_Named_init) [] [] (ma K (ga K "Named") "__init__") fd := T.c.d.def_ 0 (d := d_Named_init)
theorem TX.f_Timed_init (T : TX K mg w) : ∃ fd, FunD K "__init__" "Timed.__init__" (defArgs s_Timed_init) (defBody s_Timed_init) (defScope s_Timed_init) (d_Timed_init.dvs K) [] (ma K (ga K "Timed") "__init__") fd := T.c.d.def_ 1 (d := d_Timed_init)
theorem TX.f_Timed_begin_at (T : TX K mg w) : ∃ fd, FunD K "begin_at" "Timed.begin_at" (defArgs s_Timed_begin_at) (defBody s_Timed_begin_at) (defScope s_Timed_begin_at) [] [] (ma K (ga K "Timed") "begin_at") fd := T.c.d.def_ 2 (d := d_Timed_begin_at)
theorem TX.f_Item_init (T : TX K mg w) : ∃ fd, FunD K "__init__" "Item.__init__" (defArgs s_Item_init) (defBody s_Item_init) (defScope s_Item_init) [] (d_Item_init.kws K) (ma K (ga K "Item") "__init__") fd := T.c.d.def_ 3 (d := d_Item_init)
theorem TX.f_Span_init (T : TX K mg w) : ∃ fd, FunD K "__init__" "Span.__init__" (defArgs s_Span_init) (defBody s_Span_init) (defScope s_Span_init) [] [] (ma K (ga K "Span") "__init__") fd := T.c.d.def_ 4 (d := d_Span_init)
theorem TX.f_Span_contains (T : TX K mg w) : ∃ fd, FunD K "__contains__" "Span.__contains__" (defArgs s_Span_contains) (defBody s_Span_contains) (defScope s_Span_contains) [] [] (ma K (ga K "Span") "__contains__") fd := T.c.d.def_ 5 (d := d_Span_contains)
theorem TX.f_Course_init (T : TX K mg w) : ∃ fd, FunD K "__init__" "Course.__init__" (defArgs s_Course_init) (defBody s_Course_init) (defScope s_Course_init) [] [] (ma K (ga K "Course") "__init__") fd := T.c.d.def_ 6 (d := d_Course_init)
theorem TX.f_Course_call (T : TX K mg w) : ∃ fd, FunD K "__call__" "Course.__call__" (defArgs s_Course_call) (defBody s_Course_call) (defScope s_Course_call) [] [] (ma K (ga K "Course") "__call__") fd := T.c.d.def_ 7 (d := d_Course_call)
theorem TX.f_Course_latest (T : TX K mg w) : ∃ fd, FunD K "latest" "Course.latest" (defArgs s_Course_latest) (defBody s_Course_latest) (defScope s_Course_latest) [] [] (ma K (ga K "Course") "latest") fd := T.c.d.def_ 8 (d := d_Course_latest)
theorem TX.f_Hang_init (T : TX K mg w) : ∃ fd, FunD K "__init__" "Hang.__init__" (defArgs s_Hang_init) (defBody s_Hang_init) (defScope s_Hang_init) [] [] (ma K (ga K "Hang") "__init__") fd := T.c.d.def_ 9 (d := d_Hang_init)
theorem TX.f_Hang_with_excess (T : TX K mg w) : ∃ fd, FunD K "with_excess" "Hang.with_excess" (defArgs s_Hang_with_excess) (defBody s_Hang_with_excess) (defScope s_Hang_with_excess) [] [] (ma K (ga K "Hang") "with_excess") fd := T.c.d.def_ 10 (d := d_Hang_with_excess)
theorem TX.f_Distance_init (T : TX K mg w) : ∃ fd, FunD K "__init__" "Distance.__init__" (defArgs s_Distance_init) (defBody s_Distance_init) (defScope s_Distance_init) [] [] (ma K (ga K "Distance") "__init__") fd := T.c.d.def_ 11 (d := d_Distance_init)
theorem TX.f_Grid_init (T : TX K mg w) : ∃ fd, FunD K "__init__" "Grid.__init__" (defArgs s_Grid_init) (defBody s_Grid_init) (defScope s_Grid_init) (d_Grid_init.dvs K) [] (ma K (ga K "Grid") "__init__") fd := T.c.d.def_ 12 (d := d_Grid_init)
theorem TX.f_Grid_first_bar (T : TX K mg w) : ∃ fd, FunD K "first_bar" "Grid.first_bar" (defArgs s_Grid_first_bar) (defBody s_Grid_first_bar) (defScope s_Grid_first_bar) [] [] (ma K (ga K "Grid") "first_bar") fd := T.c.d.def_ 13 (d := d_Grid_first_bar)
theorem TX.f_House_init (T : TX K mg w) : ∃ fd, FunD K "__init__" "House.__init__" (defArgs s_House_init) (defBody s_House_init) (defScope s_House_init) (d_House_init.dvs K) (d_House_init.kws K) (ma K (ga K "House") "__init__") fd := T.c.d.def_ 14 (d := d_House_init)
theorem TX.f_Order_init (T : TX K mg w) : ∃ fd, FunD K "__init__" "Order.__init__" (defArgs s_Order_init) (defBody s_Order_init) (defScope s_Order_init) [] [] (ma K (ga K "Order") "__init__") fd := T.c.d.def_ 15 (d := d_Order_init)
theorem TX.f_Order_contains (T : TX K mg w) : ∃ fd, FunD K "__contains__" "Order.__contains__" (defArgs s_Order_contains) (defBody s_Order_contains) (defScope s_Order_contains) [] [] (ma K (ga K "Order") "__contains__") fd := T.c.d.def_ 16 (d := d_Order_contains)
theorem TX.f_Order_getitem (T : TX K mg w) : ∃ fd, FunD K "__getitem__" "Order.__getitem__" (defArgs s_Order_getitem) (defBody s_Order_getitem) (defScope s_Order_getitem) [] [] (ma K (ga K "Order") "__getitem__") fd := T.c.d.def_ 17 (d := d_Order_getitem)
theorem TX.f_Order_number_of (T : TX K mg w) : ∃ fd, FunD K "number_of" "Order.number_of" (defArgs s_Order_number_of) (defBody s_Order_number_of) (defScope s_Order_number_of) [] [] (ma K (ga K "Order") "number_of") fd := T.c.d.def_ 18 (d := d_Order_number_of)
theorem TX.f_Order_begin_of (T : TX K mg w) : ∃ fd, FunD K "begin_of" "Order.begin_of" (defArgs s_Order_begin_of) (defBody s_Order_begin_of) (defScope s_Order_begin_of) [] [] (ma K (ga K "Order") "begin_of") fd := T.c.d.def_ 19 (d := d_Order_begin_of)
theorem TX.f_Order_end_of (T : TX K mg w) : ∃ fd, FunD K "end_of" "Order.end_of" (defArgs s_Order_end_of) (defBody s_Order_end_of) (defScope s_Order_end_of) [] [] (ma K (ga K "Order") "end_of") fd := T.c.d.def_ 20 (d := d_Order_end_of)
theorem TX.f_Order_call_of (T : TX K mg w) : ∃ fd, FunD K "call_of" "Order.call_of" (defArgs s_Order_call_of) (defBody s_Order_call_of) (defScope s_Order_call_of) [] [] (ma K (ga K "Order") "call_of") fd := T.c.d.def_ 21 (d := d_Order_call_of)
theorem TX.f_Outlook_init (T : TX K mg w) : ∃ fd, FunD K "__init__" "Outlook.__init__" (defArgs s_Outlook_init) (defBody s_Outlook_init) (defScope s_Outlook_init) [] [] (ma K (ga K "Outlook") "__init__") fd := T.c.d.def_ 22 (d := d_Outlook_init)
theorem TX.f_Outlook_span_of (T : TX K mg w) : ∃ fd, FunD K "span_of" "Outlook.span_of" (defArgs s_Outlook_span_of) (defBody s_Outlook_span_of) (defScope s_Outlook_span_of) [] [] (ma K (ga K "Outlook") "span_of") fd := T.c.d.def_ 23 (d := d_Outlook_span_of)
theorem TX.f_Outlook_narrowed (T : TX K mg w) : ∃ fd, FunD K "narrowed" "Outlook.narrowed" (defArgs s_Outlook_narrowed) (defBody s_Outlook_narrowed) (defScope s_Outlook_narrowed) [] [] (ma K (ga K "Outlook") "narrowed") fd := T.c.d.def_ 24 (d := d_Outlook_narrowed)
theorem TX.f_Outlook_first_row (T : TX K mg w) : ∃ fd, FunD K "first_row" "Outlook.first_row" (defArgs s_Outlook_first_row) (defBody s_Outlook_first_row) (defScope s_Outlook_first_row) [] [] (ma K (ga K "Outlook") "first_row") fd := T.c.d.def_ 25 (d := d_Outlook_first_row)
theorem TX.f_Outlook_limits (T : TX K mg w) : ∃ fd, FunD K "_limits" "Outlook._limits" (defArgs s_Outlook_limits) (defBody s_Outlook_limits) (defScope s_Outlook_limits) [] [] (ma K (ga K "Outlook") "_limits") fd := T.c.d.def_ 26 (d := d_Outlook_limits)
theorem TX.f_Outlook_replaced (T : TX K mg w) : ∃ fd, FunD K "_replaced" "Outlook._replaced" (defArgs s_Outlook_replaced) (defBody s_Outlook_replaced) (defScope s_Outlook_replaced) [] [] (ma K (ga K "Outlook") "_replaced") fd := T.c.d.def_ 27 (d := d_Outlook_replaced)
theorem TX.f_Reach_init (T : TX K mg w) : ∃ fd, FunD K "__init__" "Reach.__init__" (defArgs s_Reach_init) (defBody s_Reach_init) (defScope s_Reach_init) [] [] (ma K (ga K "Reach") "__init__") fd := T.c.d.def_ 28 (d := d_Reach_init)
theorem TX.f_Reach_moments_at (T : TX K mg w) : ∃ fd, FunD K "moments_at" "Reach.moments_at" (defArgs s_Reach_moments_at) (defBody s_Reach_moments_at) (defScope s_Reach_moments_at) [] [] (ma K (ga K "Reach") "moments_at") fd := T.c.d.def_ 29 (d := d_Reach_moments_at)
theorem TX.f_Reach_row_to (T : TX K mg w) : ∃ fd, FunD K "row_to" "Reach.row_to" (defArgs s_Reach_row_to) (defBody s_Reach_row_to) (defScope s_Reach_row_to) [] [] (ma K (ga K "Reach") "row_to") fd := T.c.d.def_ 30 (d := d_Reach_row_to)
theorem TX.f_Reach_check_point (T : TX K mg w) : ∃ fd, FunD K "_check_point" "Reach._check_point" (defArgs s_Reach_check_point) (defBody s_Reach_check_point) (defScope s_Reach_check_point) [] [] (ma K (ga K "Reach") "_check_point") fd := T.c.d.def_ 31 (d := d_Reach_check_point)
theorem TX.f_Reach_check_moment (T : TX K mg w) : ∃ fd, FunD K "_check_moment" "Reach._check_moment" (defArgs s_Reach_check_moment) (defBody s_Reach_check_moment) (defScope s_Reach_check_moment) [] [] (ma K (ga K "Reach") "_check_moment") fd := T.c.d.def_ 32 (d := d_Reach_check_moment)
theorem TX.f_is_name (T : TX K mg w) : ∃ fd, FunD K "is_name" "is_name" (defArgs s_is_name) (defBody s_is_name) (defScope s_is_name) [] [] (ga K "is_name") fd := T.c.d.def_ 33 (d := d_is_name)
theorem TX.f_corner (T : TX K mg w) : ∃ fd, FunD K "corner" "corner" (defArgs s_corner) (defBody s_corner) (defScope s_corner) [] [] (ga K "corner") fd := T.c.d.def_ 34 (d := d_corner)
theorem TX.f_hollow (T : TX K mg w) : ∃ fd, FunD K "hollow" "hollow" (defArgs s_hollow) (defBody s_hollow) (defScope s_hollow) [] [] (ga K "hollow") fd := T.c.d.def_ 35 (d := d_hollow)
theorem TX.f_bent_row (T : TX K mg w) : ∃ fd, FunD K "bent_row" "bent_row" (defArgs s_bent_row) (defBody s_bent_row) (defScope s_bent_row) [] [] (ga K "bent_row") fd := T.c.d.def_ 36 (d := d_bent_row)
theorem TX.f_extreme (T : TX K mg w) : ∃ fd, FunD K "extreme" "extreme" (defArgs s_extreme) (defBody s_extreme) (defScope s_extreme) [] [] (ga K "extreme") fd := T.c.d.def_ 37 (d := d_extreme)
theorem TX.f_step_span (T : TX K mg w) : ∃ fd, FunD K "step_span" "step_span" (defArgs s_step_span) (defBody s_step_span) (defScope s_step_span) [] [] (ga K "step_span") fd := T.c.d.def_ 38 (d := d_step_span)
theorem TX.f_next_moment (T : TX K mg w) : ∃ fd, FunD K "next_moment" "next_moment" (defArgs s_next_moment) (defBody s_next_moment) (defScope s_next_moment) [] [] (ga K "next_moment") fd := T.c.d.def_ 39 (d := d_next_moment)
theorem TX.f_has_event (T : TX K mg w) : ∃ fd, FunD K "has_event" "has_event" (defArgs s_has_event) (defBody s_has_event) (defScope s_has_event) [] [] (ga K "has_event") fd := T.c.d.def_ 40 (d := d_has_event)
theorem TX.f_point_of (T : TX K mg w) : ∃ fd, FunD K "point_of" "point_of" (defArgs s_point_of) (defBody s_point_of) (defScope s_point_of) [] [] (ga K "point_of") fd := T.c.d.def_ 41 (d := d_point_of)
theorem TX.f_step_lag (T : TX K mg w) : ∃ fd, FunD K "step_lag" "step_lag" (defArgs s_step_lag) (defBody s_step_lag) (defScope s_step_lag) [] [] (ga K "step_lag") fd := T.c.d.def_ 42 (d := d_step_lag)
theorem TX.f_with_lag (T : TX K mg w) : ∃ fd, FunD K "with_lag" "with_lag" (defArgs s_with_lag) (defBody s_with_lag) (defScope s_with_lag) [] [] (ga K "with_lag") fd := T.c.d.def_ 43 (d := d_with_lag)
theorem TX.f_nearest (T : TX K mg w) : ∃ fd, FunD K "nearest" "nearest" (defArgs s_nearest) (defBody s_nearest) (defScope s_nearest) [] [] (ga K "nearest") fd := T.c.d.def_ 44 (d := d_nearest)
theorem TX.f_farthest (T : TX K mg w) : ∃ fd, FunD K "farthest" "farthest" (defArgs s_farthest) (defBody s_farthest) (defScope s_farthest) [] [] (ga K "farthest") fd := T.c.d.def_ 45 (d := d_farthest)
theorem TX.f_least_ahead (T : TX K mg w) : ∃ fd, FunD K "least_ahead" "least_ahead" (defArgs s_least_ahead) (defBody s_least_ahead) (defScope s_least_ahead) [] [] (ga K "least_ahead") fd := T.c.d.def_ 46 (d := d_least_ahead)
theorem TX.f_least_back (T : TX K mg w) : ∃ fd, FunD K "least_back" "least_back" (defArgs s_least_back) (defBody s_least_back) (defScope s_least_back) [] [] (ga K "least_back") fd := T.c.d.def_ 47 (d := d_least_back)
theorem TX.f_check_kinds (T : TX K mg w) : ∃ fd, FunD K "check_kinds" "check_kinds" (defArgs s_check_kinds) (defBody s_check_kinds) (defScope s_check_kinds) [] [] (ga K "check_kinds") fd := T.c.d.def_ 48 (d := d_check_kinds)
theorem TX.f_span_of_bounds (T : TX K mg w) : ∃ fd, FunD K "span_of_bounds" "span_of_bounds" (defArgs s_span_of_bounds) (defBody s_span_of_bounds) (defScope s_span_of_bounds) [] [] (ga K "span_of_bounds") fd := T.c.d.def_ 49 (d := d_span_of_bounds)
theorem TX.f_lag_spans (T : TX K mg w) : ∃ fd, FunD K "lag_spans" "lag_spans" (defArgs s_lag_spans) (defBody s_lag_spans) (defScope s_lag_spans) [] [] (ga K "lag_spans") fd := T.c.d.def_ 50 (d := d_lag_spans)
theorem TX.f_with_spans (T : TX K mg w) : ∃ fd, FunD K "with_spans" "with_spans" (defArgs s_with_spans) (defBody s_with_spans) (defScope s_with_spans) [] [] (ga K "with_spans") fd := T.c.d.def_ 51 (d := d_with_spans)
theorem TX.f_next_table (T : TX K mg w) : ∃ fd, FunD K "next_table" "next_table" (defArgs s_next_table) (defBody s_next_table) (defScope s_next_table) [] [] (ga K "next_table") fd := T.c.d.def_ 52 (d := d_next_table)
theorem TX.f_is_int (T : TX K mg w) : ∃ fd, FunD K "_law_is_int" "_law_is_int" (defArgs s_is_int) (defBody s_is_int) (defScope s_is_int) [] [] (ga K "_law_is_int") fd := T.c.d.def_ 53 (d := d_is_int)
theorem TX.f_pool (T : TX K mg w) : ∃ fd, FunD K "_law_pool" "_law_pool" (defArgs s_pool) (defBody s_pool) (defScope s_pool) [] [] (ga K "_law_pool") fd := T.c.d.def_ 54 (d := d_pool)
theorem TX.f_take (T : TX K mg w) : ∃ fd, FunD K "_law_take" "_law_take" (defArgs s_take) (defBody s_take) (defScope s_take) [] [] (ga K "_law_take") fd := T.c.d.def_ 55 (d := d_take)
theorem TX.f_big (T : TX K mg w) : ∃ fd, FunD K "_law_big" "_law_big" (defArgs s_big) (defBody s_big) (defScope s_big) [] [] (ga K "_law_big") fd := T.c.d.def_ 56 (d := d_big)
theorem TX.f_names (T : TX K mg w) : ∃ fd, FunD K "_law_names" "_law_names" (defArgs s_names) (defBody s_names) (defScope s_names) [] [] (ga K "_law_names") fd := T.c.d.def_ 57 (d := d_names)
theorem TX.f_first (T : TX K mg w) : ∃ fd, FunD K "_law_first" "_law_first" (defArgs s_first) (defBody s_first) (defScope s_first) [] [] (ga K "_law_first") fd := T.c.d.def_ 58 (d := d_first)
theorem TX.f_opens (T : TX K mg w) : ∃ fd, FunD K "_law_opens" "_law_opens" (defArgs s_opens) (defBody s_opens) (defScope s_opens) [] [] (ga K "_law_opens") fd := T.c.d.def_ 59 (d := d_opens)
theorem TX.f_items (T : TX K mg w) : ∃ fd, FunD K "_law_items" "_law_items" (defArgs s_items) (defBody s_items) (defScope s_items) [] [] (ga K "_law_items") fd := T.c.d.def_ 60 (d := d_items)
theorem TX.f_day (T : TX K mg w) : ∃ fd, FunD K "_law_day" "_law_day" (defArgs s_day) (defBody s_day) (defScope s_day) [] [] (ga K "_law_day") fd := T.c.d.def_ 61 (d := d_day)
theorem TX.f_item (T : TX K mg w) : ∃ fd, FunD K "_law_item" "_law_item" (defArgs s_item) (defBody s_item) (defScope s_item) [] [] (ga K "_law_item") fd := T.c.d.def_ 62 (d := d_item)
theorem TX.f_house (T : TX K mg w) : ∃ fd, FunD K "_law_house" "_law_house" (defArgs s_house) (defBody s_house) (defScope s_house) [] [] (ga K "_law_house") fd := T.c.d.def_ 63 (d := d_house)
theorem TX.f_order (T : TX K mg w) : ∃ fd, FunD K "_law_order" "_law_order" (defArgs s_order) (defBody s_order) (defScope s_order) [] [] (ga K "_law_order") fd := T.c.d.def_ 64 (d := d_order)
theorem TX.f_moments (T : TX K mg w) : ∃ fd, FunD K "_law_moments" "_law_moments" (defArgs s_moments) (defBody s_moments) (defScope s_moments) [] [] (ga K "_law_moments") fd := T.c.d.def_ 65 (d := d_moments)
theorem TX.f_at (T : TX K mg w) : ∃ fd, FunD K "_law_at" "_law_at" (defArgs s_at) (defBody s_at) (defScope s_at) [] [] (ga K "_law_at") fd := T.c.d.def_ 66 (d := d_at)
theorem TX.f_call (T : TX K mg w) : ∃ fd, FunD K "_law_call" "_law_call" (defArgs s_call) (defBody s_call) (defScope s_call) [] [] (ga K "_law_call") fd := T.c.d.def_ 67 (d := d_call)
theorem TX.f_point (T : TX K mg w) : ∃ fd, FunD K "_law_point" "_law_point" (defArgs s_point) (defBody s_point) (defScope s_point) [] [] (ga K "_law_point") fd := T.c.d.def_ 68 (d := d_point)
theorem TX.f_moment (T : TX K mg w) : ∃ fd, FunD K "_law_moment" "_law_moment" (defArgs s_moment) (defBody s_moment) (defScope s_moment) [] [] (ga K "_law_moment") fd := T.c.d.def_ 69 (d := d_moment)
theorem TX.f_events (T : TX K mg w) : ∃ fd, FunD K "_law_events" "_law_events" (defArgs s_events) (defBody s_events) (defScope s_events) [] [] (ga K "_law_events") fd := T.c.d.def_ 70 (d := d_events)
theorem TX.f_apart (T : TX K mg w) : ∃ fd, FunD K "_law_apart" "_law_apart" (defArgs s_apart) (defBody s_apart) (defScope s_apart) [] [] (ga K "_law_apart") fd := T.c.d.def_ 71 (d := d_apart)
theorem TX.f_spans (T : TX K mg w) : ∃ fd, FunD K "_law_spans" "_law_spans" (defArgs s_spans) (defBody s_spans) (defScope s_spans) [] [] (ga K "_law_spans") fd := T.c.d.def_ 72 (d := d_spans)
theorem TX.f_narrow (T : TX K mg w) : ∃ fd, FunD K "_law_narrow" "_law_narrow" (defArgs s_narrow) (defBody s_narrow) (defScope s_narrow) [] [] (ga K "_law_narrow") fd := T.c.d.def_ 73 (d := d_narrow)
theorem TX.f_same (T : TX K mg w) : ∃ fd, FunD K "_law_same" "_law_same" (defArgs s_same) (defBody s_same) (defScope s_same) [] [] (ga K "_law_same") fd := T.c.d.def_ 74 (d := d_same)
theorem TX.f_bent (T : TX K mg w) : ∃ fd, FunD K "_law_bent" "_law_bent" (defArgs s_bent) (defBody s_bent) (defScope s_bent) [] [] (ga K "_law_bent") fd := T.c.d.def_ 75 (d := d_bent)
theorem TX.f_event (T : TX K mg w) : ∃ fd, FunD K "_law_event" "_law_event" (defArgs s_event) (defBody s_event) (defScope s_event) [] [] (ga K "_law_event") fd := T.c.d.def_ 76 (d := d_event)
theorem TX.f_refused (T : TX K mg w) : ∃ fd, FunD K "_law_refused" "_law_refused" (defArgs s_refused) (defBody s_refused) (defScope s_refused) [] [] (ga K "_law_refused") fd := T.c.d.def_ 77 (d := d_refused)
theorem TX.f_rows (T : TX K mg w) : ∃ fd, FunD K "_law_rows" "_law_rows" (defArgs s_rows) (defBody s_rows) (defScope s_rows) [] [] (ga K "_law_rows") fd := T.c.d.def_ 78 (d := d_rows)
theorem TX.f_law (T : TX K mg w) : ∃ fd, FunD K "law" "law" (defArgs s_law) (defBody s_law) (defScope s_law) [] [] (ga K "law") fd := T.c.d.def_ 79 (d := d_law)
theorem TX.kp_Named_init (T : TX K mg w) : PySem.W.keepIn K (.ref (ma K (ga K "Named") "__init__")) = true := T.f_Named_init.elim fun _ F => F.kp
theorem TX.kp_Timed_init (T : TX K mg w) : PySem.W.keepIn K (.ref (ma K (ga K "Timed") "__init__")) = true := T.f_Timed_init.elim fun _ F => F.kp
theorem TX.kp_Timed_begin_at (T : TX K mg w) : PySem.W.keepIn K (.ref (ma K (ga K "Timed") "begin_at")) = true := T.f_Timed_begin_at.elim fun _ F => F.kp
theorem TX.kp_Item_init (T : TX K mg w) : PySem.W.keepIn K (.ref (ma K (ga K "Item") "__init__")) = true := T.f_Item_init.elim fun _ F => F.kp
theorem TX.kp_Span_init (T : TX K mg w) : PySem.W.keepIn K (.ref (ma K (ga K "Span") "__init__")) = true := T.f_Span_init.elim fun _ F => F.kp
theorem TX.kp_Span_contains (T : TX K mg w) : PySem.W.keepIn K (.ref (ma K (ga K "Span") "__contains__")) = true := T.f_Span_contains.elim fun _ F => F.kp
theorem TX.kp_Course_init (T : TX K mg w) : PySem.W.keepIn K (.ref (ma K (ga K "Course") "__init__")) = true := T.f_Course_init.elim fun _ F => F.kp
theorem TX.kp_Course_call (T : TX K mg w) : PySem.W.keepIn K (.ref (ma K (ga K "Course") "__call__")) = true := T.f_Course_call.elim fun _ F => F.kp
theorem TX.kp_Course_latest (T : TX K mg w) : PySem.W.keepIn K (.ref (ma K (ga K "Course") "latest")) = true := T.f_Course_latest.elim fun _ F => F.kp
theorem TX.kp_Hang_init (T : TX K mg w) : PySem.W.keepIn K (.ref (ma K (ga K "Hang") "__init__")) = true := T.f_Hang_init.elim fun _ F => F.kp
theorem TX.kp_Hang_with_excess (T : TX K mg w) : PySem.W.keepIn K (.ref (ma K (ga K "Hang") "with_excess")) = true := T.f_Hang_with_excess.elim fun _ F => F.kp
theorem TX.kp_Distance_init (T : TX K mg w) : PySem.W.keepIn K (.ref (ma K (ga K "Distance") "__init__")) = true := T.f_Distance_init.elim fun _ F => F.kp
theorem TX.kp_Grid_init (T : TX K mg w) : PySem.W.keepIn K (.ref (ma K (ga K "Grid") "__init__")) = true := T.f_Grid_init.elim fun _ F => F.kp
theorem TX.kp_Grid_first_bar (T : TX K mg w) : PySem.W.keepIn K (.ref (ma K (ga K "Grid") "first_bar")) = true := T.f_Grid_first_bar.elim fun _ F => F.kp
theorem TX.kp_House_init (T : TX K mg w) : PySem.W.keepIn K (.ref (ma K (ga K "House") "__init__")) = true := T.f_House_init.elim fun _ F => F.kp
theorem TX.kp_Order_init (T : TX K mg w) : PySem.W.keepIn K (.ref (ma K (ga K "Order") "__init__")) = true := T.f_Order_init.elim fun _ F => F.kp
theorem TX.kp_Order_contains (T : TX K mg w) : PySem.W.keepIn K (.ref (ma K (ga K "Order") "__contains__")) = true := T.f_Order_contains.elim fun _ F => F.kp
theorem TX.kp_Order_getitem (T : TX K mg w) : PySem.W.keepIn K (.ref (ma K (ga K "Order") "__getitem__")) = true := T.f_Order_getitem.elim fun _ F => F.kp
theorem TX.kp_Order_number_of (T : TX K mg w) : PySem.W.keepIn K (.ref (ma K (ga K "Order") "number_of")) = true := T.f_Order_number_of.elim fun _ F => F.kp
theorem TX.kp_Order_begin_of (T : TX K mg w) : PySem.W.keepIn K (.ref (ma K (ga K "Order") "begin_of")) = true := T.f_Order_begin_of.elim fun _ F => F.kp
theorem TX.kp_Order_end_of (T : TX K mg w) : PySem.W.keepIn K (.ref (ma K (ga K "Order") "end_of")) = true := T.f_Order_end_of.elim fun _ F => F.kp
theorem TX.kp_Order_call_of (T : TX K mg w) : PySem.W.keepIn K (.ref (ma K (ga K "Order") "call_of")) = true := T.f_Order_call_of.elim fun _ F => F.kp
theorem TX.kp_Outlook_init (T : TX K mg w) : PySem.W.keepIn K (.ref (ma K (ga K "Outlook") "__init__")) = true := T.f_Outlook_init.elim fun _ F => F.kp
theorem TX.kp_Outlook_span_of (T : TX K mg w) : PySem.W.keepIn K (.ref (ma K (ga K "Outlook") "span_of")) = true := T.f_Outlook_span_of.elim fun _ F => F.kp
theorem TX.kp_Outlook_narrowed (T : TX K mg w) : PySem.W.keepIn K (.ref (ma K (ga K "Outlook") "narrowed")) = true := T.f_Outlook_narrowed.elim fun _ F => F.kp
theorem TX.kp_Outlook_first_row (T : TX K mg w) : PySem.W.keepIn K (.ref (ma K (ga K "Outlook") "first_row")) = true := T.f_Outlook_first_row.elim fun _ F => F.kp
theorem TX.kp_Outlook_limits (T : TX K mg w) : PySem.W.keepIn K (.ref (ma K (ga K "Outlook") "_limits")) = true := T.f_Outlook_limits.elim fun _ F => F.kp
theorem TX.kp_Outlook_replaced (T : TX K mg w) : PySem.W.keepIn K (.ref (ma K (ga K "Outlook") "_replaced")) = true := T.f_Outlook_replaced.elim fun _ F => F.kp
theorem TX.kp_Reach_init (T : TX K mg w) : PySem.W.keepIn K (.ref (ma K (ga K "Reach") "__init__")) = true := T.f_Reach_init.elim fun _ F => F.kp
theorem TX.kp_Reach_moments_at (T : TX K mg w) : PySem.W.keepIn K (.ref (ma K (ga K "Reach") "moments_at")) = true := T.f_Reach_moments_at.elim fun _ F => F.kp
theorem TX.kp_Reach_row_to (T : TX K mg w) : PySem.W.keepIn K (.ref (ma K (ga K "Reach") "row_to")) = true := T.f_Reach_row_to.elim fun _ F => F.kp
theorem TX.kp_Reach_check_point (T : TX K mg w) : PySem.W.keepIn K (.ref (ma K (ga K "Reach") "_check_point")) = true := T.f_Reach_check_point.elim fun _ F => F.kp
theorem TX.kp_Reach_check_moment (T : TX K mg w) : PySem.W.keepIn K (.ref (ma K (ga K "Reach") "_check_moment")) = true := T.f_Reach_check_moment.elim fun _ F => F.kp
theorem TX.kp_is_name (T : TX K mg w) : PySem.W.keepIn K (.ref (ga K "is_name")) = true := T.f_is_name.elim fun _ F => F.kp
theorem TX.kp_corner (T : TX K mg w) : PySem.W.keepIn K (.ref (ga K "corner")) = true := T.f_corner.elim fun _ F => F.kp
theorem TX.kp_hollow (T : TX K mg w) : PySem.W.keepIn K (.ref (ga K "hollow")) = true := T.f_hollow.elim fun _ F => F.kp
theorem TX.kp_bent_row (T : TX K mg w) : PySem.W.keepIn K (.ref (ga K "bent_row")) = true := T.f_bent_row.elim fun _ F => F.kp
theorem TX.kp_extreme (T : TX K mg w) : PySem.W.keepIn K (.ref (ga K "extreme")) = true := T.f_extreme.elim fun _ F => F.kp
theorem TX.kp_step_span (T : TX K mg w) : PySem.W.keepIn K (.ref (ga K "step_span")) = true := T.f_step_span.elim fun _ F => F.kp
theorem TX.kp_next_moment (T : TX K mg w) : PySem.W.keepIn K (.ref (ga K "next_moment")) = true := T.f_next_moment.elim fun _ F => F.kp
theorem TX.kp_has_event (T : TX K mg w) : PySem.W.keepIn K (.ref (ga K "has_event")) = true := T.f_has_event.elim fun _ F => F.kp
theorem TX.kp_point_of (T : TX K mg w) : PySem.W.keepIn K (.ref (ga K "point_of")) = true := T.f_point_of.elim fun _ F => F.kp
theorem TX.kp_step_lag (T : TX K mg w) : PySem.W.keepIn K (.ref (ga K "step_lag")) = true := T.f_step_lag.elim fun _ F => F.kp
theorem TX.kp_with_lag (T : TX K mg w) : PySem.W.keepIn K (.ref (ga K "with_lag")) = true := T.f_with_lag.elim fun _ F => F.kp
theorem TX.kp_nearest (T : TX K mg w) : PySem.W.keepIn K (.ref (ga K "nearest")) = true := T.f_nearest.elim fun _ F => F.kp
theorem TX.kp_farthest (T : TX K mg w) : PySem.W.keepIn K (.ref (ga K "farthest")) = true := T.f_farthest.elim fun _ F => F.kp
theorem TX.kp_least_ahead (T : TX K mg w) : PySem.W.keepIn K (.ref (ga K "least_ahead")) = true := T.f_least_ahead.elim fun _ F => F.kp
theorem TX.kp_least_back (T : TX K mg w) : PySem.W.keepIn K (.ref (ga K "least_back")) = true := T.f_least_back.elim fun _ F => F.kp
theorem TX.kp_check_kinds (T : TX K mg w) : PySem.W.keepIn K (.ref (ga K "check_kinds")) = true := T.f_check_kinds.elim fun _ F => F.kp
theorem TX.kp_span_of_bounds (T : TX K mg w) : PySem.W.keepIn K (.ref (ga K "span_of_bounds")) = true := T.f_span_of_bounds.elim fun _ F => F.kp
theorem TX.kp_lag_spans (T : TX K mg w) : PySem.W.keepIn K (.ref (ga K "lag_spans")) = true := T.f_lag_spans.elim fun _ F => F.kp
theorem TX.kp_with_spans (T : TX K mg w) : PySem.W.keepIn K (.ref (ga K "with_spans")) = true := T.f_with_spans.elim fun _ F => F.kp
theorem TX.kp_next_table (T : TX K mg w) : PySem.W.keepIn K (.ref (ga K "next_table")) = true := T.f_next_table.elim fun _ F => F.kp
theorem TX.kp_is_int (T : TX K mg w) : PySem.W.keepIn K (.ref (ga K "_law_is_int")) = true := T.f_is_int.elim fun _ F => F.kp
theorem TX.kp_pool (T : TX K mg w) : PySem.W.keepIn K (.ref (ga K "_law_pool")) = true := T.f_pool.elim fun _ F => F.kp
theorem TX.kp_take (T : TX K mg w) : PySem.W.keepIn K (.ref (ga K "_law_take")) = true := T.f_take.elim fun _ F => F.kp
theorem TX.kp_big (T : TX K mg w) : PySem.W.keepIn K (.ref (ga K "_law_big")) = true := T.f_big.elim fun _ F => F.kp
theorem TX.kp_names (T : TX K mg w) : PySem.W.keepIn K (.ref (ga K "_law_names")) = true := T.f_names.elim fun _ F => F.kp
theorem TX.kp_first (T : TX K mg w) : PySem.W.keepIn K (.ref (ga K "_law_first")) = true := T.f_first.elim fun _ F => F.kp
theorem TX.kp_opens (T : TX K mg w) : PySem.W.keepIn K (.ref (ga K "_law_opens")) = true := T.f_opens.elim fun _ F => F.kp
theorem TX.kp_items (T : TX K mg w) : PySem.W.keepIn K (.ref (ga K "_law_items")) = true := T.f_items.elim fun _ F => F.kp
theorem TX.kp_day (T : TX K mg w) : PySem.W.keepIn K (.ref (ga K "_law_day")) = true := T.f_day.elim fun _ F => F.kp
theorem TX.kp_item (T : TX K mg w) : PySem.W.keepIn K (.ref (ga K "_law_item")) = true := T.f_item.elim fun _ F => F.kp
theorem TX.kp_house (T : TX K mg w) : PySem.W.keepIn K (.ref (ga K "_law_house")) = true := T.f_house.elim fun _ F => F.kp
theorem TX.kp_order (T : TX K mg w) : PySem.W.keepIn K (.ref (ga K "_law_order")) = true := T.f_order.elim fun _ F => F.kp
theorem TX.kp_moments (T : TX K mg w) : PySem.W.keepIn K (.ref (ga K "_law_moments")) = true := T.f_moments.elim fun _ F => F.kp
theorem TX.kp_at (T : TX K mg w) : PySem.W.keepIn K (.ref (ga K "_law_at")) = true := T.f_at.elim fun _ F => F.kp
theorem TX.kp_call (T : TX K mg w) : PySem.W.keepIn K (.ref (ga K "_law_call")) = true := T.f_call.elim fun _ F => F.kp
theorem TX.kp_point (T : TX K mg w) : PySem.W.keepIn K (.ref (ga K "_law_point")) = true := T.f_point.elim fun _ F => F.kp
theorem TX.kp_moment (T : TX K mg w) : PySem.W.keepIn K (.ref (ga K "_law_moment")) = true := T.f_moment.elim fun _ F => F.kp
theorem TX.kp_events (T : TX K mg w) : PySem.W.keepIn K (.ref (ga K "_law_events")) = true := T.f_events.elim fun _ F => F.kp
theorem TX.kp_apart (T : TX K mg w) : PySem.W.keepIn K (.ref (ga K "_law_apart")) = true := T.f_apart.elim fun _ F => F.kp
theorem TX.kp_spans (T : TX K mg w) : PySem.W.keepIn K (.ref (ga K "_law_spans")) = true := T.f_spans.elim fun _ F => F.kp
theorem TX.kp_narrow (T : TX K mg w) : PySem.W.keepIn K (.ref (ga K "_law_narrow")) = true := T.f_narrow.elim fun _ F => F.kp
theorem TX.kp_same (T : TX K mg w) : PySem.W.keepIn K (.ref (ga K "_law_same")) = true := T.f_same.elim fun _ F => F.kp
theorem TX.kp_bent (T : TX K mg w) : PySem.W.keepIn K (.ref (ga K "_law_bent")) = true := T.f_bent.elim fun _ F => F.kp
theorem TX.kp_event (T : TX K mg w) : PySem.W.keepIn K (.ref (ga K "_law_event")) = true := T.f_event.elim fun _ F => F.kp
theorem TX.kp_refused (T : TX K mg w) : PySem.W.keepIn K (.ref (ga K "_law_refused")) = true := T.f_refused.elim fun _ F => F.kp
theorem TX.kp_rows (T : TX K mg w) : PySem.W.keepIn K (.ref (ga K "_law_rows")) = true := T.f_rows.elim fun _ F => F.kp
theorem TX.kp_law (T : TX K mg w) : PySem.W.keepIn K (.ref (ga K "law")) = true := T.f_law.elim fun _ F => F.kp
theorem TX.sf_Piece_init (T : TX K mg w) : fnS K (fAd K d_Piece_init.at_) = DefA.val ⟨d_Piece_init, fun K => fAd K d_Piece_init.at_, ["__class__"]⟩ := T.c.sup 2 (d := ⟨d_Piece_init, fun K => fAd K ("Piece", some "__init__"), ["__class__"]⟩)
theorem TX.sf_Break_init (T : TX K mg w) : fnS K (fAd K d_Break_init.at_) = DefA.val ⟨d_Break_init, fun K => fAd K d_Break_init.at_, ["__class__"]⟩ := T.c.sup 3 (d := ⟨d_Break_init, fun K => fAd K ("Break", some "__init__"), ["__class__"]⟩)
theorem TX.sf_NoPoint_init (T : TX K mg w) : fnS K (fAd K d_NoPoint_init.at_) = DefA.val ⟨d_NoPoint_init, fun K => fAd K d_NoPoint_init.at_, ["__class__"]⟩ := T.c.sup 4 (d := ⟨d_NoPoint_init, fun K => fAd K ("NoPoint", some "__init__"), ["__class__"]⟩)
theorem TX.cr_Timed (T : TX K mg w) : ClX.CRead K (ga K "Timed") (.type "type") := have h : x_cr_Timed K = true := T.c.more 0 (f := x_cr_Timed)
  ⟨(ba h).1, eqO_ok (ba h).2⟩
theorem TX.cr_Piece (T : TX K mg w) : ClX.CRead K (ga K "Piece") (.type "type") := have h : x_cr_Piece K = true := T.c.more 1 (f := x_cr_Piece)
  ⟨(ba h).1, eqO_ok (ba h).2⟩
theorem TX.cr_Break (T : TX K mg w) : ClX.CRead K (ga K "Break") (.type "type") := have h : x_cr_Break K = true := T.c.more 2 (f := x_cr_Break)
  ⟨(ba h).1, eqO_ok (ba h).2⟩
theorem TX.cr_Named (T : TX K mg w) : ClX.CRead K (ga K "Named") (.type "type") := have h : x_cr_Named K = true := T.c.more 3 (f := x_cr_Named)
  ⟨(ba h).1, eqO_ok (ba h).2⟩
theorem TX.v_Timed_MOST_DELAY (T : TX K mg w) : ∃ u, ClX.CVal K (ga K "Timed") (.type "type") "MOST_DELAY" (.int 8) u := have h : x_v_Timed_MOST_DELAY K = true := T.c.more 4 (f := x_v_Timed_MOST_DELAY)
  cvalB_ok h
theorem TX.v_Piece_MOST_SPREAD (T : TX K mg w) : ∃ u, ClX.CVal K (ga K "Piece") (.type "type") "MOST_SPREAD" (.int 8) u := have h : x_v_Piece_MOST_SPREAD K = true := T.c.more 5 (f := x_v_Piece_MOST_SPREAD)
  cvalB_ok h
theorem TX.v_Break_MOST_PLACES (T : TX K mg w) : ∃ u, ClX.CVal K (ga K "Break") (.type "type") "MOST_PLACES" (.int 12) u := have h : x_v_Break_MOST_PLACES K = true := T.c.more 6 (f := x_v_Break_MOST_PLACES)
  cvalB_ok h
theorem TX.v_Break_MOST_PATIENCE (T : TX K mg w) : ∃ u, ClX.CVal K (ga K "Break") (.type "type") "MOST_PATIENCE" (.int 64) u := have h : x_v_Break_MOST_PATIENCE K = true := T.c.more 7 (f := x_v_Break_MOST_PATIENCE)
  cvalB_ok h
theorem TX.cf_Timed (T : TX K mg w) : ClsFn K (ga K "Timed") "__init__" (ma K (ga K "Timed") "__init__") := have h : x_cf_Timed K = true := T.c.more 8 (f := x_cf_Timed)
  clsFnB_ok h
theorem TX.cf_Named (T : TX K mg w) : ClsFn K (ga K "Named") "__init__" (ma K (ga K "Named") "__init__") := have h : x_cf_Named K = true := T.c.more 9 (f := x_cf_Named)
  clsFnB_ok h
theorem TX.m_Piece_begin_at (T : TX K mg w) : Meth K (ga K "Piece") "begin_at" (ma K (ga K "Timed") "begin_at") := have h : x_m_Piece_begin_at K = true := T.c.more 10 (f := x_m_Piece_begin_at)
  methB_ok h
theorem TX.m_Break_begin_at (T : TX K mg w) : Meth K (ga K "Break") "begin_at" (ma K (ga K "Timed") "begin_at") := have h : x_m_Break_begin_at K = true := T.c.more 11 (f := x_m_Break_begin_at)
  methB_ok h
theorem TX.p_Break_length (T : TX K mg w) : PropOf K (ga K "Break") "length" (ma K (ga K "Break") "length") (getAd "Break" "length" K) := have h : x_p_Break_length K = true := T.c.more 12 (f := x_p_Break_length)
  propB_ok h
theorem TX.p_Order_points (T : TX K mg w) : PropOf K (ga K "Order") "points" (ma K (ga K "Order") "points") (getAd "Order" "points" K) := have h : x_p_Order_points K = true := T.c.more 13 (f := x_p_Order_points)
  propB_ok h
theorem TX.ty_Piece (T : TX K mg w) : ∀ {H : Hp} {a dx : Addr} {fs : List (Str × V)}, H a = some (.ins (ga K "Piece") dx fs) → TyOf K H (.ref a) (.ref (ga K "Piece")) := have h : x_ty_Piece K = true := T.c.more 14 (f := x_ty_Piece)
  fun e => tyB_ok T.c_Piece h e
theorem TX.ty_Break (T : TX K mg w) : ∀ {H : Hp} {a dx : Addr} {fs : List (Str × V)}, H a = some (.ins (ga K "Break") dx fs) → TyOf K H (.ref a) (.ref (ga K "Break")) := have h : x_ty_Break K = true := T.c.more 15 (f := x_ty_Break)
  fun e => tyB_ok T.c_Break h e
theorem TX.ty_Outlook (T : TX K mg w) : ∀ {H : Hp} {a dx : Addr} {fs : List (Str × V)}, H a = some (.ins (ga K "Outlook") dx fs) → TyOf K H (.ref a) (.ref (ga K "Outlook")) := have h : x_ty_Outlook K = true := T.c.more 16 (f := x_ty_Outlook)
  fun e => tyB_ok T.c_Outlook h e
theorem TX.ty_Reach (T : TX K mg w) : ∀ {H : Hp} {a dx : Addr} {fs : List (Str × V)}, H a = some (.ins (ga K "Reach") dx fs) → TyOf K H (.ref a) (.ref (ga K "Reach")) := have h : x_ty_Reach K = true := T.c.more 17 (f := x_ty_Reach)
  fun e => tyB_ok T.c_Reach h e
theorem TX.ty_Span (T : TX K mg w) : ∀ {H : Hp} {a dx : Addr} {fs : List (Str × V)}, H a = some (.ins (ga K "Span") dx fs) → TyOf K H (.ref a) (.ref (ga K "Span")) := have h : x_ty_Span K = true := T.c.more 18 (f := x_ty_Span)
  fun e => tyB_ok T.c_Span h e
theorem TX.ty_Grid (T : TX K mg w) : ∀ {H : Hp} {a dx : Addr} {fs : List (Str × V)}, H a = some (.ins (ga K "Grid") dx fs) → TyOf K H (.ref a) (.ref (ga K "Grid")) := have h : x_ty_Grid K = true := T.c.more 19 (f := x_ty_Grid)
  fun e => tyB_ok T.c_Grid h e
theorem TX.is_Piece_Piece (T : TX K mg w) : PySem.W.kitOne K (.ref (ga K "Piece")) (.ref (ga K "Piece")) = some true := have h : x_is_Piece_Piece K = true := T.c.more 20 (f := x_is_Piece_Piece)
  of_decide_eq_true h
theorem TX.is_Piece_Break (T : TX K mg w) : PySem.W.kitOne K (.ref (ga K "Piece")) (.ref (ga K "Break")) = some false := have h : x_is_Piece_Break K = true := T.c.more 21 (f := x_is_Piece_Break)
  of_decide_eq_true h
theorem TX.is_Break_Piece (T : TX K mg w) : PySem.W.kitOne K (.ref (ga K "Break")) (.ref (ga K "Piece")) = some false := have h : x_is_Break_Piece K = true := T.c.more 22 (f := x_is_Break_Piece)
  of_decide_eq_true h
theorem TX.is_Break_Break (T : TX K mg w) : PySem.W.kitOne K (.ref (ga K "Break")) (.ref (ga K "Break")) = some true := have h : x_is_Break_Break K = true := T.c.more 23 (f := x_is_Break_Break)
  of_decide_eq_true h
theorem TX.d_Span_contains (T : TX K mg w) : Dun K (ga K "Span") "__contains__" (ma K (ga K "Span") "__contains__") := have h : x_d_Span_contains K = true := T.c.more 24 (f := x_d_Span_contains)
  dunB_ok h
theorem TX.d_Order_contains (T : TX K mg w) : Dun K (ga K "Order") "__contains__" (ma K (ga K "Order") "__contains__") := have h : x_d_Order_contains K = true := T.c.more 25 (f := x_d_Order_contains)
  dunB_ok h
theorem TX.d_Order_getitem (T : TX K mg w) : Dun K (ga K "Order") "__getitem__" (ma K (ga K "Order") "__getitem__") := have h : x_d_Order_getitem K = true := T.c.more 26 (f := x_d_Order_getitem)
  dunB_ok h
theorem TX.d_Course_call (T : TX K mg w) : Dun K (ga K "Course") "__call__" (ma K (ga K "Course") "__call__") := have h : x_d_Course_call K = true := T.c.more 27 (f := x_d_Course_call)
  dunB_ok h
theorem TX.words (T : TX K mg w) : ∀ H : Hp, SqT K H (ga K "WORDS") [.str "delay", .str "length", .str "walk", .str "pack"] := have h : x_words K = true := T.c.more 28 (f := x_words)
  fun H => tupB_ok h H
theorem TX.wordsO (T : TX K mg w) : ∃ o, K.lookup (ga K "WORDS") = some o ∧ o.cls = .type "tuple" ∧ o.dict = none := have h : x_wordsO K = true := T.c.more 29 (f := x_wordsO)
  wordsO_ok h
theorem TX.own_lags (T : TX K mg w) : (∃ u, PySem.W.nsIn K (ga K "OWN_LAGS") "enter" = some (some u) ∧ RelV (.str "walk") u) ∧ ∃ u, PySem.W.nsIn K (ga K "OWN_LAGS") "out" = some (some u) ∧ RelV (.str "pack") u := have h : x_own_lags K = true := T.c.more 30 (f := x_own_lags)
  ⟨valsB_ok (q := ("enter", .str "walk")) h (by simp), valsB_ok (q := ("out", .str "pack")) h (by simp)⟩
theorem TX.own_no_opens (T : TX K mg w) : PySem.W.nsIn K (ga K "OWN_LAGS") "opens" = some none := have h : x_own_no_opens K = true := T.c.more 31 (f := x_own_no_opens)
  eqO_ok h
theorem TX.own_no_begin (T : TX K mg w) : PySem.W.nsIn K (ga K "OWN_LAGS") "begin" = some none := have h : x_own_no_begin K = true := T.c.more 32 (f := x_own_no_begin)
  eqO_ok h
theorem TX.own_no_end (T : TX K mg w) : PySem.W.nsIn K (ga K "OWN_LAGS") "end" = some none := have h : x_own_no_end K = true := T.c.more 33 (f := x_own_no_end)
  eqO_ok h
theorem TX.own_no_call (T : TX K mg w) : PySem.W.nsIn K (ga K "OWN_LAGS") "call" = some none := have h : x_own_no_call K = true := T.c.more 34 (f := x_own_no_call)
  eqO_ok h
theorem TX.own_no_place (T : TX K mg w) : PySem.W.nsIn K (ga K "OWN_LAGS") "place" = some none := have h : x_own_no_place K = true := T.c.more 35 (f := x_own_no_place)
  eqO_ok h
theorem TX.sup_Piece (T : TX K mg w) : ∃ fd, SupF PP K "__init__" "Piece.__init__" (defArgs s_Piece_init) (defBody s_Piece_init) (defScope s_Piece_init) [] (d_Piece_init.kws K) (ma K (ga K "Piece") "__init__") (ga K "Piece") (ccAd K ("Piece", some "__init__")) fd := have h : x_sup_Piece K = true := T.c.more 36 (f := x_sup_Piece)
  sup_ok (d := d_Piece_init) T.sf_Piece_init h
theorem TX.si_Piece (T : TX K mg w) : PySem.W.ks_superIn K (ga K "Piece") (ga K "Piece") "__init__" = some (some (.ref (ma K (ga K "Item") "__init__"))) := have h : x_si_Piece K = true := T.c.more 37 (f := x_si_Piece)
  eqO_ok h
theorem TX.sup_Break (T : TX K mg w) : ∃ fd, SupF PP K "__init__" "Break.__init__" (defArgs s_Break_init) (defBody s_Break_init) (defScope s_Break_init) [] (d_Break_init.kws K) (ma K (ga K "Break") "__init__") (ga K "Break") (ccAd K ("Break", some "__init__")) fd := have h : x_sup_Break K = true := T.c.more 38 (f := x_sup_Break)
  sup_ok (d := d_Break_init) T.sf_Break_init h
theorem TX.si_Break (T : TX K mg w) : PySem.W.ks_superIn K (ga K "Break") (ga K "Break") "__init__" = some (some (.ref (ma K (ga K "Item") "__init__"))) := have h : x_si_Break K = true := T.c.more 39 (f := x_si_Break)
  eqO_ok h
theorem TX.ty_item (T : TX K mg w) : PySem.W.typeIn K (.ref (ma K (ga K "Item") "__init__")) = some (.type "function") ∧ PySem.W.fnIn K (ma K (ga K "Item") "__init__") = true := have h : x_ty_item K = true := T.c.more 40 (f := x_ty_item)
  ⟨eqT_ok (ba h).1, (ba h).2⟩
theorem TX.wp (T : TX K mg w) : (∀ H : Hp, SqT K H (kwAt ("House", some "__init__") "walk" K) [.int 0, .int 0]) ∧ (∀ H : Hp, SqT K H (kwAt ("House", some "__init__") "pack" K) [.int 0, .int 0]) ∧ ∀ H : Hp, SqT K H (dflAt ("House", some "__init__") 0 K) [] := have h : x_wp K = true := T.c.more 41 (f := x_wp)
  ⟨fun H => tupA_ok (ba (ba h).1).1 H, fun H => tupA_ok (ba (ba h).1).2 H, fun H => tupA_ok (ba h).2 H⟩
theorem TX.np_oex (T : TX K mg w) : OexC K (ga K "NoPoint") := have h : x_np_oex K = true := T.c.more 42 (f := x_np_oex)
  oex_of (ba h).1 (eqO_ok (ba (ba h).2).1) (of_decide_eq_true (ba (ba (ba h).2).2).1) (eqT_ok (ba (ba (ba (ba h).2).2).2).1) (ba (ba (ba (ba h).2).2).2).2
theorem TX.np_sup (T : TX K mg w) : ∃ fd, SupF PP K "__init__" "NoPoint.__init__" (defArgs s_NoPoint_init) (defBody s_NoPoint_init) (defScope s_NoPoint_init) [] [] (ma K (ga K "NoPoint") "__init__") (ga K "NoPoint") (ccAd K ("NoPoint", some "__init__")) fd := have h : x_np_sup K = true := T.c.more 43 (f := x_np_sup)
  sup_ok (d := d_NoPoint_init) T.sf_NoPoint_init h
theorem TX.np_si (T : TX K mg w) : PySem.W.ks_superIn K (ga K "NoPoint") (ga K "NoPoint") "__init__" = some (some (.builtin "ValueError.__init__")) := have h : x_np_si K = true := T.c.more 44 (f := x_np_si)
  eqO_ok h
theorem TX.np_at (T : TX K mg w) : PySem.W.findIn K (.ref (ga K "NoPoint")) "point" = some none ∧ PySem.W.findIn K (.ref (ga K "NoPoint")) "__getattr__" = some none ∧ PySem.W.findIn K (.ref (ga K "NoPoint")) "__init__" = some (some (.ref (ma K (ga K "NoPoint") "__init__"))) := have h : x_np_at K = true := T.c.more 45 (f := x_np_at)
  ⟨eqO_ok (ba h).1, eqO_ok (ba (ba h).2).1, eqO_ok (ba (ba h).2).2⟩
theorem TX.np_ga (T : TX K mg w) : PySem.W.findIn K (.ref (ga K "NoPoint")) "__getattribute__" = some (some (.builtin "BaseException.__getattribute__")) ∧ PySem.W.hasDictIn K (ga K "NoPoint") = true ∧ PySem.W.typeIn K (.ref (ma K (ga K "NoPoint") "__init__")) = some (.type "function") ∧ PySem.W.keepIn K (.ref (ma K (ga K "NoPoint") "__init__")) = true := have h : x_np_ga K = true := T.c.more 46 (f := x_np_ga)
  ⟨eqO_ok (ba h).1, (ba (ba h).2).1, eqT_ok (ba (ba (ba h).2).2).1, (ba (ba (ba h).2).2).2⟩
theorem TX.np_is_NoPoint (T : TX K mg w) : PySem.W.exmOne K (.ref (ga K "NoPoint")) (.ref (ga K "NoPoint")) = some true ∧ PySem.W.kitOne K (.ref (ga K "NoPoint")) (.ref (ga K "NoPoint")) = some true := have h : x_np_is_NoPoint K = true := T.c.more 47 (f := x_np_is_NoPoint)
  ⟨of_decide_eq_true (ba h).1, of_decide_eq_true (ba h).2⟩
theorem TX.np_is_BarbreaksError (T : TX K mg w) : PySem.W.exmOne K (.ref (ga K "NoPoint")) (.ref (ga K "BarbreaksError")) = some true ∧ PySem.W.kitOne K (.ref (ga K "NoPoint")) (.ref (ga K "BarbreaksError")) = some true := have h : x_np_is_BarbreaksError K = true := T.c.more 48 (f := x_np_is_BarbreaksError)
  ⟨of_decide_eq_true (ba h).1, of_decide_eq_true (ba h).2⟩
theorem TX.np_is_Refused (T : TX K mg w) : PySem.W.exmOne K (.ref (ga K "NoPoint")) (.ref (ga K "Refused")) = some false ∧ PySem.W.kitOne K (.ref (ga K "NoPoint")) (.ref (ga K "Refused")) = some false := have h : x_np_is_Refused K = true := T.c.more 49 (f := x_np_is_Refused)
  ⟨of_decide_eq_true (ba h).1, of_decide_eq_true (ba h).2⟩
theorem TX.np_is_NotReached (T : TX K mg w) : PySem.W.exmOne K (.ref (ga K "NoPoint")) (.ref (ga K "NotReached")) = some false ∧ PySem.W.kitOne K (.ref (ga K "NoPoint")) (.ref (ga K "NotReached")) = some false := have h : x_np_is_NotReached K = true := T.c.more 50 (f := x_np_is_NotReached)
  ⟨of_decide_eq_true (ba h).1, of_decide_eq_true (ba h).2⟩
theorem TX.np_isV (T : TX K mg w) : PySem.W.kitOne K (.ref (ga K "NoPoint")) (.type "ValueError") = some true := have h : x_np_isV K = true := T.c.more 51 (f := x_np_isV)
  of_decide_eq_true h
theorem TX.np_cls (T : TX K mg w) : PySem.W.findIn K (.ref (ga K "NoPoint")) "__class__" = some (some (.builtin "object.__class__")) ∧ PySem.W.specialIn K (.builtin "object.__class__") "__get__" = some (some (.builtin "getset_descriptor.__get__")) ∧ PySem.W.takesIn K (.builtin "object.__class__") = some true ∧ PySem.W.mroIn K (ga K "NoPoint") (.type "object") = some true := have h : x_np_cls K = true := T.c.more 52 (f := x_np_cls)
  ⟨eqO_ok (ba h).1, eqO_ok (ba (ba h).2).1, of_decide_eq_true (ba (ba (ba h).2).2).1, of_decide_eq_true (ba (ba (ba h).2).2).2⟩
theorem TX.gb_Break_length (T : TX K mg w) : ∃ fd, FunD K "length" "Break.length" (defArgs s_Break_length) (defBody s_Break_length) (defScope s_Break_length) [] [] (getAd "Break" "length" K) fd := have h : x_gb_Break_length K = true := T.c.more 53 (f := x_gb_Break_length)
  get_ok (d := ⟨d_Break_length, getAd "Break" "length", []⟩) (T.c.sup 0) rfl h
theorem TX.gb_Order_points (T : TX K mg w) : ∃ fd, FunD K "points" "Order.points" (defArgs s_Order_points) (defBody s_Order_points) (defScope s_Order_points) [] [] (getAd "Order" "points" K) fd := have h : x_gb_Order_points K = true := T.c.more 54 (f := x_gb_Order_points)
  get_ok (d := ⟨d_Order_points, getAd "Order" "points", []⟩) (T.c.sup 1) rfl h
theorem TX.tab (T : TX K mg w) : ∃ es n, KDict K w (ga K "OWN_LAGS") es n := T.c.t.tab 0 (t := (fun K => ga K "OWN_LAGS", ["enter", "out"]))
end
end BB
set_option maxHeartbeats 0
/-! the written part behind the top (printed by gen_dump.py, gen_kl.py) -/
namespace BB
open PySem PySem.Spec PyProof.Rows L2 He
def kl0 (P : Params) : PySem.W.Frag := [(3, ⟨.type "dict", none, .dict #[⟨PyData.keyHash P "__name__", .str "__name__" 165, .str "law_barbreaks_k34_corners_decide" 1933⟩, ⟨PyData.keyHash P "__doc__", .str "__doc__" 166, .none⟩, ⟨PyData.keyHash P "__package__", .str "__package__" 167, .none⟩, ⟨PyData.keyHash P "__loader__", .str "__loader__" 168, .builtin "__main__.__loader__#opaque"⟩, ⟨PyData.keyHash P "__spec__", .str "__spec__" 169, .none⟩, ⟨PyData.keyHash P "__annotations__", .str "__annotations__" 170, .ref 6⟩, ⟨PyData.keyHash P "__builtins__", .str "__builtins__" 171, .ref 4⟩, ⟨PyData.keyHash P "__file__", .str "__file__" 173, .str "/claim/cut.py" 172⟩, ⟨PyData.keyHash P "__cached__", .str "__cached__" 174, .none⟩, ⟨PyData.keyHash P "_wall", .str "_wall" 193, .ref 21⟩, ⟨PyData.keyHash P "BarbreaksError", .str "BarbreaksError" 213, .ref 31⟩, ⟨PyData.keyHash P "BadName", .str "BadName" 240, .ref 53⟩, ⟨PyData.keyHash P "BadNumber", .str "BadNumber" 267, .ref 74⟩, ⟨PyData.keyHash P "BadText", .str "BadText" 294, .ref 95⟩, ⟨PyData.keyHash P "BadSpan", .str "BadSpan" 323, .ref 116⟩, ⟨PyData.keyHash P "Apart", .str "Apart" 348, .ref 137⟩, ⟨PyData.keyHash P "TooMany", .str "TooMany" 377, .ref 158⟩, ⟨PyData.keyHash P "Twice", .str "Twice" 404, .ref 179⟩, ⟨PyData.keyHash P "Unknown", .str "Unknown" 431, .ref 200⟩, ⟨PyData.keyHash P "BadEvent", .str "BadEvent" 458, .ref 221⟩, ⟨PyData.keyHash P "BadWord", .str "BadWord" 485, .ref 242⟩, ⟨PyData.keyHash P "Outside", .str "Outside" 512, .ref 263⟩, ⟨PyData.keyHash P "NoPoint", .str "NoPoint" 539, .ref 284⟩, ⟨PyData.keyHash P "NotReached", .str "NotReached" 568, .ref 305⟩, ⟨PyData.keyHash P "Refused", .str "Refused" 584, .ref 317⟩, ⟨PyData.keyHash P "LETTERS", .str "LETTERS" 588, .str "abcdefghijklmnopqrstuvwxyz" 587⟩, ⟨PyData.keyHash P "DIGITS", .str "DIGITS" 590, .str "0123456789" 589⟩, ⟨PyData.keyHash P "LONGEST_NAME", .str "LONGEST_NAME" 592, .int (12) 591⟩, ⟨PyData.keyHash P "MOST_DIGITS", .str "MOST_DIGITS" 594, .int (40) 593⟩, ⟨PyData.keyHash P "is_name", .str "is_name" 600, .ref 324⟩, ⟨PyData.keyHash P "write_number", .str "write_number" 607, .ref 331⟩, ⟨PyData.keyHash P "read_number", .str "read_number" 613, .ref 336⟩, ⟨PyData.keyHash P "Named", .str "Named" 644, .ref 353⟩, ⟨PyData.keyHash P "Timed", .str "Timed" 690, .ref 382⟩, ⟨PyData.keyHash P "Item", .str "Item" 727, .ref 411⟩, ⟨PyData.keyHash P "Piece", .str "Piece" 772, .ref 440⟩, ⟨PyData.keyHash P "Break", .str "Break" 838, .ref 485⟩, ⟨PyData.keyHash P "corner", .str "corner" 848, .ref 494⟩, ⟨PyData.keyHash P "hollow", .str "hollow" 856, .ref 501⟩, ⟨PyData.keyHash P "bent_row", .str "bent_row" 869, .ref 508⟩, ⟨PyData.keyHash P "extreme", .str "extreme" 877, .ref 515⟩, ⟨PyData.keyHash P "Span", .str "Span" 1000, .ref 610⟩, ⟨PyData.keyHash P "step_span", .str "step_span" 1011, .ref 621⟩, ⟨PyData.keyHash P "next_moment", .str "next_moment" 1021, .ref 628⟩, ⟨PyData.keyHash P "Course", .str "Course" 1083, .ref 664⟩, ⟨PyData.keyHash P "has_event", .str "has_event" 1096, .ref 675⟩, ⟨PyData.keyHash P "point_of", .str "point_of" 1105, .ref 682⟩, ⟨PyData.keyHash P "WORDS", .str "WORDS" 1112, .ref 683⟩, ⟨PyData.keyHash P "step_lag", .str "step_lag" 1121, .ref 690⟩, ⟨PyData.keyHash P "with_lag", .str "with_lag" 1135, .ref 697⟩, ⟨PyData.keyHash P "OWN_LAGS", .str "OWN_LAGS" 1144, .ref 698⟩, ⟨PyData.keyHash P "Hang", .str "Hang" 1189, .ref 722⟩, ⟨PyData.keyHash P "Distance", .str "Distance" 1222, .ref 743⟩, ⟨PyData.keyHash P "nearest", .str "nearest" 1236, .ref 754⟩, ⟨PyData.keyHash P "farthest", .str "farthest" 1246, .ref 761⟩, ⟨PyData.keyHash P "least_ahead", .str "least_ahead" 1252, .ref 766⟩, ⟨PyData.keyHash P "least_back", .str "least_back" 1258, .ref 771⟩, ⟨PyData.keyHash P "extended_gcd", .str "extended_gcd" 1273, .ref 778⟩, ⟨PyData.keyHash P "Grid", .str "Grid" 1424, .ref 883⟩, ⟨PyData.keyHash P "MOST_STUDIOS", .str "MOST_STUDIOS" 1428, .int (6) 1427⟩, ⟨PyData.keyHash P "MOST_CREWS", .str "MOST_CREWS" 1430, .int (6) 1429⟩, ⟨PyData.keyHash P "MOST_KINDS", .str "MOST_KINDS" 1432, .int (5) 1431⟩, ⟨PyData.keyHash P "MOST_AHEAD", .str "MOST_AHEAD" 1434, .int (3) 1433⟩, ⟨PyData.keyHash P "WIDEST_BOUNDS", .str "WIDEST_BOUNDS" 1436, .int (8) 1435⟩, ⟨PyData.keyHash P "check_kinds", .str "check_kinds" 1445, .ref 894⟩, ⟨PyData.keyHash P "span_of_bounds", .str "span_of_bounds" 1454, .ref 901⟩, ⟨PyData.keyHash P "House", .str "House" 1515, .ref 930⟩, ⟨PyData.keyHash P "MOST_ITEMS", .str "MOST_ITEMS" 1519, .int (8) 1518⟩, ⟨PyData.keyHash P "MOST_PLACES_IN_ALL", .str "MOST_PLACES_IN_ALL" 1521, .int (30) 1520⟩, ⟨PyData.keyHash P "Order", .str "Order" 1678, .ref 1062⟩, ⟨PyData.keyHash P "DELAY", .str "DELAY" 1682, .int (0) 1681⟩, ⟨PyData.keyHash P "LENGTH", .str "LENGTH" 1684, .int (1) 1683⟩, ⟨PyData.keyHash P "lag_spans", .str "lag_spans" 1693, .ref 1073⟩, ⟨PyData.keyHash P "lags_fit", .str "lags_fit" 1699, .ref 1078⟩, ⟨PyData.keyHash P "MOST_ROWS", .str "MOST_ROWS" 1703, .int (2000) 1702⟩, ⟨PyData.keyHash P "all_lags", .str "all_lags" 1709, .ref 1083⟩, ⟨PyData.keyHash P "with_spans", .str "with_spans" 1718, .ref 1090⟩, ⟨PyData.keyHash P "Outlook", .str "Outlook" 1848, .ref 1186⟩, ⟨PyData.keyHash P "next_table", .str "next_table" 1856, .ref 1195⟩, ⟨PyData.keyHash P "Reach", .str "Reach" 1932, .ref 1248⟩, ⟨PyData.keyHash P "_law_is_int", .str "_law_is_int" 1941, .ref 1259⟩, ⟨PyData.keyHash P "_law_pool", .str "_law_pool" 1950, .ref 1266⟩, ⟨PyData.keyHash P "_law_take", .str "_law_take" 1962, .ref 1273⟩, ⟨PyData.keyHash P "_law_big", .str "_law_big" 1971, .ref 1280⟩, ⟨PyData.keyHash P "_law_names", .str "_law_names" 1977, .ref 1285⟩, ⟨PyData.keyHash P "_law_first", .str "_law_first" 1986, .ref 1292⟩, ⟨PyData.keyHash P "_law_opens", .str "_law_opens" 1994, .ref 1299⟩, ⟨PyData.keyHash P "_law_items", .str "_law_items" 2019, .ref 1306⟩, ⟨PyData.keyHash P "_law_day", .str "_law_day" 2036, .ref 1313⟩, ⟨PyData.keyHash P "_law_item", .str "_law_item" 2043, .ref 1320⟩, ⟨PyData.keyHash P "_law_house", .str "_law_house" 2050, .ref 1327⟩, ⟨PyData.keyHash P "_law_order", .str "_law_order" 2056, .ref 1332⟩, ⟨PyData.keyHash P "_law_moments", .str "_law_moments" 2069, .ref 1339⟩, ⟨PyData.keyHash P "_law_at", .str "_law_at" 2078, .ref 1346⟩, ⟨PyData.keyHash P "_law_call", .str "_law_call" 2086, .ref 1353⟩, ⟨PyData.keyHash P "_law_point", .str "_law_point" 2095, .ref 1360⟩, ⟨PyData.keyHash P "_law_moment", .str "_law_moment" 2106, .ref 1367⟩, ⟨PyData.keyHash P "_law_events", .str "_law_events" 2117, .ref 1374⟩, ⟨PyData.keyHash P "_law_apart", .str "_law_apart" 2128, .ref 1381⟩, ⟨PyData.keyHash P "_law_spans", .str "_law_spans" 2137, .ref 1388⟩, ⟨PyData.keyHash P "_law_row", .str "_law_row" 2151, .ref 1395⟩, ⟨PyData.keyHash P "_law_narrow", .str "_law_narrow" 2168, .ref 1402⟩, ⟨PyData.keyHash P "_law_same", .str "_law_same" 2174, .ref 1407⟩, ⟨PyData.keyHash P "_law_bent", .str "_law_bent" 2187, .ref 1414⟩, ⟨PyData.keyHash P "_law_event", .str "_law_event" 2195, .ref 1421⟩, ⟨PyData.keyHash P "_law_refused", .str "_law_refused" 2206, .ref 1428⟩, ⟨PyData.keyHash P "_law_rows", .str "_law_rows" 2218, .ref 1435⟩, ⟨PyData.keyHash P "law", .str "law" 2224, .ref 1440⟩] 108, #[]⟩),
  (2, ⟨.none, none, .dict #[] 0, #[]⟩),
  (31, ⟨.type "type", none, .cls ⟨"BarbreaksError", [.type "ValueError"], [.ref 31, .type "ValueError", .type "Exception", .type "BaseException", .type "object"], 30, "BarbreaksError", true, [], [.ref 53, .ref 74, .ref 95, .ref 116, .ref 137, .ref 158, .ref 179, .ref 200, .ref 221, .ref 242, .ref 263, .ref 284, .ref 305, .ref 317], false, none, false⟩, #[some (.ref 22), none, some (.str "BarbreaksError" 196), some (.str "BarbreaksError" 204), some (.builtin "ValueError.__new__"), some (.bool true)]⟩),
  (284, ⟨.type "type", none, .cls ⟨"NoPoint", [.ref 31], [.ref 284, .ref 31, .type "ValueError", .type "Exception", .type "BaseException", .type "object"], 283, "NoPoint", true, [], [], false, none, false⟩, #[some (.ref 266), none, some (.str "NoPoint" 513), some (.str "NoPoint" 521), some (.builtin "ValueError.__new__"), some (.bool true)]⟩),
  (305, ⟨.type "type", none, .cls ⟨"NotReached", [.ref 31], [.ref 305, .ref 31, .type "ValueError", .type "Exception", .type "BaseException", .type "object"], 304, "NotReached", true, [], [], false, none, false⟩, #[some (.ref 287), none, some (.str "NotReached" 540), some (.str "NotReached" 548), some (.builtin "ValueError.__new__"), some (.bool true)]⟩),
  (317, ⟨.type "type", none, .cls ⟨"Refused", [.ref 31], [.ref 317, .ref 31, .type "ValueError", .type "Exception", .type "BaseException", .type "object"], 316, "Refused", true, [], [], false, none, false⟩, #[some (.ref 308), none, some (.str "Refused" 569), some (.str "Refused" 577), some (.builtin "ValueError.__new__"), some (.bool true)]⟩),
  (353, ⟨.type "type", none, .cls ⟨"Named", [.type "object"], [.ref 353, .type "object"], 352, "Named", true, [], [.ref 411], false, none, false⟩, #[none, none, some (.str "Named" 616), some (.str "Named" 624), some (.builtin "object.__new__"), some (.bool true)]⟩),
  (382, ⟨.type "type", none, .cls ⟨"Timed", [.type "object"], [.ref 382, .type "object"], 381, "Timed", true, [], [.ref 411], false, none, false⟩, #[none, none, some (.str "Timed" 645), some (.str "Timed" 653), some (.builtin "object.__new__"), some (.bool true)]⟩),
  (411, ⟨.type "type", none, .cls ⟨"Item", [.ref 353, .ref 382], [.ref 411, .ref 353, .ref 382, .type "object"], 410, "Item", true, [], [.ref 440, .ref 485], false, none, false⟩, #[some (.ref 387), none, some (.str "Item" 691), some (.str "Item" 699), some (.builtin "object.__new__"), some (.bool true)]⟩),
  (440, ⟨.type "type", none, .cls ⟨"Piece", [.ref 411], [.ref 440, .ref 411, .ref 353, .ref 382, .type "object"], 439, "Piece", true, [], [], false, none, false⟩, #[some (.ref 414), none, some (.str "Piece" 728), some (.str "Piece" 736), some (.builtin "object.__new__"), some (.bool true)]⟩)]
def kl1 (P : Params) : PySem.W.Frag := [(485, ⟨.type "type", none, .cls ⟨"Break", [.ref 411], [.ref 485, .ref 411, .ref 353, .ref 382, .type "object"], 484, "Break", true, [], [], false, none, false⟩, #[some (.ref 443), none, some (.str "Break" 773), some (.str "Break" 781), some (.builtin "object.__new__"), some (.bool true)]⟩),
  (610, ⟨.type "type", none, .cls ⟨"Span", [.type "object"], [.ref 610, .type "object"], 609, "Span", true, [], [], false, none, false⟩, #[none, none, some (.str "Span" 880), some (.str "Span" 888), some (.builtin "object.__new__"), some (.bool true)]⟩),
  (664, ⟨.type "type", none, .cls ⟨"Course", [.type "object"], [.ref 664, .type "object"], 663, "Course", true, [], [], false, none, false⟩, #[none, none, some (.str "Course" 1024), some (.str "Course" 1032), some (.builtin "object.__new__"), some (.bool true)]⟩),
  (722, ⟨.type "type", none, .cls ⟨"Hang", [.type "object"], [.ref 722, .type "object"], 721, "Hang", true, [], [], false, none, false⟩, #[none, none, some (.str "Hang" 1145), some (.str "Hang" 1153), some (.builtin "object.__new__"), some (.bool true)]⟩),
  (743, ⟨.type "type", none, .cls ⟨"Distance", [.type "object"], [.ref 743, .type "object"], 742, "Distance", true, [], [], false, none, false⟩, #[none, none, some (.str "Distance" 1192), some (.str "Distance" 1200), some (.builtin "object.__new__"), some (.bool true)]⟩),
  (883, ⟨.type "type", none, .cls ⟨"Grid", [.type "object"], [.ref 883, .type "object"], 882, "Grid", true, [], [], false, none, false⟩, #[none, none, some (.str "Grid" 1274), some (.str "Grid" 1282), some (.builtin "object.__new__"), some (.bool true)]⟩),
  (930, ⟨.type "type", none, .cls ⟨"House", [.type "object"], [.ref 930, .type "object"], 929, "House", true, [], [], false, none, false⟩, #[none, none, some (.str "House" 1455), some (.str "House" 1463), some (.builtin "object.__new__"), some (.bool true)]⟩),
  (1062, ⟨.type "type", none, .cls ⟨"Order", [.type "object"], [.ref 1062, .type "object"], 1061, "Order", true, [], [], false, none, false⟩, #[none, none, some (.str "Order" 1522), some (.str "Order" 1530), some (.builtin "object.__new__"), some (.bool true)]⟩),
  (1186, ⟨.type "type", none, .cls ⟨"Outlook", [.type "object"], [.ref 1186, .type "object"], 1185, "Outlook", true, [], [], false, none, false⟩, #[none, none, some (.str "Outlook" 1719), some (.str "Outlook" 1727), some (.builtin "object.__new__"), some (.bool true)]⟩),
  (1248, ⟨.type "type", none, .cls ⟨"Reach", [.type "object"], [.ref 1248, .type "object"], 1247, "Reach", true, [], [], false, none, false⟩, #[none, none, some (.str "Reach" 1857), some (.str "Reach" 1865), some (.builtin "object.__new__"), some (.bool true)]⟩)]
def kl2 (P : Params) : PySem.W.Frag := [(30, ⟨.type "dict", none, .dict #[⟨PyData.keyHash P "__module__", .str "__module__" 203, .str "barbreaks.errors" 194⟩, ⟨PyData.keyHash P "__firstlineno__", .str "__firstlineno__" 207, .int (5) 206⟩, ⟨PyData.keyHash P "__static_attributes__", .str "__static_attributes__" 208, .ref 29⟩, ⟨PyData.keyHash P "__weakref__", .str "__weakref__" 210, .ref 32⟩, ⟨PyData.keyHash P "__doc__", .str "__doc__" 211, .none⟩] 3, #[]⟩),
  (283, ⟨.type "dict", none, .dict #[⟨PyData.keyHash P "__module__", .str "__module__" 520, .str "barbreaks.errors" 194⟩, ⟨PyData.keyHash P "__firstlineno__", .str "__firstlineno__" 524, .int (63) 523⟩, ⟨PyData.keyHash P "__init__", .str "__init__" 533, .ref 281⟩, ⟨PyData.keyHash P "__static_attributes__", .str "__static_attributes__" 535, .ref 282⟩, ⟨PyData.keyHash P "__doc__", .str "__doc__" 537, .none⟩] 3, #[]⟩),
  (304, ⟨.type "dict", none, .dict #[⟨PyData.keyHash P "__module__", .str "__module__" 547, .str "barbreaks.errors" 194⟩, ⟨PyData.keyHash P "__firstlineno__", .str "__firstlineno__" 551, .int (68) 550⟩, ⟨PyData.keyHash P "__init__", .str "__init__" 561, .ref 302⟩, ⟨PyData.keyHash P "__static_attributes__", .str "__static_attributes__" 564, .ref 303⟩, ⟨PyData.keyHash P "__doc__", .str "__doc__" 566, .none⟩] 3, #[]⟩),
  (316, ⟨.type "dict", none, .dict #[⟨PyData.keyHash P "__module__", .str "__module__" 576, .str "barbreaks.errors" 194⟩, ⟨PyData.keyHash P "__firstlineno__", .str "__firstlineno__" 580, .int (74) 579⟩, ⟨PyData.keyHash P "__static_attributes__", .str "__static_attributes__" 581, .ref 315⟩, ⟨PyData.keyHash P "__doc__", .str "__doc__" 582, .none⟩] 2, #[]⟩),
  (352, ⟨.type "dict", none, .dict #[⟨PyData.keyHash P "__module__", .str "__module__" 623, .str "barbreaks.items" 614⟩, ⟨PyData.keyHash P "__firstlineno__", .str "__firstlineno__" 627, .int (99) 626⟩, ⟨PyData.keyHash P "__init__", .str "__init__" 635, .ref 350⟩, ⟨PyData.keyHash P "__static_attributes__", .str "__static_attributes__" 637, .ref 351⟩, ⟨PyData.keyHash P "__dict__", .str "__dict__" 639, .ref 354⟩, ⟨PyData.keyHash P "__weakref__", .str "__weakref__" 641, .ref 355⟩, ⟨PyData.keyHash P "__doc__", .str "__doc__" 642, .none⟩] 4, #[]⟩),
  (381, ⟨.type "dict", none, .dict #[⟨PyData.keyHash P "__module__", .str "__module__" 652, .str "barbreaks.items" 614⟩, ⟨PyData.keyHash P "__firstlineno__", .str "__firstlineno__" 656, .int (105) 655⟩, ⟨PyData.keyHash P "MOST_DELAY", .str "MOST_DELAY" 658, .int (8) 657⟩, ⟨PyData.keyHash P "__init__", .str "__init__" 669, .ref 372⟩, ⟨PyData.keyHash P "begin_at", .str "begin_at" 679, .ref 379⟩, ⟨PyData.keyHash P "__static_attributes__", .str "__static_attributes__" 683, .ref 380⟩, ⟨PyData.keyHash P "__dict__", .str "__dict__" 685, .ref 383⟩, ⟨PyData.keyHash P "__weakref__", .str "__weakref__" 687, .ref 384⟩, ⟨PyData.keyHash P "__doc__", .str "__doc__" 688, .none⟩] 4, #[]⟩),
  (410, ⟨.type "dict", none, .dict #[⟨PyData.keyHash P "__module__", .str "__module__" 698, .str "barbreaks.items" 614⟩, ⟨PyData.keyHash P "__firstlineno__", .str "__firstlineno__" 702, .int (120) 701⟩, ⟨PyData.keyHash P "__init__", .str "__init__" 716, .ref 401⟩, ⟨PyData.keyHash P "words", .str "words" 723, .ref 408⟩, ⟨PyData.keyHash P "__static_attributes__", .str "__static_attributes__" 724, .ref 409⟩, ⟨PyData.keyHash P "__doc__", .str "__doc__" 725, .none⟩] 2, #[]⟩),
  (439, ⟨.type "dict", none, .dict #[⟨PyData.keyHash P "__module__", .str "__module__" 735, .str "barbreaks.items" 614⟩, ⟨PyData.keyHash P "__firstlineno__", .str "__firstlineno__" 739, .int (128) 738⟩, ⟨PyData.keyHash P "MOST_SPREAD", .str "MOST_SPREAD" 741, .int (8) 740⟩, ⟨PyData.keyHash P "__init__", .str "__init__" 758, .ref 430⟩, ⟨PyData.keyHash P "words", .str "words" 765, .ref 437⟩, ⟨PyData.keyHash P "__static_attributes__", .str "__static_attributes__" 768, .ref 438⟩, ⟨PyData.keyHash P "__doc__", .str "__doc__" 770, .none⟩] 3, #[]⟩),
  (484, ⟨.type "dict", none, .dict #[⟨PyData.keyHash P "__module__", .str "__module__" 780, .str "barbreaks.items" 614⟩, ⟨PyData.keyHash P "__firstlineno__", .str "__firstlineno__" 784, .int (142) 783⟩, ⟨PyData.keyHash P "MOST_PLACES", .str "MOST_PLACES" 786, .int (12) 785⟩, ⟨PyData.keyHash P "MOST_PATIENCE", .str "MOST_PATIENCE" 788, .int (64) 787⟩, ⟨PyData.keyHash P "__init__", .str "__init__" 807, .ref 459⟩, ⟨PyData.keyHash P "length", .str "length" 815, .ref 467⟩, ⟨PyData.keyHash P "limit", .str "limit" 823, .ref 475⟩, ⟨PyData.keyHash P "words", .str "words" 830, .ref 482⟩, ⟨PyData.keyHash P "__static_attributes__", .str "__static_attributes__" 834, .ref 483⟩, ⟨PyData.keyHash P "__doc__", .str "__doc__" 836, .none⟩] 3, #[]⟩),
  (609, ⟨.type "dict", none, .dict #[⟨PyData.keyHash P "__module__", .str "__module__" 887, .str "barbreaks.spans" 878⟩, ⟨PyData.keyHash P "__firstlineno__", .str "__firstlineno__" 891, .int (190) 890⟩, ⟨PyData.keyHash P "__init__", .str "__init__" 900, .ref 529⟩, ⟨PyData.keyHash P "size", .str "size" 908, .ref 537⟩, ⟨PyData.keyHash P "within", .str "within" 916, .ref 544⟩, ⟨PyData.keyHash P "__contains__", .str "__contains__" 924, .ref 551⟩, ⟨PyData.keyHash P "__eq__", .str "__eq__" 932, .ref 558⟩, ⟨PyData.keyHash P "__add__", .str "__add__" 940, .ref 565⟩, ⟨PyData.keyHash P "__radd__", .str "__radd__" 948, .ref 572⟩, ⟨PyData.keyHash P "__sub__", .str "__sub__" 956, .ref 579⟩, ⟨PyData.keyHash P "__rsub__", .str "__rsub__" 964, .ref 586⟩, ⟨PyData.keyHash P "__neg__", .str "__neg__" 971, .ref 593⟩, ⟨PyData.keyHash P "__and__", .str "__and__" 981, .ref 600⟩, ⟨PyData.keyHash P "__or__", .str "__or__" 989, .ref 607⟩, ⟨PyData.keyHash P "__static_attributes__", .str "__static_attributes__" 992, .ref 608⟩, ⟨PyData.keyHash P "__dict__", .str "__dict__" 994, .ref 611⟩, ⟨PyData.keyHash P "__weakref__", .str "__weakref__" 996, .ref 612⟩, ⟨PyData.keyHash P "__doc__", .str "__doc__" 997, .none⟩, ⟨PyData.keyHash P "__hash__", .str "__hash__" 998, .none⟩] 5, #[]⟩)]
def kl3 (P : Params) : PySem.W.Frag := [(663, ⟨.type "dict", none, .dict #[⟨PyData.keyHash P "__module__", .str "__module__" 1031, .str "barbreaks.courses" 1022⟩, ⟨PyData.keyHash P "__firstlineno__", .str "__firstlineno__" 1035, .int (252) 1034⟩, ⟨PyData.keyHash P "__init__", .str "__init__" 1041, .ref 640⟩, ⟨PyData.keyHash P "__call__", .str "__call__" 1052, .ref 647⟩, ⟨PyData.keyHash P "latest", .str "latest" 1063, .ref 654⟩, ⟨PyData.keyHash P "__rshift__", .str "__rshift__" 1071, .ref 661⟩, ⟨PyData.keyHash P "__static_attributes__", .str "__static_attributes__" 1076, .ref 662⟩, ⟨PyData.keyHash P "__dict__", .str "__dict__" 1078, .ref 665⟩, ⟨PyData.keyHash P "__weakref__", .str "__weakref__" 1080, .ref 666⟩, ⟨PyData.keyHash P "__doc__", .str "__doc__" 1081, .none⟩] 4, #[]⟩),
  (721, ⟨.type "dict", none, .dict #[⟨PyData.keyHash P "__module__", .str "__module__" 1152, .str "barbreaks.hangs" 1136⟩, ⟨PyData.keyHash P "__firstlineno__", .str "__firstlineno__" 1156, .int (323) 1155⟩, ⟨PyData.keyHash P "__init__", .str "__init__" 1166, .ref 712⟩, ⟨PyData.keyHash P "with_excess", .str "with_excess" 1176, .ref 719⟩, ⟨PyData.keyHash P "__static_attributes__", .str "__static_attributes__" 1182, .ref 720⟩, ⟨PyData.keyHash P "__dict__", .str "__dict__" 1184, .ref 723⟩, ⟨PyData.keyHash P "__weakref__", .str "__weakref__" 1186, .ref 724⟩, ⟨PyData.keyHash P "__doc__", .str "__doc__" 1187, .none⟩] 4, #[]⟩),
  (742, ⟨.type "dict", none, .dict #[⟨PyData.keyHash P "__module__", .str "__module__" 1199, .str "barbreaks.distances" 1190⟩, ⟨PyData.keyHash P "__firstlineno__", .str "__firstlineno__" 1203, .int (345) 1202⟩, ⟨PyData.keyHash P "__init__", .str "__init__" 1212, .ref 740⟩, ⟨PyData.keyHash P "__static_attributes__", .str "__static_attributes__" 1215, .ref 741⟩, ⟨PyData.keyHash P "__dict__", .str "__dict__" 1217, .ref 744⟩, ⟨PyData.keyHash P "__weakref__", .str "__weakref__" 1219, .ref 745⟩, ⟨PyData.keyHash P "__doc__", .str "__doc__" 1220, .none⟩] 4, #[]⟩),
  (882, ⟨.type "dict", none, .dict #[⟨PyData.keyHash P "__module__", .str "__module__" 1281, .str "barbreaks.grids" 1259⟩, ⟨PyData.keyHash P "__firstlineno__", .str "__firstlineno__" 1285, .int (390) 1284⟩, ⟨PyData.keyHash P "__init__", .str "__init__" 1295, .ref 793⟩, ⟨PyData.keyHash P "read", .str "read" 1320, .ref 802⟩, ⟨PyData.keyHash P "first_bar", .str "first_bar" 1328, .ref 810⟩, ⟨PyData.keyHash P "last_bar", .str "last_bar" 1336, .ref 817⟩, ⟨PyData.keyHash P "bars_between", .str "bars_between" 1345, .ref 824⟩, ⟨PyData.keyHash P "within", .str "within" 1353, .ref 831⟩, ⟨PyData.keyHash P "__contains__", .str "__contains__" 1361, .ref 838⟩, ⟨PyData.keyHash P "__eq__", .str "__eq__" 1369, .ref 845⟩, ⟨PyData.keyHash P "__str__", .str "__str__" 1376, .ref 852⟩, ⟨PyData.keyHash P "__add__", .str "__add__" 1384, .ref 859⟩, ⟨PyData.keyHash P "__radd__", .str "__radd__" 1392, .ref 866⟩, ⟨PyData.keyHash P "__sub__", .str "__sub__" 1400, .ref 873⟩, ⟨PyData.keyHash P "__and__", .str "__and__" 1413, .ref 880⟩, ⟨PyData.keyHash P "__static_attributes__", .str "__static_attributes__" 1416, .ref 881⟩, ⟨PyData.keyHash P "__dict__", .str "__dict__" 1418, .ref 884⟩, ⟨PyData.keyHash P "__weakref__", .str "__weakref__" 1420, .ref 885⟩, ⟨PyData.keyHash P "__doc__", .str "__doc__" 1421, .none⟩, ⟨PyData.keyHash P "__hash__", .str "__hash__" 1422, .none⟩] 5, #[]⟩),
  (929, ⟨.type "dict", none, .dict #[⟨PyData.keyHash P "__module__", .str "__module__" 1462, .str "barbreaks.houses" 1425⟩, ⟨PyData.keyHash P "__firstlineno__", .str "__firstlineno__" 1466, .int (473) 1465⟩, ⟨PyData.keyHash P "__init__", .str "__init__" 1492, .ref 920⟩, ⟨PyData.keyHash P "with_apart", .str "with_apart" 1500, .ref 927⟩, ⟨PyData.keyHash P "__static_attributes__", .str "__static_attributes__" 1508, .ref 928⟩, ⟨PyData.keyHash P "__dict__", .str "__dict__" 1510, .ref 931⟩, ⟨PyData.keyHash P "__weakref__", .str "__weakref__" 1512, .ref 932⟩, ⟨PyData.keyHash P "__doc__", .str "__doc__" 1513, .none⟩] 4, #[]⟩),
  (1061, ⟨.type "dict", none, .dict #[⟨PyData.keyHash P "__module__", .str "__module__" 1529, .str "barbreaks.orders" 1516⟩, ⟨PyData.keyHash P "__firstlineno__", .str "__firstlineno__" 1533, .int (500) 1532⟩, ⟨PyData.keyHash P "__init__", .str "__init__" 1539, .ref 946⟩, ⟨PyData.keyHash P "points", .str "points" 1547, .ref 954⟩, ⟨PyData.keyHash P "__len__", .str "__len__" 1554, .ref 961⟩, ⟨PyData.keyHash P "__iter__", .str "__iter__" 1561, .ref 968⟩, ⟨PyData.keyHash P "__contains__", .str "__contains__" 1569, .ref 975⟩, ⟨PyData.keyHash P "__getitem__", .str "__getitem__" 1577, .ref 982⟩, ⟨PyData.keyHash P "number_of", .str "number_of" 1585, .ref 989⟩, ⟨PyData.keyHash P "piece_names", .str "piece_names" 1592, .ref 996⟩, ⟨PyData.keyHash P "break_names", .str "break_names" 1599, .ref 1003⟩, ⟨PyData.keyHash P "begin_of", .str "begin_of" 1607, .ref 1010⟩, ⟨PyData.keyHash P "end_of", .str "end_of" 1615, .ref 1017⟩, ⟨PyData.keyHash P "call_of", .str "call_of" 1624, .ref 1024⟩, ⟨PyData.keyHash P "upto", .str "upto" 1632, .ref 1031⟩, ⟨PyData.keyHash P "moved", .str "moved" 1640, .ref 1038⟩, ⟨PyData.keyHash P "retimed", .str "retimed" 1649, .ref 1045⟩, ⟨PyData.keyHash P "swapped", .str "swapped" 1658, .ref 1052⟩, ⟨PyData.keyHash P "with_house", .str "with_house" 1666, .ref 1059⟩, ⟨PyData.keyHash P "__static_attributes__", .str "__static_attributes__" 1671, .ref 1060⟩, ⟨PyData.keyHash P "__dict__", .str "__dict__" 1673, .ref 1063⟩, ⟨PyData.keyHash P "__weakref__", .str "__weakref__" 1675, .ref 1064⟩, ⟨PyData.keyHash P "__doc__", .str "__doc__" 1676, .none⟩] 4, #[]⟩),
  (1185, ⟨.type "dict", none, .dict #[⟨PyData.keyHash P "__module__", .str "__module__" 1726, .str "barbreaks.outlooks" 1700⟩, ⟨PyData.keyHash P "__firstlineno__", .str "__firstlineno__" 1730, .int (598) 1729⟩, ⟨PyData.keyHash P "__init__", .str "__init__" 1736, .ref 1102⟩, ⟨PyData.keyHash P "__contains__", .str "__contains__" 1742, .ref 1107⟩, ⟨PyData.keyHash P "span_of", .str "span_of" 1751, .ref 1114⟩, ⟨PyData.keyHash P "narrowed", .str "narrowed" 1763, .ref 1121⟩, ⟨PyData.keyHash P "split_at", .str "split_at" 1773, .ref 1128⟩, ⟨PyData.keyHash P "carried", .str "carried" 1781, .ref 1135⟩, ⟨PyData.keyHash P "row_count", .str "row_count" 1791, .ref 1142⟩, ⟨PyData.keyHash P "first_row", .str "first_row" 1797, .ref 1147⟩, ⟨PyData.keyHash P "last_row", .str "last_row" 1804, .ref 1154⟩, ⟨PyData.keyHash P "rows", .str "rows" 1810, .ref 1159⟩, ⟨PyData.keyHash P "lateness_of", .str "lateness_of" 1818, .ref 1166⟩, ⟨PyData.keyHash P "within", .str "within" 1826, .ref 1173⟩, ⟨PyData.keyHash P "_limits", .str "_limits" 1832, .ref 1178⟩, ⟨PyData.keyHash P "_replaced", .str "_replaced" 1838, .ref 1183⟩, ⟨PyData.keyHash P "__static_attributes__", .str "__static_attributes__" 1841, .ref 1184⟩, ⟨PyData.keyHash P "__dict__", .str "__dict__" 1843, .ref 1187⟩, ⟨PyData.keyHash P "__weakref__", .str "__weakref__" 1845, .ref 1188⟩, ⟨PyData.keyHash P "__doc__", .str "__doc__" 1846, .none⟩] 4, #[]⟩),
  (1247, ⟨.type "dict", none, .dict #[⟨PyData.keyHash P "__module__", .str "__module__" 1864, .str "barbreaks.reach" 1849⟩, ⟨PyData.keyHash P "__firstlineno__", .str "__firstlineno__" 1868, .int (678) 1867⟩, ⟨PyData.keyHash P "__init__", .str "__init__" 1874, .ref 1207⟩, ⟨PyData.keyHash P "moments_at", .str "moments_at" 1880, .ref 1212⟩, ⟨PyData.keyHash P "span_at", .str "span_at" 1888, .ref 1219⟩, ⟨PyData.keyHash P "lateness_at", .str "lateness_at" 1897, .ref 1226⟩, ⟨PyData.keyHash P "row_to", .str "row_to" 1903, .ref 1231⟩, ⟨PyData.keyHash P "_check_point", .str "_check_point" 1911, .ref 1238⟩, ⟨PyData.keyHash P "_check_moment", .str "_check_moment" 1920, .ref 1245⟩, ⟨PyData.keyHash P "__static_attributes__", .str "__static_attributes__" 1925, .ref 1246⟩, ⟨PyData.keyHash P "__dict__", .str "__dict__" 1927, .ref 1249⟩, ⟨PyData.keyHash P "__weakref__", .str "__weakref__" 1929, .ref 1250⟩, ⟨PyData.keyHash P "__doc__", .str "__doc__" 1930, .none⟩] 4, #[]⟩),
  (467, ⟨.type "property", none, .fields #[.ref 466, .none, .none, .none, .str "length" 815, .bool false], #[]⟩),
  (954, ⟨.type "property", none, .fields #[.ref 953, .none, .none, .none, .str "points" 1547, .bool false], #[]⟩)]
def kl4 (P : Params) : PySem.W.Frag := [(324, ⟨.type "function", none, .func ⟨"is_name", "is_name", defArgs s_is_name, .stmts (defBody s_is_name), defScope s_is_name, 3, [], .none, .none, .none, .str "barbreaks.words" 585, none, .ref 323, .none, 0⟩, #[]⟩),
  (494, ⟨.type "function", none, .func ⟨"corner", "corner", defArgs s_corner, .stmts (defBody s_corner), defScope s_corner, 3, [], .none, .none, .none, .str "barbreaks.corners" 839, none, .ref 493, .none, 0⟩, #[]⟩),
  (501, ⟨.type "function", none, .func ⟨"hollow", "hollow", defArgs s_hollow, .stmts (defBody s_hollow), defScope s_hollow, 3, [], .none, .none, .none, .str "barbreaks.corners" 839, none, .ref 500, .none, 0⟩, #[]⟩),
  (508, ⟨.type "function", none, .func ⟨"bent_row", "bent_row", defArgs s_bent_row, .stmts (defBody s_bent_row), defScope s_bent_row, 3, [], .none, .none, .none, .str "barbreaks.corners" 839, none, .ref 507, .none, 0⟩, #[]⟩),
  (515, ⟨.type "function", none, .func ⟨"extreme", "extreme", defArgs s_extreme, .stmts (defBody s_extreme), defScope s_extreme, 3, [], .none, .none, .none, .str "barbreaks.corners" 839, none, .ref 514, .none, 0⟩, #[]⟩),
  (621, ⟨.type "function", none, .func ⟨"step_span", "step_span", defArgs s_step_span, .stmts (defBody s_step_span), defScope s_step_span, 3, [], .none, .none, .none, .str "barbreaks.steps" 1001, none, .ref 620, .none, 0⟩, #[]⟩),
  (628, ⟨.type "function", none, .func ⟨"next_moment", "next_moment", defArgs s_next_moment, .stmts (defBody s_next_moment), defScope s_next_moment, 3, [], .none, .none, .none, .str "barbreaks.steps" 1001, none, .ref 627, .none, 0⟩, #[]⟩),
  (675, ⟨.type "function", none, .func ⟨"has_event", "has_event", defArgs s_has_event, .stmts (defBody s_has_event), defScope s_has_event, 3, [], .none, .none, .none, .str "barbreaks.events" 1084, none, .ref 674, .none, 0⟩, #[]⟩),
  (682, ⟨.type "function", none, .func ⟨"point_of", "point_of", defArgs s_point_of, .stmts (defBody s_point_of), defScope s_point_of, 3, [], .none, .none, .none, .str "barbreaks.events" 1084, none, .ref 681, .none, 0⟩, #[]⟩),
  (690, ⟨.type "function", none, .func ⟨"step_lag", "step_lag", defArgs s_step_lag, .stmts (defBody s_step_lag), defScope s_step_lag, 3, [], .none, .none, .none, .str "barbreaks.rowlags" 1106, none, .ref 689, .none, 0⟩, #[]⟩)]
def kl5 (P : Params) : PySem.W.Frag := [(697, ⟨.type "function", none, .func ⟨"with_lag", "with_lag", defArgs s_with_lag, .stmts (defBody s_with_lag), defScope s_with_lag, 3, [], .none, .none, .none, .str "barbreaks.rowlags" 1106, none, .ref 696, .none, 0⟩, #[]⟩),
  (754, ⟨.type "function", none, .func ⟨"nearest", "nearest", defArgs s_nearest, .stmts (defBody s_nearest), defScope s_nearest, 3, [], .none, .none, .none, .str "barbreaks.distances" 1190, none, .ref 753, .none, 0⟩, #[]⟩),
  (761, ⟨.type "function", none, .func ⟨"farthest", "farthest", defArgs s_farthest, .stmts (defBody s_farthest), defScope s_farthest, 3, [], .none, .none, .none, .str "barbreaks.distances" 1190, none, .ref 760, .none, 0⟩, #[]⟩),
  (766, ⟨.type "function", none, .func ⟨"least_ahead", "least_ahead", defArgs s_least_ahead, .stmts (defBody s_least_ahead), defScope s_least_ahead, 3, [], .none, .none, .none, .str "barbreaks.distances" 1190, none, .ref 765, .none, 0⟩, #[]⟩),
  (771, ⟨.type "function", none, .func ⟨"least_back", "least_back", defArgs s_least_back, .stmts (defBody s_least_back), defScope s_least_back, 3, [], .none, .none, .none, .str "barbreaks.distances" 1190, none, .ref 770, .none, 0⟩, #[]⟩),
  (894, ⟨.type "function", none, .func ⟨"check_kinds", "check_kinds", defArgs s_check_kinds, .stmts (defBody s_check_kinds), defScope s_check_kinds, 3, [], .none, .none, .none, .str "barbreaks.houses" 1425, none, .ref 893, .none, 0⟩, #[]⟩),
  (901, ⟨.type "function", none, .func ⟨"span_of_bounds", "span_of_bounds", defArgs s_span_of_bounds, .stmts (defBody s_span_of_bounds), defScope s_span_of_bounds, 3, [], .none, .none, .none, .str "barbreaks.houses" 1425, none, .ref 900, .none, 0⟩, #[]⟩),
  (1073, ⟨.type "function", none, .func ⟨"lag_spans", "lag_spans", defArgs s_lag_spans, .stmts (defBody s_lag_spans), defScope s_lag_spans, 3, [], .none, .none, .none, .str "barbreaks.lags" 1679, none, .ref 1072, .none, 0⟩, #[]⟩),
  (1090, ⟨.type "function", none, .func ⟨"with_spans", "with_spans", defArgs s_with_spans, .stmts (defBody s_with_spans), defScope s_with_spans, 3, [], .none, .none, .none, .str "barbreaks.outlooks" 1700, none, .ref 1089, .none, 0⟩, #[]⟩),
  (1195, ⟨.type "function", none, .func ⟨"next_table", "next_table", defArgs s_next_table, .stmts (defBody s_next_table), defScope s_next_table, 3, [], .none, .none, .none, .str "barbreaks.reach" 1849, none, .ref 1194, .none, 0⟩, #[]⟩)]
def kl6 (P : Params) : PySem.W.Frag := [(1259, ⟨.type "function", none, .func ⟨"_law_is_int", "_law_is_int", defArgs s_is_int, .stmts (defBody s_is_int), defScope s_is_int, 3, [], .none, .none, .none, .str "law_barbreaks_k34_corners_decide" 1933, none, .ref 1258, .none, 0⟩, #[]⟩),
  (1266, ⟨.type "function", none, .func ⟨"_law_pool", "_law_pool", defArgs s_pool, .stmts (defBody s_pool), defScope s_pool, 3, [], .none, .none, .none, .str "law_barbreaks_k34_corners_decide" 1933, none, .ref 1265, .none, 0⟩, #[]⟩),
  (1273, ⟨.type "function", none, .func ⟨"_law_take", "_law_take", defArgs s_take, .stmts (defBody s_take), defScope s_take, 3, [], .none, .none, .none, .str "law_barbreaks_k34_corners_decide" 1933, none, .ref 1272, .none, 0⟩, #[]⟩),
  (1280, ⟨.type "function", none, .func ⟨"_law_big", "_law_big", defArgs s_big, .stmts (defBody s_big), defScope s_big, 3, [], .none, .none, .none, .str "law_barbreaks_k34_corners_decide" 1933, none, .ref 1279, .none, 0⟩, #[]⟩),
  (1285, ⟨.type "function", none, .func ⟨"_law_names", "_law_names", defArgs s_names, .stmts (defBody s_names), defScope s_names, 3, [], .none, .none, .none, .str "law_barbreaks_k34_corners_decide" 1933, none, .ref 1284, .none, 0⟩, #[]⟩),
  (1292, ⟨.type "function", none, .func ⟨"_law_first", "_law_first", defArgs s_first, .stmts (defBody s_first), defScope s_first, 3, [], .none, .none, .none, .str "law_barbreaks_k34_corners_decide" 1933, none, .ref 1291, .none, 0⟩, #[]⟩),
  (1299, ⟨.type "function", none, .func ⟨"_law_opens", "_law_opens", defArgs s_opens, .stmts (defBody s_opens), defScope s_opens, 3, [], .none, .none, .none, .str "law_barbreaks_k34_corners_decide" 1933, none, .ref 1298, .none, 0⟩, #[]⟩),
  (1306, ⟨.type "function", none, .func ⟨"_law_items", "_law_items", defArgs s_items, .stmts (defBody s_items), defScope s_items, 3, [], .none, .none, .none, .str "law_barbreaks_k34_corners_decide" 1933, none, .ref 1305, .none, 0⟩, #[]⟩),
  (1313, ⟨.type "function", none, .func ⟨"_law_day", "_law_day", defArgs s_day, .stmts (defBody s_day), defScope s_day, 3, [], .none, .none, .none, .str "law_barbreaks_k34_corners_decide" 1933, none, .ref 1312, .none, 0⟩, #[]⟩),
  (1320, ⟨.type "function", none, .func ⟨"_law_item", "_law_item", defArgs s_item, .stmts (defBody s_item), defScope s_item, 3, [], .none, .none, .none, .str "law_barbreaks_k34_corners_decide" 1933, none, .ref 1319, .none, 0⟩, #[]⟩)]
def kl7 (P : Params) : PySem.W.Frag := [(1327, ⟨.type "function", none, .func ⟨"_law_house", "_law_house", defArgs s_house, .stmts (defBody s_house), defScope s_house, 3, [], .none, .none, .none, .str "law_barbreaks_k34_corners_decide" 1933, none, .ref 1326, .none, 0⟩, #[]⟩),
  (1332, ⟨.type "function", none, .func ⟨"_law_order", "_law_order", defArgs s_order, .stmts (defBody s_order), defScope s_order, 3, [], .none, .none, .none, .str "law_barbreaks_k34_corners_decide" 1933, none, .ref 1331, .none, 0⟩, #[]⟩),
  (1339, ⟨.type "function", none, .func ⟨"_law_moments", "_law_moments", defArgs s_moments, .stmts (defBody s_moments), defScope s_moments, 3, [], .none, .none, .none, .str "law_barbreaks_k34_corners_decide" 1933, none, .ref 1338, .none, 0⟩, #[]⟩),
  (1346, ⟨.type "function", none, .func ⟨"_law_at", "_law_at", defArgs s_at, .stmts (defBody s_at), defScope s_at, 3, [], .none, .none, .none, .str "law_barbreaks_k34_corners_decide" 1933, none, .ref 1345, .none, 0⟩, #[]⟩),
  (1353, ⟨.type "function", none, .func ⟨"_law_call", "_law_call", defArgs s_call, .stmts (defBody s_call), defScope s_call, 3, [], .none, .none, .none, .str "law_barbreaks_k34_corners_decide" 1933, none, .ref 1352, .none, 0⟩, #[]⟩),
  (1360, ⟨.type "function", none, .func ⟨"_law_point", "_law_point", defArgs s_point, .stmts (defBody s_point), defScope s_point, 3, [], .none, .none, .none, .str "law_barbreaks_k34_corners_decide" 1933, none, .ref 1359, .none, 0⟩, #[]⟩),
  (1367, ⟨.type "function", none, .func ⟨"_law_moment", "_law_moment", defArgs s_moment, .stmts (defBody s_moment), defScope s_moment, 3, [], .none, .none, .none, .str "law_barbreaks_k34_corners_decide" 1933, none, .ref 1366, .none, 0⟩, #[]⟩),
  (1374, ⟨.type "function", none, .func ⟨"_law_events", "_law_events", defArgs s_events, .stmts (defBody s_events), defScope s_events, 3, [], .none, .none, .none, .str "law_barbreaks_k34_corners_decide" 1933, none, .ref 1373, .none, 0⟩, #[]⟩),
  (1381, ⟨.type "function", none, .func ⟨"_law_apart", "_law_apart", defArgs s_apart, .stmts (defBody s_apart), defScope s_apart, 3, [], .none, .none, .none, .str "law_barbreaks_k34_corners_decide" 1933, none, .ref 1380, .none, 0⟩, #[]⟩),
  (1388, ⟨.type "function", none, .func ⟨"_law_spans", "_law_spans", defArgs s_spans, .stmts (defBody s_spans), defScope s_spans, 3, [], .none, .none, .none, .str "law_barbreaks_k34_corners_decide" 1933, none, .ref 1387, .none, 0⟩, #[]⟩)]
def kl8 (P : Params) : PySem.W.Frag := [(1402, ⟨.type "function", none, .func ⟨"_law_narrow", "_law_narrow", defArgs s_narrow, .stmts (defBody s_narrow), defScope s_narrow, 3, [], .none, .none, .none, .str "law_barbreaks_k34_corners_decide" 1933, none, .ref 1401, .none, 0⟩, #[]⟩),
  (1407, ⟨.type "function", none, .func ⟨"_law_same", "_law_same", defArgs s_same, .stmts (defBody s_same), defScope s_same, 3, [], .none, .none, .none, .str "law_barbreaks_k34_corners_decide" 1933, none, .ref 1406, .none, 0⟩, #[]⟩),
  (1414, ⟨.type "function", none, .func ⟨"_law_bent", "_law_bent", defArgs s_bent, .stmts (defBody s_bent), defScope s_bent, 3, [], .none, .none, .none, .str "law_barbreaks_k34_corners_decide" 1933, none, .ref 1413, .none, 0⟩, #[]⟩),
  (1421, ⟨.type "function", none, .func ⟨"_law_event", "_law_event", defArgs s_event, .stmts (defBody s_event), defScope s_event, 3, [], .none, .none, .none, .str "law_barbreaks_k34_corners_decide" 1933, none, .ref 1420, .none, 0⟩, #[]⟩),
  (1428, ⟨.type "function", none, .func ⟨"_law_refused", "_law_refused", defArgs s_refused, .stmts (defBody s_refused), defScope s_refused, 3, [], .none, .none, .none, .str "law_barbreaks_k34_corners_decide" 1933, none, .ref 1427, .none, 0⟩, #[]⟩),
  (1435, ⟨.type "function", none, .func ⟨"_law_rows", "_law_rows", defArgs s_rows, .stmts (defBody s_rows), defScope s_rows, 3, [], .none, .none, .none, .str "law_barbreaks_k34_corners_decide" 1933, none, .ref 1434, .none, 0⟩, #[]⟩),
  (1440, ⟨.type "function", none, .func ⟨"law", "law", defArgs s_law, .stmts (defBody s_law), defScope s_law, 3, [], .none, .none, .none, .str "law_barbreaks_k34_corners_decide" 1933, none, .ref 1439, .none, 0⟩, #[]⟩),
  (350, ⟨.type "function", none, .func ⟨"__init__", "Named.__init__", defArgs s_Named_init, .stmts (defBody s_Named_init), defScope s_Named_init, 3, [], .none, .none, .none, .str "barbreaks.items" 614, none, .ref 349, .none, 0⟩, #[]⟩),
  (372, ⟨.type "function", none, .func ⟨"__init__", "Timed.__init__", defArgs s_Timed_init, .stmts (defBody s_Timed_init), defScope s_Timed_init, 3, [], .ref 365, .none, .none, .str "barbreaks.items" 614, none, .ref 371, .none, 0⟩, #[]⟩),
  (379, ⟨.type "function", none, .func ⟨"begin_at", "Timed.begin_at", defArgs s_Timed_begin_at, .stmts (defBody s_Timed_begin_at), defScope s_Timed_begin_at, 3, [], .none, .none, .none, .str "barbreaks.items" 614, none, .ref 378, .none, 0⟩, #[]⟩)]
def kl9 (P : Params) : PySem.W.Frag := [(401, ⟨.type "function", none, .func ⟨"__init__", "Item.__init__", defArgs s_Item_init, .stmts (defBody s_Item_init), defScope s_Item_init, 3, [], .none, .ref 394, .none, .str "barbreaks.items" 614, none, .ref 400, .none, 0⟩, #[]⟩),
  (430, ⟨.type "function", none, .func ⟨"__init__", "Piece.__init__", defArgs s_Piece_init, .stmts (defBody s_Piece_init), defScope s_Piece_init, 3, [("__class__", 417)], .none, .ref 422, .none, .str "barbreaks.items" 614, none, .ref 429, .ref 423, 0⟩, #[]⟩),
  (459, ⟨.type "function", none, .func ⟨"__init__", "Break.__init__", defArgs s_Break_init, .stmts (defBody s_Break_init), defScope s_Break_init, 3, [("__class__", 446)], .none, .ref 451, .none, .str "barbreaks.items" 614, none, .ref 458, .ref 452, 0⟩, #[]⟩),
  (466, ⟨.type "function", none, .func ⟨"length", "Break.length", defArgs s_Break_length, .stmts (defBody s_Break_length), defScope s_Break_length, 3, [], .none, .none, .none, .str "barbreaks.items" 614, none, .ref 465, .none, 0⟩, #[]⟩),
  (529, ⟨.type "function", none, .func ⟨"__init__", "Span.__init__", defArgs s_Span_init, .stmts (defBody s_Span_init), defScope s_Span_init, 3, [], .none, .none, .none, .str "barbreaks.spans" 878, none, .ref 528, .none, 0⟩, #[]⟩),
  (551, ⟨.type "function", none, .func ⟨"__contains__", "Span.__contains__", defArgs s_Span_contains, .stmts (defBody s_Span_contains), defScope s_Span_contains, 3, [], .none, .none, .none, .str "barbreaks.spans" 878, none, .ref 550, .none, 0⟩, #[]⟩),
  (640, ⟨.type "function", none, .func ⟨"__init__", "Course.__init__", defArgs s_Course_init, .stmts (defBody s_Course_init), defScope s_Course_init, 3, [], .none, .none, .none, .str "barbreaks.courses" 1022, none, .ref 639, .none, 0⟩, #[]⟩),
  (647, ⟨.type "function", none, .func ⟨"__call__", "Course.__call__", defArgs s_Course_call, .stmts (defBody s_Course_call), defScope s_Course_call, 3, [], .none, .none, .none, .str "barbreaks.courses" 1022, none, .ref 646, .none, 0⟩, #[]⟩),
  (654, ⟨.type "function", none, .func ⟨"latest", "Course.latest", defArgs s_Course_latest, .stmts (defBody s_Course_latest), defScope s_Course_latest, 3, [], .none, .none, .none, .str "barbreaks.courses" 1022, none, .ref 653, .none, 0⟩, #[]⟩),
  (712, ⟨.type "function", none, .func ⟨"__init__", "Hang.__init__", defArgs s_Hang_init, .stmts (defBody s_Hang_init), defScope s_Hang_init, 3, [], .none, .none, .none, .str "barbreaks.hangs" 1136, none, .ref 711, .none, 0⟩, #[]⟩)]
def kl10 (P : Params) : PySem.W.Frag := [(719, ⟨.type "function", none, .func ⟨"with_excess", "Hang.with_excess", defArgs s_Hang_with_excess, .stmts (defBody s_Hang_with_excess), defScope s_Hang_with_excess, 3, [], .none, .none, .none, .str "barbreaks.hangs" 1136, none, .ref 718, .none, 0⟩, #[]⟩),
  (740, ⟨.type "function", none, .func ⟨"__init__", "Distance.__init__", defArgs s_Distance_init, .stmts (defBody s_Distance_init), defScope s_Distance_init, 3, [], .none, .none, .none, .str "barbreaks.distances" 1190, none, .ref 739, .none, 0⟩, #[]⟩),
  (793, ⟨.type "function", none, .func ⟨"__init__", "Grid.__init__", defArgs s_Grid_init, .stmts (defBody s_Grid_init), defScope s_Grid_init, 3, [], .ref 786, .none, .none, .str "barbreaks.grids" 1259, none, .ref 792, .none, 0⟩, #[]⟩),
  (810, ⟨.type "function", none, .func ⟨"first_bar", "Grid.first_bar", defArgs s_Grid_first_bar, .stmts (defBody s_Grid_first_bar), defScope s_Grid_first_bar, 3, [], .none, .none, .none, .str "barbreaks.grids" 1259, none, .ref 809, .none, 0⟩, #[]⟩),
  (920, ⟨.type "function", none, .func ⟨"__init__", "House.__init__", defArgs s_House_init, .stmts (defBody s_House_init), defScope s_House_init, 3, [], .ref 912, .ref 913, .none, .str "barbreaks.houses" 1425, none, .ref 919, .none, 0⟩, #[]⟩),
  (946, ⟨.type "function", none, .func ⟨"__init__", "Order.__init__", defArgs s_Order_init, .stmts (defBody s_Order_init), defScope s_Order_init, 3, [], .none, .none, .none, .str "barbreaks.orders" 1516, none, .ref 945, .none, 0⟩, #[]⟩),
  (953, ⟨.type "function", none, .func ⟨"points", "Order.points", defArgs s_Order_points, .stmts (defBody s_Order_points), defScope s_Order_points, 3, [], .none, .none, .none, .str "barbreaks.orders" 1516, none, .ref 952, .none, 0⟩, #[]⟩),
  (975, ⟨.type "function", none, .func ⟨"__contains__", "Order.__contains__", defArgs s_Order_contains, .stmts (defBody s_Order_contains), defScope s_Order_contains, 3, [], .none, .none, .none, .str "barbreaks.orders" 1516, none, .ref 974, .none, 0⟩, #[]⟩),
  (982, ⟨.type "function", none, .func ⟨"__getitem__", "Order.__getitem__", defArgs s_Order_getitem, .stmts (defBody s_Order_getitem), defScope s_Order_getitem, 3, [], .none, .none, .none, .str "barbreaks.orders" 1516, none, .ref 981, .none, 0⟩, #[]⟩),
  (989, ⟨.type "function", none, .func ⟨"number_of", "Order.number_of", defArgs s_Order_number_of, .stmts (defBody s_Order_number_of), defScope s_Order_number_of, 3, [], .none, .none, .none, .str "barbreaks.orders" 1516, none, .ref 988, .none, 0⟩, #[]⟩)]
def kl11 (P : Params) : PySem.W.Frag := [(1010, ⟨.type "function", none, .func ⟨"begin_of", "Order.begin_of", defArgs s_Order_begin_of, .stmts (defBody s_Order_begin_of), defScope s_Order_begin_of, 3, [], .none, .none, .none, .str "barbreaks.orders" 1516, none, .ref 1009, .none, 0⟩, #[]⟩),
  (1017, ⟨.type "function", none, .func ⟨"end_of", "Order.end_of", defArgs s_Order_end_of, .stmts (defBody s_Order_end_of), defScope s_Order_end_of, 3, [], .none, .none, .none, .str "barbreaks.orders" 1516, none, .ref 1016, .none, 0⟩, #[]⟩),
  (1024, ⟨.type "function", none, .func ⟨"call_of", "Order.call_of", defArgs s_Order_call_of, .stmts (defBody s_Order_call_of), defScope s_Order_call_of, 3, [], .none, .none, .none, .str "barbreaks.orders" 1516, none, .ref 1023, .none, 0⟩, #[]⟩),
  (1102, ⟨.type "function", none, .func ⟨"__init__", "Outlook.__init__", defArgs s_Outlook_init, .stmts (defBody s_Outlook_init), defScope s_Outlook_init, 3, [], .none, .none, .none, .str "barbreaks.outlooks" 1700, none, .ref 1101, .none, 0⟩, #[]⟩),
  (1114, ⟨.type "function", none, .func ⟨"span_of", "Outlook.span_of", defArgs s_Outlook_span_of, .stmts (defBody s_Outlook_span_of), defScope s_Outlook_span_of, 3, [], .none, .none, .none, .str "barbreaks.outlooks" 1700, none, .ref 1113, .none, 0⟩, #[]⟩),
  (1121, ⟨.type "function", none, .func ⟨"narrowed", "Outlook.narrowed", defArgs s_Outlook_narrowed, .stmts (defBody s_Outlook_narrowed), defScope s_Outlook_narrowed, 3, [], .none, .none, .none, .str "barbreaks.outlooks" 1700, none, .ref 1120, .none, 0⟩, #[]⟩),
  (1147, ⟨.type "function", none, .func ⟨"first_row", "Outlook.first_row", defArgs s_Outlook_first_row, .stmts (defBody s_Outlook_first_row), defScope s_Outlook_first_row, 3, [], .none, .none, .none, .str "barbreaks.outlooks" 1700, none, .ref 1146, .none, 0⟩, #[]⟩),
  (1178, ⟨.type "function", none, .func ⟨"_limits", "Outlook._limits", defArgs s_Outlook_limits, .stmts (defBody s_Outlook_limits), defScope s_Outlook_limits, 3, [], .none, .none, .none, .str "barbreaks.outlooks" 1700, none, .ref 1177, .none, 0⟩, #[]⟩),
  (1183, ⟨.type "function", none, .func ⟨"_replaced", "Outlook._replaced", defArgs s_Outlook_replaced, .stmts (defBody s_Outlook_replaced), defScope s_Outlook_replaced, 3, [], .none, .none, .none, .str "barbreaks.outlooks" 1700, none, .ref 1182, .none, 0⟩, #[]⟩),
  (1207, ⟨.type "function", none, .func ⟨"__init__", "Reach.__init__", defArgs s_Reach_init, .stmts (defBody s_Reach_init), defScope s_Reach_init, 3, [], .none, .none, .none, .str "barbreaks.reach" 1849, none, .ref 1206, .none, 0⟩, #[]⟩)]
def kl12 (P : Params) : PySem.W.Frag := [(1212, ⟨.type "function", none, .func ⟨"moments_at", "Reach.moments_at", defArgs s_Reach_moments_at, .stmts (defBody s_Reach_moments_at), defScope s_Reach_moments_at, 3, [], .none, .none, .none, .str "barbreaks.reach" 1849, none, .ref 1211, .none, 0⟩, #[]⟩),
  (1231, ⟨.type "function", none, .func ⟨"row_to", "Reach.row_to", defArgs s_Reach_row_to, .stmts (defBody s_Reach_row_to), defScope s_Reach_row_to, 3, [], .none, .none, .none, .str "barbreaks.reach" 1849, none, .ref 1230, .none, 0⟩, #[]⟩),
  (1238, ⟨.type "function", none, .func ⟨"_check_point", "Reach._check_point", defArgs s_Reach_check_point, .stmts (defBody s_Reach_check_point), defScope s_Reach_check_point, 3, [], .none, .none, .none, .str "barbreaks.reach" 1849, none, .ref 1237, .none, 0⟩, #[]⟩),
  (1245, ⟨.type "function", none, .func ⟨"_check_moment", "Reach._check_moment", defArgs s_Reach_check_moment, .stmts (defBody s_Reach_check_moment), defScope s_Reach_check_moment, 3, [], .none, .none, .none, .str "barbreaks.reach" 1849, none, .ref 1244, .none, 0⟩, #[]⟩),
  (281, ⟨.type "function", none, .func ⟨"__init__", "NoPoint.__init__", defArgs s_NoPoint_init, .stmts (defBody s_NoPoint_init), defScope s_NoPoint_init, 3, [("__class__", 269)], .none, .none, .none, .str "barbreaks.errors" 194, none, .ref 280, .ref 274, 0⟩, #[]⟩),
  (683, ⟨.type "tuple", none, .seq #[.str "delay" 1108, .str "length" 1109, .str "walk" 1110, .str "pack" 1111] 0, #[]⟩),
  (698, ⟨.type "dict", none, .dict #[⟨PyData.keyHash P "enter", .str "enter" 1138, .str "walk" 1139⟩, ⟨PyData.keyHash P "out", .str "out" 1140, .str "pack" 1141⟩] 2, #[]⟩),
  (323, ⟨.type "code", none, .fields #[.str "is_name" 595, .str "is_name" 596, .str "/claim/cut.py" 597, .int (81) 0, .int (1) 0, .int (0) 0, .int (0) 0, .int (3) 0, .ref 320, .bool true, .int (181) 0, .ref 321, .none, .none, .none, .ref 322, .int (598) 0, .int (81) 0, .str "/claim/cut.py" 599], #[]⟩),
  (493, ⟨.type "code", none, .fields #[.str "corner" 841, .str "corner" 842, .str "/claim/cut.py" 843, .int (169) 0, .int (2) 0, .int (0) 0, .int (0) 0, .int (3) 0, .ref 488, .bool true, .int (181) 0, .ref 489, .none, .ref 490, .ref 491, .ref 492, .int (846) 0, .int (169) 0, .str "/claim/cut.py" 847], #[]⟩),
  (500, ⟨.type "code", none, .fields #[.str "hollow" 849, .str "hollow" 850, .str "/claim/cut.py" 851, .int (171) 0, .int (2) 0, .int (0) 0, .int (0) 0, .int (3) 0, .ref 495, .bool true, .int (181) 0, .ref 496, .none, .ref 497, .ref 498, .ref 499, .int (854) 0, .int (171) 0, .str "/claim/cut.py" 855], #[]⟩)]
def kl13 (P : Params) : PySem.W.Frag := [(507, ⟨.type "code", none, .fields #[.str "bent_row" 857, .str "bent_row" 858, .str "/claim/cut.py" 859, .int (173) 0, .int (3) 0, .int (0) 0, .int (0) 0, .int (3) 0, .ref 502, .bool true, .int (181) 0, .ref 503, .none, .ref 504, .ref 505, .ref 506, .int (867) 0, .int (173) 0, .str "/claim/cut.py" 868], #[]⟩),
  (514, ⟨.type "code", none, .fields #[.str "extreme" 870, .str "extreme" 871, .str "/claim/cut.py" 872, .int (185) 0, .int (2) 0, .int (0) 0, .int (0) 0, .int (3) 0, .ref 509, .bool true, .int (181) 0, .ref 510, .none, .ref 511, .ref 512, .ref 513, .int (875) 0, .int (185) 0, .str "/claim/cut.py" 876], #[]⟩),
  (620, ⟨.type "code", none, .fields #[.str "step_span" 1003, .str "step_span" 1004, .str "/claim/cut.py" 1005, .int (240) 0, .int (2) 0, .int (0) 0, .int (0) 0, .int (3) 0, .ref 615, .bool true, .int (181) 0, .ref 616, .none, .ref 617, .ref 618, .ref 619, .int (1009) 0, .int (240) 0, .str "/claim/cut.py" 1010], #[]⟩),
  (627, ⟨.type "code", none, .fields #[.str "next_moment" 1012, .str "next_moment" 1013, .str "/claim/cut.py" 1014, .int (247) 0, .int (4) 0, .int (0) 0, .int (0) 0, .int (3) 0, .ref 622, .bool true, .int (181) 0, .ref 623, .none, .ref 624, .ref 625, .ref 626, .int (1019) 0, .int (247) 0, .str "/claim/cut.py" 1020], #[]⟩),
  (674, ⟨.type "code", none, .fields #[.str "has_event" 1086, .str "has_event" 1087, .str "/claim/cut.py" 1088, .int (282) 0, .int (2) 0, .int (0) 0, .int (0) 0, .int (3) 0, .ref 669, .bool true, .int (181) 0, .ref 670, .none, .ref 671, .ref 672, .ref 673, .int (1094) 0, .int (282) 0, .str "/claim/cut.py" 1095], #[]⟩),
  (681, ⟨.type "code", none, .fields #[.str "point_of" 1097, .str "point_of" 1098, .str "/claim/cut.py" 1099, .int (294) 0, .int (2) 0, .int (0) 0, .int (0) 0, .int (3) 0, .ref 676, .bool true, .int (181) 0, .ref 677, .none, .ref 678, .ref 679, .ref 680, .int (1103) 0, .int (294) 0, .str "/claim/cut.py" 1104], #[]⟩),
  (689, ⟨.type "code", none, .fields #[.str "step_lag" 1113, .str "step_lag" 1114, .str "/claim/cut.py" 1115, .int (307) 0, .int (2) 0, .int (0) 0, .int (0) 0, .int (3) 0, .ref 684, .bool true, .int (181) 0, .ref 685, .none, .ref 686, .ref 687, .ref 688, .int (1119) 0, .int (307) 0, .str "/claim/cut.py" 1120], #[]⟩),
  (696, ⟨.type "code", none, .fields #[.str "with_lag" 1122, .str "with_lag" 1123, .str "/claim/cut.py" 1124, .int (314) 0, .int (5) 0, .int (0) 0, .int (0) 0, .int (3) 0, .ref 691, .bool true, .int (181) 0, .ref 692, .none, .ref 693, .ref 694, .ref 695, .int (1133) 0, .int (314) 0, .str "/claim/cut.py" 1134], #[]⟩),
  (753, ⟨.type "code", none, .fields #[.str "nearest" 1223, .str "nearest" 1224, .str "/claim/cut.py" 1225, .int (350) 0, .int (3) 0, .int (0) 0, .int (0) 0, .int (3) 0, .ref 748, .bool true, .int (181) 0, .ref 749, .none, .ref 750, .ref 751, .ref 752, .int (1234) 0, .int (350) 0, .str "/claim/cut.py" 1235], #[]⟩),
  (760, ⟨.type "code", none, .fields #[.str "farthest" 1237, .str "farthest" 1238, .str "/claim/cut.py" 1239, .int (362) 0, .int (3) 0, .int (0) 0, .int (0) 0, .int (3) 0, .ref 755, .bool true, .int (181) 0, .ref 756, .none, .ref 757, .ref 758, .ref 759, .int (1244) 0, .int (362) 0, .str "/claim/cut.py" 1245], #[]⟩)]
def kl14 (P : Params) : PySem.W.Frag := [(765, ⟨.type "code", none, .fields #[.str "least_ahead" 1247, .str "least_ahead" 1248, .str "/claim/cut.py" 1249, .int (366) 0, .int (3) 0, .int (0) 0, .int (0) 0, .int (3) 0, .ref 762, .bool true, .int (181) 0, .ref 763, .none, .none, .none, .ref 764, .int (1250) 0, .int (366) 0, .str "/claim/cut.py" 1251], #[]⟩),
  (770, ⟨.type "code", none, .fields #[.str "least_back" 1253, .str "least_back" 1254, .str "/claim/cut.py" 1255, .int (370) 0, .int (3) 0, .int (0) 0, .int (0) 0, .int (3) 0, .ref 767, .bool true, .int (181) 0, .ref 768, .none, .none, .none, .ref 769, .int (1256) 0, .int (370) 0, .str "/claim/cut.py" 1257], #[]⟩),
  (893, ⟨.type "code", none, .fields #[.str "check_kinds" 1437, .str "check_kinds" 1438, .str "/claim/cut.py" 1439, .int (460) 0, .int (1) 0, .int (0) 0, .int (0) 0, .int (3) 0, .ref 888, .bool true, .int (181) 0, .ref 889, .none, .ref 890, .ref 891, .ref 892, .int (1443) 0, .int (460) 0, .str "/claim/cut.py" 1444], #[]⟩),
  (900, ⟨.type "code", none, .fields #[.str "span_of_bounds" 1446, .str "span_of_bounds" 1447, .str "/claim/cut.py" 1448, .int (468) 0, .int (1) 0, .int (0) 0, .int (0) 0, .int (3) 0, .ref 895, .bool true, .int (181) 0, .ref 896, .none, .ref 897, .ref 898, .ref 899, .int (1452) 0, .int (468) 0, .str "/claim/cut.py" 1453], #[]⟩),
  (1072, ⟨.type "code", none, .fields #[.str "lag_spans" 1685, .str "lag_spans" 1686, .str "/claim/cut.py" 1687, .int (576) 0, .int (2) 0, .int (0) 0, .int (0) 0, .int (3) 0, .ref 1067, .bool true, .int (181) 0, .ref 1068, .none, .ref 1069, .ref 1070, .ref 1071, .int (1691) 0, .int (576) 0, .str "/claim/cut.py" 1692], #[]⟩),
  (1089, ⟨.type "code", none, .fields #[.str "with_spans" 1710, .str "with_spans" 1711, .str "/claim/cut.py" 1712, .int (594) 0, .int (2) 0, .int (0) 0, .int (0) 0, .int (3) 0, .ref 1084, .bool true, .int (181) 0, .ref 1085, .none, .ref 1086, .ref 1087, .ref 1088, .int (1716) 0, .int (594) 0, .str "/claim/cut.py" 1717], #[]⟩),
  (1194, ⟨.type "code", none, .fields #[.str "next_table" 1851, .str "next_table" 1852, .str "/claim/cut.py" 1853, .int (666) 0, .int (3) 0, .int (0) 0, .int (0) 0, .int (3) 0, .ref 1191, .bool true, .int (181) 0, .ref 1192, .none, .none, .none, .ref 1193, .int (1854) 0, .int (666) 0, .str "/claim/cut.py" 1855], #[]⟩),
  (1258, ⟨.type "code", none, .fields #[.str "_law_is_int" 1935, .str "_law_is_int" 1936, .str "/claim/cut.py" 1937, .int (724) 0, .int (1) 0, .int (0) 0, .int (0) 0, .int (3) 0, .ref 1253, .bool true, .int (181) 0, .ref 1254, .none, .ref 1255, .ref 1256, .ref 1257, .int (1939) 0, .int (724) 0, .str "/claim/cut.py" 1940], #[]⟩),
  (1265, ⟨.type "code", none, .fields #[.str "_law_pool" 1942, .str "_law_pool" 1943, .str "/claim/cut.py" 1944, .int (726) 0, .int (1) 0, .int (0) 0, .int (0) 0, .int (3) 0, .ref 1260, .bool true, .int (181) 0, .ref 1261, .none, .ref 1262, .ref 1263, .ref 1264, .int (1948) 0, .int (726) 0, .str "/claim/cut.py" 1949], #[]⟩),
  (1272, ⟨.type "code", none, .fields #[.str "_law_take" 1951, .str "_law_take" 1952, .str "/claim/cut.py" 1953, .int (731) 0, .int (2) 0, .int (0) 0, .int (0) 0, .int (3) 0, .ref 1267, .bool true, .int (181) 0, .ref 1268, .none, .ref 1269, .ref 1270, .ref 1271, .int (1960) 0, .int (731) 0, .str "/claim/cut.py" 1961], #[]⟩)]
def kl15 (P : Params) : PySem.W.Frag := [(1279, ⟨.type "code", none, .fields #[.str "_law_big" 1963, .str "_law_big" 1964, .str "/claim/cut.py" 1965, .int (747) 0, .int (1) 0, .int (0) 0, .int (0) 0, .int (3) 0, .ref 1274, .bool true, .int (181) 0, .ref 1275, .none, .ref 1276, .ref 1277, .ref 1278, .int (1969) 0, .int (747) 0, .str "/claim/cut.py" 1970], #[]⟩),
  (1284, ⟨.type "code", none, .fields #[.str "_law_names" 1972, .str "_law_names" 1973, .str "/claim/cut.py" 1974, .int (752) 0, .int (2) 0, .int (0) 0, .int (0) 0, .int (3) 0, .ref 1281, .bool true, .int (181) 0, .ref 1282, .none, .none, .none, .ref 1283, .int (1975) 0, .int (752) 0, .str "/claim/cut.py" 1976], #[]⟩),
  (1291, ⟨.type "code", none, .fields #[.str "_law_first" 1978, .str "_law_first" 1979, .str "/claim/cut.py" 1980, .int (772) 0, .int (3) 0, .int (0) 0, .int (0) 0, .int (3) 0, .ref 1286, .bool true, .int (181) 0, .ref 1287, .none, .ref 1288, .ref 1289, .ref 1290, .int (1984) 0, .int (772) 0, .str "/claim/cut.py" 1985], #[]⟩),
  (1298, ⟨.type "code", none, .fields #[.str "_law_opens" 1987, .str "_law_opens" 1988, .str "/claim/cut.py" 1989, .int (774) 0, .int (1) 0, .int (0) 0, .int (0) 0, .int (3) 0, .ref 1293, .bool true, .int (181) 0, .ref 1294, .none, .ref 1295, .ref 1296, .ref 1297, .int (1992) 0, .int (774) 0, .str "/claim/cut.py" 1993], #[]⟩),
  (1305, ⟨.type "code", none, .fields #[.str "_law_items" 1995, .str "_law_items" 1996, .str "/claim/cut.py" 1997, .int (783) 0, .int (7) 0, .int (0) 0, .int (0) 0, .int (3) 0, .ref 1300, .bool true, .int (181) 0, .ref 1301, .none, .ref 1302, .ref 1303, .ref 1304, .int (2017) 0, .int (783) 0, .str "/claim/cut.py" 2018], #[]⟩),
  (1312, ⟨.type "code", none, .fields #[.str "_law_day" 2020, .str "_law_day" 2021, .str "/claim/cut.py" 2022, .int (820) 0, .int (3) 0, .int (0) 0, .int (0) 0, .int (3) 0, .ref 1307, .bool true, .int (181) 0, .ref 1308, .none, .ref 1309, .ref 1310, .ref 1311, .int (2034) 0, .int (820) 0, .str "/claim/cut.py" 2035], #[]⟩),
  (1319, ⟨.type "code", none, .fields #[.str "_law_item" 2037, .str "_law_item" 2038, .str "/claim/cut.py" 2039, .int (848) 0, .int (1) 0, .int (0) 0, .int (0) 0, .int (3) 0, .ref 1314, .bool true, .int (181) 0, .ref 1315, .none, .ref 1316, .ref 1317, .ref 1318, .int (2041) 0, .int (848) 0, .str "/claim/cut.py" 2042], #[]⟩),
  (1326, ⟨.type "code", none, .fields #[.str "_law_house" 2044, .str "_law_house" 2045, .str "/claim/cut.py" 2046, .int (856) 0, .int (1) 0, .int (0) 0, .int (0) 0, .int (3) 0, .ref 1321, .bool true, .int (181) 0, .ref 1322, .none, .ref 1323, .ref 1324, .ref 1325, .int (2048) 0, .int (856) 0, .str "/claim/cut.py" 2049], #[]⟩),
  (1331, ⟨.type "code", none, .fields #[.str "_law_order" 2051, .str "_law_order" 2052, .str "/claim/cut.py" 2053, .int (860) 0, .int (1) 0, .int (0) 0, .int (0) 0, .int (3) 0, .ref 1328, .bool true, .int (181) 0, .ref 1329, .none, .none, .none, .ref 1330, .int (2054) 0, .int (860) 0, .str "/claim/cut.py" 2055], #[]⟩),
  (1338, ⟨.type "code", none, .fields #[.str "_law_moments" 2057, .str "_law_moments" 2058, .str "/claim/cut.py" 2059, .int (862) 0, .int (2) 0, .int (0) 0, .int (0) 0, .int (3) 0, .ref 1333, .bool true, .int (181) 0, .ref 1334, .none, .ref 1335, .ref 1336, .ref 1337, .int (2067) 0, .int (862) 0, .str "/claim/cut.py" 2068], #[]⟩)]
def kl16 (P : Params) : PySem.W.Frag := [(1345, ⟨.type "code", none, .fields #[.str "_law_at" 2070, .str "_law_at" 2071, .str "/claim/cut.py" 2072, .int (876) 0, .int (2) 0, .int (0) 0, .int (0) 0, .int (3) 0, .ref 1340, .bool true, .int (181) 0, .ref 1341, .none, .ref 1342, .ref 1343, .ref 1344, .int (2076) 0, .int (876) 0, .str "/claim/cut.py" 2077], #[]⟩),
  (1352, ⟨.type "code", none, .fields #[.str "_law_call" 2079, .str "_law_call" 2080, .str "/claim/cut.py" 2081, .int (881) 0, .int (2) 0, .int (0) 0, .int (0) 0, .int (3) 0, .ref 1347, .bool true, .int (181) 0, .ref 1348, .none, .ref 1349, .ref 1350, .ref 1351, .int (2084) 0, .int (881) 0, .str "/claim/cut.py" 2085], #[]⟩),
  (1359, ⟨.type "code", none, .fields #[.str "_law_point" 2087, .str "_law_point" 2088, .str "/claim/cut.py" 2089, .int (885) 0, .int (2) 0, .int (0) 0, .int (0) 0, .int (3) 0, .ref 1354, .bool true, .int (181) 0, .ref 1355, .none, .ref 1356, .ref 1357, .ref 1358, .int (2093) 0, .int (885) 0, .str "/claim/cut.py" 2094], #[]⟩),
  (1366, ⟨.type "code", none, .fields #[.str "_law_moment" 2096, .str "_law_moment" 2097, .str "/claim/cut.py" 2098, .int (894) 0, .int (4) 0, .int (0) 0, .int (0) 0, .int (3) 0, .ref 1361, .bool true, .int (181) 0, .ref 1362, .none, .ref 1363, .ref 1364, .ref 1365, .int (2104) 0, .int (894) 0, .str "/claim/cut.py" 2105], #[]⟩),
  (1373, ⟨.type "code", none, .fields #[.str "_law_events" 2107, .str "_law_events" 2108, .str "/claim/cut.py" 2109, .int (903) 0, .int (1) 0, .int (0) 0, .int (0) 0, .int (3) 0, .ref 1368, .bool true, .int (181) 0, .ref 1369, .none, .ref 1370, .ref 1371, .ref 1372, .int (2115) 0, .int (903) 0, .str "/claim/cut.py" 2116], #[]⟩),
  (1380, ⟨.type "code", none, .fields #[.str "_law_apart" 2118, .str "_law_apart" 2119, .str "/claim/cut.py" 2120, .int (915) 0, .int (4) 0, .int (0) 0, .int (0) 0, .int (3) 0, .ref 1375, .bool true, .int (181) 0, .ref 1376, .none, .ref 1377, .ref 1378, .ref 1379, .int (2126) 0, .int (915) 0, .str "/claim/cut.py" 2127], #[]⟩),
  (1387, ⟨.type "code", none, .fields #[.str "_law_spans" 2129, .str "_law_spans" 2130, .str "/claim/cut.py" 2131, .int (918) 0, .int (1) 0, .int (0) 0, .int (0) 0, .int (3) 0, .ref 1382, .bool true, .int (181) 0, .ref 1383, .none, .ref 1384, .ref 1385, .ref 1386, .int (2135) 0, .int (918) 0, .str "/claim/cut.py" 2136], #[]⟩),
  (1401, ⟨.type "code", none, .fields #[.str "_law_narrow" 2152, .str "_law_narrow" 2153, .str "/claim/cut.py" 2154, .int (940) 0, .int (5) 0, .int (0) 0, .int (0) 0, .int (3) 0, .ref 1396, .bool true, .int (181) 0, .ref 1397, .none, .ref 1398, .ref 1399, .ref 1400, .int (2166) 0, .int (940) 0, .str "/claim/cut.py" 2167], #[]⟩),
  (1406, ⟨.type "code", none, .fields #[.str "_law_same" 2169, .str "_law_same" 2170, .str "/claim/cut.py" 2171, .int (951) 0, .int (2) 0, .int (0) 0, .int (0) 0, .int (3) 0, .ref 1403, .bool true, .int (181) 0, .ref 1404, .none, .none, .none, .ref 1405, .int (2172) 0, .int (951) 0, .str "/claim/cut.py" 2173], #[]⟩),
  (1413, ⟨.type "code", none, .fields #[.str "_law_bent" 2175, .str "_law_bent" 2176, .str "/claim/cut.py" 2177, .int (972) 0, .int (4) 0, .int (0) 0, .int (0) 0, .int (3) 0, .ref 1408, .bool true, .int (181) 0, .ref 1409, .none, .ref 1410, .ref 1411, .ref 1412, .int (2185) 0, .int (972) 0, .str "/claim/cut.py" 2186], #[]⟩)]
def kl17 (P : Params) : PySem.W.Frag := [(1420, ⟨.type "code", none, .fields #[.str "_law_event" 2188, .str "_law_event" 2189, .str "/claim/cut.py" 2190, .int (982) 0, .int (2) 0, .int (0) 0, .int (0) 0, .int (3) 0, .ref 1415, .bool true, .int (181) 0, .ref 1416, .none, .ref 1417, .ref 1418, .ref 1419, .int (2193) 0, .int (982) 0, .str "/claim/cut.py" 2194], #[]⟩),
  (1427, ⟨.type "code", none, .fields #[.str "_law_refused" 2196, .str "_law_refused" 2197, .str "/claim/cut.py" 2198, .int (988) 0, .int (3) 0, .int (0) 0, .int (0) 0, .int (3) 0, .ref 1422, .bool true, .int (181) 0, .ref 1423, .none, .ref 1424, .ref 1425, .ref 1426, .int (2204) 0, .int (988) 0, .str "/claim/cut.py" 2205], #[]⟩),
  (1434, ⟨.type "code", none, .fields #[.str "_law_rows" 2207, .str "_law_rows" 2208, .str "/claim/cut.py" 2209, .int (998) 0, .int (4) 0, .int (0) 0, .int (0) 0, .int (3) 0, .ref 1429, .bool true, .int (181) 0, .ref 1430, .none, .ref 1431, .ref 1432, .ref 1433, .int (2216) 0, .int (998) 0, .str "/claim/cut.py" 2217], #[]⟩),
  (1439, ⟨.type "code", none, .fields #[.str "law" 2219, .str "law" 2220, .str "/claim/cut.py" 2221, .int (1010) 0, .int (1) 0, .int (0) 0, .int (0) 0, .int (3) 0, .ref 1436, .bool true, .int (181) 0, .ref 1437, .none, .none, .none, .ref 1438, .int (2222) 0, .int (1010) 0, .str "/claim/cut.py" 2223], #[]⟩),
  (349, ⟨.type "code", none, .fields #[.str "__init__" 628, .str "Named.__init__" 629, .str "/claim/cut.py" 630, .int (101) 0, .int (2) 0, .int (0) 0, .int (0) 0, .int (3) 0, .ref 344, .bool true, .int (181) 0, .ref 345, .none, .ref 346, .ref 347, .ref 348, .int (633) 0, .int (101) 0, .str "/claim/cut.py" 634], #[]⟩),
  (371, ⟨.type "code", none, .fields #[.str "__init__" 660, .str "Timed.__init__" 661, .str "/claim/cut.py" 662, .int (108) 0, .int (4) 0, .int (0) 0, .int (0) 0, .int (3) 0, .ref 366, .bool true, .int (181) 0, .ref 367, .none, .ref 368, .ref 369, .ref 370, .int (667) 0, .int (108) 0, .str "/claim/cut.py" 668], #[]⟩),
  (365, ⟨.type "tuple", none, .seq #[.none, .int (0) 659] 0, #[]⟩),
  (378, ⟨.type "code", none, .fields #[.str "begin_at" 670, .str "Timed.begin_at" 671, .str "/claim/cut.py" 672, .int (115) 0, .int (3) 0, .int (0) 0, .int (0) 0, .int (3) 0, .ref 373, .bool true, .int (181) 0, .ref 374, .none, .ref 375, .ref 376, .ref 377, .int (677) 0, .int (115) 0, .str "/claim/cut.py" 678], #[]⟩),
  (400, ⟨.type "code", none, .fields #[.str "__init__" 706, .str "Item.__init__" 707, .str "/claim/cut.py" 708, .int (122) 0, .int (2) 0, .int (0) 0, .int (3) 0, .int (3) 0, .ref 395, .bool true, .int (181) 0, .ref 396, .none, .ref 397, .ref 398, .ref 399, .int (714) 0, .int (122) 0, .str "/claim/cut.py" 715], #[]⟩),
  (394, ⟨.type "dict", none, .dict #[⟨PyData.keyHash P "minute", .str "minute" 704, .none⟩, ⟨PyData.keyHash P "delay", .str "delay" 705, .int (0) 703⟩] 2, #[]⟩)]
def kl18 (P : Params) : PySem.W.Frag := [(429, ⟨.type "code", none, .fields #[.str "__init__" 745, .str "Piece.__init__" 746, .str "/claim/cut.py" 747, .int (131) 0, .int (2) 0, .int (0) 0, .int (5) 0, .int (3) 0, .ref 424, .bool true, .int (181) 0, .ref 425, .none, .ref 426, .ref 427, .ref 428, .int (756) 0, .int (131) 0, .str "/claim/cut.py" 757], #[]⟩),
  (422, ⟨.type "dict", none, .dict #[⟨PyData.keyHash P "minute", .str "minute" 743, .none⟩, ⟨PyData.keyHash P "delay", .str "delay" 744, .int (0) 742⟩] 2, #[]⟩),
  (417, ⟨.type "cell", none, .cell (some (.ref 440)), #[]⟩),
  (458, ⟨.type "code", none, .fields #[.str "__init__" 793, .str "Break.__init__" 794, .str "/claim/cut.py" 795, .int (146) 0, .int (2) 0, .int (0) 0, .int (6) 0, .int (3) 0, .ref 453, .bool true, .int (181) 0, .ref 454, .none, .ref 455, .ref 456, .ref 457, .int (805) 0, .int (146) 0, .str "/claim/cut.py" 806], #[]⟩),
  (451, ⟨.type "dict", none, .dict #[⟨PyData.keyHash P "delay", .str "delay" 791, .int (0) 789⟩, ⟨PyData.keyHash P "patience", .str "patience" 792, .int (1) 790⟩] 2, #[]⟩),
  (446, ⟨.type "cell", none, .cell (some (.ref 485)), #[]⟩),
  (465, ⟨.type "code", none, .fields #[.str "length" 808, .str "Break.length" 809, .str "/claim/cut.py" 810, .int (158) 0, .int (1) 0, .int (0) 0, .int (0) 0, .int (3) 0, .ref 460, .bool true, .int (181) 0, .ref 461, .none, .ref 462, .ref 463, .ref 464, .int (812) 0, .int (158) 0, .str "/claim/cut.py" 813], #[]⟩),
  (528, ⟨.type "code", none, .fields #[.str "__init__" 892, .str "Span.__init__" 893, .str "/claim/cut.py" 894, .int (192) 0, .int (3) 0, .int (0) 0, .int (0) 0, .int (3) 0, .ref 523, .bool true, .int (181) 0, .ref 524, .none, .ref 525, .ref 526, .ref 527, .int (898) 0, .int (192) 0, .str "/claim/cut.py" 899], #[]⟩),
  (550, ⟨.type "code", none, .fields #[.str "__contains__" 917, .str "Span.__contains__" 918, .str "/claim/cut.py" 919, .int (205) 0, .int (2) 0, .int (0) 0, .int (0) 0, .int (3) 0, .ref 545, .bool true, .int (181) 0, .ref 546, .none, .ref 547, .ref 548, .ref 549, .int (922) 0, .int (205) 0, .str "/claim/cut.py" 923], #[]⟩),
  (639, ⟨.type "code", none, .fields #[.str "__init__" 1036, .str "Course.__init__" 1037, .str "/claim/cut.py" 1038, .int (254) 0, .int (4) 0, .int (0) 0, .int (0) 0, .int (3) 0, .ref 636, .bool true, .int (181) 0, .ref 637, .none, .none, .none, .ref 638, .int (1039) 0, .int (254) 0, .str "/claim/cut.py" 1040], #[]⟩)]
def kl19 (P : Params) : PySem.W.Frag := [(646, ⟨.type "code", none, .fields #[.str "__call__" 1042, .str "Course.__call__" 1043, .str "/claim/cut.py" 1044, .int (265) 0, .int (2) 0, .int (0) 0, .int (0) 0, .int (3) 0, .ref 641, .bool true, .int (181) 0, .ref 642, .none, .ref 643, .ref 644, .ref 645, .int (1050) 0, .int (265) 0, .str "/claim/cut.py" 1051], #[]⟩),
  (653, ⟨.type "code", none, .fields #[.str "latest" 1053, .str "Course.latest" 1054, .str "/claim/cut.py" 1055, .int (271) 0, .int (2) 0, .int (0) 0, .int (0) 0, .int (3) 0, .ref 648, .bool true, .int (181) 0, .ref 649, .none, .ref 650, .ref 651, .ref 652, .int (1061) 0, .int (271) 0, .str "/claim/cut.py" 1062], #[]⟩),
  (711, ⟨.type "code", none, .fields #[.str "__init__" 1157, .str "Hang.__init__" 1158, .str "/claim/cut.py" 1159, .int (325) 0, .int (3) 0, .int (0) 0, .int (0) 0, .int (3) 0, .ref 706, .bool true, .int (181) 0, .ref 707, .none, .ref 708, .ref 709, .ref 710, .int (1164) 0, .int (325) 0, .str "/claim/cut.py" 1165], #[]⟩),
  (718, ⟨.type "code", none, .fields #[.str "with_excess" 1167, .str "Hang.with_excess" 1168, .str "/claim/cut.py" 1169, .int (339) 0, .int (3) 0, .int (0) 0, .int (0) 0, .int (3) 0, .ref 713, .bool true, .int (181) 0, .ref 714, .none, .ref 715, .ref 716, .ref 717, .int (1174) 0, .int (339) 0, .str "/claim/cut.py" 1175], #[]⟩),
  (739, ⟨.type "code", none, .fields #[.str "__init__" 1204, .str "Distance.__init__" 1205, .str "/claim/cut.py" 1206, .int (347) 0, .int (3) 0, .int (0) 0, .int (0) 0, .int (3) 0, .ref 734, .bool true, .int (181) 0, .ref 735, .none, .ref 736, .ref 737, .ref 738, .int (1210) 0, .int (347) 0, .str "/claim/cut.py" 1211], #[]⟩),
  (792, ⟨.type "code", none, .fields #[.str "__init__" 1287, .str "Grid.__init__" 1288, .str "/claim/cut.py" 1289, .int (392) 0, .int (3) 0, .int (0) 0, .int (0) 0, .int (3) 0, .ref 787, .bool true, .int (181) 0, .ref 788, .none, .ref 789, .ref 790, .ref 791, .int (1293) 0, .int (392) 0, .str "/claim/cut.py" 1294], #[]⟩),
  (786, ⟨.type "tuple", none, .seq #[.int (0) 1286] 0, #[]⟩),
  (809, ⟨.type "code", none, .fields #[.str "first_bar" 1321, .str "Grid.first_bar" 1322, .str "/claim/cut.py" 1323, .int (414) 0, .int (2) 0, .int (0) 0, .int (0) 0, .int (3) 0, .ref 804, .bool true, .int (181) 0, .ref 805, .none, .ref 806, .ref 807, .ref 808, .int (1326) 0, .int (414) 0, .str "/claim/cut.py" 1327], #[]⟩),
  (919, ⟨.type "code", none, .fields #[.str "__init__" 1477, .str "House.__init__" 1478, .str "/claim/cut.py" 1479, .int (475) 0, .int (4) 0, .int (0) 0, .int (4) 0, .int (3) 0, .ref 914, .bool true, .int (181) 0, .ref 915, .none, .ref 916, .ref 917, .ref 918, .int (1490) 0, .int (475) 0, .str "/claim/cut.py" 1491], #[]⟩),
  (912, ⟨.type "tuple", none, .seq #[.ref 909] 0, #[]⟩)]
def kl20 (P : Params) : PySem.W.Frag := [(913, ⟨.type "dict", none, .dict #[⟨PyData.keyHash P "walk", .str "walk" 1473, .ref 910⟩, ⟨PyData.keyHash P "pack", .str "pack" 1474, .ref 911⟩, ⟨PyData.keyHash P "ahead", .str "ahead" 1475, .int (1) 1471⟩, ⟨PyData.keyHash P "apart", .str "apart" 1476, .int (1) 1472⟩] 4, #[]⟩),
  (909, ⟨.type "tuple", none, .seq #[] 0, #[]⟩),
  (910, ⟨.type "tuple", none, .seq #[.int (0) 1467, .int (0) 1468] 0, #[]⟩),
  (911, ⟨.type "tuple", none, .seq #[.int (0) 1469, .int (0) 1470] 0, #[]⟩),
  (945, ⟨.type "code", none, .fields #[.str "__init__" 1534, .str "Order.__init__" 1535, .str "/claim/cut.py" 1536, .int (502) 0, .int (4) 0, .int (0) 0, .int (0) 0, .int (3) 0, .ref 942, .bool true, .int (181) 0, .ref 943, .none, .none, .none, .ref 944, .int (1537) 0, .int (502) 0, .str "/claim/cut.py" 1538], #[]⟩),
  (952, ⟨.type "code", none, .fields #[.str "points" 1540, .str "Order.points" 1541, .str "/claim/cut.py" 1542, .int (518) 0, .int (1) 0, .int (0) 0, .int (0) 0, .int (3) 0, .ref 947, .bool true, .int (181) 0, .ref 948, .none, .ref 949, .ref 950, .ref 951, .int (1544) 0, .int (518) 0, .str "/claim/cut.py" 1545], #[]⟩),
  (974, ⟨.type "code", none, .fields #[.str "__contains__" 1562, .str "Order.__contains__" 1563, .str "/claim/cut.py" 1564, .int (528) 0, .int (2) 0, .int (0) 0, .int (0) 0, .int (3) 0, .ref 969, .bool true, .int (181) 0, .ref 970, .none, .ref 971, .ref 972, .ref 973, .int (1567) 0, .int (528) 0, .str "/claim/cut.py" 1568], #[]⟩),
  (981, ⟨.type "code", none, .fields #[.str "__getitem__" 1570, .str "Order.__getitem__" 1571, .str "/claim/cut.py" 1572, .int (531) 0, .int (2) 0, .int (0) 0, .int (0) 0, .int (3) 0, .ref 976, .bool true, .int (181) 0, .ref 977, .none, .ref 978, .ref 979, .ref 980, .int (1575) 0, .int (531) 0, .str "/claim/cut.py" 1576], #[]⟩),
  (988, ⟨.type "code", none, .fields #[.str "number_of" 1578, .str "Order.number_of" 1579, .str "/claim/cut.py" 1580, .int (534) 0, .int (2) 0, .int (0) 0, .int (0) 0, .int (3) 0, .ref 983, .bool true, .int (181) 0, .ref 984, .none, .ref 985, .ref 986, .ref 987, .int (1583) 0, .int (534) 0, .str "/claim/cut.py" 1584], #[]⟩),
  (1009, ⟨.type "code", none, .fields #[.str "begin_of" 1600, .str "Order.begin_of" 1601, .str "/claim/cut.py" 1602, .int (545) 0, .int (2) 0, .int (0) 0, .int (0) 0, .int (3) 0, .ref 1004, .bool true, .int (181) 0, .ref 1005, .none, .ref 1006, .ref 1007, .ref 1008, .int (1605) 0, .int (545) 0, .str "/claim/cut.py" 1606], #[]⟩)]
def kl21 (P : Params) : PySem.W.Frag := [(1016, ⟨.type "code", none, .fields #[.str "end_of" 1608, .str "Order.end_of" 1609, .str "/claim/cut.py" 1610, .int (548) 0, .int (2) 0, .int (0) 0, .int (0) 0, .int (3) 0, .ref 1011, .bool true, .int (181) 0, .ref 1012, .none, .ref 1013, .ref 1014, .ref 1015, .int (1613) 0, .int (548) 0, .str "/claim/cut.py" 1614], #[]⟩),
  (1023, ⟨.type "code", none, .fields #[.str "call_of" 1616, .str "Order.call_of" 1617, .str "/claim/cut.py" 1618, .int (551) 0, .int (2) 0, .int (0) 0, .int (0) 0, .int (3) 0, .ref 1018, .bool true, .int (181) 0, .ref 1019, .none, .ref 1020, .ref 1021, .ref 1022, .int (1622) 0, .int (551) 0, .str "/claim/cut.py" 1623], #[]⟩),
  (1101, ⟨.type "code", none, .fields #[.str "__init__" 1731, .str "Outlook.__init__" 1732, .str "/claim/cut.py" 1733, .int (600) 0, .int (2) 0, .int (0) 0, .int (0) 0, .int (3) 0, .ref 1098, .bool true, .int (181) 0, .ref 1099, .none, .none, .none, .ref 1100, .int (1734) 0, .int (600) 0, .str "/claim/cut.py" 1735], #[]⟩),
  (1113, ⟨.type "code", none, .fields #[.str "span_of" 1743, .str "Outlook.span_of" 1744, .str "/claim/cut.py" 1745, .int (610) 0, .int (3) 0, .int (0) 0, .int (0) 0, .int (3) 0, .ref 1108, .bool true, .int (181) 0, .ref 1109, .none, .ref 1110, .ref 1111, .ref 1112, .int (1749) 0, .int (610) 0, .str "/claim/cut.py" 1750], #[]⟩),
  (1120, ⟨.type "code", none, .fields #[.str "narrowed" 1752, .str "Outlook.narrowed" 1753, .str "/claim/cut.py" 1754, .int (617) 0, .int (5) 0, .int (0) 0, .int (0) 0, .int (3) 0, .ref 1115, .bool true, .int (181) 0, .ref 1116, .none, .ref 1117, .ref 1118, .ref 1119, .int (1761) 0, .int (617) 0, .str "/claim/cut.py" 1762], #[]⟩),
  (1146, ⟨.type "code", none, .fields #[.str "first_row" 1792, .str "Outlook.first_row" 1793, .str "/claim/cut.py" 1794, .int (636) 0, .int (1) 0, .int (0) 0, .int (0) 0, .int (3) 0, .ref 1143, .bool true, .int (181) 0, .ref 1144, .none, .none, .none, .ref 1145, .int (1795) 0, .int (636) 0, .str "/claim/cut.py" 1796], #[]⟩),
  (1177, ⟨.type "code", none, .fields #[.str "_limits" 1827, .str "Outlook._limits" 1828, .str "/claim/cut.py" 1829, .int (658) 0, .int (1) 0, .int (0) 0, .int (0) 0, .int (3) 0, .ref 1174, .bool true, .int (181) 0, .ref 1175, .none, .none, .none, .ref 1176, .int (1830) 0, .int (658) 0, .str "/claim/cut.py" 1831], #[]⟩),
  (1182, ⟨.type "code", none, .fields #[.str "_replaced" 1833, .str "Outlook._replaced" 1834, .str "/claim/cut.py" 1835, .int (661) 0, .int (4) 0, .int (0) 0, .int (0) 0, .int (3) 0, .ref 1179, .bool true, .int (181) 0, .ref 1180, .none, .none, .none, .ref 1181, .int (1836) 0, .int (661) 0, .str "/claim/cut.py" 1837], #[]⟩),
  (1206, ⟨.type "code", none, .fields #[.str "__init__" 1869, .str "Reach.__init__" 1870, .str "/claim/cut.py" 1871, .int (680) 0, .int (2) 0, .int (0) 0, .int (0) 0, .int (3) 0, .ref 1203, .bool true, .int (181) 0, .ref 1204, .none, .none, .none, .ref 1205, .int (1872) 0, .int (680) 0, .str "/claim/cut.py" 1873], #[]⟩),
  (1211, ⟨.type "code", none, .fields #[.str "moments_at" 1875, .str "Reach.moments_at" 1876, .str "/claim/cut.py" 1877, .int (692) 0, .int (2) 0, .int (0) 0, .int (0) 0, .int (3) 0, .ref 1208, .bool true, .int (181) 0, .ref 1209, .none, .none, .none, .ref 1210, .int (1878) 0, .int (692) 0, .str "/claim/cut.py" 1879], #[]⟩)]
def kl22 (P : Params) : PySem.W.Frag := [(1230, ⟨.type "code", none, .fields #[.str "row_to" 1898, .str "Reach.row_to" 1899, .str "/claim/cut.py" 1900, .int (702) 0, .int (3) 0, .int (0) 0, .int (0) 0, .int (3) 0, .ref 1227, .bool true, .int (181) 0, .ref 1228, .none, .none, .none, .ref 1229, .int (1901) 0, .int (702) 0, .str "/claim/cut.py" 1902], #[]⟩),
  (1237, ⟨.type "code", none, .fields #[.str "_check_point" 1904, .str "Reach._check_point" 1905, .str "/claim/cut.py" 1906, .int (715) 0, .int (2) 0, .int (0) 0, .int (0) 0, .int (3) 0, .ref 1232, .bool true, .int (181) 0, .ref 1233, .none, .ref 1234, .ref 1235, .ref 1236, .int (1909) 0, .int (715) 0, .str "/claim/cut.py" 1910], #[]⟩),
  (1244, ⟨.type "code", none, .fields #[.str "_check_moment" 1912, .str "Reach._check_moment" 1913, .str "/claim/cut.py" 1914, .int (719) 0, .int (3) 0, .int (0) 0, .int (0) 0, .int (3) 0, .ref 1239, .bool true, .int (181) 0, .ref 1240, .none, .ref 1241, .ref 1242, .ref 1243, .int (1918) 0, .int (719) 0, .str "/claim/cut.py" 1919], #[]⟩),
  (280, ⟨.type "code", none, .fields #[.str "__init__" 525, .str "NoPoint.__init__" 526, .str "/claim/cut.py" 527, .int (65) 0, .int (2) 0, .int (0) 0, .int (0) 0, .int (3) 0, .ref 275, .bool true, .int (181) 0, .ref 276, .none, .ref 277, .ref 278, .ref 279, .int (531) 0, .int (65) 0, .str "/claim/cut.py" 532], #[]⟩),
  (269, ⟨.type "cell", none, .cell (some (.ref 284)), #[]⟩)]
def KL (P : Params) : PySem.W.Frag := kl0 P ++ (kl1 P ++ (kl2 P ++ (kl3 P ++ (kl4 P ++ (kl5 P ++ (kl6 P ++ (kl7 P ++ (kl8 P ++ (kl9 P ++ (kl10 P ++ (kl11 P ++ (kl12 P ++ (kl13 P ++ (kl14 P ++ (kl15 P ++ (kl16 P ++ (kl17 P ++ (kl18 P ++ (kl19 P ++ (kl20 P ++ (kl21 P ++ (kl22 P))))))))))))))))))))))
def asL : List Addr := [3, 2, 31, 284, 305, 317, 353, 382, 411, 440, 485, 610, 664, 722, 743, 883, 930, 1062, 1186, 1248, 30, 283, 304, 316, 352, 381, 410, 439, 484, 609, 663, 721, 742, 882, 929, 1061, 1185, 1247, 467, 954, 324, 494, 501, 508, 515, 621, 628, 675, 682, 690, 697, 754, 761, 766, 771, 894, 901, 1073, 1090, 1195, 1259, 1266, 1273, 1280, 1285, 1292, 1299, 1306, 1313, 1320, 1327, 1332, 1339, 1346, 1353, 1360, 1367, 1374, 1381, 1388, 1402, 1407, 1414, 1421, 1428, 1435, 1440, 350, 372, 379, 401, 430, 459, 466, 529, 551, 640, 647, 654, 712, 719, 740, 793, 810, 920, 946, 953, 975, 982, 989, 1010, 1017, 1024, 1102, 1114, 1121, 1147, 1178, 1183, 1207, 1212, 1231, 1238, 1245, 281, 683, 698, 323, 493, 500, 507, 514, 620, 627, 674, 681, 689, 696, 753, 760, 765, 770, 893, 900, 1072, 1089, 1194, 1258, 1265, 1272, 1279, 1284, 1291, 1298, 1305, 1312, 1319, 1326, 1331, 1338, 1345, 1352, 1359, 1366, 1373, 1380, 1387, 1401, 1406, 1413, 1420, 1427, 1434, 1439, 349, 371, 365, 378, 400, 394, 429, 422, 417, 458, 451, 446, 465, 528, 550, 639, 646, 653, 711, 718, 739, 792, 786, 809, 919, 912, 913, 909, 910, 911, 945, 952, 974, 981, 988, 1009, 1016, 1023, 1101, 1113, 1120, 1146, 1177, 1182, 1206, 1211, 1230, 1237, 1244, 280, 269]
theorem asL_eq (P : Params) : asL = (KL P).map (·.1) := by kernel_rfl
theorem says (w : World) : SaysB faL fnL tsL fsL exL w (KL w.params) := by
  unfold SaysB
  kernel_rfl
end BB
/-! the head's run (printed by gen_head.py) -/
namespace BB
open PySem PySem.W PySem.Calls PyProof.Rows
abbrev RR : OpenRow := OpenLaw.row PySem.Challenge.rw_barbreaks_k34_corners_decide
abbrev qv : Program := view RR.prog [116]
def loose0 : List PySem.Str := ["_wall", "BarbreaksError", "BadName", "BadNumber", "BadText", "BadSpan", "Apart", "TooMany", "Twice", "Unknown", "BadEvent", "BadWord", "Outside", "NoPoint", "NotReached", "Refused", "LETTERS", "DIGITS", "LONGEST_NAME", "MOST_DIGITS", "is_name", "write_number", "read_number", "Named", "Timed", "Item", "Piece", "Break", "corner", "hollow"]
def loose1 : List PySem.Str := ["bent_row", "extreme", "Span", "step_span", "next_moment", "Course", "has_event", "point_of", "WORDS", "step_lag", "with_lag", "OWN_LAGS", "Hang", "Distance", "nearest", "farthest", "least_ahead", "least_back", "extended_gcd", "Grid", "MOST_STUDIOS", "MOST_CREWS", "MOST_KINDS", "MOST_AHEAD", "WIDEST_BOUNDS", "check_kinds", "span_of_bounds", "House", "MOST_ITEMS", "MOST_PLACES_IN_ALL"]
def loose2 : List PySem.Str := ["Order", "DELAY", "LENGTH", "lag_spans", "lags_fit", "MOST_ROWS", "all_lags", "with_spans", "Outlook", "next_table", "Reach", "_law_is_int", "_law_pool", "_law_take", "_law_big", "_law_names", "_law_first", "_law_opens", "_law_items", "_law_day", "_law_item", "_law_house", "_law_order", "_law_moments", "_law_at", "_law_call", "_law_point", "_law_moment", "_law_events", "_law_apart"]
def loose3 : List PySem.Str := ["_law_spans", "_law_row", "_law_narrow", "_law_same", "_law_bent", "_law_event", "_law_refused", "_law_rows"]
def loose : List PySem.Str := loose0 ++ loose1 ++ loose2 ++ loose3
abbrev hk : Hook := kHook KL asL asL_eq
def ob (s : SharedT) : List (Option Obj) := asL.map (HandSHeadRun.getT s)
theorem ob_eq (s : SharedT) : ob s = hk.obs s.abs := List.map_congr_left fun a _ => HandSHeadRun.getT_eq s a
theorem run_true (w : World) : HandSHeadRun.RunEq RR qv hk ob 13000 loose (w.withFollow "special-get-raises" true) := by
  intro os
  kernel_rfl
theorem run_false (w : World) : HandSHeadRun.RunEq RR qv hk ob 13000 loose (w.withFollow "special-get-raises" false) := by
  intro os
  kernel_rfl
theorem run (w : World) : HandSHeadRun.RunEq RR qv hk ob 13000 loose w := by
  have e := World.withFollow_self w "special-get-raises"
  cases q : w.params.followText "special-get-raises" with
  | true =>
    rw [q] at e
    have z := run_true w
    rw [e] at z
    exact z
  | false =>
    rw [q] at e
    have z := run_false w
    rw [e] at z
    exact z
end BB
set_option maxHeartbeats 4000000
namespace BB
open PySem PySem.Spec PyProof.Rows L2
/-! ### enumerate(tuple) -/
section
open Sem (wp)
open AutoSeq1 (wpAny_loadPart')
theorem meets_enumT (t : Addr) (items : Array Value) :
    Meets (Builtin.«enumerate.__new__» ⟨[.type "enumerate", .ref t], []⟩) (fun _ R s => s.heap.IsTuple t items ∧
      R (.ok (.ret (.ref (s.heap.push { cls := .type "tuple_iterator", data := .fields #[.ref t, .int 0 0] }).objs.size)))
        { s with heap := (s.heap.push { cls := .type "tuple_iterator", data := .fields #[.ref t, .int 0 0] }).push { cls := .type "enumerate", data := .fields #[.none, .bool false, .ref s.heap.objs.size, rawInt 0, .none, .none] } }) :=
  .of_wp fun prog w A R s h => by
    obtain ⟨hp, g, d, tk, os⟩ := s
    obtain ⟨hT, h⟩ := h
    have hsub := sub_enumerate
    have hT' : Heap.IsTuple (Shared.heap ⟨hp, g, d, tk, os⟩) t items := hT
    obtain ⟨o, ho, _⟩ := id hT'
    wp_walk using wpAny_loadPart' ho
    refine wpAny_stack_any fun st => wpAny_pure ?_
    split
    · rename_i c _ _ _ _ _
      cases (c == Value.type "enumerate")
      · wp_walk using wpAny_loadPart' ho, wpAny_pyIter_tuple hT'
        exact ⟨_, rfl, h⟩
      · wp_walk using wpAny_loadPart' ho, wpAny_pyIter_tuple hT'
        exact ⟨_, rfl, h⟩
    · wp_walk using wpAny_loadPart' ho, wpAny_pyIter_tuple hT'
      exact ⟨_, rfl, h⟩
end
section
variable {prog : Program} {w : World} {A : Around} {E : Value → Shared → Prop} {s : Shared}
theorem call_enumT {l : Addr} {items : Array Value} {Q : Value → Shared → Prop} (hL : s.heap.IsTuple l items)
    (h : ∀ h', IsEnum h' (s.heap.objs.size + 1) s.heap.objs.size 0 .none → h'.IsTupleIter s.heap.objs.size l 0 → h'.objs.size = s.heap.objs.size + 2 →
      (∀ b o, s.heap.get? b = some o → h'.get? b = some o) → Q (.ref (s.heap.objs.size + 1)) { s with heap := h' }) :
    wpAny (model prog w) A (call (.type "enumerate") [.ref l]) Q E s := by
  refine callType_new F.called_enumerate (by decide) (F.typeCall_enumerate_1 _) (F.newCall_enumerate_1 _) (fun obj => F.args_object_init_2 obj _) F.entry_enumerate_new
    (meets_enumT l items) ⟨hL, ?_⟩
  have hz : (s.heap.push { cls := .type "tuple_iterator", data := .fields #[.ref l, .int 0 0] }).objs.size = s.heap.objs.size + 1 := Heap.size_push ..
  show _ ∧ _
  rw [hz]
  have he : IsEnum ((s.heap.push { cls := .type "tuple_iterator", data := .fields #[.ref l, .int 0 0] }).push
      { cls := .type "enumerate", data := .fields #[.none, .bool false, .ref s.heap.objs.size, rawInt 0, .none, .none] }) (s.heap.objs.size + 1) s.heap.objs.size 0 .none := by
    have := Heap.get?_push_size (s.heap.push { cls := .type "tuple_iterator", data := .fields #[.ref l, .int 0 0] })
      (o := { cls := .type "enumerate", data := .fields #[.none, .bool false, .ref s.heap.objs.size, rawInt 0, .none, .none] }) rfl
    rw [hz] at this; exact this
  refine ⟨⟨_, he, rfl⟩, h _ he ⟨_, Heap.get?_push_of_some _ (Heap.get?_push_size _ rfl), rfl, rfl⟩ (by rw [Heap.size_push, hz]) fun b o x => Heap.get?_push_of_some _ (Heap.get?_push_of_some _ x)⟩
end
/-- the tuple at a as it stands at each turn, each item in a new pair -/
def Itet (K : PySem.W.Frag) (a : Addr) : It :=
  ⟨fun i H => ∃ (xs : List V) (x : V), SqT K H a xs ∧ xs[i]? = some x, fun i H v H' => ∃ T x, v = .ref T ∧ H T = none ∧ H' = upd H T (.tup [.int (i : Nat), x]) ∧ ∀ xs, SqT K H a xs → xs[i]? = some x, fun i H => ∃ xs : List V, SqT K H a xs ∧ xs.length ≤ i⟩
theorem walk_enumT {K : PySem.W.Frag} {a : Addr} {xs : List V} : Walk (Itet K a) xs.length (fun H => SqT K H a xs) (YPair (fun i => some (.int (i : Nat))) (fun i => xs[i]?)) := by
  refine ⟨fun i _ hi q => ⟨xs, xs[i], q, by simp [hi]⟩, fun _ q => ⟨xs, q, Nat.le_refl _⟩, fun i H v H' _ q y => ?_⟩
  obtain ⟨T, x, h1, h2, h3, h4⟩ := y
  exact ⟨T, .int (i : Nat), x, h1, h2, h3, rfl, h4 xs q⟩
theorem turn_enumT {P : Program} {w : World} {K : PySem.W.Frag} {elts : List Expr} {kk : Nat} {tpos : Pos} (a e it : Addr) (hei : e ≠ it) (hea : e ≠ a) (hai : a ≠ it) :
    Turn P w K (.Tuple elts kk tpos) (Itet K a) [e, it] e (fun i h => (∃ old, IsEnum h e it ((i : Nat) : Int) old) ∧ h.IsTupleIter it a i) where
  mem := by simp
  obj := fun i h st b hb => by
    obtain ⟨⟨old, he⟩, ⟨o, ho, hc, hd⟩⟩ := st
    have e' : b = e ∨ b = it := by simpa using hb
    rcases e' with z | z
    · rw [z]; exact ⟨_, he, fun v q => nomatch q⟩
    · rw [z]; exact ⟨o, ho, fun v q => by rw [hd] at q; cases q⟩
  keep := fun i h h' st k => let ⟨⟨old, he⟩, hi⟩ := st; ⟨⟨old, k e (by simp) _ he⟩, hi.at fun o q => k it (by simp) o q⟩
  item := by
    intro X hP hw hK hc i pins s σ H E I hf st hg
    subst hP hw hK
    obtain ⟨⟨old, he⟩, hit⟩ := st
    obtain ⟨xs, x, hq, hx⟩ := hg
    obtain ⟨its, rv, p, hz⟩ := I.tuple hq
    obtain ⟨u, hu, ru⟩ := rv.get hx
    have hel : e < s.heap.objs.size := Heap.lt_size he
    have hil : it < s.heap.objs.size := by obtain ⟨_, q, _⟩ := hit; exact Heap.lt_size q
    have pT : s.heap.IsTuple a its.toArray := p
    have hlt : i < its.toArray.size := by
      rw [List.size_toArray]
      exact (List.getElem?_eq_some_iff.mp hu).1
    have D := Draws.tuple (prog := X.prog) (w := X.w) (A := X.A.in1) (show X.A.in1.handled = none from I.ok.hd hc) it a hai its.toArray
    refine wpAny_pyNext_enum_itemD D he ⟨hit, pT⟩ hlt hei (by simp [hei, hea]) fun x' h' tk hx' ho hit' hT hsz hk => ?_
    have hx' : its.toArray[i]? = some x' := hx'
    have ex : x' = u := by
      rw [List.getElem?_toArray, hu] at hx'
      exact (Option.some.inj hx').symm
    subst ex
    refine ⟨_, rfl, wpAny_letOwnedTupleGo_enum (s := { s with heap := h', toks := tk + 1 }) ho fun h'' he' sb => ?_⟩
    have hT2 : h''.get? s.heap.objs.size = some { cls := .type "tuple", data := .seq #[.int i tk, x'] } := (sb.2 _ (Nat.ne_of_gt hel)).trans hT
    have new : ObjOk X.prog X.w (upd H s.heap.objs.size (.tup [.int (i : Nat), x])) h'' s.heap.objs.size (.tup [.int (i : Nat), x]) :=
      ⟨by show 2 ≤ sizeLine; decide, [.int i tk, x'], .cons ⟨_, rfl⟩ (.cons ru .nil), ⟨_, hT2, rfl, _, rfl⟩⟩
    have I1 : Inv X pins σ (upd H s.heap.objs.size (.tup [.int (i : Nat), x])) { s with heap := h'', toks := tk + 1 } :=
      I.turnedNew (ch := [e, it]) (fun b ob hb q => (sb.2 b (fun z => hb (by simp [z]))).trans (hk b ob (fun z => hb (by simp [z])) (fun z => hb (by simp [z])) q)) hf (Nat.le_refl _) new
    refine ⟨.ref s.heap.objs.size, _, I1, rfl, ⟨_, x, rfl, I.hok.fresh (Nat.le_refl _), rfl, fun ys hy => by rw [I.tuple_inj hy hq]; exact hx⟩, ⟨⟨x', ?_⟩, hit'.1.at fun o q => (sb.2 it (Ne.symm hei)).trans q⟩, fun b hb => ?_⟩
    · have e1 : ((i + 1 : Nat) : Int) = (i : Int) + 1 := by omega
      rw [e1]; exact he'
    · have hb' : b < s.heap.objs.size := by
        have e' : b = e ∨ b = it := by simpa using hb
        rcases e' with z | z
        · rw [z]; exact hel
        · rw [z]; exact hil
      rw [upd_ne (Nat.ne_of_lt hb')]
      exact (hf b hb).1
  done := by
    intro X hP hw hK hc i pins s σ H E I hf st hg
    subst hP hw hK
    obtain ⟨⟨old, he⟩, hit⟩ := st
    obtain ⟨xs, hq, hx⟩ := hg
    obtain ⟨its, rv, p, hz⟩ := I.tuple hq
    obtain ⟨f0, f1, f2, f3, f4, f5⟩ := hf it (by simp)
    have hl := rv.length
    have hT : s.TypeIs (.ref e) "enumerate" := ⟨_, he, rfl⟩
    unfold pyNext
    refine wpAny_bind (wpAny_attempt (wpAny_callSpecial?_slot (name := Str.ofString "__next__") hT F.slot_enumerate_next
      (wpAny_call_entry F.slot_enumerate_next hT F.entry_enumerate_next ?_ (F.args_enumerate_next_1 _))))
    show wpAny _ _ (field (.ref e) 2 >>= _) _ _ _
    refine wpAny_bind (wpAny_field he rfl (x := .ref it) rfl ?_)
    refine wpAny_bind (wpAny_nextOf_tuple_end (show X.A.in1.handled = none from I.ok.hd hc) hit (show s.heap.IsTuple a its.toArray from p) (by simp; omega) fun h' x he' hx' => ?_)
    obtain ⟨o, ho, hcc⟩ := hx'
    refine wpAny_bind (wpAny_isInstance (T := "StopIteration") (b := true) ⟨o, ho, hcc⟩ isSubtype_stop ?_)
    exact wpAny_pure ⟨rfl, I.turned (t' := s.toks) (fun b o hb q => he' b o hb q) f0 f1 f3 f4 f5⟩
  self := fun A i s Q E st h => let ⟨⟨_, he⟩, _⟩ := st; wpAny_pyIter_enum he h
def iEnumT (K : PySem.W.Frag) (ta : TA) : TI := fun σ H R => ta σ H fun vs H1 => ∃ a xs, vs = [.ref a] ∧ SqT K H1 a xs ∧ R (Itet K a) H1
theorem pi_enumT {X : Cx} {e : Expr} {ta : TA} {p pos tpos : Pos} {elts : List Expr} {kk : Nat} (hg : Gl X "enumerate") (hm : X.mg "enumerate" = none) (ha : PA X [e] ta) (hs : starEach [e] X.env = [(false, eval e X.env)] := by rfl) :
    PI X (.Tuple elts kk tpos) (.Call (.Name "enumerate" p) [e] [] pos) (iEnumT X.K ta) := by
  refine ⟨fun pins s σ H R I h => ?_⟩
  refine Call_ (ld_blt I hg hm boot_enumerate (PyProof.Rows.callWith_type1 (thn (ha.run pos pins s σ H _ I h) fun us s1 ⟨vs, H1, I1, r1, q1⟩ => ?_) hs rfl))
  obtain ⟨a, xs, ex, hq, q⟩ := q1
  subst ex
  cases r1 with
  | cons r rr =>
    cases rr
    cases r
    obtain ⟨its, rv, p', hz⟩ := I1.tuple hq
    have pT : s1.heap.IsTuple a its.toArray := p'
    have hla : a < s1.heap.objs.size := by obtain ⟨o, ho, _⟩ := pT; exact Heap.lt_size ho
    refine call_enumT pT fun h' he hit hsz hk => wpAny_pyIter_enum he ?_
    have I2 : Inv X pins σ H1 { s1 with heap := h' } := I1.kept (t' := s1.toks) hk
    refine ⟨s1.heap.objs.size + 1, [s1.heap.objs.size + 1, s1.heap.objs.size], _, _, H1, rfl, I2, turn_enumT a (s1.heap.objs.size + 1) s1.heap.objs.size (Nat.succ_ne_self _) (Nat.ne_of_gt (Nat.lt_succ_of_lt hla)) (Nat.ne_of_lt hla), ⟨⟨.none, he⟩, hit⟩, fun b hb => ?_, q⟩
    have e' : b = s1.heap.objs.size + 1 ∨ b = s1.heap.objs.size := by simpa using hb
    have hle : s1.heap.objs.size ≤ b := by
      rcases e' with z | z
      · rw [z]; exact Nat.le_add_right _ _
      · rw [z]; exact Nat.le_refl _
    exact I1.fpOk hle (I1.hok.fresh hle)
end BB
namespace BB
open PySem PySem.Spec PyProof.Rows L2
/-! ### comprehensions whose parts name the written part -/
section
variable {X : Cx}
theorem pe_lcD {elt tg iter : Expr} {ifs : List Expr} {scope : Scope} {own : List (Str × Nat)} {pos : Pos} {wi : TI} {g : Shared → Hp → Addr → List (Str × Addr) → List Addr → TG} {tt : Shared → Hp → Addr → List (Str × Addr) → List Addr → TT} {te : Shared → Hp → Addr → List (Str × Addr) → List Addr → TE} (hc : X.calm = true) (hN : X.N.Nodup) (hi : PI X tg iter wi) (ok : BlkOk X.N X.env.scope scope own)
    (hg : ∀ (s : Shared) (H : Hp) (C : Addr) (cl : List (Str × Addr)) (fp : List Addr), PG (X.blk s H scope (compEnvC scope cl C X.env) fp) tg (g s H C cl fp)) (ht : ∀ (s : Shared) (H : Hp) (C : Addr) (cl : List (Str × Addr)) (fp : List Addr), PTs (X.blk s H scope (compEnvC scope cl C X.env) fp) ifs (tt s H C cl fp))
    (he : ∀ (s : Shared) (H : Hp) (C : Addr) (cl : List (Str × Addr)) (fp : List Addr), PE (X.blk s H scope (compEnvC scope cl C X.env) fp) elt (te s H C cl fp)) (eg : ∀ (s : Shared) (H : Hp) (C : Addr) (cl : List (Str × Addr)) (fp : List Addr), g s H C cl fp = g X.s_0 X.H_0 0 [] [] := by intros; rfl) (et : ∀ (s : Shared) (H : Hp) (C : Addr) (cl : List (Str × Addr)) (fp : List Addr), tt s H C cl fp = tt X.s_0 X.H_0 0 [] [] := by intros; rfl) (ee : ∀ (s : Shared) (H : Hp) (C : Addr) (cl : List (Str × Addr)) (fp : List Addr), te s H C cl fp = te X.s_0 X.H_0 0 [] [] := by intros; rfl) (hs : ∀ x, foldedSetIterable iter X.env x = pure x := by intro _; rfl) :
    PE X (.ListComp elt [⟨tg, iter, ifs, 0⟩] scope pos) (tLc wi (g X.s_0 X.H_0 0 [] []) (tt X.s_0 X.H_0 0 [] []) (te X.s_0 X.H_0 0 [] []) (own.map (·.2))) :=
  pe_lc hc hN hi ok (fun s H C cl fp => eg s H C cl fp ▸ hg s H C cl fp) (fun s H C cl fp => et s H C cl fp ▸ ht s H C cl fp) (fun s H C cl fp => ee s H C cl fp ▸ he s H C cl fp) hs
theorem ps_setLcD {i : Nat} {y : Str} {py : Pos} {elt tg iter : Expr} {ifs : List Expr} {spos : Pos} {scope : Scope} {own : List (Str × Nat)} {pos : Pos} {wi : TI} {g : Shared → Hp → Addr → List (Str × Addr) → List Addr → TG} {tt : Shared → Hp → Addr → List (Str × Addr) → List Addr → TT} {te : Shared → Hp → Addr → List (Str × Addr) → List Addr → TE} (hc : X.calm = true) (hN : X.N.Nodup) (hy : X.N[i]? = some y) (hyl : X.env.scope.names.lookup y = some .local)
    (hsw : swapsWith (.ListComp elt [⟨tg, iter, ifs, 0⟩] scope pos) (some (.Name y py)) spos.line X.env = pure true) (hi : PI X tg iter wi) (ok : BlkOk X.N X.env.scope scope own)
    (hg : ∀ (s : Shared) (H : Hp) (C : Addr) (cl : List (Str × Addr)) (fp : List Addr), PG (X.blk s H scope (compEnvC scope cl C X.env) fp) tg (g s H C cl fp)) (ht : ∀ (s : Shared) (H : Hp) (C : Addr) (cl : List (Str × Addr)) (fp : List Addr), PTs (X.blk s H scope (compEnvC scope cl C X.env) fp) ifs (tt s H C cl fp))
    (he : ∀ (s : Shared) (H : Hp) (C : Addr) (cl : List (Str × Addr)) (fp : List Addr), PE (X.blk s H scope (compEnvC scope cl C X.env) fp) elt (te s H C cl fp)) (eg : ∀ (s : Shared) (H : Hp) (C : Addr) (cl : List (Str × Addr)) (fp : List Addr), g s H C cl fp = g X.s_0 X.H_0 0 [] [] := by intros; rfl) (et : ∀ (s : Shared) (H : Hp) (C : Addr) (cl : List (Str × Addr)) (fp : List Addr), tt s H C cl fp = tt X.s_0 X.H_0 0 [] [] := by intros; rfl) (ee : ∀ (s : Shared) (H : Hp) (C : Addr) (cl : List (Str × Addr)) (fp : List Addr), te s H C cl fp = te X.s_0 X.H_0 0 [] [] := by intros; rfl) (hs : ∀ x, foldedSetIterable iter X.env x = pure x := by intro _; rfl) :
    PS X (.Assign [.Name y py] (.ListComp elt [⟨tg, iter, ifs, 0⟩] scope pos) spos) (tAsg (tLc wi (g X.s_0 X.H_0 0 [] []) (tt X.s_0 X.H_0 0 [] []) (te X.s_0 X.H_0 0 [] []) (own.map (·.2))) (gName i)) :=
  ps_setLc hc hN hy hyl hsw hi ok (fun s H C cl fp => eg s H C cl fp ▸ hg s H C cl fp) (fun s H C cl fp => et s H C cl fp ▸ ht s H C cl fp) (fun s H C cl fp => ee s H C cl fp ▸ he s H C cl fp) hs
theorem pe_dcD {kx vx tg iter : Expr} {ifs : List Expr} {scope : Scope} {own : List (Str × Nat)} {pos : Pos} {wi : TI} {g : Shared → Hp → Addr → List (Str × Addr) → List Addr → TG} {tt : Shared → Hp → Addr → List (Str × Addr) → List Addr → TT} {tk tv : Shared → Hp → Addr → List (Str × Addr) → List Addr → TE} (hc : X.calm = true) (hN : X.N.Nodup) (hi : PI X tg iter wi) (ok : BlkOk X.N X.env.scope scope own)
    (hg : ∀ (s : Shared) (H : Hp) (C : Addr) (cl : List (Str × Addr)) (fp : List Addr), PG (X.blk s H scope (compEnvC scope cl C X.env) fp) tg (g s H C cl fp)) (ht : ∀ (s : Shared) (H : Hp) (C : Addr) (cl : List (Str × Addr)) (fp : List Addr), PTs (X.blk s H scope (compEnvC scope cl C X.env) fp) ifs (tt s H C cl fp))
    (hk : ∀ (s : Shared) (H : Hp) (C : Addr) (cl : List (Str × Addr)) (fp : List Addr), PE (X.blk s H scope (compEnvC scope cl C X.env) fp) kx (tk s H C cl fp)) (he : ∀ (s : Shared) (H : Hp) (C : Addr) (cl : List (Str × Addr)) (fp : List Addr), PE (X.blk s H scope (compEnvC scope cl C X.env) fp) vx (tv s H C cl fp)) (eg : ∀ (s : Shared) (H : Hp) (C : Addr) (cl : List (Str × Addr)) (fp : List Addr), g s H C cl fp = g X.s_0 X.H_0 0 [] [] := by intros; rfl) (et : ∀ (s : Shared) (H : Hp) (C : Addr) (cl : List (Str × Addr)) (fp : List Addr), tt s H C cl fp = tt X.s_0 X.H_0 0 [] [] := by intros; rfl) (ek : ∀ (s : Shared) (H : Hp) (C : Addr) (cl : List (Str × Addr)) (fp : List Addr), tk s H C cl fp = tk X.s_0 X.H_0 0 [] [] := by intros; rfl) (ev : ∀ (s : Shared) (H : Hp) (C : Addr) (cl : List (Str × Addr)) (fp : List Addr), tv s H C cl fp = tv X.s_0 X.H_0 0 [] [] := by intros; rfl) (hs : ∀ x, foldedSetIterable iter X.env x = pure x := by intro _; rfl) :
    PE X (.DictComp kx vx [⟨tg, iter, ifs, 0⟩] scope pos) (tDc wi (g X.s_0 X.H_0 0 [] []) (tt X.s_0 X.H_0 0 [] []) (tk X.s_0 X.H_0 0 [] []) (tv X.s_0 X.H_0 0 [] []) (own.map (·.2))) :=
  pe_dc hc hN hi ok (fun s H C cl fp => eg s H C cl fp ▸ hg s H C cl fp) (fun s H C cl fp => et s H C cl fp ▸ ht s H C cl fp) (fun s H C cl fp => ek s H C cl fp ▸ hk s H C cl fp) (fun s H C cl fp => ev s H C cl fp ▸ he s H C cl fp) hs
theorem sw_trueD {kx vx : Expr} {gs : List Comprehension} {scope : Scope} {pos py : Pos} {y : Str} {l : Nat} {env : Env} (hk : env.scope.kind = .function) (hy : env.scope.names.lookup y = some .local) (hl : (py.line == pos.line) = true)
    (ha : (scope.names.any fun (n, k) => n == y && (k == .local || k == .cell)) = false) : swapsWith (.DictComp kx vx gs scope pos) (some (.Name y py)) l env = pure true := by
  have ky : env.kindOf y = some .local := hy
  have hb : env.blockKind = .function := by unfold Env.blockKind; rw [hk]; rfl
  unfold swapsWith
  simp only [hb, ky, ha, Expr.pos, hl]
  rfl
/-- name = {..}, one line, the name a local -/
theorem ps_setDcD {i : Nat} {y : Str} {py : Pos} {kx vx tg iter : Expr} {ifs : List Expr} {spos : Pos} {scope : Scope} {own : List (Str × Nat)} {pos : Pos} {wi : TI} {g : Shared → Hp → Addr → List (Str × Addr) → List Addr → TG} {tt : Shared → Hp → Addr → List (Str × Addr) → List Addr → TT} {tk tv : Shared → Hp → Addr → List (Str × Addr) → List Addr → TE} (hc : X.calm = true) (hN : X.N.Nodup) (hy : X.N[i]? = some y) (hyl : X.env.scope.names.lookup y = some .local)
    (hsw : swapsWith (.DictComp kx vx [⟨tg, iter, ifs, 0⟩] scope pos) (some (.Name y py)) spos.line X.env = pure true) (hi : PI X tg iter wi) (ok : BlkOk X.N X.env.scope scope own)
    (hg : ∀ (s : Shared) (H : Hp) (C : Addr) (cl : List (Str × Addr)) (fp : List Addr), PG (X.blk s H scope (compEnvC scope cl C X.env) fp) tg (g s H C cl fp)) (ht : ∀ (s : Shared) (H : Hp) (C : Addr) (cl : List (Str × Addr)) (fp : List Addr), PTs (X.blk s H scope (compEnvC scope cl C X.env) fp) ifs (tt s H C cl fp))
    (hk : ∀ (s : Shared) (H : Hp) (C : Addr) (cl : List (Str × Addr)) (fp : List Addr), PE (X.blk s H scope (compEnvC scope cl C X.env) fp) kx (tk s H C cl fp)) (he : ∀ (s : Shared) (H : Hp) (C : Addr) (cl : List (Str × Addr)) (fp : List Addr), PE (X.blk s H scope (compEnvC scope cl C X.env) fp) vx (tv s H C cl fp)) (eg : ∀ (s : Shared) (H : Hp) (C : Addr) (cl : List (Str × Addr)) (fp : List Addr), g s H C cl fp = g X.s_0 X.H_0 0 [] [] := by intros; rfl) (et : ∀ (s : Shared) (H : Hp) (C : Addr) (cl : List (Str × Addr)) (fp : List Addr), tt s H C cl fp = tt X.s_0 X.H_0 0 [] [] := by intros; rfl) (ek : ∀ (s : Shared) (H : Hp) (C : Addr) (cl : List (Str × Addr)) (fp : List Addr), tk s H C cl fp = tk X.s_0 X.H_0 0 [] [] := by intros; rfl) (ev : ∀ (s : Shared) (H : Hp) (C : Addr) (cl : List (Str × Addr)) (fp : List Addr), tv s H C cl fp = tv X.s_0 X.H_0 0 [] [] := by intros; rfl) (hs : ∀ x, foldedSetIterable iter X.env x = pure x := by intro _; rfl) :
    PS X (.Assign [.Name y py] (.DictComp kx vx [⟨tg, iter, ifs, 0⟩] scope pos) spos) (tAsg (tDc wi (g X.s_0 X.H_0 0 [] []) (tt X.s_0 X.H_0 0 [] []) (tk X.s_0 X.H_0 0 [] []) (tv X.s_0 X.H_0 0 [] []) (own.map (·.2))) (gName i)) := by
  refine ⟨fun pins s σ H D I h => ?_⟩
  rw [exec_Assign_Name_used _ _ _ _ hsw]
  refine wpAny_bind (wpAny_standAt (wpAny_bind ?_))
  show wpAny _ X.A (do let _ ← comprehension (.DictComp kx vx [⟨tg, iter, ifs, 0⟩] scope pos) scope X.env (firstIterPos [⟨tg, iter, ifs, 0⟩] pos) newDict false (eval iter X.env) (some (assign (.Name y py) X.env))) _ _ s
  have h : tDc wi (g X.s_0 X.H_0 0 [] []) (tt X.s_0 X.H_0 0 [] []) (tk X.s_0 X.H_0 0 [] []) (tv X.s_0 X.H_0 0 [] []) (own.map (·.2)) σ H (fun x H1 => gName i x σ H1 D.nx) := h
  refine wpAny_bind (thn (dc_core (Qf := fun _ s' => SP X pins D .next s') hc hN I hi ok (fun s H C cl fp => eg s H C cl fp ▸ hg s H C cl fp) (fun s H C cl fp => et s H C cl fp ▸ ht s H C cl fp) (fun s H C cl fp => ek s H C cl fp ▸ hk s H C cl fp) (fun s H C cl fp => ev s H C cl fp ▸ he s H C cl fp) hs h fun L C s' m H' I' q hn f => ?_) fun _ s' hq => wpAny_pure (wpAny_pure hq))
  show wpAny _ _ (assign (.Name y py) X.env (.ref L)) _ _ _
  refine wpAny_assign_Name (store_ok2 (v := V.ref L) I' hN hy (.inl hyl) rfl (fun s2 I2 ⟨a, sb, ha⟩ => ?_) (.inr hyl))
  obtain ⟨f0, f1, f2, f3, f4, f5⟩ := f
  have haC : C ≠ a := by
    rcases ha with z | z
    · rw [z]; exact f1
    · exact fun e => f4 y a z e.symm
  refine ⟨m, hn.sameBut sb haC, fun h3 sb3 => ?_⟩
  exact ⟨_, H', I2.turned (t' := s2.toks) (fun b o hb e => (sb3.2 b hb).trans e) f0 f1 f3 f4 f5, q⟩
end
end BB
/-! an own exception over ValueError whose __init__ begins with super().__init__(..), which is the builtin one -/
namespace BB
open PySem PySem.Spec PyProof.Rows L2
open PySem.W (ksEnv ksFn)
abbrev veI : Value := .builtin "ValueError.__init__"
/-- ValueError.__init__ bound to x -/
abbrev veB (x : Addr) : Obj := { cls := .type "method-wrapper", dict := none, data := .fields #[veI, .ref x], slots := #[] }
theorem ve_type : typeOf veI = pure (.type "wrapper_descriptor") := by
  show builtinType _ = _
  rw [builtinType_eq_fast]; kernel_rfl
theorem ve_nac : (kfb_private% "nameAndClass") veI = (pure (("__init__" : Str), Value.type "ValueError") : Sem (Str × Value)) := by kernel_rfl
section
open PySem.W
variable {prog : Program} {w : World} {M : Model} {A : Around} {E : Value → Shared → Prop} {h : Heap} {g : Array GenState} {d : Drawn} {t : Nat} {os : OsState}
theorem ve_run {x C : Addr} {P : Fin → Shared → Prop} (hin : W.Looks M h (isInstance (.ref x) (.type "ValueError")) true) (hq : P (.done (.ret (.ref h.objs.size))) ⟨h.push (veB x), g, d, t, os⟩) :
    wpAny M A (Builtin.«wrapper_descriptor.__get__» ⟨[veI, .ref x, .ref C], []⟩) P E ⟨h, g, d, t, os⟩ := by
  unfold Builtin.«wrapper_descriptor.__get__»
  refine wpAny_bind (wpAny_of_eq (a := (veI, some (.ref x), some (.ref C))) (by first | rfl | kernel_rfl) ?_)
  show wpAny M A ((kfb_private% "checkInstance") veI (.ref x) >>= fun _ => newFields "method-wrapper" [veI, .ref x] >>= fun r => ret r) P E _
  refine wpAny_bind ?_
  show wpAny M A ((kfb_private% "nameAndClass") veI >>= _) _ E _
  refine wpAny_bind (wpAny_of_eq ve_nac ?_)
  show wpAny M A (isInstance (.ref x) (.type "ValueError") >>= _) _ E _
  refine wpAny_bind (hin.at (KFB.if_not rfl (wpAny_pure ?_)))
  exact wpAny_bind (wpAny_newObj_type (wpAny_pure hq))
theorem ve_ga {so D x C : Addr} {l₀ l : List Value} {K : Frag} {name : Str} {tk : Tok} {Q : Fin → Shared → Prop}
    (hso : h.get? so = some { cls := .type "super", dict := none, data := .fields #[.ref D, .ref x, .ref C], slots := #[] }) (hno : W.Looks (model prog w) h (opaqueClassAbove (.ref C)) none) (hC : W.Looks (model prog w) h (mroOf (.ref C)) l₀) (hl : (l₀.dropWhile (· != .ref D)).drop 1 = l) (X : K.In h)
    (hf : alongIn K name l = some (some veI)) (hxC : x ≠ C) (hn : (name == ("__class__" : Str)) = false) (hin : W.Looks (model prog w) h (isInstance (.ref x) (.type "ValueError")) true) (hq : Q (.done (.ret (.ref h.objs.size))) ⟨h.push (veB x), g, d, t, os⟩) :
    wpAny (model prog w) A (Builtin.«super.__getattribute__» ⟨[.ref so, .str name tk], []⟩) Q E ⟨h, g, d, t, os⟩ := by
  have hlk := ESX.slot_wd.lookup
  have hne : (Value.ref x == Value.ref C) = false := by simp [hxC]
  have hTf := ve_type
  have hTi : Shared.TypeIs ⟨h, g, d, t, os⟩ veI "wrapper_descriptor" := ve_type
  have hdt : ({ cls := .type "super", dict := none, data := .fields #[.ref D, .ref x, .ref C], slots := #[] } : Obj).data = .fields #[.ref D, .ref x, .ref C] := rfl
  have f0 : (#[.ref D, .ref x, .ref C] : Array Value)[0]? = some (.ref D) := rfl
  have f1 : (#[.ref D, .ref x, .ref C] : Array Value)[1]? = some (.ref x) := rfl
  have f2 : (#[.ref D, .ref x, .ref C] : Array Value)[2]? = some (.ref C) := rfl
  unfold Builtin.«super.__getattribute__»
  repeat (first
    | (with_reducible refine wpAny_field hso hdt f0 ?_) | (with_reducible refine wpAny_field hso hdt f1 ?_) | (with_reducible refine wpAny_field hso hdt f2 ?_) | (with_reducible refine ks_wpAny_notOpaque hno ?_)
    | (with_reducible refine Looks.at hC ?_; rw [hl]) | (refine ks_forIn_along X (fun _ _ => rfl) rfl ?_ hf) | (with_reducible refine wpAny_call_entry ESX.slot_wd hTi ESX.entry_wd ?_ (ESX.args_wd _ _ _)) | (with_reducible refine ve_run hin ?_)
    | (with_reducible refine ⟨_, rfl, ?_⟩) | (simp only [hn, hne, Bool.or_false, Bool.false_eq_true, if_false]) | wp_step | dsimp only)
  all_goals exact hq
theorem ve_getMethod {so D x C : Addr} {l₀ l : List Value} {K : Frag} {name : Str} {pl : Sem Bool} {Q : Value × List Value → Shared → Prop}
    (hso : h.get? so = some { cls := .type "super", dict := none, data := .fields #[.ref D, .ref x, .ref C], slots := #[] }) (hno : W.Looks (model prog w) h (opaqueClassAbove (.ref C)) none) (hC : W.Looks (model prog w) h (mroOf (.ref C)) l₀) (hl : (l₀.dropWhile (· != .ref D)).drop 1 = l) (X : K.In h)
    (hf : alongIn K name l = some (some veI)) (hxC : x ≠ C) (hn : (name == ("__class__" : Str)) = false) (hin : W.Looks (model prog w) h (isInstance (.ref x) (.type "ValueError")) true) (hq : Q (.ref h.objs.size, []) ⟨h.push (veB x), g, d, t + 1, os⟩) :
    wpAny (model prog w) A (getMethod (.ref so) name pl) Q E ⟨h, g, d, t, os⟩ := by
  have hlk := F.ks_slot_super_ga.lookup
  have hT : ∀ t', (⟨h, g, d, t', os⟩ : Shared).TypeIs (.ref so) "super" := fun _ => ⟨_, hso, rfl⟩
  unfold getMethod
  refine wpAny_bind (wpAny_specialOf (hT _) hlk ?_)
  show wpAny _ _ (if (Manifest.canonical "super.__getattribute__" != "object.__getattribute__") = true then _ else _) _ _ _
  rw [if_pos F.ks_canon_super_ga]
  unfold getAttr getAttrBy
  refine wpAny_bind (wpAny_bind (wpAny_mkText (wpAny_holding (wpAny_bind (wpAny_typeOf (hT _) (wpAny_bind (wpAny_of_eq hlk ?_)))))))
  show wpAny _ _ (getAttrByItsOwn (.ref so) (.str name t) (.type "super") (.builtin "super.__getattribute__") true false) _ _ _
  unfold getAttrByItsOwn hookBefore callGetattribute boundAndCalled
  refine wpAny_bind (wpAny_of_eq (show (if onTheHeap (.type "super") then typeLookup (.type "super") "__getattr__" else pure none) = pure none from rfl) (wpAny_bind (wpAny_attempt (wpAny_holding ?_))))
  show wpAny _ _ (bindSpecial (.builtin "super.__getattribute__") (.ref so) >>= _) _ _ _
  refine wpAny_bind (wpAny_of_eq (F.ks_slot_super_ga.bind _) ?_)
  refine wpAny_mono (Q := fun v s' => v = .ref h.objs.size ∧ s' = ⟨h.push (veB x), g, d, t + 1, os⟩) (E := fun _ _ => False) (wpAny_call_entry F.ks_slot_super_ga (hT _) F.ks_entry_super_ga (ve_ga hso hno hC hl X hf hxC hn hin ⟨_, rfl, rfl, rfl⟩) (F.ks_gaArgs_super _ _)) (fun v s' hv => ?_) fun _ _ z => z.elim
  obtain ⟨rfl, rfl⟩ := hv
  exact wpAny_pure (wpAny_pure hq)
end
section
open PySem.W PySem.Calls
variable {M : Model} {A : Around} {E : Value → Shared → Prop} {s : Shared}
theorem ve_callWith {pos : Pos} {u x : Addr} {args : List (Bool × Sem Value)} {Q : Value → Shared → Prop} (hplain : args.any (·.1) = false)
    (h : wpAny M A (evalArgs (.ref u) true args []) (fun a s₁ => s₁.heap.get? u = some (veB x) ∧ wpAny M A (call (.ref u) a.pos a.kw) Q E s₁) E s) : wpAny M A (callWith pos (.ref u) [] args []) Q E s := by
  unfold callWith
  refine wpAny_bind (wpAny_holding (wpAny_mono h (fun a s₁ ⟨ho, hcall⟩ => wpAny_bind (wpAny_standAt ?_)) fun _ _ x => x))
  simp only [hplain, List.any_nil, Bool.or_false]
  refine wpAny_bind (m := keeperOf (.ref u)) ?_
  unfold keeperOf
  refine wpAny_bind (wpAny_load ho ?_)
  simp only [veB, show (Value.type "method-wrapper" != Value.type "method") = true by decide, show (Value.type "method-wrapper" == Value.type "builtin_function_or_method" || Value.type "method-wrapper" == Value.type "method-wrapper") = true by decide, if_true]
  exact wpAny_pure (wpAny_bind (wpAny_mono hcall (fun r s₂ hr => wpAny_bind (wpAny_holding (wpAny_point (wpAny_pure hr)))) fun _ _ x => x))
end
section
variable {prog : Program} {w : World} {A : Around} {E : Value → Shared → Prop} {h : Heap} {g : Array GenState} {d : Drawn} {t : Nat} {os : OsState} {nm q : Str} {C N : Addr} {bs bm : List Value} {hdct : Bool} {sn : List Str} {sub : List Value} {ab : Bool} {col : Option Bool} {dd : Option Addr} {k0 k1 k2 k3 k5 : Option Value}
theorem ve_call {u e t0 : Addr} {rest : List Value} {Q : Value → Shared → Prop} (hC : h.get? C = some (excClassObj nm q C N bs bm hdct sn sub ab col dd k0 k1 k2 k3 k5 "ValueError.__new__")) (he : h.get? e = some (HandSPX.excO C t0)) (hu : h.get? u = some (veB e)) (hrest : rest.length ≤ sizeLine)
    (hq : ∀ h' t1, (∀ b o, b ≠ e → h.get? b = some o → h'.get? b = some o) → h'.get? e = some (HandSPX.excO C t1) → Q .none ⟨h', g, d, t, os⟩) : wpAny (model prog w) A (call (.ref u) rest) Q E ⟨h, g, d, t, os⟩ := by
  refine wpAny_call (codeAny_of_tree ?_)
  show wpAny _ A.in1 (callAny (.ref u) ⟨rest, []⟩) _ _ _
  simp only [callAny]
  refine wpAny_bind (wpAny_load hu ?_)
  simp only [veB, show (Value.type "method-wrapper" == Value.type "method" || Value.type "method-wrapper" == Value.type "builtin_function_or_method" || Value.type "method-wrapper" == Value.type "method-wrapper") = true by decide, if_true]
  refine W.KFB.if_so (by decide) (wpAny_bind (ESX.check_bound F.excBase_ValueError hC he rfl (wpAny_bind (wpAny_pure (wpAny_pure ?_)))))
  refine ⟨Code.quiet_builtin _ (by decide +kernel), codeAny_builtin F.excBase_ValueError.initEntry ?_⟩
  rw [Around.under_plainId F.excBase_ValueError.init.plain _]
  wp_walk
  refine hq _ h.objs.size (fun b o hb ho => (Heap.get?_update_other _ _ (Ne.symm hb)).trans (Heap.get?_push_of_some _ ho)) ?_
  rw [Heap.get?_update_self _ (Heap.get?_push_of_some _ he) rfl]
  rfl
end
section
variable {P : Program} {w : World} {K : PySem.W.Frag} {mg : Str → Option Value} {base : Heap}
theorem ve_args {M : Model} {A : Around} {E : Value → Shared → Prop} {s : Shared} {f : Value} {pos : Pos} {args rest : List (Bool × Sem Value)} {x : Sem Value} {Q : Args → Shared → Prop} (he : args = (false, x) :: rest) (h : wpAny M A (spliced (backTo pos args)) (fun vs s' => Q ⟨vs, []⟩ s') E s) : wpAny M A (evalArgs f true (backTo pos args) []) Q E s := by
  subst he
  exact PySem.Calls.evalArgs_plain h
/-- THE RULE for such an exception's __init__ -/
theorem fn_supE {x qual : Str} {params : Arguments} {rest : List Stmt} {scope : Scope} {dvs : List V} {kwd : List (Str × V)} {f D cc : Addr} {fd : FuncData} {N ps : List Str} {k : Nat} {sp : Sp} {p0 p1 apos pos spos : Pos} {e : Expr} {es : List Expr}
    (F : SupF P K x qual params (.Expr (.Call (.Attribute (.Call (.Name "super" p0) [] [] p1) "__init__" apos) (e :: es) [] pos) spos :: rest) scope dvs kwd f D cc fd) (S : SupScope N ps scope) (hp : ((params.posonlyargs ++ params.args).head?.map (·.arg)) = ps.head?) (hbt : (P.main.scope.names.lookup ("super" : Str)).isSome = false)
    (TC : OexC K D) (hm : PySem.W.ks_superIn K D D "__init__" = some (some veI)) (len : ∀ vs H Q E, sp vs H Q E → vs.length = ps.length)
    (hbody : ∀ (cdv : Value) (A : Around) (outer : List Env) (s : Shared) (H : Hp) (vs : List V) (Q : VK) (E : XK), Room k (A.deeper (ksEnv qual scope s.heap.objs.size f cdv cc)) → sp vs H Q E →
      ∃ (y : Addr) (tA : TA) (t : TS), vs.head? = some (.ref y) ∧ H y = some (exo y D none) ∧ PA (cxS P w K mg base N qual scope f cdv cc A outer s H) (e :: es) tA ∧ PSs (cxS P w K mg base N qual scope f cdv cc A outer s H) rest t ∧
        tA (L2.start N vs) H fun zs H1 => H1 y = some (exo y D none) ∧ zs.length ≤ 1000 ∧ t { nx := fun _ H' => Q .non H', rt := Q } (L2.start N vs) H1)
    (hpl : ∀ (cdv : Value) (L : Addr), (backTo pos (starEach (e :: es) (ksEnv qual scope L f cdv cc))).any (·.1) = false)
    (he : ∀ (cdv : Value) (L : Addr), starEach (e :: es) (ksEnv qual scope L f cdv cc) = (false, eval e (ksEnv qual scope L f cdv cc)) :: starEach es (ksEnv qual scope L f cdv cc))
    (hsw : ∀ (cdv : Value) (L : Addr), swapsWith (.Call (.Attribute (.Call (.Name "super" p0) [] [] p1) "__init__" apos) (e :: es) [] pos) none spos.line (ksEnv qual scope L f cdv cc) = pure false)
    {pl : Sem Bool} (hev : ∀ (cdv : Value) (L : Addr), eval (.Call (.Attribute (.Call (.Name "super" p0) [] [] p1) "__init__" apos) (e :: es) [] pos) (ksEnv qual scope L f cdv cc) = (do
      let ov ← attributeBase (.Call (.Name "super" p0) [] [] p1) "__init__" (ksEnv qual scope L f cdv cc) (eval (.Call (.Name "super" p0) [] [] p1) (ksEnv qual scope L f cdv cc))
      standAt apos.atName
      let (fv, first) ← holding [ov] (getMethod ov "__init__" pl)
      callWith pos fv first (backTo pos (starEach (e :: es) (ksEnv qual scope L f cdv cc))) (backToKw pos (keywordEach [] (ksEnv qual scope L f cdv cc))))) :
    FnOk P w K mg base CX0 (k + 1) f fd ps sp := by
  obtain ⟨oc, od, dV, kV, doc, pm, an, cda, ct, osl, ccl, cdd, cvs, ccs, file, tf, rfl, lk, hcd, _, _, lcda, hvs, hfile⟩ := F.ex
  obtain ⟨cl, cld, csl, lcc⟩ := F.cell
  obtain ⟨nm, q, Nc, bs, bm, sn, sub, ab, col, dd, k0, k1, k2, k3, k5, hC, hbm⟩ := TC.cls
  have hcl : PySem.W.clsIn K D = some { name := nm, bases := bs, mro := .ref D :: bm, ns := Nc, qualname := q, hasDict := true, slotNames := sn, subclasses := sub, abstract := ab, collection := col, hasDel := false } := by unfold PySem.W.clsIn; rw [hC] <;> rfl
  refine ⟨len, fun A outer s H args us vs Q E hr e0 hbd r hsp => ?_⟩
  have hl := len _ _ _ _ hsp
  have KX : K.In s.heap := e0.mod.kin.keeps fun b o q => (e0.bs b o q).1
  have lim : s.heap.NoLimit := e0.mod.nolimit.keeps fun b o q => (e0.bs b o q).1
  refine PySem.ks_codeAny_call_defAt (fd := ksFn x qual params _ scope dV kV doc pm an (.ref cda) ct cc) (binds := ps.zip us) hr.depth (KX _ _ lk) rfl lim (PySem.W.codeRec_of KX hcd) rfl hbd S.ncell (fun y hy => S.par _ (List.of_mem_zip hy).1) (fun h₀ hns hk => ?_) S.co S.gen S.kind
  obtain ⟨y, tA, t, hv0, hy, hPA, hPS, hq⟩ := hbody (.ref cda) A outer s H vs Q E (hr.deeper _) hsp
  have I : Inv (cxS P w K mg base N qual scope f (.ref cda) cc A outer s H) [] (L2.start N vs) H { s with heap := h₀, toks := s.toks + (ps.zip us).length } := inv_sup S hr.hd e0 hl r lcc hns hk
  obtain ⟨ar, har, hpn⟩ : ∃ ar : Arg, (params.posonlyargs ++ params.args).head? = some ar ∧ ps.head? = some ar.arg := by
    cases q : (params.posonlyargs ++ params.args).head? with
    | none =>
      rw [q] at hp
      cases hps : ps with
      | nil =>
        rw [hps] at hl
        cases vs with
        | nil => cases hv0
        | cons _ _ => cases hl
      | cons _ _ => rw [hps] at hp; cases hp
    | some ar => rw [q] at hp; exact ⟨ar, rfl, hp.symm⟩
  have hp0 : ps[0]? = some ar.arg := by rw [← List.head?_eq_getElem?]; exact hpn
  have hu0 : us[0]? = some (.ref y) := by
    obtain ⟨u, e1, e2⟩ := r.get (i := 0) (x := .ref y) (by rw [← List.head?_eq_getElem?]; exact hv0)
    rw [e1]
    exact congrArg some e2
  have ndP : ps.Nodup := by rw [← S.pre]; exact S.nd.sublist (List.take_sublist _ _)
  have hself : (fun z => (ps.zip us).reverse.lookup z) ar.arg = some (.ref y) := zip_rev_get ndP hp0 hu0 (by rw [← hl, r.length])
  obtain ⟨t1, hoy⟩ := exo_at I.hok hy
  have J : PySem.W.InstAt h₀ y { cls := .ref D, dict := none, data := .fields #[.ref t1, .none, .none, .none, .bool false, .none] } D none := ⟨hoy, rfl, rfl, trivial⟩
  have I0 := I
  have KX0 : K.In h₀ := I.kIn
  have hD1 := KX0 _ _ hC
  obtain ⟨mb, hmb, hmbs⟩ : ∃ mb, h₀.Ns builtinsNs mb ∧ mb ("super" : Str) = some (.type "super") := by
    obtain ⟨mb, h1, h2⟩ := I.mod.blt
    exact ⟨mb, h1.keeps I.bk, (h2 "super" (by decide +kernel)).trans (by decide +kernel)⟩
  refine PySem.ks_wpAt_mono (Q := SP (cxS P w K mg base N qual scope f (.ref cda) cc A outer s H) [] { nx := fun _ H' => Q .non H', rt := Q }) (E := fun _ _ => False) ?_ (fun fl s' hs => ?_) fun _ _ z => z.elim
  · refine PySem.ks_wpAt_execs_cons (PySem.ks_wpAt_Expr_any (wpAt_MethodCallK (pl := pl) ?_ (hev _ _)) I.quiet (hsw _ _))
    refine PySem.ks_wpAt_super_base (env := ksEnv qual scope s.heap.objs.size f (.ref cda) cc) S.sup S.cls (by decide +kernel) rfl (KX0 _ _ lk) rfl har rfl (KX0 _ _ lcda) rfl hvs hfile hbt ?_
    refine PySem.W.ks_loadName_global S.kind S.sup (PySem.Calls.loadGlobal_builtin (env := ksEnv qual scope s.heap.objs.size f (.ref cda) cc) (I.mod.glob.keeps I.bk) (PySem.W.mg_none_of I.mod.kin I.mod.glob F.sup) hmb hmbs ⟨rfl, ?_⟩)
    refine wpAny_loadName_free S.kind S.cls rfl ⟨_, KX0 _ _ lcc, rfl⟩ ?_
    refine wpAny_loadName_local S.kind (S.par _ (List.mem_of_getElem? hp0)) hns hself ?_
    refine PySem.ks_wpAny_isType_cls hD1 rfl ⟨rfl, ?_⟩
    refine PySem.ks_wpAny_call_super hD1 rfl J.at_ J.cls (fun c e => ?_) (PySem.W.looks_mroIn KX0 F.sub) (fun h' e1 k1 => ?_)
    · cases e
    have I1 : Inv (cxS P w K mg base N qual scope f (.ref cda) cc A outer s H) [] (L2.start N vs) H { s with heap := h', toks := s.toks + (ps.zip us).length } := I.kept (h' := h') (t' := s.toks + (ps.zip us).length) k1
    have KX1 : K.In h' := I1.kIn
    have J1 : PySem.W.InstAt h' y { cls := .ref D, dict := none, data := .fields #[.ref t1, .none, .none, .none, .bool false, .none] } D none := ⟨k1 _ _ hoy, rfl, rfl, trivial⟩
    have hm' : PySem.W.alongIn K "__init__" (((Value.ref D :: bm).dropWhile (· != .ref D)).drop 1) = some (some veI) := by
      have q := hm
      unfold PySem.W.ks_superIn at q
      rw [hcl] at q
      exact q
    have hin : PySem.W.Looks (model P w) h' (isInstance (.ref y) (.type "ValueError")) true := J1.type.andThen (PySem.W.looks_mroIn KX1 (by
      unfold PySem.W.mroIn
      have hb : (Value.ref D :: bm).contains (.type "ValueError") = true := (PySem.HandSPX.refsVE_contains "ValueError" (.ref D :: bm) hbm).trans (by decide +kernel)
      rw [hcl, Option.bind_some, if_neg (by exact Bool.false_ne_true), hb]))
    refine ve_getMethod e1 (PySem.W.looks_opaque KX1 F.nop) (l₀ := .ref D :: bm) (fun A Q E s k q => wpAny_bind ((PySem.W.looks_clsIn KX1 hcl) A _ E s k (wpAny_pure q))) rfl KX1 hm' (PySem.W.ks_ne KX0 J hcl) (by decide +kernel) hin ?_
    have I2 := ClX.pin_new (o := veB y) (h' := h'.push (veB y)) (a := h'.objs.size) (t' := s.toks + (ps.zip us).length + 1) I1 (fun b u q => Heap.get?_push_of_some _ q) (Nat.le_refl _) (Heap.get?_push_size _ rfl) (fun v q => by cases q)
    refine ve_callWith (x := y) (hpl _ _) ?_
    refine ve_args (he _ _) ?_
    refine thn (hPA.run pos _ _ _ _ _ I2 hq) fun zs' s3 ⟨zs, H3, I3, rz, hy3, hz3, q3⟩ => ⟨ClX.pin_at I3, ?_⟩
    obtain ⟨t3, ho3⟩ := exo_at I3.hok hy3
    have hline : zs'.length ≤ sizeLine := by rw [← rz.length, sizeLine_eq]; omega
    obtain ⟨hp3, g3, d3, tk3, os3⟩ := s3
    refine ve_call (I3.kIn _ _ hC) ho3 (ClX.pin_at I3) hline fun h4 t4 k4 hx4 => ?_
    have J4 := (ClX.unpin I3).write (t' := tk3) (x := y) (e := y) (o := exo y D none) (by rw [hy3]; exact True.intro) (.inl rfl) k4 ⟨_, hx4⟩ (exo_ok hx4)
    have eu : upd H3 y (exo y D none) = H3 := by
      funext b
      by_cases hb : b = y
      · rw [hb, upd_same, hy3]
      · rw [upd_ne hb]
    rw [eu] at J4
    exact PySem.wpAt_of_wpAny (hPS.run [] _ _ H3 _ J4 q3)
  · have fin : ∀ {σ' : L2.St} {H' : Hp} {v : V} {u : Value}, Inv (cxS P w K mg base N qual scope f (.ref cda) cc A outer s H) [] σ' H' s' → RelV v u → Q v H' → CE outer P w H s Q u s' :=
      fun {σ' H' v u} J rv q => ⟨v, H', J.os, J.bare, J.base, J.hok, rv, q⟩
    cases fl with
    | ret u =>
      obtain ⟨v, σ', H', J, rv, q⟩ := hs
      exact fin J rv q
    | next =>
      obtain ⟨σ', H', J, q⟩ := hs
      exact fin (v := V.non) (u := Value.none) J rfl q
    | brk =>
      obtain ⟨_, _, _, q⟩ := hs
      exact False.elim q
    | cont =>
      obtain ⟨_, _, _, q⟩ := hs
      exact False.elim q
end
end BB
namespace BB
open PySem PySem.Spec PyProof.Rows L2 He
open Evl (Ex)
/-! ### fields -/
/-- a field of an instance -/
def Fd (K : PySem.W.Frag) (H : Hp) (a : Addr) (f : Str) (v : V) : Prop := ∃ C dx fs, H a = some (.ins C dx fs) ∧ Cls K C ∧ NoAttr K C f ∧ fs.lookup f = some v
theorem Fd.mono {K : PySem.W.Frag} {H H' : Hp} {a : Addr} {f : Str} {v : V} (h : Fd K H a f v) (e : Ex H H') : Fd K H' a f v := by
  obtain ⟨C, dx, fs, h1, h2⟩ := h
  exact ⟨C, dx, fs, e _ _ h1, h2⟩
def tF (K : PySem.W.Frag) (ta : TE) (f : Str) : TE := fun σ H Q => ta σ H fun x H1 => ∃ a v, x = .ref a ∧ Fd K H1 a f v ∧ Q v H1
/-- the rules' names, shorter -/
structure PrR (P : Program) (w : World) (K : PySem.W.Frag) (mg : Str → Option Value) (base : Heap) (k : Nat) (C : Addr) (f : Str) (sp : Sp) : Prop where
  ex : ∃ (p g : Addr) (fd : FuncData) (ps : List Str), PropOf K C f p g ∧ FnOk P w K mg base CX0 k g fd ps sp ∧ Binds K fd ps []
/-- C(.., k = v, ..) -/
structure KCtor (P : Program) (w : World) (K : PySem.W.Frag) (mg : Str → Option Value) (base : Heap) (k : Nat) (x : Str) (n : Nat) (ks : List Str) (sp : List V → List V → Hp → VK → Prop) : Prop where
  ex : ∃ (C f : Addr) (fd : FuncData) (ps : List Str) (spI : Sp) (g : List Value → List Value → List Value) (gV : List V → List V → List V), Mk K C f ∧ mg x = some (.ref C) ∧ FnOk P w K mg base CX0 k f fd ps spI ∧ KBn K fd ps (n + 1) ks g gV ∧
    ∀ vs zs H Q, sp vs zs H Q → ∀ y dx, H y = none → H dx = none → dx ≠ y → spI (gV (.ref y :: vs) zs) (upd (upd H dx (.own y)) y (.ins C dx [])) (fun v H2 => v = .non ∧ Q (.ref y) H2) E0
def tKC (n m : Nat) (sp : List V → List V → Hp → VK → Prop) (t tk : TA) : TE := fun σ H Q => t σ H fun vs H1 => tk σ H1 fun zs H2 => vs.length = n ∧ zs.length = m ∧ sp vs zs H2 Q
section
variable {X : Cx} {e o : Expr} {es : List Expr} {kws : List Keyword} {pos apos p : Pos} {ta tv : TE} {t tk : TA} {f x m : Str} {k n : Nat} {ks : List Str} {sp : Sp} {C : Addr} {spk : List V → List V → Hp → VK → Prop}
theorem pe_f (he : PE X e ta) (hb : attributeBase e f X.env (eval e X.env) = eval e X.env := by rfl) : PE X (.Attribute e f pos) (tF X.K ta f) := by
  refine ⟨fun pins s σ H Q I h => ?_⟩
  refine attr_of hb (thn (he.run pins s σ H _ I h) fun u s1 ⟨x, H1, I1, rx, a, v, ex, ⟨C, dx, fs, ea, c, n, l⟩, q⟩ => ?_)
  subst ex
  obtain rfl : u = Value.ref a := rx
  exact getattr_ok I1 ea c n l fun u' s2 I2 ru => ⟨v, H1, I2, ru, q⟩
theorem pe_gi {i : Int} (h : ∃ t, X.mg x = some (.int i t)) (hg : Gl X x := by rfl) (hd : (x == ("__debug__" : Str)) = false := by decide) : PE X (.Name x pos) (tC (.int i)) := by
  obtain ⟨t, h⟩ := h
  exact pe_glob hg h ⟨t, rfl⟩ hd
theorem pe_gs {z : Str} (h : ∃ t, X.mg x = some (.str z t)) (hg : Gl X x := by rfl) (hd : (x == ("__debug__" : Str)) = false := by decide) : PE X (.Name x pos) (tC (.str z)) := by
  obtain ⟨t, h⟩ := h
  exact pe_glob hg h ⟨t, rfl⟩ hd
theorem pe_gr {a : Addr} (h : X.mg x = some (.ref a)) (hg : Gl X x := by rfl) (hd : (x == ("__debug__" : Str)) = false := by decide) : PE X (.Name x pos) (tC (.ref a)) := pe_glob hg h rfl hd
theorem pe_pr (c : Cls X.K C) (h : PrR X.prog X.w X.K X.mg X.base k C f sp) (hr : Room (k + 1) X.A) (he : PE X e ta) (hab : attributeBase e f X.env (eval e X.env) = eval e X.env := by rfl) : PE X (.Attribute e f pos) (tProp C sp [] E0 ta) := by
  obtain ⟨p, g, fd, ps, h1, h2, h3⟩ := h.ex
  exact pe_prop he c h1 h2 hr h3 .nil pass0 hab
theorem pe_kc (h : KCtor X.prog X.w X.K X.mg X.base k x n ks spk) (hr : Room (k + 1) X.A) (ha : PA X (e :: es) t) (hkw : PK X kws tk) (hg : Gl X x := by rfl)
    (hall : (backToKw pos (keywordEach kws X.env)).all (·.1.isSome) = true := by rfl) (hks : (backToKw pos (keywordEach kws X.env)).filterMap (·.1) = ks := by rfl) (hdb : (x == ("__debug__" : Str)) = false := by decide)
    (he : starEach (e :: es) X.env = (false, eval e X.env) :: starEach es X.env := by rfl) (hpl : ((backTo pos (starEach (e :: es) X.env)).any (·.1) || (backToKw pos (keywordEach kws X.env)).any (·.1.isNone)) = false := by rfl) :
    PE X (.Call (.Name x p) (e :: es) kws pos) (tKC n ks.length spk t tk) := by
  obtain ⟨C, f, fd, ps, spI, g, gV, M, hm, F, hb, im⟩ := h.ex
  refine ⟨fun pins s σ H Q I h => ?_⟩
  refine wpAny_Call_Name_kw (ld_glob I hg hm ?_ hdb)
  refine PySem.W.callWith_KW (h₀ := X.base) I.ok.mod.kin M.kp hall (thn (ha.run pos pins s σ H _ I h) fun us s1 ⟨vs, H1, I1, r, q⟩ => ?_) hpl he
  refine thn (hkw.run pos pins s1 σ H1 _ I1 q) fun ws s2 ⟨zs, H2, I2, rz, l1, l2, q2⟩ => ⟨I2.kIn, ?_⟩
  rw [hks]
  exact run_makeK M F hr hb pass0 I2 r rz l1 l2 (im vs zs H2 Q q2)
end
/-! ### defs by their bodies, one to eight parameters -/
section
variable {P : Program} {w : World} {K : PySem.W.Frag} {mg : Str → Option Value} {base : Heap}
/-- a def, all its parameters written by place -/
theorem mkF {x qual : Str} {params : Arguments} {body : List Stmt} {scope : Scope} {dvs : List V} {kws : List (Str × V)} {f : Addr} {N ps : List Str} {k : Nat} {sp : Sp} (F : ∃ fd, FunD K x qual params body scope dvs kws f fd ∧ Binds K fd ps []) (S : FnScope N ps scope)
    (len : ∀ vs H Q E, sp vs H Q E → vs.length = ps.length)
    (hbody : ∀ (cdv : Value) (A : Around) (outer : List Env) (s : Shared) (H : Hp) (vs : List V) (Q : VK) (E : XK), Room k (A.deeper (envOfC qual scope s.heap.objs.size f cdv)) → sp vs H Q E →
      ∃ t, PSs (cxOf CX0 P w K mg base N qual scope f cdv A outer s H E).nox body t ∧ t { nx := fun _ H' => Q .non H', rt := Q } (start N vs) H) : FnR P w K mg base CX0 (k + 1) f sp := by
  obtain ⟨fd, F, b⟩ := F
  have G : FnOk P w K mg base CX0 (k + 1) f fd ps sp := F.ok S len fun cdv A outer s H vs Q E hr h => by
    obtain ⟨t, h1, h2⟩ := hbody cdv A outer s H vs Q E hr h
    exact ⟨t, PSs.nox h1, h2⟩
  have R := G.raw b .nil
  exact R.imp fun vs H Q E h => by rw [List.append_nil]; exact h
/-- a def without defaults -/
theorem bn {x qual : Str} {params : Arguments} {body : List Stmt} {scope : Scope} {f : Addr} {ps : List Str} (F : ∃ fd, FunD K x qual params body scope [] [] f fd)
    (h : ∀ (kV doc pm : Value) (an : Option Addr) (cdv ct : Value) (us : List Value), us.length = ps.length → bindArgs (PySem.W.fnOf x qual params body scope .none kV doc pm an cdv ct) ⟨us, []⟩ = pure (ps.zip us)) :
    ∃ fd, FunD K x qual params body scope [] [] f fd ∧ Binds K fd ps [] := by
  obtain ⟨fd, F⟩ := F
  exact ⟨fd, F, F.bindsN h⟩
/-- .. with one, two defaults, all written -/
theorem bd {x qual : Str} {params : Arguments} {body : List Stmt} {scope : Scope} {dvs : List V} {f : Addr} {ps : List Str} (F : ∃ fd, FunD K x qual params body scope dvs [] f fd) (hd : dvs ≠ [])
    (h : ∀ (T : Addr) (kV doc pm : Value) (an : Option Addr) (cdv ct : Value) (us its : List Value), us.length = ps.length → its.length = dvs.length →
      ∃ k, bindArgs (PySem.W.fnOf x qual params body scope (.ref T) kV doc pm an cdv ct) ⟨us, []⟩ = seqItems? (.ref T) >>= k ∧ k (some its.toArray) = pure (ps.zip (us ++ its.drop dvs.length))) :
    ∃ fd, FunD K x qual params body scope dvs [] f fd ∧ Binds K fd ps [] := by
  obtain ⟨fd, F⟩ := F
  obtain ⟨ds, h1, h2⟩ := F.binds1 ps.length dvs.length hd (by omega) h
  rw [List.drop_length] at h1
  cases h1
  exact ⟨fd, F, h2⟩
/-- a property's getter -/
theorem mkP {x qual : Str} {params : Arguments} {body : List Stmt} {scope : Scope} {f C p : Addr} {m : Str} {N : List Str} {k : Nat} {q : V → Hp → VK → Prop} (hp : PropOf K C m p f) (F : ∃ fd, FunD K x qual params body scope [] [] f fd ∧ Binds K fd ["self"] []) (S : FnScope N ["self"] scope)
    (hbody : ∀ (cdv : Value) (A : Around) (outer : List Env) (s : Shared) (H : Hp) (a : V) (Q : VK) (E : XK), Room k (A.deeper (envOfC qual scope s.heap.objs.size f cdv)) → q a H Q →
      ∃ t, PSs (cxOf CX0 P w K mg base N qual scope f cdv A outer s H E).nox body t ∧ t { nx := fun _ H' => Q .non H', rt := Q } (some a :: List.replicate (N.length - 1) none) H) : PrR P w K mg base (k + 1) C m (fun vs H Q _ => ∃ a, vs = [a] ∧ q a H Q) := by
  obtain ⟨fd, F, b⟩ := F
  refine ⟨p, f, fd, ["self"], hp, F.ok S (fun vs H Q E h => ?_) fun cdv A outer s H vs Q E hr h => ?_, b⟩
  · obtain ⟨a, rfl, _⟩ := h
    rfl
  · obtain ⟨a, rfl, h⟩ := h
    obtain ⟨t, h1, h2⟩ := hbody cdv A outer s H a Q E hr h
    exact ⟨t, PSs.nox h1, h2⟩
end
def S1 (p : V → Hp → VK → Prop) : Sp := fun vs H Q _ => ∃ a, vs = [a] ∧ p a H Q
def S2 (p : V → V → Hp → VK → Prop) : Sp := fun vs H Q _ => ∃ a b, vs = [a, b] ∧ p a b H Q
def S3 (p : V → V → V → Hp → VK → Prop) : Sp := fun vs H Q _ => ∃ a b c, vs = [a, b, c] ∧ p a b c H Q
def S4 (p : V → V → V → V → Hp → VK → Prop) : Sp := fun vs H Q _ => ∃ a b c d, vs = [a, b, c, d] ∧ p a b c d H Q
def S5 (p : V → V → V → V → V → Hp → VK → Prop) : Sp := fun vs H Q _ => ∃ a b c d e, vs = [a, b, c, d, e] ∧ p a b c d e H Q
def S6 (p : V → V → V → V → V → V → Hp → VK → Prop) : Sp := fun vs H Q _ => ∃ a b c d e f, vs = [a, b, c, d, e, f] ∧ p a b c d e f H Q
def S7 (p : V → V → V → V → V → V → V → Hp → VK → Prop) : Sp := fun vs H Q _ => ∃ a b c d e f g, vs = [a, b, c, d, e, f, g] ∧ p a b c d e f g H Q
def S8 (p : V → V → V → V → V → V → V → V → Hp → VK → Prop) : Sp := fun vs H Q _ => ∃ a b c d e f g h, vs = [a, b, c, d, e, f, g, h] ∧ p a b c d e f g h H Q
section
variable {P : Program} {w : World} {K : PySem.W.Frag} {mg : Str → Option Value} {base : Heap} {x qual : Str} {params : Arguments} {body : List Stmt} {scope : Scope} {dvs : List V} {kws : List (Str × V)} {fa : Addr} {N ps : List Str} {k : Nat}
theorem mkS1 {p : V → Hp → VK → Prop} (F : ∃ fd, FunD K x qual params body scope dvs kws fa fd ∧ Binds K fd ps []) (S : FnScope N ps scope)
    (hbody : ∀ (cdv : Value) (A : Around) (outer : List Env) (s : Shared) (H : Hp) (a : V) (Q : VK) (E : XK), Room k (A.deeper (envOfC qual scope s.heap.objs.size fa cdv)) → p a H Q →
      ∃ t, PSs (cxOf CX0 P w K mg base N qual scope fa cdv A outer s H E).nox body t ∧ t { nx := fun _ H' => Q .non H', rt := Q } (some a :: List.replicate (N.length - 1) none) H) (hn : ps.length = 1 := by rfl) : FnR P w K mg base CX0 (k + 1) fa (S1 p) :=
  mkF F S (fun vs H Q E q => by
    obtain ⟨a, rfl, _⟩ := q
    exact hn.symm) fun cdv A outer s H vs Q E hr q => by
    obtain ⟨a, rfl, q⟩ := q
    exact hbody cdv A outer s H a Q E hr q
theorem mkS2 {p : V → V → Hp → VK → Prop} (F : ∃ fd, FunD K x qual params body scope dvs kws fa fd ∧ Binds K fd ps []) (S : FnScope N ps scope)
    (hbody : ∀ (cdv : Value) (A : Around) (outer : List Env) (s : Shared) (H : Hp) (a b : V) (Q : VK) (E : XK), Room k (A.deeper (envOfC qual scope s.heap.objs.size fa cdv)) → p a b H Q →
      ∃ t, PSs (cxOf CX0 P w K mg base N qual scope fa cdv A outer s H E).nox body t ∧ t { nx := fun _ H' => Q .non H', rt := Q } (some a :: some b :: List.replicate (N.length - 2) none) H) (hn : ps.length = 2 := by rfl) : FnR P w K mg base CX0 (k + 1) fa (S2 p) :=
  mkF F S (fun vs H Q E q => by
    obtain ⟨a, b, rfl, _⟩ := q
    exact hn.symm) fun cdv A outer s H vs Q E hr q => by
    obtain ⟨a, b, rfl, q⟩ := q
    exact hbody cdv A outer s H a b Q E hr q
theorem mkS3 {p : V → V → V → Hp → VK → Prop} (F : ∃ fd, FunD K x qual params body scope dvs kws fa fd ∧ Binds K fd ps []) (S : FnScope N ps scope)
    (hbody : ∀ (cdv : Value) (A : Around) (outer : List Env) (s : Shared) (H : Hp) (a b c : V) (Q : VK) (E : XK), Room k (A.deeper (envOfC qual scope s.heap.objs.size fa cdv)) → p a b c H Q →
      ∃ t, PSs (cxOf CX0 P w K mg base N qual scope fa cdv A outer s H E).nox body t ∧ t { nx := fun _ H' => Q .non H', rt := Q } (some a :: some b :: some c :: List.replicate (N.length - 3) none) H) (hn : ps.length = 3 := by rfl) : FnR P w K mg base CX0 (k + 1) fa (S3 p) :=
  mkF F S (fun vs H Q E q => by
    obtain ⟨a, b, c, rfl, _⟩ := q
    exact hn.symm) fun cdv A outer s H vs Q E hr q => by
    obtain ⟨a, b, c, rfl, q⟩ := q
    exact hbody cdv A outer s H a b c Q E hr q
theorem mkS4 {p : V → V → V → V → Hp → VK → Prop} (F : ∃ fd, FunD K x qual params body scope dvs kws fa fd ∧ Binds K fd ps []) (S : FnScope N ps scope)
    (hbody : ∀ (cdv : Value) (A : Around) (outer : List Env) (s : Shared) (H : Hp) (a b c d : V) (Q : VK) (E : XK), Room k (A.deeper (envOfC qual scope s.heap.objs.size fa cdv)) → p a b c d H Q →
      ∃ t, PSs (cxOf CX0 P w K mg base N qual scope fa cdv A outer s H E).nox body t ∧ t { nx := fun _ H' => Q .non H', rt := Q } (some a :: some b :: some c :: some d :: List.replicate (N.length - 4) none) H) (hn : ps.length = 4 := by rfl) : FnR P w K mg base CX0 (k + 1) fa (S4 p) :=
  mkF F S (fun vs H Q E q => by
    obtain ⟨a, b, c, d, rfl, _⟩ := q
    exact hn.symm) fun cdv A outer s H vs Q E hr q => by
    obtain ⟨a, b, c, d, rfl, q⟩ := q
    exact hbody cdv A outer s H a b c d Q E hr q
theorem mkS5 {p : V → V → V → V → V → Hp → VK → Prop} (F : ∃ fd, FunD K x qual params body scope dvs kws fa fd ∧ Binds K fd ps []) (S : FnScope N ps scope)
    (hbody : ∀ (cdv : Value) (A : Around) (outer : List Env) (s : Shared) (H : Hp) (a b c d e : V) (Q : VK) (E : XK), Room k (A.deeper (envOfC qual scope s.heap.objs.size fa cdv)) → p a b c d e H Q →
      ∃ t, PSs (cxOf CX0 P w K mg base N qual scope fa cdv A outer s H E).nox body t ∧ t { nx := fun _ H' => Q .non H', rt := Q } (some a :: some b :: some c :: some d :: some e :: List.replicate (N.length - 5) none) H) (hn : ps.length = 5 := by rfl) : FnR P w K mg base CX0 (k + 1) fa (S5 p) :=
  mkF F S (fun vs H Q E q => by
    obtain ⟨a, b, c, d, e, rfl, _⟩ := q
    exact hn.symm) fun cdv A outer s H vs Q E hr q => by
    obtain ⟨a, b, c, d, e, rfl, q⟩ := q
    exact hbody cdv A outer s H a b c d e Q E hr q
theorem mkS6 {p : V → V → V → V → V → V → Hp → VK → Prop} (F : ∃ fd, FunD K x qual params body scope dvs kws fa fd ∧ Binds K fd ps []) (S : FnScope N ps scope)
    (hbody : ∀ (cdv : Value) (A : Around) (outer : List Env) (s : Shared) (H : Hp) (a b c d e f : V) (Q : VK) (E : XK), Room k (A.deeper (envOfC qual scope s.heap.objs.size fa cdv)) → p a b c d e f H Q →
      ∃ t, PSs (cxOf CX0 P w K mg base N qual scope fa cdv A outer s H E).nox body t ∧ t { nx := fun _ H' => Q .non H', rt := Q } (some a :: some b :: some c :: some d :: some e :: some f :: List.replicate (N.length - 6) none) H) (hn : ps.length = 6 := by rfl) : FnR P w K mg base CX0 (k + 1) fa (S6 p) :=
  mkF F S (fun vs H Q E q => by
    obtain ⟨a, b, c, d, e, f, rfl, _⟩ := q
    exact hn.symm) fun cdv A outer s H vs Q E hr q => by
    obtain ⟨a, b, c, d, e, f, rfl, q⟩ := q
    exact hbody cdv A outer s H a b c d e f Q E hr q
theorem mkS7 {p : V → V → V → V → V → V → V → Hp → VK → Prop} (F : ∃ fd, FunD K x qual params body scope dvs kws fa fd ∧ Binds K fd ps []) (S : FnScope N ps scope)
    (hbody : ∀ (cdv : Value) (A : Around) (outer : List Env) (s : Shared) (H : Hp) (a b c d e f g : V) (Q : VK) (E : XK), Room k (A.deeper (envOfC qual scope s.heap.objs.size fa cdv)) → p a b c d e f g H Q →
      ∃ t, PSs (cxOf CX0 P w K mg base N qual scope fa cdv A outer s H E).nox body t ∧ t { nx := fun _ H' => Q .non H', rt := Q } (some a :: some b :: some c :: some d :: some e :: some f :: some g :: List.replicate (N.length - 7) none) H) (hn : ps.length = 7 := by rfl) : FnR P w K mg base CX0 (k + 1) fa (S7 p) :=
  mkF F S (fun vs H Q E q => by
    obtain ⟨a, b, c, d, e, f, g, rfl, _⟩ := q
    exact hn.symm) fun cdv A outer s H vs Q E hr q => by
    obtain ⟨a, b, c, d, e, f, g, rfl, q⟩ := q
    exact hbody cdv A outer s H a b c d e f g Q E hr q
theorem mkS8 {p : V → V → V → V → V → V → V → V → Hp → VK → Prop} (F : ∃ fd, FunD K x qual params body scope dvs kws fa fd ∧ Binds K fd ps []) (S : FnScope N ps scope)
    (hbody : ∀ (cdv : Value) (A : Around) (outer : List Env) (s : Shared) (H : Hp) (a b c d e f g h : V) (Q : VK) (E : XK), Room k (A.deeper (envOfC qual scope s.heap.objs.size fa cdv)) → p a b c d e f g h H Q →
      ∃ t, PSs (cxOf CX0 P w K mg base N qual scope fa cdv A outer s H E).nox body t ∧ t { nx := fun _ H' => Q .non H', rt := Q } (some a :: some b :: some c :: some d :: some e :: some f :: some g :: some h :: List.replicate (N.length - 8) none) H) (hn : ps.length = 8 := by rfl) : FnR P w K mg base CX0 (k + 1) fa (S8 p) :=
  mkF F S (fun vs H Q E q => by
    obtain ⟨a, b, c, d, e, f, g, h, rfl, _⟩ := q
    exact hn.symm) fun cdv A outer s H vs Q E hr q => by
    obtain ⟨a, b, c, d, e, f, g, h, rfl, q⟩ := q
    exact hbody cdv A outer s H a b c d e f g h Q E hr q
end
end BB
/-! defs that raise, and what a handler says of what it holds -/
namespace BB
open PySem PySem.Spec PyProof.Rows L2
section
variable {P : Program} {w : World} {K : PySem.W.Frag} {mg : Str → Option Value} {base : Heap}
/-- a def that may raise -/
theorem mkX {x qual : Str} {params : Arguments} {body : List Stmt} {scope : Scope} {dvs : List V} {kws : List (Str × V)} {f : Addr} {N ps : List Str} {k : Nat} {sp : Sp} (F : ∃ fd, FunD K x qual params body scope dvs kws f fd ∧ Binds K fd ps []) (S : FnScope N ps scope)
    (len : ∀ vs H Q E, sp vs H Q E → vs.length = ps.length)
    (hbody : ∀ (cdv : Value) (A : Around) (outer : List Env) (s : Shared) (H : Hp) (vs : List V) (Q : VK) (E : XK), Room k (A.deeper (envOfC qual scope s.heap.objs.size f cdv)) → sp vs H Q E →
      ∃ t, PSs (cxOf (L2.CX P w) P w K mg base N qual scope f cdv A outer s H E) body t ∧ t { nx := fun _ H' => Q .non H', rt := Q } (start N vs) H) : FnR P w K mg base (L2.CX P w) (k + 1) f sp := by
  obtain ⟨fd, F, b⟩ := F
  have R := (F.ok (CX := L2.CX P w) S len hbody).raw b .nil
  exact R.imp fun vs H Q E h => by rw [List.append_nil]; exact h
end
/-- f(e, ..), f a def that may raise; E: what is wished then -/
def tFnX (sp : Sp) (E : L2.St → XK) (t : TA) : TE := fun σ H Q => t σ H fun vs H1 => sp vs H1 Q (E σ)
section
variable {X : Cx} {k : Nat} {f D a : Addr} {sp : Sp} {E : L2.St → XK} {x : Str} {p pos : Pos} {e : Expr} {es : List Expr} {t : TA} {oe : Obj} {pn : List (Addr × Obj)}
theorem pe_fnX (F : FnR X.prog X.w X.K X.mg X.base (L2.CX X.prog X.w) k f sp) (hr : Room k X.A) (hk : PySem.W.keepIn X.K (.ref f) = true) (hm : X.mg x = some (.ref f)) (hx : ∀ σ, PassesAt (L2.CX X.prog X.w) X σ (E σ)) (ha : PA X (e :: es) t) (hg : Gl X x := by rfl)
    (hdb : (x == ("__debug__" : Str)) = false := by decide) (he : starEach (e :: es) X.env = (false, eval e X.env) :: starEach es X.env := by rfl) (hpl : (backTo pos (starEach es X.env)).any (·.1) = false := by rfl) :
    PE X (.Call (.Name x p) (e :: es) [] pos) (tFnX sp E t) := by
  refine ⟨fun pins s σ H Q I h => wpAny_Call_Name_kw (ld_glob I hg hm ?_ hdb)⟩
  refine PySem.W.callWith_K (h₀ := X.base) I.ok.mod.kin hk (thn (ha.run pos pins s σ H _ I h) fun us s1 ⟨vs, H1, I1, r, q⟩ => ⟨I1.kIn, wpAny_call ?_⟩) he hpl
  refine codeAny_mono (F X.A X.stack s1 H1 us vs Q (E σ) hr I1.env0 r q) fun rr s' hq => ?_
  cases rr with
  | error er => exact hx σ pins H1 s1 er s' I1 hq
  | ok fl =>
    cases fl with
    | ret u => exact I1.after hq
    | next => exact False.elim hq
    | brk => exact False.elim hq
    | cont => exact False.elim hq
/-- what the class at C must say, so that isinstance asks its instances rightly -/
structure EcC (K : PySem.W.Frag) (C : Addr) : Prop where
  hd : PySem.W.hasDictIn K C = true
  ga : PySem.W.findIn K (.ref C) "__getattribute__" = some (some (.builtin "BaseException.__getattribute__"))
  gg : PySem.W.findIn K (.ref C) "__getattr__" = some none
  ex : PySem.W.subIn K (.ref C) (.type "BaseException") = some true
  cl : PySem.W.findIn K (.ref C) "__class__" = some (some (.builtin "object.__class__"))
  gt : PySem.W.specialIn K (.builtin "object.__class__") "__get__" = some (some (.builtin "getset_descriptor.__get__"))
  tk : PySem.W.takesIn K (.builtin "object.__class__") = some true
  ob : PySem.W.mroIn K C (.type "object") = some true
/-- isinstance(e, c), e the exception that the suite holds at a, with a dict -/
def rIsX (K : PySem.W.Frag) (C a : Addr) (cls : Value) (d : Option Addr) : List V → Hp → VK → Prop := fun xs H Q => ∃ (c : V) (u : Value) (b : Bool) (dd : Addr) (fs : List (Str × V)), xs = [.ref a, c] ∧ cls = .ref C ∧ d = some dd ∧ H dd = some (.xd fs) ∧ ClsV c u ∧ PySem.W.kitOne K (.ref C) u = some b ∧ Q (.bl b) H
/-- isinstance(e, (c1, c2, ..)) -/
def rIsXT (K : PySem.W.Frag) (C a : Addr) (cls : Value) (d : Option Addr) : List V → Hp → VK → Prop := fun xs H Q => ∃ (tp : Addr) (cs : List V) (us : List Value) (b : Bool) (dd : Addr) (fs : List (Str × V)), xs = [.ref a, .ref tp] ∧ cls = .ref C ∧ d = some dd ∧ H dd = some (.xd fs) ∧ H tp = some (.tup cs) ∧ Paired ClsV cs us ∧ PySem.W.kitAny K (.ref C) us = some b ∧ Q (.bl b) H
theorem heldAt {C dd : Addr} {fs : List (Str × V)} {pins : List (Addr × Obj)} {σ : L2.St} {H : Hp} {s : Shared} (I : Inv (X.suite a ((a, oe) :: pn)) pins σ H s) (hz : Zc (.ref C) (some dd) oe) (hf : ∃ vs, oe.data = .fields vs) (hd : H dd = some (.xd fs)) :
    ∃ od, PySem.W.InstAt s.heap a oe C (some od) := by
  obtain ⟨ha, _⟩ := I.pin (a, oe) (List.mem_append_left _ List.mem_cons_self)
  obtain ⟨vs, hv⟩ := hf
  have hx : ObjOk X.prog X.w H s.heap dd (.xd fs) := I.hok dd _ hd
  obtain ⟨mA, hns, _⟩ := hx
  obtain ⟨od, ho, _⟩ := lookIn_ns hns
  refine ⟨od, ha, hz.1, ?_, ?_⟩
  · unfold PySem.W.notCls
    rw [hv] <;> rfl
  · rw [hz.2]
    exact ho
theorem EcC.kit {K : PySem.W.Frag} {C x : Addr} {ox : Obj} {od : Option Obj} (T : EcC K C) : PySem.W.KitX K (.ref x) (.ref C) (fun h => PySem.W.InstAt h x ox C od) :=
  PySem.W.kitx_exc (by
    obtain ⟨cd, hc, _⟩ := PySem.W.any_some T.hd
    rw [hc]
    rfl) T.ga T.gg T.ex T.cl T.gt T.tk T.ob
theorem call_isX {C : Addr} {cls : Value} {d : Option Addr} (T : EcC X.K C) (hz : Zc cls d oe) (hf : ∃ vs, oe.data = .fields vs) : CallR (X.suite a ((a, oe) :: pn)) (.builtin "isinstance") (rIsX X.K C a cls d) := by
  intro pins s σ H xs us Q I r h
  obtain ⟨c, u, b, dd, fs, rfl, rfl, rfl, hd, k, e, q⟩ := h
  obtain ⟨u1, u2, rfl, r1, r2⟩ := vals2 r
  cases (show u1 = Value.ref a from r1)
  have e2 := k.eq r2
  subst e2
  obtain ⟨od, J⟩ := heldAt I hz hf hd
  exact PySem.W.kia_one T.kit I.kIn J e (fun z => nomatch z) fun tk => ⟨.bl b, H, I.kept (t' := tk) fun _ _ z => z, rfl, q⟩
theorem call_isXT {C : Addr} {cls : Value} {d : Option Addr} (T : EcC X.K C) (hz : Zc cls d oe) (hf : ∃ vs, oe.data = .fields vs) : CallR (X.suite a ((a, oe) :: pn)) (.builtin "isinstance") (rIsXT X.K C a cls d) := by
  intro pins s σ H xs us Q I r h
  obtain ⟨tp, cs, ws, b, dd, fs, rfl, rfl, rfl, hd, hT, k, e, q⟩ := h
  obtain ⟨u1, u2, rfl, r1, r2⟩ := vals2 r
  cases (show u1 = Value.ref a from r1)
  cases (show u2 = Value.ref tp from r2)
  obtain ⟨od, J⟩ := heldAt I hz hf hd
  obtain ⟨_, its, rv, o, h1, h2, n, h3⟩ := (show ObjOk X.prog X.w H s.heap tp (.tup cs) from I.hok tp _ hT)
  have e3 := ClsV.all k rv
  subst e3
  obtain ⟨oc, od, dt, sl⟩ := o
  simp only at h2 h3
  subst h2 h3
  exact PySem.W.kia_tup T.kit I.kIn J h1 e (fun z => nomatch z) fun tk => ⟨.bl b, H, I.kept (t' := tk) fun _ _ z => z, rfl, q⟩
end
end BB
namespace BB
open PySem PySem.Spec PyProof.Rows L2 He Evl
/-! ### the data -/
structure ItD where
  pc : Bool
  nm : Str
  st : Int
  sh : Int
  mi : Option Int
  dl : Int
  x : Int
  y : Int
  z : Int
structure DyD where
  its : List ItD
  opens : Int
  ahead : Int
  wl : Int
  wh : Int
  pl : Int
  ph : Int
abbrev SpD : Type := List (List (Int × Int))
/-! ### objects -/
/-- all but what stands at y as before; there: o -/
def Mut (y : Addr) (H H' : Hp) (o : HO) : Prop := (∀ a u, a ≠ y → H a = some u → H' a = some u) ∧ H' y = some o
theorem Mut.upd {y : Addr} {H : Hp} {o : HO} : Mut y H (upd H y o) o := ⟨fun a u hn h => by rw [upd_ne hn]; exact h, upd_same⟩
theorem Mut.then_upd {y : Addr} {H H1 : Hp} {o o' : HO} (m : Mut y H H1 o) : Mut y H (L2.upd H1 y o') o' := ⟨fun a u hn h => by rw [upd_ne hn]; exact m.1 a u hn h, upd_same⟩
theorem Mut.ex {y : Addr} {H H' : Hp} {o : HO} (m : Mut y H H' o) (h : H y = none) : Ex H H' := fun a u e => m.1 a u (fun z => by rw [z, h] at e; cases e) e
theorem Mut.trans {y : Addr} {H H1 H2 : Hp} {o o' : HO} (m : Mut y H H1 o) (n : Mut y H1 H2 o') : Mut y H H2 o' := ⟨fun a u hn h => n.1 a u hn (m.1 a u hn h), n.2⟩
theorem Mut.exl {y : Addr} {H H1 H2 : Hp} {o' : HO} (m : Ex H H1) (n : Mut y H1 H2 o') : Mut y H H2 o' := ⟨fun a u hn h => n.1 a u hn (m a u h), n.2⟩
theorem Mut.exr {y : Addr} {H H1 H2 : Hp} {o : HO} (m : Mut y H H1 o) (n : Ex H1 H2) : Mut y H H2 o := ⟨fun a u hn h => n a u (m.1 a u hn h), n y o m.2⟩
def Ins (K : PySem.W.Frag) (H : Hp) (a : Addr) (c : Str) (fs : List (Str × V)) : Prop := ∃ dx, H a = some (.ins (ga K c) dx fs)
section
variable {K : PySem.W.Frag} {mg : Str → Option Value} {w : World} {H H' : Hp} {a : Addr} {c f : Str} {fs : List (Str × V)} {v : V}
theorem Ins.mono (h : Ins K H a c fs) (e : Ex H H') : Ins K H' a c fs := by
  obtain ⟨dx, h⟩ := h
  exact ⟨dx, e _ _ h⟩
theorem Ins.fd (h : Ins K H a c fs) (hc : Cls K (ga K c)) (hn : NoAttr K (ga K c) f) (hl : fs.lookup f = some v) : Fd K H a f v := by
  obtain ⟨dx, h⟩ := h
  exact ⟨_, dx, fs, h, hc, hn, hl⟩
end
def SpanAt (K : PySem.W.Frag) (H : Hp) (a : Addr) (lo hi : Int) : Prop := Ins K H a "Span" [("low", .int lo), ("high", .int hi)]
def GridAt (K : PySem.W.Frag) (H : Hp) (a : Addr) (st sh : Int) : Prop := Ins K H a "Grid" [("step", .int st), ("offset", .int sh)]
def miV : Option Int → V
  | none => .non
  | some i => .int i
def itC (pc : Bool) : Str := if pc then "Piece" else "Break"
def itFs (g : Addr) (it : ItD) : List (Str × V) := ([("name", .str it.nm), ("grid", .ref g), ("minute", miV it.mi), ("delay", .int it.dl)] : List (Str × V)) ++ (if it.pc then ([("least", .int it.x), ("most", .int it.y)] : List (Str × V)) else ([("places", .int it.x), ("unit", .int it.y), ("patience", .int it.z)] : List (Str × V)))
def ItemAt (K : PySem.W.Frag) (H : Hp) (a : Addr) (it : ItD) : Prop := ∃ g, Ins K H a (itC it.pc) (itFs g it) ∧ GridAt K H g it.st it.sh
def HouseAt (K : PySem.W.Frag) (H : Hp) (a : Addr) (D : DyD) : Prop := ∃ (v1 v2 v3 v4 : V) (wa pa : Addr), Ins K H a "House" [("studios", v1), ("crews", v2), ("kinds", v3), ("walk", .ref wa), ("pack", .ref pa), ("ahead", .int D.ahead), ("apart", v4)] ∧ SpanAt K H wa D.wl D.wh ∧ SpanAt K H pa D.pl D.ph
def ItemsAt (K : PySem.W.Frag) (H : Hp) (is : List Addr) (its : List ItD) : Prop := is.length = its.length ∧ ∀ (i : Nat) (it : ItD), its[i]? = some it → ∃ a, is[i]? = some a ∧ ItemAt K H a it
/-- names to places -/
def numsOf (its : List ItD) : List (Key × V) := its.zipIdx.map fun q => (Sum.inr q.1.nm, V.int (q.2 : Nat))
def OrderAt (K : PySem.W.Frag) (H : Hp) (a : Addr) (D : DyD) : Prop := ∃ (ho tp nd : Addr) (is : List Addr), Ins K H a "Order" [("house", .ref ho), ("opens", .int D.opens), ("lineup", .ref tp), ("_numbers", .ref nd)] ∧ HouseAt K H ho D ∧
  H tp = some (.tup (is.map V.ref)) ∧ ItemsAt K H is D.its ∧ H nd = some (.dK (numsOf D.its))
def wordsL : List Str := ["delay", "length", "walk", "pack"]
def lagsKV (as : List Addr) : List (Key × V) := (wordsL.zip as).map fun q => (Sum.inr q.1, V.ref q.2)
/-- the spans of one item's lags -/
def LagsAt (K : PySem.W.Frag) (H : Hp) (d : Addr) (sp : List (Int × Int)) : Prop := ∃ as : List Addr, H d = some (.dK (lagsKV as)) ∧ as.length = sp.length ∧ ∀ (j : Nat) (q : Int × Int), sp[j]? = some q → ∃ a, as[j]? = some a ∧ SpanAt K H a q.1 q.2
def spansKV (its : List ItD) (ds : List Addr) : List (Key × V) := (its.zip ds).map fun q => (Sum.inr q.1.nm, V.ref q.2)
def SpansAt (K : PySem.W.Frag) (H : Hp) (d : Addr) (its : List ItD) (S : SpD) : Prop := ∃ ds : List Addr, H d = some (.dK (spansKV its ds)) ∧ ds.length = its.length ∧ S.length = its.length ∧ ∀ (i : Nat) (sp : List (Int × Int)), S[i]? = some sp → ∃ b, ds[i]? = some b ∧ LagsAt K H b sp
def OutlookAt (K : PySem.W.Frag) (H : Hp) (a : Addr) (D : DyD) (S : SpD) : Prop := ∃ o sd : Addr, Ins K H a "Outlook" [("order", .ref o), ("_spans", .ref sd)] ∧ OrderAt K H o D ∧ SpansAt K H sd D.its S
def DistAt (K : PySem.W.Frag) (H : Hp) (a : Addr) (t : Int) : Prop := ∃ v, Ins K H a "Distance" [("ticks", .int t), ("row", v)]
section
variable {K : PySem.W.Frag} {mg : Str → Option Value} {w : World} {H H' : Hp} {a : Addr} {lo hi : Int} {it : ItD} {D : DyD} {S : SpD}
theorem SpanAt.mono (h : SpanAt K H a lo hi) (e : Ex H H') : SpanAt K H' a lo hi := Ins.mono h e
theorem GridAt.mono (h : GridAt K H a lo hi) (e : Ex H H') : GridAt K H' a lo hi := Ins.mono h e
theorem ItemAt.mono (h : ItemAt K H a it) (e : Ex H H') : ItemAt K H' a it := by
  obtain ⟨g, h1, h2⟩ := h
  exact ⟨g, h1.mono e, h2.mono e⟩
theorem HouseAt.mono (h : HouseAt K H a D) (e : Ex H H') : HouseAt K H' a D := by
  obtain ⟨v1, v2, v3, v4, wa, pa, h1, h2, h3⟩ := h
  exact ⟨v1, v2, v3, v4, wa, pa, h1.mono e, h2.mono e, h3.mono e⟩
theorem ItemsAt.mono {is : List Addr} {its : List ItD} (h : ItemsAt K H is its) (e : Ex H H') : ItemsAt K H' is its :=
  ⟨h.1, fun i it hi => by
    obtain ⟨a, h1, h2⟩ := h.2 i it hi
    exact ⟨a, h1, h2.mono e⟩⟩
theorem OrderAt.mono (h : OrderAt K H a D) (e : Ex H H') : OrderAt K H' a D := by
  obtain ⟨ho, tp, nd, is, h1, h2, h3, h4, h5⟩ := h
  exact ⟨ho, tp, nd, is, h1.mono e, h2.mono e, e _ _ h3, h4.mono e, e _ _ h5⟩
theorem LagsAt.mono {d : Addr} {sp : List (Int × Int)} (h : LagsAt K H d sp) (e : Ex H H') : LagsAt K H' d sp := by
  obtain ⟨as, h1, h2, h3⟩ := h
  refine ⟨as, e _ _ h1, h2, fun j q hq => ?_⟩
  obtain ⟨a, h4, h5⟩ := h3 j q hq
  exact ⟨a, h4, h5.mono e⟩
theorem SpansAt.mono {d : Addr} {its : List ItD} (h : SpansAt K H d its S) (e : Ex H H') : SpansAt K H' d its S := by
  obtain ⟨ds, h1, h2, h3, h4⟩ := h
  refine ⟨ds, e _ _ h1, h2, h3, fun j q hq => ?_⟩
  obtain ⟨a, h5, h6⟩ := h4 j q hq
  exact ⟨a, h5, h6.mono e⟩
theorem OutlookAt.mono (h : OutlookAt K H a D S) (e : Ex H H') : OutlookAt K H' a D S := by
  obtain ⟨o, sd, h1, h2, h3⟩ := h
  exact ⟨o, sd, h1.mono e, h2.mono e, h3.mono e⟩
theorem DistAt.mono {t : Int} (h : DistAt K H a t) (e : Ex H H') : DistAt K H' a t := by
  obtain ⟨v, h1⟩ := h
  exact ⟨v, h1.mono e⟩
theorem SpanAt.low (h : SpanAt K H a lo hi) (T : TX K mg w) : Fd K H a "low" (.int lo) := Ins.fd h T.c_Span T.a_Span_low rfl
theorem SpanAt.high (h : SpanAt K H a lo hi) (T : TX K mg w) : Fd K H a "high" (.int hi) := Ins.fd h T.c_Span T.a_Span_high rfl
theorem GridAt.step (h : GridAt K H a lo hi) (T : TX K mg w) : Fd K H a "step" (.int lo) := Ins.fd h T.c_Grid T.a_Grid_step rfl
theorem GridAt.offset (h : GridAt K H a lo hi) (T : TX K mg w) : Fd K H a "offset" (.int hi) := Ins.fd h T.c_Grid T.a_Grid_offset rfl
/-- Piece or Break -/
structure CF (K : PySem.W.Frag) (C : Addr) : Prop where
  cls : Cls K C
  name : NoAttr K C "name"
  grid : NoAttr K C "grid"
  minute : NoAttr K C "minute"
  delay : NoAttr K C "delay"
theorem TX.cf (T : TX K mg w) (b : Bool) : CF K (ga K (itC b)) := by
  cases b with
  | true => exact ⟨T.c_Piece, T.a_Piece_name, T.a_Piece_grid, T.a_Piece_minute, T.a_Piece_delay⟩
  | false => exact ⟨T.c_Break, T.a_Break_name, T.a_Break_grid, T.a_Break_minute, T.a_Break_delay⟩
theorem ItemAt.name (h : ItemAt K H a it) (T : TX K mg w) : Fd K H a "name" (.str it.nm) := by
  obtain ⟨g, h1, _⟩ := h
  exact h1.fd (T.cf _).cls (T.cf _).name rfl
theorem ItemAt.minute (h : ItemAt K H a it) (T : TX K mg w) : Fd K H a "minute" (miV it.mi) := by
  obtain ⟨g, h1, _⟩ := h
  exact h1.fd (T.cf _).cls (T.cf _).minute rfl
theorem ItemAt.delay (h : ItemAt K H a it) (T : TX K mg w) : Fd K H a "delay" (.int it.dl) := by
  obtain ⟨g, h1, _⟩ := h
  exact h1.fd (T.cf _).cls (T.cf _).delay rfl
theorem ItemAt.grid (h : ItemAt K H a it) (T : TX K mg w) : ∃ g, Fd K H a "grid" (.ref g) ∧ GridAt K H g it.st it.sh := by
  obtain ⟨g, h1, h2⟩ := h
  exact ⟨g, h1.fd (T.cf _).cls (T.cf _).grid rfl, h2⟩
theorem ItemAt.pc (h : ItemAt K H a it) (b : it.pc = true) : ∃ g, Ins K H a "Piece" [("name", .str it.nm), ("grid", .ref g), ("minute", miV it.mi), ("delay", .int it.dl), ("least", .int it.x), ("most", .int it.y)] := by
  obtain ⟨g, h1, _⟩ := h
  unfold itFs at h1
  rw [b] at h1
  exact ⟨g, h1⟩
theorem ItemAt.br (h : ItemAt K H a it) (b : it.pc = false) : ∃ g, Ins K H a "Break" [("name", .str it.nm), ("grid", .ref g), ("minute", miV it.mi), ("delay", .int it.dl), ("places", .int it.x), ("unit", .int it.y), ("patience", .int it.z)] := by
  obtain ⟨g, h1, _⟩ := h
  unfold itFs at h1
  rw [b] at h1
  exact ⟨g, h1⟩
theorem ItemAt.least (h : ItemAt K H a it) (T : TX K mg w) (b : it.pc = true) : Fd K H a "least" (.int it.x) := by
  obtain ⟨g, h1⟩ := h.pc b
  exact h1.fd T.c_Piece T.a_Piece_least rfl
theorem ItemAt.most (h : ItemAt K H a it) (T : TX K mg w) (b : it.pc = true) : Fd K H a "most" (.int it.y) := by
  obtain ⟨g, h1⟩ := h.pc b
  exact h1.fd T.c_Piece T.a_Piece_most rfl
theorem ItemAt.places (h : ItemAt K H a it) (T : TX K mg w) (b : it.pc = false) : Fd K H a "places" (.int it.x) := by
  obtain ⟨g, h1⟩ := h.br b
  exact h1.fd T.c_Break T.a_Break_places rfl
theorem ItemAt.unit (h : ItemAt K H a it) (T : TX K mg w) (b : it.pc = false) : Fd K H a "unit" (.int it.y) := by
  obtain ⟨g, h1⟩ := h.br b
  exact h1.fd T.c_Break T.a_Break_unit rfl
theorem HouseAt.walk (h : HouseAt K H a D) (T : TX K mg w) : ∃ p, Fd K H a "walk" (.ref p) ∧ SpanAt K H p D.wl D.wh := by
  obtain ⟨v1, v2, v3, v4, wa, pa, h1, h2, h3⟩ := h
  exact ⟨wa, h1.fd T.c_House T.a_House_walk rfl, h2⟩
theorem HouseAt.pack (h : HouseAt K H a D) (T : TX K mg w) : ∃ p, Fd K H a "pack" (.ref p) ∧ SpanAt K H p D.pl D.ph := by
  obtain ⟨v1, v2, v3, v4, wa, pa, h1, h2, h3⟩ := h
  exact ⟨pa, h1.fd T.c_House T.a_House_pack rfl, h3⟩
theorem HouseAt.ahead (h : HouseAt K H a D) (T : TX K mg w) : Fd K H a "ahead" (.int D.ahead) := by
  obtain ⟨v1, v2, v3, v4, wa, pa, h1, h2, h3⟩ := h
  exact h1.fd T.c_House T.a_House_ahead rfl
theorem OrderAt.house (h : OrderAt K H a D) (T : TX K mg w) : ∃ p, Fd K H a "house" (.ref p) ∧ HouseAt K H p D := by
  obtain ⟨ho, tp, nd, is, h1, h2, h3, h4, h5⟩ := h
  exact ⟨ho, h1.fd T.c_Order T.a_Order_house rfl, h2⟩
theorem OrderAt.opens (h : OrderAt K H a D) (T : TX K mg w) : Fd K H a "opens" (.int D.opens) := by
  obtain ⟨ho, tp, nd, is, h1, h2, h3, h4, h5⟩ := h
  exact h1.fd T.c_Order T.a_Order_opens rfl
theorem OrderAt.lineup (h : OrderAt K H a D) (T : TX K mg w) : ∃ (p : Addr) (is : List Addr), Fd K H a "lineup" (.ref p) ∧ H p = some (.tup (is.map V.ref)) ∧ ItemsAt K H is D.its := by
  obtain ⟨ho, tp, nd, is, h1, h2, h3, h4, h5⟩ := h
  exact ⟨tp, is, h1.fd T.c_Order T.a_Order_lineup rfl, h3, h4⟩
theorem OrderAt.nums (h : OrderAt K H a D) (T : TX K mg w) : ∃ p, Fd K H a "_numbers" (.ref p) ∧ H p = some (.dK (numsOf D.its)) := by
  obtain ⟨ho, tp, nd, is, h1, h2, h3, h4, h5⟩ := h
  exact ⟨nd, h1.fd T.c_Order T.a_Order__numbers rfl, h5⟩
theorem OutlookAt.order (h : OutlookAt K H a D S) (T : TX K mg w) : ∃ p, Fd K H a "order" (.ref p) ∧ OrderAt K H p D := by
  obtain ⟨o, sd, h1, h2, h3⟩ := h
  exact ⟨o, h1.fd T.c_Outlook T.a_Outlook_order rfl, h2⟩
theorem OutlookAt.spans (h : OutlookAt K H a D S) (T : TX K mg w) : ∃ p, Fd K H a "_spans" (.ref p) ∧ SpansAt K H p D.its S := by
  obtain ⟨o, sd, h1, h2, h3⟩ := h
  exact ⟨sd, h1.fd T.c_Outlook T.a_Outlook__spans rfl, h3⟩
theorem DistAt.ticks {t : Int} (h : DistAt K H a t) (T : TX K mg w) : Fd K H a "ticks" (.int t) := by
  obtain ⟨v, h1⟩ := h
  exact h1.fd T.c_Distance T.a_Distance_ticks rfl
theorem ItemsAt.get {is : List Addr} {its : List ItD} (h : ItemsAt K H is its) {i : Nat} (hi : i < its.length) : ∃ a, is[i]? = some a ∧ ItemAt K H a its[i] := h.2 i _ (List.getElem?_eq_getElem hi)
end
end BB
namespace BB
open PySem PySem.Spec PyProof.Rows L2 He Evl
theorem exNew {H H' : Hp} {y dx : Addr} {o1 o2 o : HO} (m : Mut y (L2.upd (L2.upd H dx o1) y o2) H' o) (hy : H y = none) (hd : H dx = none) : Ex H H' := fun a u e => by
  have n1 : a ≠ y := fun z => by rw [z, hy] at e; cases e
  have n2 : a ≠ dx := fun z => by rw [z, hd] at e; cases e
  exact m.1 a u n1 (by rw [upd_ne n1, upd_ne n2]; exact e)
theorem ltK {n : Nat} (h : Nat.blt n 1000 = true) : n < 1000 := Nat.le_of_ble_eq_true h
theorem ifT {b : Bool} {A B : Prop} (e : b = true) (h : A) : if b = true then A else B := by rw [if_pos e]; exact h
theorem ifF {b : Bool} {A B : Prop} (e : b = false) (h : B) : if b = true then A else B := by rw [if_neg (by rw [e]; exact Bool.false_ne_true)]; exact h
theorem if2 {b : Bool} {A B : Prop} (h1 : b = true → A) (h2 : b = false → B) : if b = true then A else B := by
  cases e : b with
  | true => exact ifT rfl (h1 e)
  | false => exact ifF rfl (h2 e)
section
variable {K : PySem.W.Frag} {mg : Str → Option Value} {w : World} {base : Heap}
/-! ### spans -/
def sp_Span_init (K : PySem.W.Frag) : Sp := S3 fun a b c H Q => ∃ (y dx : Addr) (lo hi : Int), a = .ref y ∧ H y = some (.ins (ga K "Span") dx []) ∧ b = .int lo ∧ c = .int hi ∧ lo ≤ hi ∧
  ∀ H', Mut y H H' (.ins (ga K "Span") dx [("low", .int lo), ("high", .int hi)]) → Q .non H'
theorem ok_Span_init (T : TX K mg w) : FnR PP w K mg base CX0 1 (ma K (ga K "Span") "__init__") (sp_Span_init K) := by
  refine mkS3 (bn T.f_Span_init (fun _ _ _ _ _ _ us hl => match us, hl with | [_, _, _], _ => rfl)) sc_Span_init fun cdv A outer s H a b c Q E hr h => ?_
  refine ⟨_, (pss_cons (ps_if (pt_cmpR op_gt (pv 1) (pv 2) (nomark _)) (pss_one ps_never)
        pss_nil)
      (pss_cons (ps_fld (pv 0) (pv 1) rfl)
      (pss_one (ps_fld (pv 0) (pv 2) rfl)))), ?_⟩
  obtain ⟨y, dx, lo, hi, rfl, hy, rfl, rfl, hle, q⟩ := h
  refine ⟨_, rfl, _, rfl, _, _, rfl, rfl, _, rfl, ?_⟩
  refine ifF (decide_eq_false (by omega)) ?_
  refine ⟨_, rfl, _, rfl, y, _, dx, _, rfl, hy, T.c_Span, T.a_Span_low, ltK rfl, ?_⟩
  refine ⟨_, rfl, _, rfl, y, _, dx, _, rfl, upd_same, T.c_Span, T.a_Span_high, ltK rfl, ?_⟩
  exact q _ (Mut.upd.then_upd)

def spm_Span (K : PySem.W.Frag) : Sp := S2 fun b c H Q => ∃ lo hi : Int, b = .int lo ∧ c = .int hi ∧ lo ≤ hi ∧ ∀ p H', H p = none → Ex H H' → SpanAt K H' p lo hi → Q (.ref p) H'
theorem ct_Span (T : TX K mg w) : Ctor PP w K mg base 1 "Span" (ga K "Span") (spm_Span K) := by
  refine ⟨_, _, T.k_Span, T.g_Span, ok_Span_init T, fun vs H Q h y dx hy hd ne => ?_⟩
  obtain ⟨b, c, rfl, lo, hi, rfl, rfl, hle, q⟩ := h
  exact ⟨_, _, _, rfl, y, dx, lo, hi, rfl, upd_same, rfl, rfl, hle, fun H' m => ⟨rfl, q y H' hy (exNew m hy hd) ⟨dx, m.2⟩⟩⟩
def sp_Span_contains (K : PySem.W.Frag) : Sp := S2 fun a b H Q => ∃ (p : Addr) (lo hi n : Int), a = .ref p ∧ b = .int n ∧ SpanAt K H p lo hi ∧ Q (.bl (decide (lo ≤ n ∧ n ≤ hi))) H
theorem ok_Span_contains (T : TX K mg w) : FnR PP w K mg base CX0 1 (ma K (ga K "Span") "__contains__") (sp_Span_contains K) := by
  refine mkS2 (bn T.f_Span_contains (fun _ _ _ _ _ _ us hl => match us, hl with | [_, _], _ => rfl)) sc_Span_contains fun cdv A outer s H a b Q E hr h => ?_
  refine ⟨_, (pss_one (ps_ret (pe_chain op_le op_le (pe_f (pv 0)) (pv 1) (pe_f (pv 0))))), ?_⟩
  obtain ⟨p, lo, hi, n, rfl, rfl, hS, q⟩ := h
  refine ⟨_, rfl, _, _, rfl, hS.low T, _, rfl, _, _, rfl, rfl, _, rfl, if2 (fun e => ?_) (fun e => ?_)⟩
  · have e := of_decide_eq_true e
    refine ⟨_, rfl, _, _, rfl, hS.high T, _, _, rfl, rfl, ?_⟩
    have e2 : decide (lo ≤ n ∧ n ≤ hi) = decide (n ≤ hi) := by simp [e]
    rw [e2] at q
    exact q
  · have e := of_decide_eq_false e
    have e2 : decide (lo ≤ n ∧ n ≤ hi) = false := by simp [e]
    rw [e2] at q
    exact q
def sp_extreme (K : PySem.W.Frag) : Sp := S2 fun a b H Q => ∃ (p : Addr) (lo hi : Int) (l : Bool), a = .ref p ∧ b = .bl l ∧ SpanAt K H p lo hi ∧ Q (.int (if l then hi else lo)) H
theorem ok_extreme (T : TX K mg w) : FnR PP w K mg base CX0 1 (ga K "extreme") (sp_extreme K) := by
  refine mkS2 (bn T.f_extreme (fun _ _ _ _ _ _ us hl => match us, hl with | [_, _], _ => rfl)) sc_extreme fun cdv A outer s H a b Q E hr h => ?_
  refine ⟨_, (pss_cons (ps_if (pt_val (pv 1)) (pss_one (ps_ret (pe_f (pv 0))))
        pss_nil)
      (pss_one (ps_ret (pe_f (pv 0))))), ?_⟩
  obtain ⟨p, lo, hi, l, rfl, rfl, hS, q⟩ := h
  refine ⟨_, rfl, l, rfl, if2 (fun e => ?_) (fun e => ?_)⟩
  · subst e
    exact ⟨_, rfl, _, _, rfl, hS.high T, q⟩
  · subst e
    exact ⟨_, rfl, _, _, rfl, hS.low T, q⟩
/-! ### grids -/
def sp_Grid_init (K : PySem.W.Frag) : Sp := S3 fun a b c H Q => ∃ (y dx : Addr) (st sh : Int), a = .ref y ∧ H y = some (.ins (ga K "Grid") dx []) ∧ b = .int st ∧ c = .int sh ∧ 0 < st ∧ 0 ≤ sh ∧ sh < st ∧
  ∀ H', Mut y H H' (.ins (ga K "Grid") dx [("step", .int st), ("offset", .int sh)]) → Q .non H'
theorem ok_Grid_init (T : TX K mg w) : FnR PP w K mg base CX0 1 (ma K (ga K "Grid") "__init__") (sp_Grid_init K) := by
  refine mkS3 (bd T.f_Grid_init (List.cons_ne_nil _ _) (fun _ _ _ _ _ _ _ us its hl hi => match us, its, hl, hi with | [_, _, _], [_], _, _ => ⟨_, rfl, rfl⟩)) sc_Grid_init fun cdv A outer s H a b c Q E hr h => ?_
  refine ⟨_, (pss_cons (ps_if (pt_cmpR op_lt (pv 1) pe_int (nomark _)) (pss_one ps_never)
        pss_nil)
      (pss_cons (ps_fld (pv 0) (pv 1) rfl)
      (pss_one (ps_fld (pv 0) (pe_op op_modN (pv 2) (pv 1)) rfl)))), ?_⟩
  obtain ⟨y, dx, st, sh, rfl, hy, rfl, rfl, h0, h1, h2, q⟩ := h
  refine ⟨_, rfl, _, _, rfl, rfl, _, rfl, ifF (decide_eq_false (by omega)) ?_⟩
  refine ⟨_, rfl, _, rfl, y, _, dx, _, rfl, hy, T.c_Grid, T.a_Grid_step, ltK rfl, ?_⟩
  refine ⟨_, rfl, _, rfl, _, _, rfl, rfl, (by omega), _, rfl, y, _, dx, _, rfl, upd_same, T.c_Grid, T.a_Grid_offset, ltK rfl, ?_⟩
  have e : sh.fmod st = sh := by rw [Int.fmod_eq_emod_of_nonneg _ (by omega)]; exact Int.emod_eq_of_lt h1 h2
  have q2 : ∀ H', Mut y H H' (.ins (ga K "Grid") dx [("step", .int st), ("offset", .int (sh.fmod st))]) → Q .non H' := by rw [e]; exact q
  exact q2 _ (Mut.upd.then_upd)
def spm_Grid (K : PySem.W.Frag) : Sp := S2 fun b c H Q => ∃ st sh : Int, b = .int st ∧ c = .int sh ∧ 0 < st ∧ 0 ≤ sh ∧ sh < st ∧ ∀ p H', H p = none → Ex H H' → GridAt K H' p st sh → Q (.ref p) H'
theorem ct_Grid (T : TX K mg w) : Ctor PP w K mg base 1 "Grid" (ga K "Grid") (spm_Grid K) := by
  refine ⟨_, _, T.k_Grid, T.g_Grid, ok_Grid_init T, fun vs H Q h y dx hy hd ne => ?_⟩
  obtain ⟨b, c, rfl, lo, hi, rfl, rfl, h0, h1, h2, q⟩ := h
  exact ⟨_, _, _, rfl, y, dx, lo, hi, rfl, upd_same, rfl, rfl, h0, h1, h2, fun H' m => ⟨rfl, q y H' hy (exNew m hy hd) ⟨dx, m.2⟩⟩⟩
def barOf (st sh t : Int) : Int := t + (sh - t).fmod st
def sp_Grid_first_bar (K : PySem.W.Frag) : Sp := S2 fun a b H Q => ∃ (p : Addr) (st sh t : Int), a = .ref p ∧ b = .int t ∧ 0 < st ∧ GridAt K H p st sh ∧ Q (.int (barOf st sh t)) H
theorem ok_Grid_first_bar (T : TX K mg w) : FnR PP w K mg base CX0 1 (ma K (ga K "Grid") "first_bar") (sp_Grid_first_bar K) := by
  refine mkS2 (bn T.f_Grid_first_bar (fun _ _ _ _ _ _ us hl => match us, hl with | [_, _], _ => rfl)) sc_Grid_first_bar fun cdv A outer s H a b Q E hr h => ?_
  refine ⟨_, (pss_one (ps_ret (pe_op op_add (pv 1) (pe_op op_modN (pe_op op_sub (pe_f (pv 0)) (pv 1)) (pe_f (pv 0)))))), ?_⟩
  obtain ⟨p, st, sh, t, rfl, rfl, h0, hG, q⟩ := h
  exact ⟨_, rfl, _, rfl, _, _, rfl, hG.offset T, _, rfl, _, _, rfl, rfl, _, rfl, _, _, rfl, hG.step T, _, _, rfl, rfl, (by omega), _, _, rfl, rfl, q⟩
/-! ### distances -/
def sp_Distance_init (K : PySem.W.Frag) : Sp := S3 fun a b c H Q => ∃ (y dx : Addr) (t : Int), a = .ref y ∧ H y = some (.ins (ga K "Distance") dx []) ∧ b = .int t ∧
  ∀ H', Mut y H H' (.ins (ga K "Distance") dx [("ticks", .int t), ("row", c)]) → Q .non H'
theorem ok_Distance_init (T : TX K mg w) : FnR PP w K mg base CX0 1 (ma K (ga K "Distance") "__init__") (sp_Distance_init K) := by
  refine mkS3 (bn T.f_Distance_init (fun _ _ _ _ _ _ us hl => match us, hl with | [_, _, _], _ => rfl)) sc_Distance_init fun cdv A outer s H a b c Q E hr h => ?_
  refine ⟨_, (pss_cons (ps_fld (pv 0) (pv 1) rfl)
      (pss_one (ps_fld (pv 0) (pv 2) rfl))), ?_⟩
  obtain ⟨y, dx, t, rfl, hy, rfl, q⟩ := h
  refine ⟨_, rfl, _, rfl, y, _, dx, _, rfl, hy, T.c_Distance, T.a_Distance_ticks, ltK rfl, ?_⟩
  refine ⟨_, rfl, _, rfl, y, _, dx, _, rfl, upd_same, T.c_Distance, T.a_Distance_row, ltK rfl, ?_⟩
  exact q _ (Mut.upd.then_upd)
def spm_Distance (K : PySem.W.Frag) : Sp := S2 fun b c H Q => ∃ t : Int, b = .int t ∧ ∀ p H', H p = none → Ex H H' → DistAt K H' p t → Q (.ref p) H'
theorem ct_Distance (T : TX K mg w) : Ctor PP w K mg base 1 "Distance" (ga K "Distance") (spm_Distance K) := by
  refine ⟨_, _, T.k_Distance, T.g_Distance, ok_Distance_init T, fun vs H Q h y dx hy hd ne => ?_⟩
  obtain ⟨b, c, rfl, t, rfl, q⟩ := h
  exact ⟨_, _, _, rfl, y, dx, t, rfl, upd_same, rfl, fun H' m => ⟨rfl, q y H' hy (exNew m hy hd) ⟨c, dx, m.2⟩⟩⟩
/-! ### names, items -/
def letterC (c : Nat) : Bool := decide (97 ≤ c ∧ c ≤ 122)
def digitC (c : Nat) : Bool := decide (48 ≤ c ∧ c ≤ 57)
/-- a name: 1 to 12 signs, letters and digits, a letter first -/
structure NmOk (z : Str) : Prop where
  lo : 1 ≤ z.length
  hi : z.length ≤ 12
  fst : ∀ c, z.cps.toList[0]? = some c → letterC c = true
  all : ∀ c ∈ z.cps.toList, letterC c = true ∨ digitC c = true
theorem memL {c : Nat} (h : letterC c = true) : c ∈ ("abcdefghijklmnopqrstuvwxyz" : Str).cps.toList := by
  have h := of_decide_eq_true h
  have : ∀ k : Fin 26, 97 + k.val ∈ ("abcdefghijklmnopqrstuvwxyz" : Str).cps.toList := by decide +kernel
  have := this ⟨c - 97, by omega⟩
  rw [show 97 + (c - 97) = c by omega] at this
  exact this
theorem memD {c : Nat} (h : digitC c = true) : c ∈ ("0123456789" : Str).cps.toList := by
  have h := of_decide_eq_true h
  have : ∀ k : Fin 10, 48 + k.val ∈ ("0123456789" : Str).cps.toList := by decide +kernel
  have := this ⟨c - 48, by omega⟩
  rw [show 48 + (c - 48) = c by omega] at this
  exact this
theorem cps_len (z : Str) : z.cps.toList.length = z.length := by
  show z.cps.toList.length = z.cps.size
  simp
def sp_is_name (K : PySem.W.Frag) : Sp := S1 fun a H Q => ∃ z, a = .str z ∧ NmOk z ∧ ∀ H', Ex H H' → Q (.bl true) H'
theorem ok_is_name (T : TX K mg w) : FnR PP w K mg base CX0 1 (ga K "is_name") (sp_is_name K) := by
  refine mkS1 (bn T.f_is_name (fun _ _ _ _ _ _ us hl => match us, hl with | [_], _ => rfl)) sc_is_name fun cdv A outer s H a Q E hr h => ?_
  refine ⟨_, (pss_cons (ps_if (pt_not (pt_chain op_le op_le pe_int (pe_callB call_len_str (by rfl) T.n_len (by decide +kernel) (pa_cons (pv 0) pa_nil)) (pe_gi T.i_LONGEST_NAME))) (pss_one (ps_ret pe_bl))
        pss_nil)
      (pss_cons (ps_if (pt_cmpR op_notIn_sign (pe_ix ix_str (pv 0) pe_int (fun _ _ => rfl)) (pe_gs T.s_LETTERS) rfl) (pss_one (ps_ret pe_bl))
        pss_nil)
      (pss_one (ps_ret (pe_callB (cr_all rfl) (by rfl) T.n_all (by decide +kernel) (pa_cons (pe_lcD (own := [("char", 1)]) rfl sc_is_name.nd (pi_str (pv 0)) (blkOk_by (N := N_is_name) (sc := defScope s_is_name) (by decide +kernel)) (fun _ _ _ _ _ => (pg_name (i := 1) sc_is_name.nd rfl (Or.inl rfl))) (fun _ _ _ _ _ => pts_nil) (fun _ _ _ _ _ => (pe_or (pe_cmpR op_in_sign (pv 1) (pe_gs T.s_LETTERS) rfl) (pe_one (pe_cmpR op_in_sign (pv 1) (pe_gs T.s_DIGITS) rfl))))) pa_nil)))))), ?_⟩
  obtain ⟨z, rfl, hz, q⟩ := h
  have z1 := hz.lo
  have z2 := hz.hi
  have zl : z.length ≤ sizeLine := sz_of (by omega)
  obtain ⟨c0, hc0⟩ : ∃ c, z.cps.toList[0]? = some c := by
    cases e : z.cps.toList[0]? with
    | none =>
      have := List.getElem?_eq_none_iff.mp e
      have := cps_len z
      omega
    | some c => exact ⟨c, rfl⟩
  refine ⟨_, rfl, z, rfl, zl, _, _, rfl, rfl, _, rfl, ifT (decide_eq_true (by omega)) ⟨_, _, rfl, rfl, _, rfl, ifF (by simp; omega) ?_⟩⟩
  refine ⟨_, rfl, z, 0, c0, rfl, rfl, zl, atI_nat (j := 0) hc0, c0, _, rfl, rfl, _, rfl, ifF (by simp only [decide_eq_true (memL (hz.fst _ hc0)), Bool.not_true]) ?_⟩
  refine ⟨_, rfl, z, rfl, fun D hD => lc_it walk_str (fun i H' => Ex H H' ∧ H' D = some (.lst (List.replicate i (V.bl true)))) ⟨Ex.new hD, upd_same⟩ (fun _ _ _ _ => trivial) (fun i x H1 H2 hi h y => ?_) (fun H1 h => ?_)⟩
  · obtain ⟨e, hD1⟩ := h
    obtain ⟨rfl, c, hc, rfl⟩ := y
    have fin : ∃ acc, H2 D = some (.lst acc) ∧ acc.length < sizeLine ∧ Ex H (upd H2 D (.lst (acc ++ [V.bl true]))) ∧ upd H2 D (.lst (acc ++ [V.bl true])) D = some (.lst (List.replicate (i + 1) (V.bl true))) := by
      have : z.cps.size = z.length := rfl
      refine ⟨_, hD1, sz_lt (by rw [List.length_replicate]; omega), e.mut hD, ?_⟩
      rw [upd_same, List.replicate_succ']
    have hm : c ∈ z.cps.toList := by
      rw [← Array.getElem?_toList] at hc
      exact List.mem_of_getElem? hc
    refine ⟨rfl, ?_⟩
    refine ⟨_, rfl, c, _, rfl, rfl, _, rfl, ?_⟩
    rcases hz.all c hm with h | h
    · rw [decide_eq_true (memL h)]
      exact fin
    · by_cases hl : c ∈ ("abcdefghijklmnopqrstuvwxyz" : Str).cps.toList
      · rw [decide_eq_true hl]
        exact fin
      · rw [decide_eq_false hl]
        refine ⟨_, rfl, c, _, rfl, rfl, ?_⟩
        rw [decide_eq_true (memD h)]
        exact fin
  · obtain ⟨e, hD1⟩ := h
    refine ⟨D, List.replicate z.cps.size true, rfl, SqL.of (by rw [List.map_replicate]; exact hD1), ?_⟩
    have : (List.replicate z.cps.size true).all id = true := by simp
    rw [this]
    exact q _ e
end
end BB
namespace BB
open PySem PySem.Spec PyProof.Rows L2 He Evl
open PySem.W (ksEnv ksFn)
section
variable {P : Program} {K : PySem.W.Frag} {mg : Str → Option Value} {w : World} {base : Heap}
theorem SupF.kbinds0 {x qual : Str} {params : Arguments} {body : List Stmt} {scope : Scope} {kws : List (Str × V)} {f D0 cc : Addr} {fd : FuncData} {ps : List Str} (F : SupF P K x qual params body scope [] kws f D0 cc fd) (n : Nat) (ks : List Str) (ms : List (Str × V))
    (g : {α : Type} → List α → List α → List α → List α) (hk : kws ≠ []) (hms : ∀ q ∈ ms, q ∈ kws) (hrel : ∀ {vs mz zs : List V} {us mv ws : List Value}, Vals vs us → Vals mz mv → Vals zs ws → Vals (g vs mz zs) (g us mv ws))
    (h : ∀ (D : Addr) (doc pm : Value) (an : Option Addr) (cdv ct : Value) (us mv ws : List Value), us.length = n → mv.length = ms.length → ws.length = ks.length →
      KwChain D ((ms.map (·.1)).zip mv) (bindArgs (ksFn x qual params body scope .none (.ref D) doc pm an cdv ct cc) ⟨us, ks.zip ws⟩) (ps.zip (g us mv ws))) :
    ∃ mv : List Value, KBn K fd ps n ks (fun us ws => g us mv ws) (fun vs zs => g vs (ms.map (·.2)) zs) := by
  obtain ⟨oc, od, dV, kV, doc, pm, an, cda, ct, osl, ccl, cdd, cvs, ccs, file, tf, rfl, lk, hcd, hD, hK, _⟩ := F.ex
  rcases hD with ⟨_, rfl⟩ | ⟨e, _⟩
  · rcases hK with e | ⟨D, rfl, hq⟩
    · exact absurd e hk
    · obtain ⟨mv, hl, rk, hks⟩ := kwd_vals (ms := ms) fun q hm => hq q (hms q hm)
      exact ⟨mv, ⟨fun s us ws X l1 l2 => BindsTo.of_looks fun M => KwChain.looks X hks (h D doc pm an (.ref cda) ct us mv ws l1 hl l2), fun r1 r2 => hrel r1 rk r2⟩⟩
  · exact absurd rfl e
/-! ### Named, Timed, Item -/
def sp_Named_init (K : PySem.W.Frag) : Sp := S2 fun a b H Q => ∃ (y C dx : Addr) (fs : List (Str × V)) (z : Str), a = .ref y ∧ H y = some (.ins C dx fs) ∧ CF K C ∧ fs.length < 900 ∧ b = .str z ∧ NmOk z ∧
  ∀ H', Mut y H H' (.ins C dx (putF "name" (.str z) fs)) → Q .non H'
theorem ok_Named_init (T : TX K mg w) : FnR PP w K mg base CX0 2 (ma K (ga K "Named") "__init__") (sp_Named_init K) := by
  refine mkS2 (bn T.f_Named_init (fun _ _ _ _ _ _ us hl => match us, hl with | [_, _], _ => rfl)) sc_Named_init fun cdv A outer s H a b Q E hr h => ?_
  refine ⟨_, (pss_cons (ps_if (pt_not (pt_val (pe_fn (ok_is_name T) (hr.mono (by decide)) T.kp_is_name T.g_is_name (pa_cons (pv 1) pa_nil)))) (pss_one ps_never)
        pss_nil)
      (pss_one (ps_fld (pv 0) (pv 1) rfl))), ?_⟩
  obtain ⟨y, C, dx, fs, z, rfl, hy, c, hl, rfl, hz, q⟩ := h
  refine ⟨_, rfl, _, rfl, z, rfl, hz, fun H1 e => ⟨_, rfl, ?_⟩⟩
  refine ⟨_, rfl, _, rfl, y, _, dx, _, rfl, e _ _ hy, c.cls, c.name, (by omega), ?_⟩
  exact q _ (Mut.upd.exl e)
def sp_Timed_init (K : PySem.W.Frag) : Sp := S4 fun a b c d H Q => ∃ (y C dx : Addr) (fs : List (Str × V)) (dl : Int), a = .ref y ∧ H y = some (.ins C dx fs) ∧ CF K C ∧ fs.length < 900 ∧ d = .int dl ∧ 0 ≤ dl ∧ dl ≤ 8 ∧
  ∀ H', Mut y H H' (.ins C dx (putF "delay" (.int dl) (putF "minute" c (putF "grid" b fs)))) → Q .non H'
theorem putF_len (f : Str) (v : V) : ∀ fs : List (Str × V), (putF f v fs).length ≤ fs.length + 1
  | [] => Nat.le_refl _
  | (g, x) :: r => by
    unfold putF
    split
    · simp
    · have := putF_len f v r
      simp only [List.length_cons]
      omega
theorem ok_Timed_init (T : TX K mg w) : FnR PP w K mg base CX0 1 (ma K (ga K "Timed") "__init__") (sp_Timed_init K) := by
  refine mkS4 (bd T.f_Timed_init (List.cons_ne_nil _ _) (fun _ _ _ _ _ _ _ us its hl hi => match us, its, hl, hi with | [_, _, _, _], [_, _], _, _ => ⟨_, rfl, rfl⟩)) sc_Timed_init fun cdv A outer s H a b c d Q E hr h => ?_
  refine ⟨_, (pss_cons (ps_if (pt_not (pt_chain op_le op_le pe_int (pv 3) (ClX.pe_cval (pe_gr T.g_Timed)))) (pss_one ps_never)
        pss_nil)
      (pss_cons (ps_fld (pv 0) (pv 1) rfl)
      (pss_cons (ps_fld (pv 0) (pv 2) rfl)
      (pss_one (ps_fld (pv 0) (pv 3) rfl))))), ?_⟩
  obtain ⟨y, C, dx, fs, dl, rfl, hy, cf, hl, rfl, h0, h1, q⟩ := h
  obtain ⟨u, hu⟩ := T.v_Timed_MOST_DELAY
  refine ⟨_, rfl, _, _, rfl, rfl, _, rfl, ifT (decide_eq_true (by omega)) ⟨_, _, _, _, rfl, T.cr_Timed, hu, _, _, rfl, rfl, _, rfl, ifF (by simp; omega) ?_⟩⟩
  have l1 := putF_len "grid" b fs
  have l2 := putF_len "minute" c (putF "grid" b fs)
  refine ⟨_, rfl, _, rfl, y, _, dx, _, rfl, hy, cf.cls, cf.grid, (by omega), ?_⟩
  refine ⟨_, rfl, _, rfl, y, _, dx, _, rfl, upd_same, cf.cls, cf.minute, (by omega), ?_⟩
  refine ⟨_, rfl, _, rfl, y, _, dx, _, rfl, upd_same, cf.cls, cf.delay, (by omega), ?_⟩
  exact q _ (Mut.upd.then_upd.then_upd)
def rdy (it : ItD) (t : Int) : Int := match it.mi with
  | none => t
  | some c => if c > t then c else t
def bgn (it : ItD) (t d : Int) : Int := barOf it.st it.sh (rdy it t + d)
def sp_Timed_begin_at (K : PySem.W.Frag) : Sp := S3 fun a b c H Q => ∃ (p : Addr) (it : ItD) (t d : Int), a = .ref p ∧ b = .int t ∧ c = .int d ∧ ItemAt K H p it ∧ 0 < it.st ∧ Q (.int (bgn it t d)) H
theorem ok_Timed_begin_at (T : TX K mg w) : FnR PP w K mg base CX0 2 (ma K (ga K "Timed") "begin_at") (sp_Timed_begin_at K) := by
  refine mkS3 (bn T.f_Timed_begin_at (fun _ _ _ _ _ _ us hl => match us, hl with | [_, _, _], _ => rfl)) sc_Timed_begin_at fun cdv A outer s H a b c Q E hr h => ?_
  refine ⟨_, (pss_cons (ps_set (i := 3) sc_Timed_begin_at.nd rfl (Or.inl rfl) (pv 1))
      (pss_cons (ps_if (pt_cmpR op_notN (pe_f (pv 0)) pe_non (nomark _)) (pss_one (ps_set (i := 3) sc_Timed_begin_at.nd rfl (Or.inl rfl) (pe_callB (call_max2 rfl) (by rfl) T.n_max (by decide +kernel) (pa_cons (pv 1) (pa_cons (pe_f (pv 0)) pa_nil)))))
        pss_nil)
      (pss_one (ps_ret (pe_mt (pe_f (pv 0)) (ok_Grid_first_bar T) (hr.mono (by decide)) T.kp_Grid_first_bar (pa_cons (pe_op op_add (pv 3) (pv 2)) pa_nil)))))), ?_⟩
  obtain ⟨p, it, t, d, rfl, rfl, rfl, hI, h0, q⟩ := h
  obtain ⟨g, hg, hG⟩ := hI.grid T
  obtain ⟨dg, hG'⟩ := hG
  refine ⟨_, rfl, _, rfl, _, _, rfl, hI.minute T, ?_⟩
  cases hm : it.mi with
  | none =>
    refine ⟨rfl, _, rfl, ?_⟩
    refine ⟨_, rfl, _, _, rfl, hg, g, _, dg, _, rfl, hG', T.c_Grid, T.m_Grid_first_bar, rfl, _, rfl, _, rfl, _, _, rfl, rfl, _, _, rfl, _, _, _, _, rfl, rfl, h0, ⟨dg, hG'⟩, ?_⟩
    have e : bgn it t d = barOf it.st it.sh (t + d) := by unfold bgn rdy; rw [hm]
    rw [e] at q
    exact q
  | some c =>
    refine ⟨rfl, _, rfl, ?_⟩
    refine ⟨_, rfl, _, rfl, _, _, rfl, hI.minute T, ?_⟩
    rw [hm]
    refine ⟨_, _, rfl, ?_⟩
    refine ⟨_, rfl, _, _, rfl, hg, g, _, dg, _, rfl, hG', T.c_Grid, T.m_Grid_first_bar, rfl, _, rfl, _, rfl, _, _, rfl, rfl, _, _, rfl, _, _, _, _, rfl, rfl, h0, ⟨dg, hG'⟩, ?_⟩
    have e : bgn it t d = barOf it.st it.sh ((if c > t then c else t) + d) := by unfold bgn rdy; rw [hm]
    rw [e] at q
    exact q
/-! ### Break.length -/
def sq_Break_length (K : PySem.W.Frag) : V → Hp → VK → Prop := fun a H Q => ∃ (p : Addr) (it : ItD), a = .ref p ∧ ItemAt K H p it ∧ it.pc = false ∧ -(2 ^ 64) < it.x ∧ it.x < 2 ^ 64 ∧ Q (.int (it.x * it.y)) H
theorem pr_Break_length (T : TX K mg w) : PrR PP w K mg base 1 (ga K "Break") "length" (fun vs H Q _ => ∃ a, vs = [a] ∧ sq_Break_length K a H Q) := by
  refine mkP T.p_Break_length (bn T.gb_Break_length (fun _ _ _ _ _ _ us hl => match us, hl with | [_], _ => rfl)) sc_Break_length fun cdv A outer s H a Q E hr h => ?_
  refine ⟨_, (pss_one (ps_ret (pe_op op_mul (pe_f (pv 0)) (pe_f (pv 0))))), ?_⟩
  obtain ⟨p, it, rfl, hI, hb, h1, h2, q⟩ := h
  exact ⟨_, rfl, _, _, rfl, hI.places T hb, _, rfl, _, _, rfl, hI.unit T hb, _, _, rfl, rfl, .inl ⟨h1, h2⟩, q⟩
/-! ### Item.__init__ -/
def sp_Item_init (K : PySem.W.Frag) : Sp := S5 fun a b c d e H Q => ∃ (y C dx : Addr) (z : Str) (dl : Int), a = .ref y ∧ H y = some (.ins C dx []) ∧ CF K C ∧ b = .str z ∧ NmOk z ∧ e = .int dl ∧ 0 ≤ dl ∧ dl ≤ 8 ∧
  ∀ H', Mut y H H' (.ins C dx [("name", .str z), ("grid", c), ("minute", d), ("delay", .int dl)]) → Q .non H'
theorem fo_Item_init (T : TX K mg w) : ∃ (fd : FuncData) (g : List Value → List Value → List Value), FnOk PP w K mg base CX0 3 (ma K (ga K "Item") "__init__") fd ["self", "name", "grid", "minute", "delay"] (sp_Item_init K) ∧
    KBn K fd ["self", "name", "grid", "minute", "delay"] 2 ["grid", "minute", "delay"] g (fun vs zs => vs ++ zs) := by
  obtain ⟨fd, F⟩ := T.f_Item_init
  obtain ⟨mv, kb⟩ := F.kbinds0 (ps := ["self", "name", "grid", "minute", "delay"]) 2 ["grid", "minute", "delay"] [] (fun us mv ws => us ++ ws) (List.cons_ne_nil _ _) (fun q hq => by cases hq) (fun r1 r2 r3 => r1.append r3)
    (fun D doc pm an cdv ct us mv ws l1 l2 l3 => match us, mv, ws, l1, l2, l3 with | [_, _], [], [_, _, _], _, _, _ => rfl)
  refine ⟨fd, _, F.ok sc_Item_init (fun vs H Q E h => ?_) (fun cdv A outer s H vs Q E hr h => ?_), kb⟩
  · obtain ⟨a, b, c, d, e, rfl, _⟩ := h
    rfl
  · obtain ⟨a, b, c, d, e, rfl, h⟩ := h
    suffices hs : ∃ t, PSs (cxOf CX0 PP w K mg base N_Item_init "Item.__init__" (defScope s_Item_init) (ma K (ga K "Item") "__init__") cdv A outer s H E).nox (defBody s_Item_init) t ∧ t { nx := fun _ H' => Q .non H', rt := Q } (start N_Item_init [a, b, c, d, e]) H by
      obtain ⟨t, h1, h2⟩ := hs
      exact ⟨t, PSs.nox h1, h2⟩
    refine ⟨_, (pss_cons (ps_expr (pe_cfn (pe_gr T.g_Named) T.cf_Named (ok_Named_init T) (hr.mono (by decide)) (pa_cons (pv 0) (pa_cons (pv 1) pa_nil))))
      (pss_one (ps_expr (pe_cfn (pe_gr T.g_Timed) T.cf_Timed (ok_Timed_init T) (hr.mono (by decide)) (pa_cons (pv 0) (pa_cons (pv 2) (pa_cons (pv 3) (pa_cons (pv 4) pa_nil)))))))), ?_⟩
    obtain ⟨y, C, dx, z, dl, rfl, hy, cf, rfl, hz, rfl, h0, h1, q⟩ := h
    refine ⟨_, rfl, _, rfl, _, _, rfl, y, C, dx, _, z, rfl, hy, cf, Nat.le_of_ble_eq_true rfl, rfl, hz, fun H1 m1 => ?_⟩
    refine ⟨_, rfl, _, rfl, _, rfl, _, rfl, _, _, _, _, rfl, y, C, dx, _, dl, rfl, m1.2, cf, Nat.le_of_ble_eq_true rfl, rfl, h0, h1, fun H2 m2 => ?_⟩
    exact q _ (m1.trans m2)
/-! ### Piece, Break -/
def sp_Piece_init (K : PySem.W.Frag) : Sp := S7 fun a b c d e f g H Q => ∃ (y dx : Addr) (z : Str) (lo hi dl : Int), a = .ref y ∧ H y = some (.ins (ga K "Piece") dx []) ∧ b = .str z ∧ NmOk z ∧ d = .int lo ∧ e = .int hi ∧ 1 ≤ lo ∧ lo ≤ hi ∧ hi ≤ lo + 8 ∧ g = .int dl ∧ 0 ≤ dl ∧ dl ≤ 8 ∧
  ∀ H', Mut y H H' (.ins (ga K "Piece") dx [("name", .str z), ("grid", c), ("minute", f), ("delay", .int dl), ("least", .int lo), ("most", .int hi)]) → Q .non H'
theorem fo_Piece_init (T : TX K mg w) : ∃ (fd : FuncData), FnOk PP w K mg base CX0 4 (ma K (ga K "Piece") "__init__") fd ["self", "name", "grid", "least", "most", "minute", "delay"] (sp_Piece_init K) ∧
    (∃ g, KBn K fd ["self", "name", "grid", "least", "most", "minute", "delay"] 2 ["grid", "least", "most"] g (fun vs zs => vs ++ zs ++ [.non, .int 0])) ∧ ∃ g, KBn K fd ["self", "name", "grid", "least", "most", "minute", "delay"] 2 ["grid", "least", "most", "minute", "delay"] g (fun vs zs => vs ++ zs) := by
  obtain ⟨fd, F⟩ := T.sup_Piece
  obtain ⟨fd2, g2, G, kb⟩ := fo_Item_init (base := base) T
  have hD := T.v_Piece_MOST_SPREAD
  obtain ⟨u, hu⟩ := hD
  refine ⟨fd, fn_sup (N := N_Piece_init) F sc_Piece_init rfl rfl G T.ty_item.2 T.si_Piece T.ty_item.1 kb (fun vs H Q E h => ?_) (fun cdv A outer s H vs Q E hr h => ?_) (fun _ _ => rfl) (fun _ _ => rfl) (fun _ _ => rfl) (fun _ _ => rfl) (fun _ _ => rfl) (fun _ _ => rfl), ?_, ?_⟩
  · obtain ⟨a, b, c, d, e, f, g, rfl, _⟩ := h
    rfl
  · obtain ⟨a, b, c, d, e, f, g, rfl, y, dx, z, lo, hi, dl, rfl, hy, rfl, hz, rfl, rfl, h1, h2, h3, rfl, h4, h5, q⟩ := h
    refine ⟨_, _, _, _, _, _, rfl, hy, (pa_cons (pv 1) pa_nil), (pk_cons (pv 2) (pk_cons (pv 5) (pk_cons (pv 6) pk_nil))), (pss_cons (ps_if (pt_cmpR op_lt (pv 3) pe_int (nomark _)) (pss_one ps_never)
        pss_nil)
      (pss_cons (ps_if (pt_not (pt_chain op_le op_le (pv 3) (pv 4) (pe_op op_add (pv 3) (ClX.pe_cval (pe_gr T.g_Piece))))) (pss_one ps_never)
        pss_nil)
      (pss_cons (ps_fld (pv 0) (pv 3) rfl)
      (pss_one (ps_fld (pv 0) (pv 4) rfl))))), ?_⟩
    refine ⟨_, rfl, _, rfl, _, rfl, _, rfl, rfl, rfl, _, _, _, _, _, rfl, y, _, dx, z, dl, rfl, hy, T.cf true, rfl, hz, rfl, h4, h5, fun H1 m1 => ?_⟩
    refine ⟨_, rfl, _, _, rfl, rfl, _, rfl, ifF (decide_eq_false (by omega)) ?_⟩
    refine ⟨_, rfl, _, rfl, _, _, rfl, rfl, _, rfl, ifT (decide_eq_true (by omega)) ⟨_, rfl, _, _, _, _, rfl, T.cr_Piece, hu, _, _, rfl, rfl, _, _, rfl, rfl, _, rfl, ifF (by simp; omega) ?_⟩⟩
    refine ⟨_, rfl, _, rfl, y, _, dx, _, rfl, m1.2, T.c_Piece, T.a_Piece_least, ltK rfl, ?_⟩
    refine ⟨_, rfl, _, rfl, y, _, dx, _, rfl, upd_same, T.c_Piece, T.a_Piece_most, ltK rfl, ?_⟩
    exact q _ (m1.then_upd.then_upd)
  · have F2 := F
    obtain ⟨mv, kb⟩ := F2.kbinds0 (ps := ["self", "name", "grid", "least", "most", "minute", "delay"]) 2 ["grid", "least", "most"] [("minute", .non), ("delay", .int 0)] (fun us mv ws => us ++ ws ++ mv) (List.cons_ne_nil _ _) (fun q hq => hq) (fun r1 r2 r3 => (r1.append r3).append r2)
      (fun D doc pm an cdv ct us mv ws l1 l2 l3 => match us, mv, ws, l1, l2, l3 with | [_, _], [_, _], [_, _, _], _, _, _ => ⟨_, _, _, _, _, _, rfl, rfl, ⟨_, _, _, _, _, _, rfl, rfl, rfl⟩⟩)
    exact ⟨_, kb⟩
  · obtain ⟨mv, kb⟩ := F.kbinds0 (ps := ["self", "name", "grid", "least", "most", "minute", "delay"]) 2 ["grid", "least", "most", "minute", "delay"] [] (fun us mv ws => us ++ ws) (List.cons_ne_nil _ _) (fun q hq => by cases hq) (fun r1 r2 r3 => r1.append r3)
      (fun D doc pm an cdv ct us mv ws l1 l2 l3 => match us, mv, ws, l1, l2, l3 with | [_, _], [], [_, _, _, _, _], _, _, _ => rfl)
    exact ⟨_, kb⟩
def sp_Break_init (K : PySem.W.Frag) : Sp := S8 fun a b c d e f g h H Q => ∃ (y dx : Addr) (z : Str) (pl un dl pa : Int), a = .ref y ∧ H y = some (.ins (ga K "Break") dx []) ∧ b = .str z ∧ NmOk z ∧ e = .int pl ∧ f = .int un ∧ g = .int dl ∧ h = .int pa ∧ 1 ≤ pl ∧ pl ≤ 12 ∧ 1 ≤ un ∧ 1 ≤ pa ∧ pa ≤ 64 ∧ 0 ≤ dl ∧ dl ≤ 8 ∧
  ∀ H', Mut y H H' (.ins (ga K "Break") dx [("name", .str z), ("grid", c), ("minute", d), ("delay", .int dl), ("places", .int pl), ("unit", .int un), ("patience", .int pa)]) → Q .non H'
theorem fo_Break_init (T : TX K mg w) : ∃ (fd : FuncData), FnOk PP w K mg base CX0 4 (ma K (ga K "Break") "__init__") fd ["self", "name", "grid", "minute", "places", "unit", "delay", "patience"] (sp_Break_init K) ∧
    (∃ g, KBn K fd ["self", "name", "grid", "minute", "places", "unit", "delay", "patience"] 2 ["grid", "minute", "places", "unit"] g (fun vs zs => vs ++ zs ++ [.int 0, .int 1])) ∧ ∃ g, KBn K fd ["self", "name", "grid", "minute", "places", "unit", "delay", "patience"] 2 ["grid", "minute", "places", "unit", "delay", "patience"] g (fun vs zs => vs ++ zs) := by
  obtain ⟨fd, F⟩ := T.sup_Break
  obtain ⟨fd2, g2, G, kb⟩ := fo_Item_init (base := base) T
  obtain ⟨u, hu⟩ := T.v_Break_MOST_PLACES
  obtain ⟨u', hu'⟩ := T.v_Break_MOST_PATIENCE
  refine ⟨fd, fn_sup (N := N_Break_init) F sc_Break_init rfl rfl G T.ty_item.2 T.si_Break T.ty_item.1 kb (fun vs H Q E h => ?_) (fun cdv A outer s H vs Q E hr h => ?_) (fun _ _ => rfl) (fun _ _ => rfl) (fun _ _ => rfl) (fun _ _ => rfl) (fun _ _ => rfl) (fun _ _ => rfl), ?_, ?_⟩
  · obtain ⟨a, b, c, d, e, f, g, h, rfl, _⟩ := h
    rfl
  · obtain ⟨a, b, c, d, e, f, g, h, rfl, y, dx, z, pl, un, dl, pa, rfl, hy, rfl, hz, rfl, rfl, rfl, rfl, h1, h2, h3, h4, h5, h6, h7, q⟩ := h
    refine ⟨_, _, _, _, _, _, rfl, hy, (pa_cons (pv 1) pa_nil), (pk_cons (pv 2) (pk_cons (pv 3) (pk_cons (pv 6) pk_nil))), (pss_cons (ps_if (pt_not (pt_chain op_le op_le pe_int (pv 4) (ClX.pe_cval (pe_gr T.g_Break)))) (pss_one ps_never)
        pss_nil)
      (pss_cons (ps_if (pt_cmpR op_lt (pv 5) pe_int (nomark _)) (pss_one ps_never)
        pss_nil)
      (pss_cons (ps_if (pt_not (pt_chain op_le op_le pe_int (pv 7) (ClX.pe_cval (pe_gr T.g_Break)))) (pss_one ps_never)
        pss_nil)
      (pss_cons (ps_fld (pv 0) (pv 4) rfl)
      (pss_cons (ps_fld (pv 0) (pv 5) rfl)
      (pss_one (ps_fld (pv 0) (pv 7) rfl))))))), ?_⟩
    refine ⟨_, rfl, _, rfl, _, rfl, _, rfl, rfl, rfl, _, _, _, _, _, rfl, y, _, dx, z, dl, rfl, hy, T.cf false, rfl, hz, rfl, h6, h7, fun H1 m1 => ?_⟩
    refine ⟨_, rfl, _, _, rfl, rfl, _, rfl, ifT (decide_eq_true (by omega)) ⟨_, _, _, _, rfl, T.cr_Break, hu, _, _, rfl, rfl, _, rfl, ifF (by simp; omega) ?_⟩⟩
    refine ⟨_, rfl, _, _, rfl, rfl, _, rfl, ifF (decide_eq_false (by omega)) ?_⟩
    refine ⟨_, rfl, _, _, rfl, rfl, _, rfl, ifT (decide_eq_true (by omega)) ⟨_, _, _, _, rfl, T.cr_Break, hu', _, _, rfl, rfl, _, rfl, ifF (by simp; omega) ?_⟩⟩
    refine ⟨_, rfl, _, rfl, y, _, dx, _, rfl, m1.2, T.c_Break, T.a_Break_places, ltK rfl, ?_⟩
    refine ⟨_, rfl, _, rfl, y, _, dx, _, rfl, upd_same, T.c_Break, T.a_Break_unit, ltK rfl, ?_⟩
    refine ⟨_, rfl, _, rfl, y, _, dx, _, rfl, upd_same, T.c_Break, T.a_Break_patience, ltK rfl, ?_⟩
    exact q _ (m1.then_upd.then_upd.then_upd)
  · obtain ⟨mv, kb⟩ := F.kbinds0 (ps := ["self", "name", "grid", "minute", "places", "unit", "delay", "patience"]) 2 ["grid", "minute", "places", "unit"] [("delay", .int 0), ("patience", .int 1)] (fun us mv ws => us ++ ws ++ mv) (List.cons_ne_nil _ _) (fun q hq => hq) (fun r1 r2 r3 => (r1.append r3).append r2)
      (fun D doc pm an cdv ct us mv ws l1 l2 l3 => match us, mv, ws, l1, l2, l3 with | [_, _], [_, _], [_, _, _, _], _, _, _ => ⟨_, _, _, _, _, _, rfl, rfl, ⟨_, _, _, _, _, _, rfl, rfl, rfl⟩⟩)
    exact ⟨_, kb⟩
  · obtain ⟨mv, kb⟩ := F.kbinds0 (ps := ["self", "name", "grid", "minute", "places", "unit", "delay", "patience"]) 2 ["grid", "minute", "places", "unit", "delay", "patience"] [] (fun us mv ws => us ++ ws) (List.cons_ne_nil _ _) (fun q hq => by cases hq) (fun r1 r2 r3 => r1.append r3)
      (fun D doc pm an cdv ct us mv ws l1 l2 l3 => match us, mv, ws, l1, l2, l3 with | [_, _], [], [_, _, _, _, _, _], _, _, _ => rfl)
    exact ⟨_, kb⟩
/-- what is asked of an item -/
structure ItOk (it : ItD) : Prop where
  nm : NmOk it.nm
  st : 0 < it.st
  st16 : it.st ≤ 16
  y1000 : it.y ≤ 1000
  dl0 : 0 ≤ it.dl
  dl8 : it.dl ≤ 8
  pc : it.pc = true → 1 ≤ it.x ∧ it.x ≤ it.y ∧ it.y ≤ it.x + 8
  br : it.pc = false → 1 ≤ it.x ∧ it.x ≤ 12 ∧ 1 ≤ it.y ∧ 1 ≤ it.z ∧ it.z ≤ 64
theorem kc_Piece3 (T : TX K mg w) : KCtor PP w K mg base 4 "Piece" 1 ["grid", "least", "most"] (fun vs zs H Q => ∃ (g : Addr) (it : ItD), vs = [.str it.nm] ∧ zs = [.ref g, .int it.x, .int it.y] ∧ it.pc = true ∧ it.mi = none ∧ it.dl = 0 ∧ ItOk it ∧ GridAt K H g it.st it.sh ∧
    ∀ p H', H p = none → Ex H H' → ItemAt K H' p it → Q (.ref p) H') := by
  obtain ⟨fd, F, ⟨g, kb⟩, _⟩ := fo_Piece_init (base := base) T
  refine ⟨_, _, fd, _, _, g, _, T.k_Piece, T.g_Piece, F, kb, fun vs zs H Q h y dx hy hd ne => ?_⟩
  obtain ⟨gr, it, rfl, rfl, hp, hm, h0, ok, hG, q⟩ := h
  obtain ⟨o1, o2, o3⟩ := ok.pc hp
  refine ⟨_, _, _, _, _, _, _, rfl, y, dx, it.nm, it.x, it.y, 0, rfl, upd_same, rfl, ok.nm, rfl, rfl, o1, o2, o3, rfl, by decide, by decide, fun H' m => ⟨rfl, ?_⟩⟩
  have e := exNew m hy hd
  refine q y H' hy e ⟨gr, ⟨dx, ?_⟩, hG.mono e⟩
  rw [m.2, hp]
  unfold itFs
  rw [hp, hm, h0]
  rfl
theorem kc_Piece5 (T : TX K mg w) : KCtor PP w K mg base 4 "Piece" 1 ["grid", "least", "most", "minute", "delay"] (fun vs zs H Q => ∃ (g : Addr) (it : ItD), vs = [.str it.nm] ∧ zs = [.ref g, .int it.x, .int it.y, miV it.mi, .int it.dl] ∧ it.pc = true ∧ ItOk it ∧ GridAt K H g it.st it.sh ∧
    ∀ p H', H p = none → Ex H H' → ItemAt K H' p it → Q (.ref p) H') := by
  obtain ⟨fd, F, _, ⟨g, kb⟩⟩ := fo_Piece_init (base := base) T
  refine ⟨_, _, fd, _, _, g, _, T.k_Piece, T.g_Piece, F, kb, fun vs zs H Q h y dx hy hd ne => ?_⟩
  obtain ⟨gr, it, rfl, rfl, hp, ok, hG, q⟩ := h
  obtain ⟨o1, o2, o3⟩ := ok.pc hp
  refine ⟨_, _, _, _, _, _, _, rfl, y, dx, it.nm, it.x, it.y, it.dl, rfl, upd_same, rfl, ok.nm, rfl, rfl, o1, o2, o3, rfl, ok.dl0, ok.dl8, fun H' m => ⟨rfl, ?_⟩⟩
  have e := exNew m hy hd
  refine q y H' hy e ⟨gr, ⟨dx, ?_⟩, hG.mono e⟩
  rw [m.2, hp]
  unfold itFs
  rw [hp]
  rfl
theorem kc_Break4 (T : TX K mg w) : KCtor PP w K mg base 4 "Break" 1 ["grid", "minute", "places", "unit"] (fun vs zs H Q => ∃ (g : Addr) (it : ItD), vs = [.str it.nm] ∧ zs = [.ref g, miV it.mi, .int it.x, .int it.y] ∧ it.pc = false ∧ it.dl = 0 ∧ it.z = 1 ∧ ItOk it ∧ GridAt K H g it.st it.sh ∧
    ∀ p H', H p = none → Ex H H' → ItemAt K H' p it → Q (.ref p) H') := by
  obtain ⟨fd, F, ⟨g, kb⟩, _⟩ := fo_Break_init (base := base) T
  refine ⟨_, _, fd, _, _, g, _, T.k_Break, T.g_Break, F, kb, fun vs zs H Q h y dx hy hd ne => ?_⟩
  obtain ⟨gr, it, rfl, rfl, hp, h0, hz, ok, hG, q⟩ := h
  obtain ⟨o1, o2, o3, o4, o5⟩ := ok.br hp
  refine ⟨_, _, _, _, _, _, _, _, rfl, y, dx, it.nm, it.x, it.y, 0, 1, rfl, upd_same, rfl, ok.nm, rfl, rfl, rfl, rfl, o1, o2, o3, by decide, by decide, by decide, by decide, fun H' m => ⟨rfl, ?_⟩⟩
  have e := exNew m hy hd
  refine q y H' hy e ⟨gr, ⟨dx, ?_⟩, hG.mono e⟩
  rw [m.2, hp]
  unfold itFs
  rw [hp, h0, hz]
  rfl
theorem kc_Break6 (T : TX K mg w) : KCtor PP w K mg base 4 "Break" 1 ["grid", "minute", "places", "unit", "delay", "patience"] (fun vs zs H Q => ∃ (g : Addr) (it : ItD), vs = [.str it.nm] ∧ zs = [.ref g, miV it.mi, .int it.x, .int it.y, .int it.dl, .int it.z] ∧ it.pc = false ∧ ItOk it ∧ GridAt K H g it.st it.sh ∧
    ∀ p H', H p = none → Ex H H' → ItemAt K H' p it → Q (.ref p) H') := by
  obtain ⟨fd, F, _, ⟨g, kb⟩⟩ := fo_Break_init (base := base) T
  refine ⟨_, _, fd, _, _, g, _, T.k_Break, T.g_Break, F, kb, fun vs zs H Q h y dx hy hd ne => ?_⟩
  obtain ⟨gr, it, rfl, rfl, hp, ok, hG, q⟩ := h
  obtain ⟨o1, o2, o3, o4, o5⟩ := ok.br hp
  refine ⟨_, _, _, _, _, _, _, _, rfl, y, dx, it.nm, it.x, it.y, it.dl, it.z, rfl, upd_same, rfl, ok.nm, rfl, rfl, rfl, rfl, o1, o2, o3, o4, o5, ok.dl0, ok.dl8, fun H' m => ⟨rfl, ?_⟩⟩
  have e := exNew m hy hd
  refine q y H' hy e ⟨gr, ⟨dx, ?_⟩, hG.mono e⟩
  rw [m.2, hp]
  unfold itFs
  rw [hp]
  rfl
end
end BB
namespace BB
open PySem PySem.Spec PyProof.Rows L2 He Evl
section
variable {K : PySem.W.Frag} {mg : Str → Option Value} {w : World} {base : Heap}
theorem inV_str (z : Str) (zs : List Str) : inV (.str z) (zs.map V.str) = decide (z ∈ zs) := by
  unfold inV
  rw [List.any_map]
  induction zs with
  | nil => rfl
  | cons a r ih =>
    rw [List.any_cons, ih]
    show ((a == z) || decide (z ∈ r)) = decide (z ∈ a :: r)
    by_cases h : a = z
    · subst h
      simp
    · have : (a == z) = false := by
        rw [beq_eq_false_iff_ne]
        exact h
      rw [this]
      simp [Ne.symm h]
/-! ### houses -/
def sp_span_of_bounds (K : PySem.W.Frag) : Sp := S1 fun a H Q => ∃ (p : Addr) (lo hi : Int), a = .ref p ∧ SqT K H p [.int lo, .int hi] ∧ 0 ≤ lo ∧ lo ≤ hi ∧ hi ≤ lo + 8 ∧ ∀ s H', Ex H H' → SpanAt K H' s lo hi → Q (.ref s) H'
theorem ok_span_of_bounds (T : TX K mg w) : FnR PP w K mg base CX0 3 (ga K "span_of_bounds") (sp_span_of_bounds K) := by
  refine mkS1 (bn T.f_span_of_bounds (fun _ _ _ _ _ _ us hl => match us, hl with | [_], _ => rfl)) sc_span_of_bounds fun cdv A outer s H a Q E hr h => ?_
  refine ⟨_, (pss_cons (ps_asg (pv 0) (pg_tup rfl (pgs_cons (pg_name (i := 1) sc_span_of_bounds.nd rfl (Or.inl rfl)) (pgs_cons (pg_name (i := 2) sc_span_of_bounds.nd rfl (Or.inl rfl)) pgs_nil))))
      (pss_cons (ps_if (pt_not (pt_chain3 op_le op_le op_le pe_int (pv 1) (pv 2) (pe_op op_add (pv 1) (pe_gi T.i_WIDEST_BOUNDS)))) (pss_one ps_never)
        pss_nil)
      (pss_one (ps_ret (pe_ctor (ct_Span T) (hr.mono (by decide)) (pa_cons (pv 1) (pa_cons (pv 2) pa_nil))))))), ?_⟩
  obtain ⟨p, lo, hi, rfl, hp, h0, h1, h2, q⟩ := h
  refine ⟨_, rfl, p, _, rfl, hp, rfl, _, _, rfl, _, _, rfl, rfl, ?_⟩
  refine ⟨_, rfl, _, _, rfl, rfl, _, rfl, ifT (decide_eq_true h0) ⟨_, rfl, _, _, rfl, rfl, _, rfl, ifT (decide_eq_true h1) ⟨_, rfl, _, _, rfl, rfl, _, _, rfl, rfl, _, rfl, ifF (by simp; omega) ?_⟩⟩⟩
  exact ⟨_, rfl, _, rfl, _, _, rfl, lo, hi, rfl, rfl, h1, fun s H' _ e hS => q s H' e hS⟩
def sp_check_kinds (K : PySem.W.Frag) : Sp := S1 fun a H Q => ∃ (p : Addr) (zs : List Str), a = .ref p ∧ SqL K H p (zs.map V.str) ∧ zs.length ≤ 5 ∧ (∀ z ∈ zs, NmOk z) ∧ zs.Nodup ∧ ∀ H', Ex H H' → Q .non H'
theorem ok_check_kinds (T : TX K mg w) : FnR PP w K mg base CX0 2 (ga K "check_kinds") (sp_check_kinds K) := by
  refine mkS1 (bn T.f_check_kinds (fun _ _ _ _ _ _ us hl => match us, hl with | [_], _ => rfl)) sc_check_kinds fun cdv A outer s H a Q E hr h => ?_
  refine ⟨_, (pss_cons (ps_if (pt_cmpR op_gt (pe_callB call_len_seq (by rfl) T.n_len (by decide +kernel) (pa_cons (pv 0) pa_nil)) (pe_gi T.i_MOST_KINDS) (nomark _)) (pss_one ps_never)
        pss_nil)
      (pss_one (ps_for PassesOwn.never rfl (pi_enum (by rfl) T.n_enumerate (pa_cons (pv 0) pa_nil)) (pg_tup rfl (pgs_cons (pg_name (i := 1) sc_check_kinds.nd rfl (Or.inl rfl)) (pgs_cons (pg_name (i := 2) sc_check_kinds.nd rfl (Or.inl rfl)) pgs_nil)))
        (pss_cons (ps_if (pt_not (pt_val (pe_fn (ok_is_name T) (hr.mono (by decide)) T.kp_is_name T.g_is_name (pa_cons (pv 2) pa_nil)))) (pss_one ps_never)
        pss_nil)
      (pss_one (ps_if (pt_cmpR op_in_seq (pv 2) (pe_slice sl_list (pv 0) po_none (po_some (pv 1))) (by with_unfolding_all rfl)) (pss_one ps_never)
        pss_nil)))))), ?_⟩
  obtain ⟨p, zs, rfl, hp, hl, hz, hn, q⟩ := h
  refine ⟨_, rfl, p, _, rfl, .inl hp, _, _, rfl, rfl, _, rfl, ifF (decide_eq_false (by rw [List.length_map]; omega)) ?_⟩
  refine ⟨_, rfl, p, _, rfl, hp, for_it walk_enum (fun i σ H' => Ex H H' ∧ ∃ x y, σ = [some (.ref p), x, y]) ⟨Ex.refl H, _, _, rfl⟩ (fun i σ H' _ h => ex_l h.1 hp) (fun i x σ H1 H2 hi h y => ?_) (fun σ H1 h => ?_)⟩
  · obtain ⟨e, s1, s2, rfl⟩ := h
    obtain ⟨t, x1, x2, rfl, hT, rfl, e1, e2⟩ := y
    cases e1
    obtain ⟨z, hz1, rfl⟩ := Option.map_eq_some_iff.mp ((List.getElem?_map ..).symm.trans e2)
    refine ⟨t, _, rfl, SqT.of upd_same, rfl, _, _, rfl, _, _, rfl, rfl, ?_⟩
    refine ⟨_, rfl, _, rfl, z, rfl, hz z (List.mem_of_getElem? hz1), fun H3 e3 => ⟨_, rfl, ?_⟩⟩
    have e4 : Ex H H3 := (e.trans (Ex.new hT)).trans e3
    refine ⟨_, rfl, _, rfl, _, rfl, _, rfl, p, _, rfl, ex_l e4 hp, fun l hl2 => ?_⟩
    have ec : cutV (zs.map V.str) none (some (i : Int)) = (zs.take i).map V.str := by
      unfold cutV
      rw [HT.sIx_none, HT.sIx_nat, List.drop_zero, Nat.sub_zero, List.length_map, ← List.map_take]
      have : i < zs.length := (List.getElem?_eq_some_iff.mp hz1).1
      rw [Nat.min_eq_left (by omega)]
    refine ⟨l, _, rfl, .inl (SqL.of upd_same), rfl, ?_, ?_⟩
    · rw [ec, List.all_map]
      exact List.all_eq_true.mpr fun _ _ => rfl
    · refine ⟨_, rfl, ifF ?_ ?_⟩
      · rw [ec]
        show inV (.str z) ((zs.take i).map V.str) = false
        rw [inV_str, decide_eq_false]
        intro hm
        obtain ⟨j, hj, ej⟩ := List.mem_iff_getElem.mp hm
        rw [List.length_take] at hj
        rw [List.getElem_take] at ej
        have e1 : zs[j]? = some z := by rw [List.getElem?_eq_getElem (by omega), ej]
        have := nodup_ix hn e1 hz1
        omega
      · exact ⟨e4.trans (Ex.new hl2), _, _, rfl⟩
  · exact q _ h.1
structure HsOk (st cr ah ap wl wh pl ph : Int) (zs : List Str) : Prop where
  st : 1 ≤ st ∧ st ≤ 6
  cr : 1 ≤ cr ∧ cr ≤ 6
  ah : 1 ≤ ah ∧ ah ≤ 3
  ap : 1 ≤ ap
  w : 0 ≤ wl ∧ wl ≤ wh ∧ wh ≤ wl + 8
  p : 0 ≤ pl ∧ pl ≤ ph ∧ ph ≤ pl + 8
  len : zs.length ≤ 5
  nm : ∀ z ∈ zs, NmOk z
  nd : zs.Nodup
def sp_House_init (K : PySem.W.Frag) : Sp := S8 fun a b c d e f g h H Q => ∃ (y dx kp wp pp : Addr) (st cr ah ap wl wh pl ph : Int) (zs : List Str), a = .ref y ∧ H y = some (.ins (ga K "House") dx []) ∧ b = .int st ∧ c = .int cr ∧ d = .ref kp ∧ SqL K H kp (zs.map V.str) ∧
  e = .ref wp ∧ SqT K H wp [.int wl, .int wh] ∧ f = .ref pp ∧ SqT K H pp [.int pl, .int ph] ∧ g = .int ah ∧ h = .int ap ∧ HsOk st cr ah ap wl wh pl ph zs ∧
  ∀ H' kt wa pa, Mut y H H' (.ins (ga K "House") dx [("studios", .int st), ("crews", .int cr), ("kinds", .ref kt), ("walk", .ref wa), ("pack", .ref pa), ("ahead", .int ah), ("apart", .int ap)]) → SpanAt K H' wa wl wh → SpanAt K H' pa pl ph → Q .non H'
theorem SpanAt.mut {H H' : Hp} {a y : Addr} {lo hi : Int} {o : HO} (h : SpanAt K H a lo hi) (n : a ≠ y) (m : Mut y H H' o) : SpanAt K H' a lo hi := by
  obtain ⟨dx, h⟩ := h
  exact ⟨dx, m.1 _ _ n h⟩
theorem fo_House_init (T : TX K mg w) : ∃ (fd : FuncData), FnOk PP w K mg base CX0 4 (ma K (ga K "House") "__init__") fd ["self", "studios", "crews", "kinds", "walk", "pack", "ahead", "apart"] (sp_House_init K) ∧
    (∃ g, KBn K fd ["self", "studios", "crews", "kinds", "walk", "pack", "ahead", "apart"] 4 ["ahead", "apart"] g (fun vs zs => vs ++ [.ref (kwAt ("House", some "__init__") "walk" K), .ref (kwAt ("House", some "__init__") "pack" K)] ++ zs)) ∧
    ∃ g, KBn K fd ["self", "studios", "crews", "kinds", "walk", "pack", "ahead", "apart"] 4 ["walk", "pack", "ahead", "apart"] g (fun vs zs => vs ++ zs) := by
  obtain ⟨fd, F⟩ := T.f_House_init
  refine ⟨fd, F.ok sc_House_init (fun vs H Q E h => ?_) (fun cdv A outer s H vs Q E hr h => ?_), ?_, ?_⟩
  · obtain ⟨a, b, c, d, e, f, g, h, rfl, _⟩ := h
    rfl
  · obtain ⟨a, b, c, d, e, f, g, i, rfl, h⟩ := h
    suffices hs : ∃ t, PSs (cxOf CX0 PP w K mg base N_House_init "House.__init__" (defScope s_House_init) (ma K (ga K "House") "__init__") cdv A outer s H E).nox (defBody s_House_init) t ∧ t { nx := fun _ H' => Q .non H', rt := Q } (L2.start N_House_init [a, b, c, d, e, f, g, i]) H by
      obtain ⟨t, h1, h2⟩ := hs
      exact ⟨t, PSs.nox h1, h2⟩
    refine ⟨_, (pss_cons (ps_if (pt_not (pt_chain op_le op_le pe_int (pv 1) (pe_gi T.i_MOST_STUDIOS))) (pss_one ps_never)
        pss_nil)
      (pss_cons (ps_if (pt_not (pt_chain op_le op_le pe_int (pv 2) (pe_gi T.i_MOST_CREWS))) (pss_one ps_never)
        pss_nil)
      (pss_cons (ps_expr (pe_fn (ok_check_kinds T) (hr.mono (by decide)) T.kp_check_kinds T.g_check_kinds (pa_cons (pv 3) pa_nil)))
      (pss_cons (ps_set (i := 8) sc_House_init.nd rfl (Or.inl rfl) (pe_fn (ok_span_of_bounds T) (hr.mono (by decide)) T.kp_span_of_bounds T.g_span_of_bounds (pa_cons (pv 4) pa_nil)))
      (pss_cons (ps_set (i := 9) sc_House_init.nd rfl (Or.inl rfl) (pe_fn (ok_span_of_bounds T) (hr.mono (by decide)) T.kp_span_of_bounds T.g_span_of_bounds (pa_cons (pv 5) pa_nil)))
      (pss_cons (ps_if (pt_not (pt_chain op_le op_le pe_int (pv 6) (pe_gi T.i_MOST_AHEAD))) (pss_one ps_never)
        pss_nil)
      (pss_cons (ps_if (pt_cmpR op_lt (pv 7) pe_int (nomark _)) (pss_one ps_never)
        pss_nil)
      (pss_cons (ps_fld (pv 0) (pv 1) rfl)
      (pss_cons (ps_fld (pv 0) (pv 2) rfl)
      (pss_cons (ps_fld (pv 0) (pe_callTy call_tuple_of (by rfl) T.n_tuple (by decide +kernel) (pa_cons (pv 3) pa_nil)) rfl)
      (pss_cons (ps_fld (pv 0) (pv 8) rfl)
      (pss_cons (ps_fld (pv 0) (pv 9) rfl)
      (pss_cons (ps_fld (pv 0) (pv 6) rfl)
      (pss_one (ps_fld (pv 0) (pv 7) rfl))))))))))))))), ?_⟩
    obtain ⟨y, dx, kp, wp, pp, st, cr, ah, ap, wl, wh, pl, ph, zs, rfl, hy, rfl, rfl, rfl, hk, rfl, hw, rfl, hp, rfl, rfl, ok, q⟩ := h
    have o1 := ok.st
    have o2 := ok.cr
    have o3 := ok.ah
    have o4 := ok.ap
    refine ⟨_, rfl, _, _, rfl, rfl, _, rfl, ifT (decide_eq_true (by omega)) ⟨_, _, rfl, rfl, _, rfl, ifF (by simp; omega) ?_⟩⟩
    refine ⟨_, rfl, _, _, rfl, rfl, _, rfl, ifT (decide_eq_true (by omega)) ⟨_, _, rfl, rfl, _, rfl, ifF (by simp; omega) ?_⟩⟩
    refine ⟨_, rfl, _, rfl, kp, zs, rfl, hk, ok.len, ok.nm, ok.nd, fun H1 e1 => ?_⟩
    refine ⟨_, rfl, _, rfl, wp, wl, wh, rfl, ex_t e1 hw, ok.w.1, ok.w.2.1, ok.w.2.2, fun wa H2 e2 hwa => ?_⟩
    refine ⟨_, rfl, _, rfl, pp, pl, ph, rfl, ex_t (e1.trans e2) hp, ok.p.1, ok.p.2.1, ok.p.2.2, fun pa H3 e3 hpa => ?_⟩
    refine ⟨_, rfl, _, _, rfl, rfl, _, rfl, ifT (decide_eq_true (by omega)) ⟨_, _, rfl, rfl, _, rfl, ifF (by simp; omega) ?_⟩⟩
    refine ⟨_, rfl, _, _, rfl, rfl, _, rfl, ifF (decide_eq_false (by omega)) ?_⟩
    have e4 : Ex H H3 := (e1.trans e2).trans e3
    have hy3 := e4 _ _ hy
    refine ⟨_, rfl, _, rfl, y, _, dx, _, rfl, hy3, T.c_House, T.a_House_studios, ltK rfl, ?_⟩
    refine ⟨_, rfl, _, rfl, y, _, dx, _, rfl, upd_same, T.c_House, T.a_House_crews, ltK rfl, ?_⟩
    have hk3 : SqL K (upd (upd H3 y (.ins (ga K "House") dx (putF "studios" (.int st) []))) y (.ins (ga K "House") dx (putF "crews" (.int cr) (putF "studios" (.int st) [])))) kp (zs.map V.str) := by
      rcases ex_l e4 hk with (z | ⟨o, z⟩) | z
      · have n : kp ≠ y := fun n => by rw [n, hy3] at z; cases z
        exact .inl (.inl (by rw [upd_ne n, upd_ne n]; exact z))
      · have n : kp ≠ y := fun n => by rw [n, hy3] at z; cases z
        exact .inl (.inr ⟨o, by rw [upd_ne n, upd_ne n]; exact z⟩)
      · exact .inr z
    refine ⟨_, rfl, kp, _, rfl, .inl ⟨hk3, fun kt hkt => ?_⟩⟩
    have nk : y ≠ kt := fun n => by rw [← n, upd_same] at hkt; cases hkt
    refine ⟨_, rfl, y, _, dx, _, rfl, (upd_ne nk).trans upd_same, T.c_House, T.a_House_kinds, ltK rfl, ?_⟩
    refine ⟨_, rfl, _, rfl, y, _, dx, _, rfl, upd_same, T.c_House, T.a_House_walk, ltK rfl, ?_⟩
    refine ⟨_, rfl, _, rfl, y, _, dx, _, rfl, upd_same, T.c_House, T.a_House_pack, ltK rfl, ?_⟩
    refine ⟨_, rfl, _, rfl, y, _, dx, _, rfl, upd_same, T.c_House, T.a_House_ahead, ltK rfl, ?_⟩
    refine ⟨_, rfl, _, rfl, y, _, dx, _, rfl, upd_same, T.c_House, T.a_House_apart, ltK rfl, ?_⟩
    have m0 : Mut y H3 (upd (upd H3 y (.ins (ga K "House") dx (putF "studios" (.int st) []))) y (.ins (ga K "House") dx (putF "crews" (.int cr) (putF "studios" (.int st) [])))) (.ins (ga K "House") dx (putF "crews" (.int cr) (putF "studios" (.int st) []))) := Mut.upd.then_upd
    have m1 := (((((m0.exr (Ex.new (o := .tup (zs.map V.str)) hkt)).then_upd (o' := .ins (ga K "House") dx [("studios", .int st), ("crews", .int cr), ("kinds", .ref kt)])).then_upd (o' := .ins (ga K "House") dx [("studios", .int st), ("crews", .int cr), ("kinds", .ref kt), ("walk", .ref wa)])).then_upd
      (o' := .ins (ga K "House") dx [("studios", .int st), ("crews", .int cr), ("kinds", .ref kt), ("walk", .ref wa), ("pack", .ref pa)])).then_upd (o' := .ins (ga K "House") dx [("studios", .int st), ("crews", .int cr), ("kinds", .ref kt), ("walk", .ref wa), ("pack", .ref pa), ("ahead", .int ah)])).then_upd
      (o' := .ins (ga K "House") dx [("studios", .int st), ("crews", .int cr), ("kinds", .ref kt), ("walk", .ref wa), ("pack", .ref pa), ("ahead", .int ah), ("apart", .int ap)])
    have nw : wa ≠ y := fun n => by
      obtain ⟨dw, h⟩ := hwa.mono e3
      rw [n, hy3] at h
      have := congrArg (fun z : Option HO => match z with | some (.ins _ _ fs) => fs.length | _ => 0) h
      cases this
    have np : pa ≠ y := fun n => by
      obtain ⟨dw, h⟩ := hpa
      rw [n, hy3] at h
      have := congrArg (fun z : Option HO => match z with | some (.ins _ _ fs) => fs.length | _ => 0) h
      cases this
    exact q _ kt wa pa (m1.exl e4) ((hwa.mono e3).mut nw m1) (hpa.mut np m1)
  · obtain ⟨its, mv, kb⟩ := F.kbinds (ps := ["self", "studios", "crews", "kinds", "walk", "pack", "ahead", "apart"]) 4 ["ahead", "apart"] [("walk", .ref (kwAt ("House", some "__init__") "walk" K)), ("pack", .ref (kwAt ("House", some "__init__") "pack" K))] (fun us its mv ws => us ++ mv ++ ws)
      (List.cons_ne_nil _ _) (List.cons_ne_nil _ _) (fun q hq => by
        rcases List.mem_cons.mp hq with rfl | hq
        · exact List.mem_cons_self
        · rcases List.mem_cons.mp hq with rfl | hq
          · exact List.mem_cons_of_mem _ List.mem_cons_self
          · cases hq) (fun r1 r2 r3 r4 => (r1.append r3).append r4)
      (fun T D doc pm an cdv ct us its mv ws l1 l2 l3 l4 => match us, its, mv, ws, l1, l2, l3, l4 with | [_, _, _, _], [_], [_, _], [_, _], _, _, _, _ => ⟨_, rfl, ⟨_, _, _, _, _, _, rfl, rfl, ⟨_, _, _, _, _, _, rfl, rfl, rfl⟩⟩⟩)
    exact ⟨_, kb⟩
  · obtain ⟨its, mv, kb⟩ := F.kbinds (ps := ["self", "studios", "crews", "kinds", "walk", "pack", "ahead", "apart"]) 4 ["walk", "pack", "ahead", "apart"] [] (fun us its mv ws => us ++ ws)
      (List.cons_ne_nil _ _) (List.cons_ne_nil _ _) (fun q hq => by cases hq) (fun r1 r2 r3 r4 => r1.append r4)
      (fun T D doc pm an cdv ct us its mv ws l1 l2 l3 l4 => match us, its, mv, ws, l1, l2, l3, l4 with | [_, _, _, _], [_], [], [_, _, _, _], _, _, _, _ => ⟨_, rfl, rfl⟩)
    exact ⟨_, kb⟩
theorem kc_House2 (T : TX K mg w) : KCtor PP w K mg base 4 "House" 3 ["ahead", "apart"] (fun vs zs H Q => ∃ (kp : Addr) (st cr ap : Int) (ns : List Str) (D : DyD), vs = [.int st, .int cr, .ref kp] ∧ SqL K H kp (ns.map V.str) ∧ zs = [.int D.ahead, .int ap] ∧ D.wl = 0 ∧ D.wh = 0 ∧ D.pl = 0 ∧ D.ph = 0 ∧
    HsOk st cr D.ahead ap D.wl D.wh D.pl D.ph ns ∧ ∀ p H', H p = none → Ex H H' → HouseAt K H' p D → Q (.ref p) H') := by
  obtain ⟨fd, F, ⟨g, kb⟩, _⟩ := fo_House_init (base := base) T
  refine ⟨_, _, fd, _, _, g, _, T.k_House, T.g_House, F, kb, fun vs zs H Q h y dx hy hd ne => ?_⟩
  obtain ⟨kp, st, cr, ap, ns, D, rfl, hk, rfl, w1, w2, w3, w4, ok, q⟩ := h
  refine ⟨_, _, _, _, _, _, _, _, rfl, y, dx, kp, _, _, st, cr, D.ahead, ap, D.wl, D.wh, D.pl, D.ph, ns, rfl, upd_same, rfl, rfl, rfl, ex_l ((Ex.new hd).trans (Ex.new ((upd_ne ne.symm).trans hy))) hk, rfl, (by rw [w1, w2]; exact T.wp.1 _), rfl, (by rw [w3, w4]; exact T.wp.2.1 _), rfl, rfl, ok, fun H' kt wa pa m h1 h2 => ⟨rfl, ?_⟩⟩
  exact q y H' hy (exNew m hy hd) ⟨_, _, _, _, wa, pa, ⟨dx, m.2⟩, h1, h2⟩
theorem kc_House4 (T : TX K mg w) : KCtor PP w K mg base 4 "House" 3 ["walk", "pack", "ahead", "apart"] (fun vs zs H Q => ∃ (kp wp pp : Addr) (st cr ap : Int) (ns : List Str) (D : DyD), vs = [.int st, .int cr, .ref kp] ∧ SqL K H kp (ns.map V.str) ∧ zs = [.ref wp, .ref pp, .int D.ahead, .int ap] ∧
    SqT K H wp [.int D.wl, .int D.wh] ∧ SqT K H pp [.int D.pl, .int D.ph] ∧ HsOk st cr D.ahead ap D.wl D.wh D.pl D.ph ns ∧ ∀ p H', H p = none → Ex H H' → HouseAt K H' p D → Q (.ref p) H') := by
  obtain ⟨fd, F, _, ⟨g, kb⟩⟩ := fo_House_init (base := base) T
  refine ⟨_, _, fd, _, _, g, _, T.k_House, T.g_House, F, kb, fun vs zs H Q h y dx hy hd ne => ?_⟩
  obtain ⟨kp, wp, pp, st, cr, ap, ns, D, rfl, hk, rfl, hw, hp, ok, q⟩ := h
  have e := (Ex.new (o := .own y) hd).trans (Ex.new (o := .ins (ga K "House") dx []) ((upd_ne ne.symm).trans hy))
  refine ⟨_, _, _, _, _, _, _, _, rfl, y, dx, kp, wp, pp, st, cr, D.ahead, ap, D.wl, D.wh, D.pl, D.ph, ns, rfl, upd_same, rfl, rfl, rfl, ex_l e hk, rfl, ex_t e hw, rfl, ex_t e hp, rfl, rfl, ok, fun H' kt wa pa m h1 h2 => ⟨rfl, ?_⟩⟩
  exact q y H' hy (exNew m hy hd) ⟨_, _, _, _, wa, pa, ⟨dx, m.2⟩, h1, h2⟩
end
end BB
namespace BB
open PySem PySem.Spec PyProof.Rows L2 He Evl
/-! ### dicts by names -/
theorem valV_app {κ : Type} [DecidableEq κ] {kvs more : List (κ × V)} {k : κ} : valV (kvs ++ more) k = (valV kvs k).or (valV more k) := by
  induction kvs with
  | nil => simp [valV_nil]
  | cons p r ih =>
    by_cases e : p.1 = k
    · rw [List.cons_append, valV_pos e, valV_pos e]; rfl
    · rw [List.cons_append, valV_neg e, valV_neg e]; exact ih
theorem valV_none {κ : Type} [DecidableEq κ] {kvs : List (κ × V)} {k : κ} (h : ∀ p ∈ kvs, p.1 ≠ k) : valV kvs k = none := by
  induction kvs with
  | nil => rfl
  | cons p r ih => rw [valV_neg (h p List.mem_cons_self)]; exact ih fun q hq => h q (List.mem_cons_of_mem _ hq)
theorem putK_new {κ : Type} [DecidableEq κ] {kvs : List (κ × V)} {k : κ} {v : V} (h : valV kvs k = none) : putK kvs k v = kvs ++ [(k, v)] := by
  unfold putK
  rw [valV_any, h]
  exact if_neg Bool.false_ne_true
theorem valV_at {κ : Type} [DecidableEq κ] {kvs : List (κ × V)} {i : Nat} {k : κ} {v : V} (hn : (kvs.map (·.1)).Nodup) (h : kvs[i]? = some (k, v)) : valV kvs k = some v := by
  induction kvs generalizing i with
  | nil => cases h
  | cons p r ih =>
    rw [List.map_cons, List.nodup_cons] at hn
    cases i with
    | zero =>
      cases h
      exact valV_pos rfl
    | succ j =>
      have h : r[j]? = some (k, v) := h
      rw [valV_neg fun e => hn.1 (by rw [e]; exact List.mem_map_of_mem (f := fun q : κ × V => q.1) (List.mem_of_getElem? h))]
      exact ih hn.2 h
theorem numsOf_get {its : List ItD} (i : Nat) : (numsOf its)[i]? = its[i]?.map fun it => (Sum.inr it.nm, V.int (i : Nat)) := by
  unfold numsOf
  rw [List.getElem?_map, List.getElem?_zipIdx]
  cases its[i]? with
  | none => rfl
  | some x => simp
theorem numsOf_keys (its : List ItD) : (numsOf its).map (·.1) = its.map fun it => (Sum.inr it.nm : Key) := by
  apply List.ext_getElem?
  intro i
  rw [List.getElem?_map, numsOf_get, List.getElem?_map]
  cases its[i]? <;> rfl
theorem keys_nd {its : List ItD} (h : (its.map (·.nm)).Nodup) : (its.map fun it => (Sum.inr it.nm : Key)).Nodup := by
  rw [List.nodup_iff_pairwise_ne, List.pairwise_map] at h ⊢
  exact h.imp fun e z => e (Sum.inr.inj z)
theorem nums_at {its : List ItD} (hn : (its.map (·.nm)).Nodup) {i : Nat} {it : ItD} (h : its[i]? = some it) : valV (numsOf its) (Sum.inr it.nm) = some (.int (i : Nat)) :=
  valV_at (by rw [numsOf_keys]; exact keys_nd hn) (by rw [numsOf_get, h]; rfl)
theorem nums_no {its : List ItD} {z : Str} (h : z ∉ its.map (·.nm)) : valV (numsOf its) (Sum.inr z) = none := by
  refine valV_none fun p hp e => h ?_
  have := List.mem_map_of_mem (f := (·.1)) hp
  rw [numsOf_keys, e] at this
  obtain ⟨it, h1, h2⟩ := List.mem_map.mp this
  exact List.mem_map.mpr ⟨it, h1, Sum.inr.inj h2⟩
theorem numsOf_len (its : List ItD) : (numsOf its).length = its.length := by
  unfold numsOf
  simp
theorem take_next {α : Type} {xs : List α} {i : Nat} (h : i < xs.length) : xs.take (i + 1) = xs.take i ++ [xs[i]] := by
  rw [List.take_succ, List.getElem?_eq_getElem h]
  rfl
theorem numsOf_take {its : List ItD} {i : Nat} (h : i < its.length) : numsOf (its.take (i + 1)) = numsOf (its.take i) ++ [(Sum.inr its[i].nm, V.int (i : Nat))] := by
  rw [take_next h]
  unfold numsOf
  rw [List.zipIdx_append, List.map_append]
  simp [List.length_take, Nat.min_eq_left (Nat.le_of_lt h)]
/-- the breaks' places -/
def plcs (its : List ItD) : List Int := (its.filter fun it => !it.pc).map (·.x)
theorem plcs_take {its : List ItD} {i : Nat} (h : i < its.length) : plcs (its.take (i + 1)) = plcs (its.take i) ++ if its[i].pc = false then [its[i].x] else [] := by
  rw [take_next h]
  unfold plcs
  rw [List.filter_append, List.map_append]
  cases e : its[i].pc <;> simp [e]
theorem plcs_len (its : List ItD) : (plcs its).length ≤ its.length := by
  unfold plcs
  rw [List.length_map]
  exact List.length_filter_le ..
section
variable {K : PySem.W.Frag} {mg : Str → Option Value} {w : World} {base : Heap} {H H' : Hp} {a : Addr} {it : ItD} {D : DyD} {S : SpD}
theorem ItemAt.isi (h : ItemAt K H a it) (T : TX K mg w) (c : Bool) : ∃ t, TyX K H (.ref a) t ∧ PySem.W.kitOne K t (.ref (ga K (itC c))) = some (it.pc == c) := by
  cases b : it.pc with
  | true =>
    obtain ⟨g, dx, h1⟩ := h.pc b
    refine ⟨_, .base (T.ty_Piece h1), ?_⟩
    cases c with
    | true => exact T.is_Piece_Piece
    | false => exact T.is_Piece_Break
  | false =>
    obtain ⟨g, dx, h1⟩ := h.br b
    refine ⟨_, .base (T.ty_Break h1), ?_⟩
    cases c with
    | true => exact T.is_Break_Piece
    | false => exact T.is_Break_Break
/-- what is asked of a day's items -/
structure ItsOk (its : List ItD) : Prop where
  len : its.length ≤ 8
  nd : (its.map (·.nm)).Nodup
  ok : ∀ it ∈ its, ItOk it
  sum : ((its.filter fun it => !it.pc).map (·.x)).sum ≤ 30
def sp_Order_init (K : PySem.W.Frag) : Sp := S4 fun a b c d H Q => ∃ (y dx ho lp : Addr) (is : List Addr) (D : DyD), a = .ref y ∧ H y = some (.ins (ga K "Order") dx []) ∧ b = .ref ho ∧ c = .int D.opens ∧ d = .ref lp ∧ SqL K H lp (is.map V.ref) ∧ ItemsAt K H is D.its ∧ ItsOk D.its ∧
  ∀ H' tp nd, Mut y H H' (.ins (ga K "Order") dx [("house", .ref ho), ("opens", .int D.opens), ("lineup", .ref tp), ("_numbers", .ref nd)]) → H' tp = some (.tup (is.map V.ref)) → H' nd = some (.dK (numsOf D.its)) → Q .non H'
theorem ok_Order_init (T : TX K mg w) : FnR PP w K mg base CX0 1 (ma K (ga K "Order") "__init__") (sp_Order_init K) := by
  refine mkS4 (bn T.f_Order_init (fun _ _ _ _ _ _ us hl => match us, hl with | [_, _, _, _], _ => rfl)) sc_Order_init fun cdv A outer s H a b c d Q E hr h => ?_
  refine ⟨_, (pss_cons (ps_set (i := 4) sc_Order_init.nd rfl (Or.inl rfl) (pe_callTy call_tuple_of (by rfl) T.n_tuple (by decide +kernel) (pa_cons (pv 3) pa_nil)))
      (pss_cons (ps_if (pt_cmpR op_gt (pe_callB call_len_seq (by rfl) T.n_len (by decide +kernel) (pa_cons (pv 4) pa_nil)) (pe_gi T.i_MOST_ITEMS) (nomark _)) (pss_one ps_never)
        pss_nil)
      (pss_cons (ps_set (i := 5) sc_Order_init.nd rfl (Or.inl rfl) pe_dnewK)
      (pss_cons (ps_for PassesOwn.never rfl (pi_enumT (by rfl) T.n_enumerate (pa_cons (pv 4) pa_nil)) (pg_tup rfl (pgs_cons (pg_name (i := 6) sc_Order_init.nd rfl (Or.inl rfl)) (pgs_cons (pg_name (i := 7) sc_Order_init.nd rfl (Or.inl rfl)) pgs_nil)))
        (pss_cons (ps_if (pt_cmp (pc_din (hu_of hr) (pe_f (pv 7)) (pv 5))) (pss_one ps_never)
        pss_nil)
      (pss_one (ps_dput (hu_of hr) (pv 5) (pe_f (pv 7)) (pv 6) rfl))))
      (pss_cons (ps_if (pt_cmpR op_gt (pe_callB (cr_sum rfl) (by rfl) T.n_sum (by decide +kernel) (pa_cons (pe_lcD (own := [("item", 7)]) rfl sc_Order_init.nd (pi_tup (pv 4)) (blkOk_by (N := N_Order_init) (sc := defScope s_Order_init) (by decide +kernel)) (fun _ _ _ _ _ => (pg_name (i := 7) sc_Order_init.nd rfl (Or.inl rfl))) (fun _ _ _ _ _ => (pts_one (pt_val (pe_callB call_isi (by rfl) T.n_isinstance (by decide +kernel) (pa_cons (pv 7) (pa_cons (pe_gr T.g_Break) pa_nil)))))) (fun _ _ _ _ _ => (pe_f (pv 7)))) pa_nil)) (pe_gi T.i_MOST_PLACES_IN_ALL) (nomark _)) (pss_one ps_never)
        pss_nil)
      (pss_cons (ps_fld (pv 0) (pv 1) rfl)
      (pss_cons (ps_fld (pv 0) (pv 2) rfl)
      (pss_cons (ps_fld (pv 0) (pv 4) rfl)
      (pss_one (ps_fld (pv 0) (pv 5) rfl)))))))))), ?_⟩
  obtain ⟨y, dx, ho, lp, is, D, rfl, hy, rfl, rfl, rfl, hl, hI, ok, q⟩ := h
  have l8 := ok.len
  have li := hI.1
  refine ⟨_, rfl, lp, _, rfl, .inl ⟨hl, fun tp htp => ?_⟩⟩
  have e1 : Ex H (upd H tp (.tup (is.map V.ref))) := Ex.new htp
  generalize hG1 : upd H tp (.tup (is.map V.ref)) = G1 at e1 ⊢
  have tG : G1 tp = some (.tup (is.map V.ref)) := by rw [← hG1]; exact upd_same
  refine ⟨_, rfl, tp, _, rfl, .inr (SqT.of tG), _, _, rfl, rfl, _, rfl, ifF (decide_eq_false (by rw [List.length_map]; omega)) ?_⟩
  intro nd hnd
  refine ⟨_, rfl, tp, _, rfl, SqT.of ((upd_ne (ne_of_none tG hnd)).trans tG), ?_⟩
  refine for_it walk_enumT (fun i σ H' => Ex G1 H' ∧ H' nd = some (.dK (numsOf (D.its.take i))) ∧ ∃ x z, σ = [some (.ref y), some (.ref ho), some (.int D.opens), some (.ref lp), some (.ref tp), some (.ref nd), x, z]) ⟨Ex.new hnd, upd_same, _, _, rfl⟩
    (fun i σ H' _ h => SqT.of (h.1 _ _ tG)) (fun i x σ H1 H2 hi h yy => ?_) (fun σ H1 h => ?_)
  · obtain ⟨e, hd, s1, s2, rfl⟩ := h
    obtain ⟨t, x1, x2, rfl, hT, rfl, ex1, ex2⟩ := yy
    cases ex1
    obtain ⟨p, hp, rfl⟩ := Option.map_eq_some_iff.mp ((List.getElem?_map ..).symm.trans ex2)
    have hi2 : i < D.its.length := by rw [List.length_map] at hi; omega
    obtain ⟨p', hp', hIt⟩ := hI.get hi2
    rw [hp] at hp'
    cases hp'
    have e2 : Ex G1 (upd H1 t (.tup [.int (i : Nat), .ref p])) := e.trans (Ex.new hT)
    have hd2 : (upd H1 t (.tup [.int (i : Nat), .ref p])) nd = some (.dK (numsOf (D.its.take i))) := (upd_ne (ne_of_none hd hT)).trans hd
    have hN := (hIt.mono (e1.trans e2)).name T
    have eg : D.its[i]? = some D.its[i] := List.getElem?_eq_getElem hi2
    have hno : valV (numsOf (D.its.take i)) (Sum.inr D.its[i].nm) = none := nums_no fun hm => by
      obtain ⟨j, hj, ej⟩ := List.mem_iff_getElem.mp hm
      rw [List.length_map, List.length_take] at hj
      have h1 : (D.its.map (·.nm))[j]? = some D.its[i].nm := by
        rw [List.getElem?_eq_getElem (by rw [List.length_map]; omega), ← ej]
        simp
      have h2 : (D.its.map (·.nm))[i]? = some D.its[i].nm := by rw [List.getElem?_map, eg]; rfl
      have := nodup_ix ok.nd h1 h2
      omega
    refine ⟨t, _, rfl, SqT.of upd_same, rfl, _, _, rfl, _, _, rfl, rfl, ?_⟩
    refine ⟨_, rfl, _, _, rfl, hN, _, rfl, nd, _, rfl, DGet.k (k := Sum.inr _) hd2, _, rfl, ifF (by rw [hno]; rfl) ?_⟩
    refine ⟨_, rfl, _, rfl, _, rfl, _, _, rfl, hN, nd, _, rfl, DPut.k (k := Sum.inr _) hd2 (sz_lt (by rw [numsOf_len, List.length_take]; omega)), ?_⟩
    refine ⟨e2.mut hnd, ?_, _, _, rfl⟩
    rw [upd_same, putK_new hno, numsOf_take hi2]
  · obtain ⟨e, hd, s1, s2, rfl⟩ := h
    rw [List.take_of_length_le (by rw [List.length_map]; omega)] at hd
    have eH : Ex H H1 := e1.trans e
    have tH := e _ _ tG
    refine ⟨_, rfl, tp, rfl, ⟨_, SqT.of tH⟩, fun Dl hDl => ?_⟩
    refine lc_it (walk_tup (xs := is.map V.ref)) (fun i H' => Ex H1 H' ∧ H' Dl = some (.lst ((plcs (D.its.take i)).map V.int))) ⟨Ex.new hDl, upd_same⟩ (fun i H' _ h => SqT.of (h.1 _ _ tH)) (fun i x H2 H3 hi h yy => ?_) (fun H2 h => ?_)
    · obtain ⟨e3, hD2⟩ := h
      obtain ⟨rfl, ex2⟩ := yy
      obtain ⟨p, hp, rfl⟩ := Option.map_eq_some_iff.mp ((List.getElem?_map ..).symm.trans ex2)
      have hi2 : i < D.its.length := by rw [List.length_map] at hi; omega
      obtain ⟨p', hp', hIt⟩ := hI.get hi2
      rw [hp] at hp'
      cases hp'
      have hIt := hIt.mono (eH.trans e3)
      obtain ⟨ty, ht1, ht2⟩ := hIt.isi T false
      refine ⟨rfl, _, rfl, _, _, _, _, _, rfl, .own _, ht1, ht2, _, rfl, if2 (fun eb => ?_) (fun eb => ?_)⟩
      · have eb : D.its[i].pc = false := by simpa using eb
        refine ⟨_, rfl, _, _, rfl, hIt.places T eb, _, hD2, sz_lt (by rw [List.length_map]; have := plcs_len (D.its.take i); rw [List.length_take] at this; omega), e3.mut hDl, ?_⟩
        rw [upd_same, plcs_take hi2, if_pos eb, List.map_append]
        rfl
      · have eb : D.its[i].pc = true := by simpa using eb
        refine ⟨e3, ?_⟩
        rw [plcs_take hi2, if_neg (by rw [eb]; exact Bool.noConfusion), List.append_nil]
        exact hD2
    · obtain ⟨e3, hD2⟩ := h
      rw [List.take_of_length_le (by rw [List.length_map]; omega)] at hD2
      refine ⟨Dl, _, rfl, SqL.of hD2, _, _, rfl, rfl, _, rfl, ifF (decide_eq_false (by have := ok.sum; unfold plcs; omega)) ?_⟩
      have e4 : Ex H H2 := eH.trans e3
      have hy3 := e4 _ _ hy
      refine ⟨_, rfl, _, rfl, y, _, dx, _, rfl, hy3, T.c_Order, T.a_Order_house, ltK rfl, ?_⟩
      refine ⟨_, rfl, _, rfl, y, _, dx, _, rfl, upd_same, T.c_Order, T.a_Order_opens, ltK rfl, ?_⟩
      refine ⟨_, rfl, _, rfl, y, _, dx, _, rfl, upd_same, T.c_Order, T.a_Order_lineup, ltK rfl, ?_⟩
      refine ⟨_, rfl, _, rfl, y, _, dx, _, rfl, upd_same, T.c_Order, T.a_Order__numbers, ltK rfl, ?_⟩
      have m := (((Mut.upd (y := y) (H := H2) (o := .ins (ga K "Order") dx [("house", .ref ho)])).then_upd (o' := .ins (ga K "Order") dx [("house", .ref ho), ("opens", .int D.opens)])).then_upd (o' := .ins (ga K "Order") dx [("house", .ref ho), ("opens", .int D.opens), ("lineup", .ref tp)])).then_upd
        (o' := .ins (ga K "Order") dx [("house", .ref ho), ("opens", .int D.opens), ("lineup", .ref tp), ("_numbers", .ref nd)])
      have n1 : tp ≠ y := fun n => by
        have := e3 _ _ tH
        rw [n, hy3] at this
        cases this
      have hd3 := e3 _ _ hd
      have n2 : nd ≠ y := fun n => by
        rw [n, hy3] at hd3
        cases hd3
      exact q _ tp nd (m.exl e4) (m.1 _ _ n1 (e3 _ _ tH)) (m.1 _ _ n2 hd3)
def spm_Order (K : PySem.W.Frag) : Sp := S3 fun b c d H Q => ∃ (ho lp : Addr) (is : List Addr) (D : DyD), b = .ref ho ∧ c = .int D.opens ∧ d = .ref lp ∧ HouseAt K H ho D ∧ SqL K H lp (is.map V.ref) ∧ ItemsAt K H is D.its ∧ ItsOk D.its ∧
  ∀ p H', H p = none → Ex H H' → OrderAt K H' p D → Q (.ref p) H'
theorem ct_Order (T : TX K mg w) : Ctor PP w K mg base 1 "Order" (ga K "Order") (spm_Order K) := by
  refine ⟨_, _, T.k_Order, T.g_Order, ok_Order_init T, fun vs H Q h y dx hy hd ne => ?_⟩
  obtain ⟨b, c, d, rfl, ho, lp, is, D, rfl, rfl, rfl, hh, hl, hI, ok, q⟩ := h
  have e := (Ex.new (o := .own y) hd).trans (Ex.new (o := .ins (ga K "Order") dx []) ((upd_ne ne.symm).trans hy))
  refine ⟨_, _, _, _, rfl, y, dx, ho, lp, is, D, rfl, upd_same, rfl, rfl, rfl, ex_l e hl, hI.mono e, ok, fun H' tp nd m h1 h2 => ⟨rfl, ?_⟩⟩
  have e2 := exNew m hy hd
  exact q y H' hy e2 ⟨ho, tp, nd, is, ⟨dx, m.2⟩, hh.mono e2, h1, hI.mono e2, h2⟩
/-! ### Order's ways -/
def sq_Order_points (K : PySem.W.Frag) : V → Hp → VK → Prop := fun a H Q => ∃ (p : Addr) (D : DyD), a = .ref p ∧ OrderAt K H p D ∧ Q (.int (2 * (D.its.length : Int) + 1)) H
theorem pr_Order_points (T : TX K mg w) : PrR PP w K mg base 1 (ga K "Order") "points" (fun vs H Q _ => ∃ a, vs = [a] ∧ sq_Order_points K a H Q) := by
  refine mkP T.p_Order_points (bn T.gb_Order_points (fun _ _ _ _ _ _ us hl => match us, hl with | [_], _ => rfl)) sc_Order_points fun cdv A outer s H a Q E hr h => ?_
  refine ⟨_, (pss_one (ps_ret (pe_op op_add (pe_op op_mul pe_int (pe_callB call_len_seq (by rfl) T.n_len (by decide +kernel) (pa_cons (pe_f (pv 0)) pa_nil))) pe_int))), ?_⟩
  obtain ⟨p, D, rfl, hO, q⟩ := h
  obtain ⟨tp, is, h1, h2, h3⟩ := hO.lineup T
  refine ⟨_, rfl, _, _, rfl, h1, tp, _, rfl, .inr (SqT.of h2), _, _, rfl, rfl, .inl (by decide), _, _, rfl, rfl, ?_⟩
  rw [List.length_map, h3.1]
  exact q
def sp_Order_number_of (K : PySem.W.Frag) : Sp := S2 fun a b H Q => ∃ (p : Addr) (D : DyD) (i : Nat) (it : ItD), a = .ref p ∧ OrderAt K H p D ∧ (D.its.map (·.nm)).Nodup ∧ D.its[i]? = some it ∧ b = .str it.nm ∧ Q (.int (i : Nat)) H
theorem ok_Order_number_of (T : TX K mg w) : FnR PP w K mg base CX0 1 (ma K (ga K "Order") "number_of") (sp_Order_number_of K) := by
  refine mkS2 (bn T.f_Order_number_of (fun _ _ _ _ _ _ us hl => match us, hl with | [_, _], _ => rfl)) sc_Order_number_of fun cdv A outer s H a b Q E hr h => ?_
  refine ⟨_, (pss_cons (ps_if (pt_cmp (pc_dnotin (hu_of hr) (pv 1) (pe_f (pv 0)))) (pss_one ps_never)
        pss_nil)
      (pss_one (ps_ret (pe_dget (hu_of hr) (pe_f (pv 0)) (pv 1) (fun _ _ => rfl))))), ?_⟩
  obtain ⟨p, D, i, it, rfl, hO, hn, hi, rfl, q⟩ := h
  obtain ⟨nd, h1, h2⟩ := hO.nums T
  have g := DGet.k (k := Sum.inr it.nm) h2
  rw [nums_at hn hi] at g
  exact ⟨_, rfl, _, rfl, _, _, rfl, h1, nd, _, rfl, g, _, rfl, _, rfl, _, _, rfl, h1, _, rfl, nd, _, rfl, g, q⟩
def sp_Order_contains (K : PySem.W.Frag) : Sp := S2 fun a b H Q => ∃ (p : Addr) (D : DyD) (i : Nat) (it : ItD), a = .ref p ∧ OrderAt K H p D ∧ (D.its.map (·.nm)).Nodup ∧ D.its[i]? = some it ∧ b = .str it.nm ∧ Q (.bl true) H
theorem ok_Order_contains (T : TX K mg w) : FnR PP w K mg base CX0 1 (ma K (ga K "Order") "__contains__") (sp_Order_contains K) := by
  refine mkS2 (bn T.f_Order_contains (fun _ _ _ _ _ _ us hl => match us, hl with | [_, _], _ => rfl)) sc_Order_contains fun cdv A outer s H a b Q E hr h => ?_
  refine ⟨_, (pss_one (ps_ret (pe_cmp (pc_din (hu_of hr) (pv 1) (pe_f (pv 0))) rfl))), ?_⟩
  obtain ⟨p, D, i, it, rfl, hO, hn, hi, rfl, q⟩ := h
  obtain ⟨nd, h1, h2⟩ := hO.nums T
  have g := DGet.k (k := Sum.inr it.nm) h2
  rw [nums_at hn hi] at g
  exact ⟨_, rfl, _, rfl, _, _, rfl, h1, nd, _, rfl, g, q⟩
def sp_Order_getitem (K : PySem.W.Frag) : Sp := S2 fun a b H Q => ∃ (p : Addr) (D : DyD) (i : Nat) (it : ItD), a = .ref p ∧ OrderAt K H p D ∧ (D.its.map (·.nm)).Nodup ∧ D.its[i]? = some it ∧ b = .str it.nm ∧ ∀ x, ItemAt K H x it → Q (.ref x) H
theorem ok_Order_getitem (T : TX K mg w) : FnR PP w K mg base CX0 2 (ma K (ga K "Order") "__getitem__") (sp_Order_getitem K) := by
  refine mkS2 (bn T.f_Order_getitem (fun _ _ _ _ _ _ us hl => match us, hl with | [_, _], _ => rfl)) sc_Order_getitem fun cdv A outer s H a b Q E hr h => ?_
  refine ⟨_, (pss_one (ps_ret (pe_ix ix_tup (pe_f (pv 0)) (pe_mt (pv 0) (ok_Order_number_of T) (hr.mono (by decide)) T.kp_Order_number_of (pa_cons (pv 1) pa_nil)) (fun _ _ => rfl)))), ?_⟩
  obtain ⟨p, D, i, it, rfl, hO, hn, hi, rfl, q⟩ := h
  obtain ⟨tp, is, h1, h2, h3⟩ := hO.lineup T
  obtain ⟨x, hx, hI⟩ := h3.2 i it hi
  obtain ⟨dO, hO'⟩ := id hO
  refine ⟨_, rfl, _, _, rfl, h1, _, rfl, ?_⟩
  obtain ⟨ho, tp', nd, is', ⟨do_, hins⟩, _⟩ := hO
  refine ⟨_, _, _, _, rfl, hins, T.c_Order, T.m_Order_number_of, rfl, _, rfl, _, _, rfl, p, D, i, it, rfl, ⟨_, hO'⟩, hn, hi, rfl, ?_⟩
  exact ⟨tp, _, _, _, rfl, rfl, SqT.of h2, atI_nat (by rw [List.getElem?_map, hx]; rfl), q x hI⟩
end
end BB
namespace BB
open PySem PySem.Spec PyProof.Rows L2 He Evl
section
variable {K : PySem.W.Frag} {mg : Str → Option Value} {w : World} {base : Heap} {H H' : Hp} {a : Addr} {it : ItD} {D : DyD} {S : SpD}
def sp_Order_begin_of (K : PySem.W.Frag) : Sp := S2 fun a b H Q => ∃ (p : Addr) (D : DyD) (i : Nat) (it : ItD), a = .ref p ∧ OrderAt K H p D ∧ (D.its.map (·.nm)).Nodup ∧ D.its[i]? = some it ∧ b = .str it.nm ∧ Q (.int (2 * (i : Int) + 1)) H
theorem ok_Order_begin_of (T : TX K mg w) : FnR PP w K mg base CX0 2 (ma K (ga K "Order") "begin_of") (sp_Order_begin_of K) := by
  refine mkS2 (bn T.f_Order_begin_of (fun _ _ _ _ _ _ us hl => match us, hl with | [_, _], _ => rfl)) sc_Order_begin_of fun cdv A outer s H a b Q E hr h => ?_
  refine ⟨_, (pss_one (ps_ret (pe_op op_add (pe_op op_mul pe_int (pe_mt (pv 0) (ok_Order_number_of T) (hr.mono (by decide)) T.kp_Order_number_of (pa_cons (pv 1) pa_nil))) pe_int))), ?_⟩
  obtain ⟨p, D, i, it, rfl, hO, hn, hi, rfl, q⟩ := h
  have hO2 := hO
  obtain ⟨ho, tp', nd, is', ⟨do_, hins⟩, _⟩ := hO
  exact ⟨_, rfl, _, _, _, _, rfl, hins, T.c_Order, T.m_Order_number_of, rfl, _, rfl, _, _, rfl, p, D, i, it, rfl, hO2, hn, hi, rfl, _, _, rfl, rfl, .inl (by decide), _, _, rfl, rfl, q⟩
def sp_Order_end_of (K : PySem.W.Frag) : Sp := S2 fun a b H Q => ∃ (p : Addr) (D : DyD) (i : Nat) (it : ItD), a = .ref p ∧ OrderAt K H p D ∧ (D.its.map (·.nm)).Nodup ∧ D.its[i]? = some it ∧ b = .str it.nm ∧ Q (.int (2 * (i : Int) + 2)) H
theorem ok_Order_end_of (T : TX K mg w) : FnR PP w K mg base CX0 2 (ma K (ga K "Order") "end_of") (sp_Order_end_of K) := by
  refine mkS2 (bn T.f_Order_end_of (fun _ _ _ _ _ _ us hl => match us, hl with | [_, _], _ => rfl)) sc_Order_end_of fun cdv A outer s H a b Q E hr h => ?_
  refine ⟨_, (pss_one (ps_ret (pe_op op_add (pe_op op_mul pe_int (pe_mt (pv 0) (ok_Order_number_of T) (hr.mono (by decide)) T.kp_Order_number_of (pa_cons (pv 1) pa_nil))) pe_int))), ?_⟩
  obtain ⟨p, D, i, it, rfl, hO, hn, hi, rfl, q⟩ := h
  have hO2 := hO
  obtain ⟨ho, tp', nd, is', ⟨do_, hins⟩, _⟩ := hO
  exact ⟨_, rfl, _, _, _, _, rfl, hins, T.c_Order, T.m_Order_number_of, rfl, _, rfl, _, _, rfl, p, D, i, it, rfl, hO2, hn, hi, rfl, _, _, rfl, rfl, .inl (by decide), _, _, rfl, rfl, q⟩
def callPt (D : DyD) (i : Nat) : Int := if (i : Int) < D.ahead then 0 else 2 * ((i : Int) - D.ahead) + 1
def sp_Order_call_of (K : PySem.W.Frag) : Sp := S2 fun a b H Q => ∃ (p : Addr) (D : DyD) (i : Nat) (it : ItD), a = .ref p ∧ OrderAt K H p D ∧ (D.its.map (·.nm)).Nodup ∧ D.its[i]? = some it ∧ it.pc = true ∧ b = .str it.nm ∧ Q (.int (callPt D i)) H
theorem ok_Order_call_of (T : TX K mg w) : FnR PP w K mg base CX0 2 (ma K (ga K "Order") "call_of") (sp_Order_call_of K) := by
  refine mkS2 (bn T.f_Order_call_of (fun _ _ _ _ _ _ us hl => match us, hl with | [_, _], _ => rfl)) sc_Order_call_of fun cdv A outer s H a b Q E hr h => ?_
  refine ⟨_, (pss_cons (ps_set (i := 2) sc_Order_call_of.nd rfl (Or.inl rfl) (pe_mt (pv 0) (ok_Order_number_of T) (hr.mono (by decide)) T.kp_Order_number_of (pa_cons (pv 1) pa_nil)))
      (pss_cons (ps_if (pt_not (pt_val (pe_callB call_isi (by rfl) T.n_isinstance (by decide +kernel) (pa_cons (pe_ix ix_tup (pe_f (pv 0)) (pv 2) (fun _ _ => rfl)) (pa_cons (pe_gr T.g_Piece) pa_nil))))) (pss_one ps_never)
        pss_nil)
      (pss_cons (ps_if (pt_cmpR op_lt (pv 2) (pe_f (pe_f (pv 0))) (nomark _)) (pss_one (ps_ret pe_int))
        pss_nil)
      (pss_one (ps_ret (pe_op op_add (pe_op op_mul pe_int (pe_op op_sub (pv 2) (pe_f (pe_f (pv 0))))) pe_int)))))), ?_⟩
  obtain ⟨p, D, i, it, rfl, hO, hn, hi, hp, rfl, q⟩ := h
  have hO2 := hO
  obtain ⟨ho, tp', nd, is', ⟨do_, hins⟩, _⟩ := hO
  refine ⟨_, rfl, _, _, _, _, rfl, hins, T.c_Order, T.m_Order_number_of, rfl, _, rfl, _, _, rfl, p, D, i, it, rfl, hO2, hn, hi, rfl, ?_⟩
  obtain ⟨tp, is, h1, h2, h3⟩ := hO2.lineup T
  obtain ⟨x, hx, hI⟩ := h3.2 i it hi
  obtain ⟨ty, ht1, ht2⟩ := hI.isi T true
  obtain ⟨ha, hh1, hh2⟩ := hO2.house T
  have hA := hh2.ahead T
  refine ⟨_, rfl, _, _, rfl, h1, _, rfl, tp, _, _, _, rfl, rfl, SqT.of h2, atI_nat (by rw [List.getElem?_map, hx]; rfl), _, _, _, _, _, rfl, .own _, ht1, ht2, _, rfl, ifF (by rw [hp]; rfl) ?_⟩
  refine ⟨_, rfl, _, rfl, _, _, rfl, hh1, _, _, rfl, hA, _, _, rfl, rfl, _, rfl, if2 (fun e => ?_) (fun e => ?_)⟩
  · have e := of_decide_eq_true e
    unfold callPt at q
    rw [if_pos e] at q
    exact q
  · have e := of_decide_eq_false e
    unfold callPt at q
    rw [if_neg e] at q
    exact ⟨_, rfl, _, rfl, _, _, rfl, hh1, _, _, rfl, hA, _, _, rfl, rfl, _, _, rfl, rfl, .inl (by decide), _, _, rfl, rfl, q⟩
/-! ### lags -/
def lagsOf (D : DyD) (it : ItD) : List (Int × Int) := (0, it.dl) :: if it.pc then [(it.x, it.y), (D.wl, D.wh), (D.pl, D.ph)] else []
theorem LagsAt.mk1 {d a0 : Addr} {q0 : Int × Int} (h : H d = some (.dK [(Sum.inr "delay", .ref a0)])) (h0 : SpanAt K H a0 q0.1 q0.2) : LagsAt K H d [q0] :=
  ⟨[a0], h, rfl, fun j q hq => by
    match j, hq with
    | 0, hq => cases hq; exact ⟨a0, rfl, h0⟩⟩
theorem LagsAt.mk4 {d a0 a1 a2 a3 : Addr} {q0 q1 q2 q3 : Int × Int} (h : H d = some (.dK [(Sum.inr "delay", .ref a0), (Sum.inr "length", .ref a1), (Sum.inr "walk", .ref a2), (Sum.inr "pack", .ref a3)])) (h0 : SpanAt K H a0 q0.1 q0.2) (h1 : SpanAt K H a1 q1.1 q1.2) (h2 : SpanAt K H a2 q2.1 q2.2)
    (h3 : SpanAt K H a3 q3.1 q3.2) : LagsAt K H d [q0, q1, q2, q3] :=
  ⟨[a0, a1, a2, a3], h, rfl, fun j q hq => by
    match j, hq with
    | 0, hq => cases hq; exact ⟨a0, rfl, h0⟩
    | 1, hq => cases hq; exact ⟨a1, rfl, h1⟩
    | 2, hq => cases hq; exact ⟨a2, rfl, h2⟩
    | 3, hq => cases hq; exact ⟨a3, rfl, h3⟩⟩
def sp_lag_spans (K : PySem.W.Frag) : Sp := S2 fun a b H Q => ∃ (ho ip : Addr) (D : DyD) (it : ItD), a = .ref ho ∧ b = .ref ip ∧ HouseAt K H ho D ∧ ItemAt K H ip it ∧ ItOk it ∧ ∀ d H', H d = none → Ex H H' → LagsAt K H' d (lagsOf D it) → Q (.ref d) H'
theorem ok_lag_spans (T : TX K mg w) : FnR PP w K mg base CX0 3 (ga K "lag_spans") (sp_lag_spans K) := by
  refine mkS2 (bn T.f_lag_spans (fun _ _ _ _ _ _ us hl => match us, hl with | [_, _], _ => rfl)) sc_lag_spans fun cdv A outer s H a b Q E hr h => ?_
  refine ⟨_, (pss_cons (ps_set (i := 2) sc_lag_spans.nd rfl (Or.inl rfl) (pe_disp (pps_cons pe_str (pe_ctor (ct_Span T) (hr.mono (by decide)) (pa_cons pe_int (pa_cons (pe_f (pv 1)) pa_nil))) pps_nil) (by rfl) (by rfl) (fun z => by cases z) (by decide)))
      (pss_cons (ps_if (pt_val (pe_callB call_isi (by rfl) T.n_isinstance (by decide +kernel) (pa_cons (pv 1) (pa_cons (pe_gr T.g_Piece) pa_nil)))) (pss_cons (ps_dput (hu_of hr) (pv 2) pe_str (pe_ctor (ct_Span T) (hr.mono (by decide)) (pa_cons (pe_f (pv 1)) (pa_cons (pe_f (pv 1)) pa_nil))) rfl)
      (pss_cons (ps_dput (hu_of hr) (pv 2) pe_str (pe_f (pv 0)) rfl)
      (pss_one (ps_dput (hu_of hr) (pv 2) pe_str (pe_f (pv 0)) rfl))))
        pss_nil)
      (pss_one (ps_ret (pv 2))))), ?_⟩
  obtain ⟨ho, ip, D, it, rfl, rfl, hh, hI, ok, q⟩ := h
  intro d hd
  have e0 : Ex H (upd H d (.dK [])) := Ex.new hd
  refine ⟨_, rfl, _, _, rfl, (hI.mono e0).delay T, _, _, rfl, 0, it.dl, rfl, rfl, ok.dl0, fun s0 H1 hs0 e1 hS0 => ?_⟩
  have d1 := e1 _ _ upd_same
  refine ⟨d1, [(Sum.inr "delay", .ref s0)], rfl, by show 1 ≤ 15; decide, ?_⟩
  have e2 : Ex H (upd H1 d (.dK (mergeK [] [(Sum.inr "delay", .ref s0)]))) := (e0.trans e1).mut hd
  have n0 : s0 ≠ d := fun n => by
    obtain ⟨x, hx⟩ := hS0
    rw [n, d1] at hx
    cases hx
  have hS0' : SpanAt K (upd H1 d (.dK (mergeK [] [(Sum.inr "delay", .ref s0)]))) s0 0 it.dl := hS0.mut n0 Mut.upd
  generalize hH2 : upd H1 d (.dK (mergeK [] [(Sum.inr "delay", .ref s0)])) = H2 at e2 hS0'
  have d2 : H2 d = some (.dK [(Sum.inr "delay", .ref s0)]) := by rw [← hH2]; exact upd_same
  have hI2 := hI.mono e2
  obtain ⟨ty, ht1, ht2⟩ := hI2.isi T true
  refine ⟨_, rfl, _, _, _, _, _, rfl, .own _, ht1, ht2, _, rfl, if2 (fun e => ?_) (fun e => ?_)⟩
  · have e : it.pc = true := by simpa using e
    obtain ⟨o1, o2, o3⟩ := ok.pc e
    refine ⟨_, rfl, _, _, rfl, hI2.least T e, _, rfl, _, _, rfl, hI2.most T e, _, _, rfl, it.x, it.y, rfl, rfl, o2, fun s1 H3 hs1 e3 hS1 => ?_⟩
    have d3 := e3 _ _ d2
    refine ⟨_, rfl, d, _, rfl, DPut.k (k := Sum.inr _) d3 (by show 1 < sizeLine; decide), ?_⟩
    have e4 : Ex H (upd H3 d (.dK (putK [(Sum.inr "delay", .ref s0)] (Sum.inr "length") (.ref s1)))) := (e2.trans e3).mut hd
    have n1 : s1 ≠ d := fun n => by
      obtain ⟨x, hx⟩ := hS1
      rw [n, d3] at hx
      cases hx
    have hS0'' := (hS0'.mono e3).mut n0 (Mut.upd (o := .dK (putK [(Sum.inr "delay", .ref s0)] (Sum.inr "length") (.ref s1))))
    have hS1'' := hS1.mut n1 (Mut.upd (o := .dK (putK [(Sum.inr "delay", .ref s0)] (Sum.inr "length") (.ref s1))))
    have d4 : (upd H3 d (.dK (putK [(Sum.inr "delay", .ref s0)] (Sum.inr "length") (.ref s1)))) d = some (.dK [(Sum.inr "delay", .ref s0), (Sum.inr "length", .ref s1)]) := upd_same
    generalize upd H3 d (.dK (putK [(Sum.inr "delay", .ref s0)] (Sum.inr "length") (.ref s1))) = H4 at e4 hS0'' hS1'' d4
    obtain ⟨wa, hw1, hw2⟩ := (hh.mono e4).walk T
    have nw : wa ≠ d := fun n => by
      obtain ⟨x, hx⟩ := hw2
      rw [n, d4] at hx
      cases hx
    refine ⟨_, rfl, _, _, rfl, hw1, _, rfl, d, _, rfl, DPut.k (k := Sum.inr _) d4 (by show 2 < sizeLine; decide), ?_⟩
    have e5 : Ex H (upd H4 d (.dK (putK [(Sum.inr "delay", .ref s0), (Sum.inr "length", .ref s1)] (Sum.inr "walk") (.ref wa)))) := e4.mut hd
    have hS0'' := hS0''.mut n0 (Mut.upd (o := .dK (putK [(Sum.inr "delay", .ref s0), (Sum.inr "length", .ref s1)] (Sum.inr "walk") (.ref wa))))
    have hS1'' := hS1''.mut n1 (Mut.upd (o := .dK (putK [(Sum.inr "delay", .ref s0), (Sum.inr "length", .ref s1)] (Sum.inr "walk") (.ref wa))))
    have hw2 := hw2.mut nw (Mut.upd (o := .dK (putK [(Sum.inr "delay", .ref s0), (Sum.inr "length", .ref s1)] (Sum.inr "walk") (.ref wa))))
    have d5 : (upd H4 d (.dK (putK [(Sum.inr "delay", .ref s0), (Sum.inr "length", .ref s1)] (Sum.inr "walk") (.ref wa)))) d = some (.dK [(Sum.inr "delay", .ref s0), (Sum.inr "length", .ref s1), (Sum.inr "walk", .ref wa)]) := upd_same
    generalize upd H4 d (.dK (putK [(Sum.inr "delay", .ref s0), (Sum.inr "length", .ref s1)] (Sum.inr "walk") (.ref wa))) = H5 at e5 hS0'' hS1'' hw2 d5
    obtain ⟨pa, hp1, hp2⟩ := (hh.mono e5).pack T
    have np : pa ≠ d := fun n => by
      obtain ⟨x, hx⟩ := hp2
      rw [n, d5] at hx
      cases hx
    refine ⟨_, rfl, _, _, rfl, hp1, _, rfl, d, _, rfl, DPut.k (k := Sum.inr _) d5 (by show 3 < sizeLine; decide), ?_⟩
    refine ⟨_, rfl, ?_⟩
    refine q d _ hd (e5.mut hd) ?_
    unfold lagsOf
    rw [if_pos e]
    exact LagsAt.mk4 upd_same (hS0''.mut n0 Mut.upd) (hS1''.mut n1 Mut.upd) (hw2.mut nw Mut.upd) (hp2.mut np Mut.upd)
  · have e : it.pc = false := by simpa using e
    refine ⟨_, rfl, ?_⟩
    refine q d H2 hd e2 ?_
    unfold lagsOf
    rw [if_neg (by rw [e]; exact Bool.noConfusion)]
    exact LagsAt.mk1 d2 hS0'
/-! ### outlooks -/
theorem dc_it {J : It} {n : Nat} {G : Hp → Prop} {Y : Nat → Hp → V → Hp → Prop} (w : Walk J n G Y) {g : TG} {tt : TT} {tk tv : TE} {vs : List Nat} {σ : L2.St} {H1 : Hp} {D : Addr} {Qd : Hp → Prop} (Pv : Nat → Hp → Prop) (h0 : Pv 0 (upd H1 D (.dK []))) (hG : ∀ i H, i ≤ n → Pv i H → G H)
    (hs : ∀ i x H H', i < n → Pv i H → Y i H x H' → g x (wipe σ vs) H' fun σ2 H2 => wipe σ2 vs = wipe σ vs ∧ tt σ2 H2 fun b H3 =>
      if b = true then tk σ2 H3 fun y H4 => tv σ2 H4 fun z H5 => ∃ kvs k, y = kV k ∧ H5 D = some (.dK kvs) ∧ kvs.length < sizeLine ∧ Pv (i + 1) (upd H5 D (.dK (putK kvs k z))) else Pv (i + 1) H3) (hd : ∀ H, Pv n H → Qd H) :
    ∃ W : Nat → Nat → Hp → Prop, (∃ m, W 0 m (upd H1 D (.dK []))) ∧ ∀ i m H, W i m H →
      (J.stop i H ∧ Qd H) ∨ (J.go i H ∧ ∃ Nx : Hp → Prop, (∀ H', Nx H' → ∃ m', m' < m ∧ W (i + 1) m' H') ∧ ∀ x H', J.yld i H x H' → g x (wipe σ vs) H' fun σ2 H2 => wipe σ2 vs = wipe σ vs ∧ tt σ2 H2 fun b H3 =>
        if b = true then tk σ2 H3 fun y H4 => tv σ2 H4 fun z H5 => ∃ kvs k, y = kV k ∧ H5 D = some (.dK kvs) ∧ kvs.length < sizeLine ∧ Nx (upd H5 D (.dK (putK kvs k z))) else Nx H3) := by
  refine ⟨fun i m H => m = n - i ∧ i ≤ n ∧ Pv i H, ⟨n, by simp, Nat.zero_le _, h0⟩, ?_⟩
  rintro i m H ⟨rfl, hi, p⟩
  have q := hG i H hi p
  by_cases hlt : i < n
  · exact .inr ⟨w.goes i H hlt q, Pv (i + 1), fun H' p' => ⟨n - (i + 1), by omega, rfl, hlt, p'⟩, fun x H' y => hs i x H H' hlt p (w.yields i H x H' hlt q y)⟩
  · have e : i = n := by omega
    subst e
    exact .inl ⟨w.stops H q, hd H p⟩
theorem SpanAt.mutY {y C dx : Addr} {fs : List (Str × V)} {o : HO} {lo hi : Int} (h : SpanAt K H a lo hi) (hy : H y = some (.ins C dx fs)) (hf : fs.length ≠ 2) (m : Mut y H H' o) : SpanAt K H' a lo hi := by
  obtain ⟨d, h⟩ := h
  refine ⟨d, m.1 _ _ (fun n => ?_) h⟩
  rw [n, hy] at h
  cases h
  exact hf rfl
theorem LagsAt.mutY {d y C dx : Addr} {fs : List (Str × V)} {o : HO} {sp : List (Int × Int)} (h : LagsAt K H d sp) (hy : H y = some (.ins C dx fs)) (hf : fs.length ≠ 2) (m : Mut y H H' o) : LagsAt K H' d sp := by
  obtain ⟨as, h1, h2, h3⟩ := h
  refine ⟨as, m.1 _ _ (fun n => ?_) h1, h2, fun j q hq => ?_⟩
  · rw [n, hy] at h1
    cases h1
  · obtain ⟨b, h4, h5⟩ := h3 j q hq
    exact ⟨b, h4, h5.mutY hy hf m⟩
theorem LagsAt.mutD {d b : Addr} {kvs : List (Key × V)} {o : HO} {sp : List (Int × Int)} (h : LagsAt K H b sp) (hd : H d = some (.dK kvs)) (n : b ≠ d) (m : Mut d H H' o) : LagsAt K H' b sp := by
  obtain ⟨as, h1, h2, h3⟩ := h
  refine ⟨as, m.1 _ _ n h1, h2, fun j q hq => ?_⟩
  obtain ⟨c, h4, dc, h5⟩ := h3 j q hq
  exact ⟨c, h4, dc, m.1 _ _ (fun z => by rw [z, hd] at h5; cases h5) h5⟩
theorem SpansAt.mutY {d y C dx : Addr} {fs : List (Str × V)} {o : HO} {its : List ItD} (h : SpansAt K H d its S) (hy : H y = some (.ins C dx fs)) (hf : fs.length ≠ 2) (m : Mut y H H' o) : SpansAt K H' d its S := by
  obtain ⟨ds, h1, h2, h3, h4⟩ := h
  refine ⟨ds, m.1 _ _ (fun n => ?_) h1, h2, h3, fun j q hq => ?_⟩
  · rw [n, hy] at h1
    cases h1
  · obtain ⟨b, h5, h6⟩ := h4 j q hq
    exact ⟨b, h5, h6.mutY hy hf m⟩
def spansOf (D : DyD) : SpD := D.its.map (lagsOf D)
theorem spansKV_get : ∀ {its : List ItD} {ds : List Addr} {i : Nat} {it : ItD} {d : Addr}, its[i]? = some it → ds[i]? = some d → (spansKV its ds)[i]? = some (Sum.inr it.nm, V.ref d) := by
  intro its ds i it d h1 h2
  unfold spansKV
  rw [List.getElem?_map, List.getElem?_zip_eq_some (z := (it, d)) |>.mpr ⟨h1, h2⟩]
  rfl
theorem spansKV_keys : ∀ {its : List ItD} {ds : List Addr}, ds.length = its.length → (spansKV its ds).map (·.1) = its.map fun it => (Sum.inr it.nm : Key)
  | [], [], _ => rfl
  | it :: its, d :: ds, h => by
    have := spansKV_keys (its := its) (ds := ds) (by simpa using h)
    unfold spansKV at this ⊢
    rw [List.zip_cons_cons, List.map_cons, List.map_cons, List.map_cons, this]
theorem spans_at {its : List ItD} {ds : List Addr} (hl : ds.length = its.length) (hn : (its.map (·.nm)).Nodup) {i : Nat} {it : ItD} {d : Addr} (h : its[i]? = some it) (hd : ds[i]? = some d) : valV (spansKV its ds) (Sum.inr it.nm) = some (.ref d) :=
  valV_at (by rw [spansKV_keys hl]; exact keys_nd hn) (spansKV_get h hd)
theorem spansKV_no {its : List ItD} {ds : List Addr} {z : Str} (hl : ds.length = its.length) (h : z ∉ its.map (·.nm)) : valV (spansKV its ds) (Sum.inr z) = none := by
  refine valV_none fun p hp e => h ?_
  have := List.mem_map_of_mem (f := (·.1)) hp
  rw [spansKV_keys hl, e] at this
  obtain ⟨it, h1, h2⟩ := List.mem_map.mp this
  exact List.mem_map.mpr ⟨it, h1, Sum.inr.inj h2⟩
/-- B: a part of H off y -/
def Off (y : Addr) (B H : Hp) : Prop := ∀ a u, B a = some u → a ≠ y ∧ H a = some u
theorem Off.ex {y : Addr} {B : Hp} {o : HO} (h : Off y B H) (m : Mut y H H' o) : Ex B H' := fun a u e => m.1 a u (h a u e).1 (h a u e).2
theorem Off.ex0 {y : Addr} {B : Hp} (h : Off y B H) : Ex B H := fun a u e => (h a u e).2
theorem Off.mut {y : Addr} {B : Hp} {o : HO} (h : Off y B H) (m : Mut y H H' o) : Off y B H' := fun a u e => ⟨(h a u e).1, h.ex m a u e⟩
theorem Off.new {y dx : Addr} {o1 o2 : HO} (hy : H y = none) (hd : H dx = none) : Off y H (upd (upd H dx o1) y o2) := fun a u e => by
  have n1 : a ≠ y := fun n => by rw [n, hy] at e; cases e
  have n2 : a ≠ dx := fun n => by rw [n, hd] at e; cases e
  exact ⟨n1, by rw [upd_ne n1, upd_ne n2]; exact e⟩
def sp_Outlook_init (K : PySem.W.Frag) : Sp := S2 fun a b H Q => ∃ (y dx o : Addr) (D : DyD) (B : Hp), a = .ref y ∧ H y = some (.ins (ga K "Outlook") dx []) ∧ b = .ref o ∧ Off y B H ∧ OrderAt K B o D ∧ ItsOk D.its ∧
  ∀ H' sd, Mut y H H' (.ins (ga K "Outlook") dx [("order", .ref o), ("_spans", .ref sd)]) → SpansAt K H' sd D.its (spansOf D) → Q .non H'
theorem ok_Outlook_init (T : TX K mg w) : FnR PP w K mg base CX0 4 (ma K (ga K "Outlook") "__init__") (sp_Outlook_init K) := by
  refine mkS2 (bn T.f_Outlook_init (fun _ _ _ _ _ _ us hl => match us, hl with | [_, _], _ => rfl)) sc_Outlook_init fun cdv A outer s H a b Q E hr h => ?_
  refine ⟨_, (pss_cons (ps_fld (pv 0) (pv 1) rfl)
      (pss_one (ps_fld (pv 0) (pe_dcD (own := [("item", 2)]) rfl sc_Outlook_init.nd (pi_tup (pe_f (pv 1))) (blkOk_by (N := N_Outlook_init) (sc := defScope s_Outlook_init) (by decide +kernel)) (fun _ _ _ _ _ => (pg_name (i := 2) sc_Outlook_init.nd rfl (Or.inl rfl))) (fun _ _ _ _ _ => pts_nil) (fun _ _ _ _ _ => (pe_f (pv 2))) (fun _ _ _ _ _ => (pe_fn (ok_lag_spans T) (hr.mono (by decide)) T.kp_lag_spans T.g_lag_spans (pa_cons (pe_f (pv 1)) (pa_cons (pv 2) pa_nil))))) rfl))), ?_⟩
  obtain ⟨y, dx, o, D, B, rfl, hy, rfl, hB, hO, ok, q⟩ := h
  have l8 := ok.len
  have m1 : Mut y H (upd H y (.ins (ga K "Outlook") dx (putF "order" (.ref o) []))) (.ins (ga K "Outlook") dx [("order", .ref o)]) := Mut.upd
  refine ⟨_, rfl, _, rfl, y, _, dx, _, rfl, hy, T.c_Outlook, T.a_Outlook_order, ltK rfl, ?_⟩
  generalize upd H y (.ins (ga K "Outlook") dx (putF "order" (.ref o) [])) = H1 at m1 ⊢
  have e1 : Ex B H1 := hB.ex m1
  obtain ⟨tp, is, h1, h2, h3⟩ := (hO.mono e1).lineup T
  obtain ⟨ho, hh1, hh2⟩ := (hO.mono e1).house T
  refine ⟨_, rfl, _, _, rfl, h1, tp, rfl, ⟨_, SqT.of h2⟩, fun d hd => ?_⟩
  refine dc_it (walk_tup (xs := is.map V.ref)) (fun i H' => Ex H1 H' ∧ ∃ ds : List Addr, H' d = some (.dK (spansKV (D.its.take i) ds)) ∧ ds.length = i ∧ ∀ (j : Nat) (it : ItD), j < i → D.its[j]? = some it → ∃ b, ds[j]? = some b ∧ b ≠ d ∧ LagsAt K H' b (lagsOf D it))
    ⟨Ex.new hd, [], upd_same, rfl, fun j it hj => absurd hj (Nat.not_lt_zero _)⟩ (fun i H' _ h => SqT.of (h.1 _ _ h2)) (fun i x H2 H3 hi h yy => ?_) (fun H2 h => ?_)
  · obtain ⟨e2, ds, hd2, hl, hds⟩ := h
    obtain ⟨rfl, ex2⟩ := yy
    obtain ⟨p, hp, rfl⟩ := Option.map_eq_some_iff.mp ((List.getElem?_map ..).symm.trans ex2)
    have hi2 : i < D.its.length := by rw [List.length_map, h3.1] at hi; exact hi
    obtain ⟨p', hp', hIt⟩ := h3.get hi2
    rw [hp] at hp'
    cases hp'
    have hIt := hIt.mono e2
    refine ⟨rfl, _, rfl, _, _, rfl, hIt.name T, ?_⟩
    refine ⟨_, rfl, _, _, rfl, hh1.mono e2, _, rfl, _, _, rfl, ho, p, D, D.its[i], rfl, rfl, hh2.mono e2, hIt, ok.ok _ (List.getElem_mem _), fun b H4 hbn e4 hL => ?_⟩
    have hd4 := e4 _ _ hd2
    have eg : D.its[i]? = some D.its[i] := List.getElem?_eq_getElem hi2
    have lt : (D.its.take i).length = i := by rw [List.length_take]; omega
    have hno : valV (spansKV (D.its.take i) ds) (Sum.inr D.its[i].nm) = none := spansKV_no (by rw [lt, hl]) fun hm => by
      obtain ⟨j, hj, ej⟩ := List.mem_iff_getElem.mp hm
      rw [List.length_map, lt] at hj
      have g1 : (D.its.map (·.nm))[j]? = some D.its[i].nm := by
        rw [List.getElem?_eq_getElem (by rw [List.length_map]; omega), ← ej]
        simp
      have g2 : (D.its.map (·.nm))[i]? = some D.its[i].nm := by rw [List.getElem?_map, eg]; rfl
      have := nodup_ix ok.nd g1 g2
      omega
    have hlen : (spansKV (D.its.take i) ds).length = i := by
      unfold spansKV
      rw [List.length_map, List.length_zip, lt, hl, Nat.min_self]
    refine ⟨_, Sum.inr _, rfl, hd4, sz_lt (by omega), (e2.trans e4).mut hd, ds ++ [b], ?_, by simp [hl], fun j it hj hjt => ?_⟩
    · rw [upd_same, putK_new hno, take_next hi2]
      unfold spansKV
      rw [List.zip_append (by rw [lt, hl]), List.map_append]
      rfl
    · have mu : Mut d H4 (upd H4 d (.dK (putK (spansKV (D.its.take i) ds) (Sum.inr D.its[i].nm) (.ref b)))) (.dK (putK (spansKV (D.its.take i) ds) (Sum.inr D.its[i].nm) (.ref b))) := Mut.upd
      have nb : b ≠ d := fun n => by rw [n, hd2] at hbn; cases hbn
      by_cases hji : j = i
      · subst hji
        rw [eg] at hjt
        cases hjt
        refine ⟨b, by rw [List.getElem?_append_right (by omega), hl, Nat.sub_self]; rfl, nb, hL.mutD hd4 nb mu⟩
      · obtain ⟨b', hb', nb', hL'⟩ := hds j it (by omega) hjt
        exact ⟨b', by rw [List.getElem?_append_left (by omega)]; exact hb', nb', (hL'.mono e4).mutD hd4 nb' mu⟩
  · obtain ⟨e2, ds, hd2, hl, hds⟩ := h
    rw [List.length_map, h3.1] at hl hds hd2
    rw [List.take_of_length_le (Nat.le_refl _)] at hd2
    have hS : SpansAt K H2 d D.its (spansOf D) := ⟨ds, hd2, hl, by unfold spansOf; rw [List.length_map], fun j sp hj => by
      unfold spansOf at hj
      obtain ⟨it, hit, rfl⟩ := Option.map_eq_some_iff.mp ((List.getElem?_map ..).symm.trans hj)
      obtain ⟨b, g1, _, g2⟩ := hds j it ((List.getElem?_eq_some_iff.mp hit).1) hit
      exact ⟨b, g1, g2⟩⟩
    have hy2 := e2 _ _ m1.2
    refine ⟨_, rfl, y, _, dx, _, rfl, hy2, T.c_Outlook, T.a_Outlook__spans, ltK rfl, ?_⟩
    have mu : Mut y H2 (upd H2 y (.ins (ga K "Outlook") dx [("order", .ref o), ("_spans", .ref d)])) (.ins (ga K "Outlook") dx [("order", .ref o), ("_spans", .ref d)]) := Mut.upd
    exact q _ d ((m1.exr e2).trans mu) (hS.mutY hy2 (by show 1 ≠ 2; decide) mu)
end
end BB
namespace BB
open PySem PySem.Spec PyProof.Rows L2 He Evl
section
variable {K : PySem.W.Frag} {mg : Str → Option Value} {w : World} {base : Heap} {H H' : Hp} {a : Addr} {it : ItD} {D : DyD} {S : SpD}
def spm_Outlook (K : PySem.W.Frag) : Sp := S1 fun b H Q => ∃ (o : Addr) (D : DyD), b = .ref o ∧ OrderAt K H o D ∧ ItsOk D.its ∧ ∀ p sd H', H p = none → Ex H H' → Ins K H' p "Outlook" [("order", .ref o), ("_spans", .ref sd)] → SpansAt K H' sd D.its (spansOf D) → Q (.ref p) H'
theorem ct_Outlook (T : TX K mg w) : Ctor PP w K mg base 4 "Outlook" (ga K "Outlook") (spm_Outlook K) := by
  refine ⟨_, _, T.k_Outlook, T.g_Outlook, ok_Outlook_init T, fun vs H Q h y dx hy hd ne => ?_⟩
  obtain ⟨b, rfl, o, D, rfl, hO, ok, q⟩ := h
  refine ⟨_, _, rfl, y, dx, o, D, H, rfl, upd_same, rfl, Off.new hy hd, hO, ok, fun H' sd m hS => ⟨rfl, ?_⟩⟩
  have e2 := exNew m hy hd
  exact q y sd H' hy e2 ⟨dx, m.2⟩ hS
def sp_with_spans (K : PySem.W.Frag) : Sp := S2 fun a b H Q => ∃ (o sd : Addr) (D : DyD) (S : SpD), a = .ref o ∧ b = .ref sd ∧ OrderAt K H o D ∧ ItsOk D.its ∧ SpansAt K H sd D.its S ∧ ∀ p H', H p = none → Ex H H' → OutlookAt K H' p D S → Q (.ref p) H'
theorem ok_with_spans (T : TX K mg w) : FnR PP w K mg base CX0 6 (ga K "with_spans") (sp_with_spans K) := by
  refine mkS2 (bn T.f_with_spans (fun _ _ _ _ _ _ us hl => match us, hl with | [_, _], _ => rfl)) sc_with_spans fun cdv A outer s H a b Q E hr h => ?_
  refine ⟨_, (pss_cons (ps_set (i := 2) sc_with_spans.nd rfl (Or.inl rfl) (pe_ctor (ct_Outlook T) (hr.mono (by decide)) (pa_cons (pv 0) pa_nil)))
      (pss_cons (ps_fld (pv 2) (pv 1) rfl)
      (pss_one (ps_ret (pv 2))))), ?_⟩
  obtain ⟨o, sd, D, S, rfl, rfl, hO, ok, hS, q⟩ := h
  refine ⟨_, rfl, _, rfl, o, D, rfl, hO, ok, fun p sd' H1 hp e1 hL hS' => ?_⟩
  obtain ⟨dx, hi⟩ := hL
  refine ⟨_, rfl, _, rfl, p, _, dx, _, rfl, hi, T.c_Outlook, T.a_Outlook__spans, ltK rfl, _, rfl, ?_⟩
  have e2 : Ex H (upd H1 p (.ins (ga K "Outlook") dx [("order", .ref o), ("_spans", .ref sd)])) := e1.mut hp
  exact q p _ hp e2 ⟨o, sd, ⟨dx, upd_same⟩, hO.mono e2, hS.mono e2⟩
theorem valV_lags {as : List Addr} {j : Nat} {z : Str} {b : Addr} (hz : wordsL[j]? = some z) (hb : as[j]? = some b) : valV (lagsKV as) (Sum.inr z) = some (.ref b) := by
  have hn : (wordsL.map fun z => (Sum.inr z : Key)).Nodup := by decide +kernel
  have hk : (lagsKV as).map (·.1) = (wordsL.map fun z => (Sum.inr z : Key)).take as.length := by
    unfold lagsKV
    rw [List.map_map]
    have : ∀ (ws : List Str) (as : List Addr), (ws.zip as).map ((fun q : Key × V => q.1) ∘ fun q => (Sum.inr q.1, V.ref q.2)) = (ws.map fun z => (Sum.inr z : Key)).take as.length := by
      intro ws
      induction ws with
      | nil => intro as; simp
      | cons w ws ih =>
        intro as
        cases as with
        | nil => simp
        | cons a as =>
          have := ih as
          simp only [List.zip_cons_cons, List.map_cons, List.length_cons, List.take_succ_cons, this]
          rfl
    exact this _ _
  refine valV_at (i := j) (by rw [hk]; exact hn.sublist (List.take_sublist _ _)) ?_
  unfold lagsKV
  rw [List.getElem?_map, (List.getElem?_zip_eq_some (z := (z, b))).mpr ⟨hz, hb⟩]
  rfl
def sp_Outlook_span_of (K : PySem.W.Frag) : Sp := S3 fun a b c H Q => ∃ (p : Addr) (D : DyD) (S : SpD) (i j : Nat) (it : ItD) (sp : List (Int × Int)) (q : Int × Int) (z : Str), a = .ref p ∧ OutlookAt K H p D S ∧ (D.its.map (·.nm)).Nodup ∧ D.its[i]? = some it ∧ S[i]? = some sp ∧ sp[j]? = some q ∧ wordsL[j]? = some z ∧
  b = .str it.nm ∧ c = .str z ∧ ∀ s, SpanAt K H s q.1 q.2 → Q (.ref s) H
theorem ok_Outlook_span_of (T : TX K mg w) : FnR PP w K mg base CX0 1 (ma K (ga K "Outlook") "span_of") (sp_Outlook_span_of K) := by
  refine mkS3 (bn T.f_Outlook_span_of (fun _ _ _ _ _ _ us hl => match us, hl with | [_, _, _], _ => rfl)) sc_Outlook_span_of fun cdv A outer s H a b c Q E hr h => ?_
  refine ⟨_, (pss_cons (ps_if (pt_cmp (pc_dnotin (hu_of hr) (pv 1) (pe_f (pv 0)))) (pss_one ps_never)
        pss_nil)
      (pss_cons (ps_if (pt_cmp (pc_dnotin (hu_of hr) (pv 2) (pe_dget (hu_of hr) (pe_f (pv 0)) (pv 1) (fun _ _ => rfl)))) (pss_one ps_never)
        pss_nil)
      (pss_one (ps_ret (pe_dget (hu_of hr) (pe_dget (hu_of hr) (pe_f (pv 0)) (pv 1) (fun _ _ => rfl)) (pv 2) (fun _ _ => rfl)))))), ?_⟩
  obtain ⟨p, D, S, i, j, it, sp, q0, z, rfl, hL, hn, hi, hs, hj, hz, rfl, rfl, q⟩ := h
  obtain ⟨sd, h1, ds, h2, h3, h4, h5⟩ := hL.spans T
  obtain ⟨b, hb, as, g1, g2, g3⟩ := h5 i sp hs
  obtain ⟨s0, hs0, hS⟩ := g3 j q0 hj
  have dg := DGet.k (k := Sum.inr it.nm) h2
  rw [spans_at h3 hn hi hb] at dg
  have dg2 := DGet.k (k := Sum.inr z) g1
  rw [valV_lags hz hs0] at dg2
  exact ⟨_, rfl, _, rfl, _, _, rfl, h1, sd, _, rfl, dg, _, rfl, _, rfl, _, rfl, _, _, rfl, h1, _, rfl, sd, _, rfl, dg, b, _, rfl, dg2, _, rfl, _, rfl, _, _, rfl, h1, _, rfl, sd, _, rfl, dg, _, rfl, b, _, rfl, dg2, q _ hS⟩
/-! ### narrowing -/
def setS (S : SpD) (i j : Nat) (q : Int × Int) : SpD := S.modify i fun sp => sp.set j q
theorem setS_get {i j m : Nat} {q : Int × Int} : (setS S i j q)[m]? = if i = m then S[m]?.map fun sp => sp.set j q else S[m]? := by
  unfold setS
  rw [List.getElem?_modify]
  by_cases h : i = m
  · simp [h]
  · simp [h]
theorem putK_old {κ : Type} [DecidableEq κ] {kvs : List (κ × V)} {k : κ} {v v0 : V} (h : valV kvs k = some v0) : putK kvs k v = kvs.map fun kv => if kv.1 = k then (kv.1, v) else kv := by
  unfold putK
  rw [valV_any, h]
  exact if_pos rfl
theorem lagsKV_set {as : List Addr} {j : Nat} {z : Str} {b b' : Addr} (hl : as.length ≤ 4) (hz : wordsL[j]? = some z) (hb : as[j]? = some b) : putK (lagsKV as) (Sum.inr z) (.ref b') = lagsKV (as.set j b') := by
  rw [putK_old (valV_lags hz hb)]
  have hn : wordsL.Nodup := by decide +kernel
  apply List.ext_getElem?
  intro m
  unfold lagsKV
  rw [List.getElem?_map, List.getElem?_map, List.getElem?_map, List.zip_eq_zipWith, List.zip_eq_zipWith, List.getElem?_zipWith, List.getElem?_zipWith, List.getElem?_set]
  cases hw : wordsL[m]? with
  | none => rfl
  | some y =>
    by_cases hm : j = m
    · subst hm
      rw [hz] at hw
      cases hw
      have : j < as.length := (List.getElem?_eq_some_iff.mp hb).1
      rw [if_pos rfl, if_pos this, hb]
      simp
    · rw [if_neg hm]
      cases as[m]? with
      | none => rfl
      | some c =>
        have : y ≠ z := fun e => by
          rw [e] at hw
          exact hm (nodup_ix hn hz hw)
        simp [this]
/-- what is asked of an outlook's spans -/
structure SOk (its : List ItD) (S : SpD) : Prop where
  len : S.length = its.length
  row : ∀ (i : Nat) (it : ItD) (sp : List (Int × Int)), its[i]? = some it → S[i]? = some sp → sp.length = if it.pc then 4 else 1
  le : ∀ sp ∈ S, ∀ q ∈ sp, q.1 ≤ q.2
  bd : ∀ sp ∈ S, ∀ q ∈ sp, 0 ≤ q.1 ∧ q.2 ≤ 1000 ∧ q.2 ≤ q.1 + 8
theorem LagsAt.mutN {d b : Addr} {o : HO} {sp : List (Int × Int)} (h : LagsAt K H b sp) (n : b ≠ d) (hd : ∀ C dx fs, H d ≠ some (.ins C dx fs)) (m : Mut d H H' o) : LagsAt K H' b sp := by
  obtain ⟨as, h1, h2, h3⟩ := h
  refine ⟨as, m.1 _ _ n h1, h2, fun j q hq => ?_⟩
  obtain ⟨c, h4, dc, h5⟩ := h3 j q hq
  exact ⟨c, h4, dc, m.1 _ _ (fun z => by rw [z] at h5; exact hd _ _ _ h5) h5⟩
theorem lags_ne {d b : Addr} {its : List ItD} {ds : List Addr} {i : Nat} {sp : List (Int × Int)} (hd : H d = some (.dK (spansKV its ds))) (hl : ds.length = its.length) (hds : ∀ (i : Nat) (sp : List (Int × Int)), S[i]? = some sp → ∃ b, ds[i]? = some b ∧ LagsAt K H b sp) (hi : S[i]? = some sp) (hS : S.length = its.length) (hne : sp ≠ []) (hb : LagsAt K H b sp) : b ≠ d := by
  intro e
  obtain ⟨as, h1, h2, h3⟩ := hb
  rw [e, hd] at h1
  injection h1 with h1
  injection h1 with h1
  obtain ⟨a, ra, ea⟩ : ∃ a ra, as = a :: ra := by
    cases as with
    | nil => exact absurd (List.length_eq_zero_iff.mp h2.symm) hne
    | cons a ra => exact ⟨a, ra, rfl⟩
  have iL : 0 < S.length := Nat.lt_of_le_of_lt (Nat.zero_le _) (List.getElem?_eq_some_iff.mp hi).1
  obtain ⟨it0, ri, eit⟩ : ∃ it0 ri, its = it0 :: ri := by
    cases its with
    | nil => rw [hS] at iL; cases iL
    | cons x r => exact ⟨x, r, rfl⟩
  obtain ⟨d0, rd, ed⟩ : ∃ d0 rd, ds = d0 :: rd := by
    cases ds with
    | nil => rw [eit] at hl; cases hl
    | cons x r => exact ⟨x, r, rfl⟩
  subst ea eit ed
  have e0 := congrArg (fun l : List (Key × V) => l.head?.map (·.2)) h1
  have e0 : (some (V.ref d0)) = some (V.ref a) := e0
  cases e0
  obtain ⟨q, rq, eq⟩ : ∃ q rq, sp = q :: rq := by
    cases sp with
    | nil => exact absurd rfl hne
    | cons x r => exact ⟨x, r, rfl⟩
  subst eq
  obtain ⟨c, g1, dx, g2⟩ := h3 0 q rfl
  cases g1
  obtain ⟨b', g3, as', g4, _⟩ := hds 0 S[0] (List.getElem?_eq_getElem iL)
  cases g3
  rw [g2] at g4
  cases g4
def sp_Outlook_replaced (K : PySem.W.Frag) : Sp := S4 fun a b c d H Q => ∃ (p s1 : Addr) (D : DyD) (S : SpD) (i j : Nat) (it : ItD) (sp : List (Int × Int)) (q q1 : Int × Int) (z : Str), a = .ref p ∧ OutlookAt K H p D S ∧ ItsOk D.its ∧ D.its[i]? = some it ∧ S[i]? = some sp ∧ SOk D.its S ∧ sp[j]? = some q ∧ wordsL[j]? = some z ∧
  b = .str it.nm ∧ c = .str z ∧ d = .ref s1 ∧ SpanAt K H s1 q1.1 q1.2 ∧ ∀ p' H', H p' = none → Ex H H' → OutlookAt K H' p' D (setS S i j q1) → Q (.ref p') H'
theorem ok_Outlook_replaced (T : TX K mg w) : FnR PP w K mg base CX0 7 (ma K (ga K "Outlook") "_replaced") (sp_Outlook_replaced K) := by
  refine mkS4 (bn T.f_Outlook_replaced (fun _ _ _ _ _ _ us hl => match us, hl with | [_, _, _, _], _ => rfl)) sc_Outlook_replaced fun cdv A outer s H a b c d Q E hr h => ?_
  refine ⟨_, (pss_cons (ps_lock (ps_setDcD (i := 4) (own := [("key", 5), ("lags", 6)]) rfl sc_Outlook_replaced.nd rfl rfl (sw_trueD rfl rfl rfl (by decide +kernel)) (pi_items (pe_f (pv 0))) (blkOk_by (N := N_Outlook_replaced) (sc := defScope s_Outlook_replaced) (by decide +kernel)) (fun _ _ _ _ _ => (pg_tup rfl (pgs_cons (pg_name (i := 5) sc_Outlook_replaced.nd rfl (Or.inl rfl)) (pgs_cons (pg_name (i := 6) sc_Outlook_replaced.nd rfl (Or.inl rfl)) pgs_nil)))) (fun _ _ _ _ _ => pts_nil) (fun _ _ _ _ _ => (pv 5)) (fun _ _ _ _ _ => (pe_callTy call_dictD (by rfl) T.n_dict (by decide +kernel) (pa_cons (pv 6) pa_nil)))))
      (pss_cons (ps_dput (hu_of hr) (pe_dget (hu_of hr) (pv 4) (pv 1) (fun _ _ => rfl)) (pv 2) (pv 3) rfl)
      (pss_one (ps_ret (pe_fn (ok_with_spans T) (hr.mono (by decide)) T.kp_with_spans T.g_with_spans (pa_cons (pe_f (pv 0)) (pa_cons (pv 4) pa_nil))))))), ?_⟩
  obtain ⟨p, s1, D, S, i, j, it, sp, q0, q1, z, rfl, hL, ok, hi, hs, sok, hj, hz, rfl, rfl, rfl, hs1, q⟩ := h
  have l8 := ok.len
  have hL0 := hL
  obtain ⟨o, sd, ⟨dxo, hIns⟩, hO, ds, hd, hl1, hl2, hds⟩ := hL
  have np : p ≠ sd := fun e => by rw [e, hd] at hIns; cases hIns
  have hne : ∀ (m : Nat) (spm : List (Int × Int)), S[m]? = some spm → spm ≠ [] := fun m spm hm e => by
    have hlt : m < D.its.length := by rw [← hl2]; exact (List.getElem?_eq_some_iff.mp hm).1
    have := sok.row m _ spm (List.getElem?_eq_getElem hlt) hm
    rw [e] at this
    split at this <;> cases this
  refine ⟨sd, _, hd, trivial, fun od => ?_⟩
  refine ⟨_, rfl, p, _, rfl, ⟨_, dxo, _, (upd_ne np).trans hIns, T.c_Outlook, T.a_Outlook__spans, rfl⟩, sd, od, _, rfl, upd_same, fun d hdn => ?_⟩
  have ndsd : d ≠ sd := fun e => by rw [e, upd_same] at hdn; cases hdn
  have hdH : H d = none := by rw [upd_ne ndsd] at hdn; exact hdn
  refine dc_it walk_items (fun i H' => (∀ a u, a ≠ sd → H a = some u → H' a = some u) ∧ H' sd = some (.frz od (.dK (spansKV D.its ds))) ∧ ∃ cs : List Addr, H' d = some (.dK (spansKV (D.its.take i) cs)) ∧ cs.length = i ∧ cs.Nodup ∧
      ∀ (m : Nat) (spm : List (Int × Int)), m < i → S[m]? = some spm → ∃ c, cs[m]? = some c ∧ c ≠ d ∧ c ≠ sd ∧ H c = none ∧ LagsAt K H' c spm)
    ⟨fun a u hn h => by rw [upd_ne (fun e => by rw [e, hdH] at h; cases h), upd_ne hn]; exact h, (upd_ne ndsd.symm).trans upd_same, [], upd_same, rfl, List.nodup_nil, fun m spm hm => absurd hm (Nat.not_lt_zero _)⟩ (fun i H' _ h => h.2.1) (fun i x H1 H2 hi h yy => ?_) (fun H1 h => ?_)
  · obtain ⟨k1, k2, cs, k3, k4, k5, k6⟩ := h
    obtain ⟨t, x1, x2, rfl, hT, rfl, ex1, ex2⟩ := yy
    have hi2 : i < D.its.length := by
      have : (spansKV D.its ds).length = D.its.length := by unfold spansKV; rw [List.length_map, List.length_zip, hl1, Nat.min_self]
      omega
    have eg : D.its[i]? = some D.its[i] := List.getElem?_eq_getElem hi2
    obtain ⟨b, hb, hLb⟩ := hds i S[i] (List.getElem?_eq_getElem (by omega))
    have hget := spansKV_get eg hb
    dsimp only at ex1 ex2
    rw [hget] at ex1 ex2
    cases ex1
    cases ex2
    have nb : b ≠ sd := lags_ne hd hl1 hds (List.getElem?_eq_getElem (by omega : i < S.length)) hl2 (hne i _ (List.getElem?_eq_getElem (by omega))) hLb
    obtain ⟨as, g1, g2, g3⟩ := id hLb
    have tb : t ≠ b := fun e => by rw [e, k1 _ _ nb g1] at hT; cases hT
    refine ⟨t, _, rfl, SqT.of upd_same, rfl, _, _, rfl, _, _, rfl, rfl, rfl, _, rfl, _, rfl, b, _, rfl, .inl ((upd_ne tb.symm).trans (k1 _ _ nb g1)), fun c hc => ?_⟩
    have ntc : c ≠ t := fun e => by rw [e, upd_same] at hc; cases hc
    have hc1 : H1 c = none := by rw [upd_ne ntc] at hc; exact hc
    have ncd : c ≠ d := fun e => by rw [e, k3] at hc1; cases hc1
    have ncs : c ≠ sd := fun e => by rw [e, k2] at hc1; cases hc1
    have e13 : Ex H1 (upd (upd H1 t (.tup [kV (Sum.inr D.its[i].nm), .ref b])) c (.dK (lagsKV as))) := (Ex.new hT).trans (Ex.new hc)
    have cL : (upd (upd H1 t (.tup [kV (Sum.inr D.its[i].nm), .ref b])) c (.dK (lagsKV as))) c = some (.dK (lagsKV as)) := upd_same
    generalize upd (upd H1 t (.tup [kV (Sum.inr D.its[i].nm), .ref b])) c (.dK (lagsKV as)) = H3 at e13 cL ⊢
    have lt : (D.its.take i).length = i := by rw [List.length_take]; omega
    have hno : valV (spansKV (D.its.take i) cs) (Sum.inr D.its[i].nm) = none := spansKV_no (by rw [lt, k4]) fun hm => by
      obtain ⟨j', hj', ej'⟩ := List.mem_iff_getElem.mp hm
      rw [List.length_map, lt] at hj'
      have g1' : (D.its.map (·.nm))[j']? = some D.its[i].nm := by
        rw [List.getElem?_eq_getElem (by rw [List.length_map]; omega), ← ej']
        simp
      have g2' : (D.its.map (·.nm))[i]? = some D.its[i].nm := by rw [List.getElem?_map, eg]; rfl
      have := nodup_ix ok.nd g1' g2'
      omega
    have hlen : (spansKV (D.its.take i) cs).length = i := by
      unfold spansKV
      rw [List.length_map, List.length_zip, lt, k4, Nat.min_self]
    have d3 := e13 _ _ k3
    have mu : Mut d H3 (upd H3 d (.dK (putK (spansKV (D.its.take i) cs) (Sum.inr D.its[i].nm) (.ref c)))) (.dK (putK (spansKV (D.its.take i) cs) (Sum.inr D.its[i].nm) (.ref c))) := Mut.upd
    have nin : ∀ C dx fs, H3 d ≠ some (.ins C dx fs) := fun C dx fs e => by rw [d3] at e; cases e
    refine ⟨_, Sum.inr _, rfl, d3, sz_lt (by omega), fun a u hn h => mu.1 _ _ (fun e => by rw [e, hdH] at h; cases h) (e13 _ _ (k1 a u hn h)), mu.1 _ _ ndsd.symm (e13 _ _ k2), cs ++ [c], ?_, by simp [k4], ?_, fun m spm hm hsm => ?_⟩
    · rw [upd_same, putK_new hno, take_next hi2]
      unfold spansKV
      rw [List.zip_append (by rw [lt, k4]), List.map_append]
      rfl
    · rw [List.nodup_append]
      refine ⟨k5, by simp, fun x hx y hy => ?_⟩
      obtain ⟨m, hm, rfl⟩ := List.mem_iff_getElem.mp hx
      obtain rfl : y = c := by simpa using hy
      intro e
      obtain ⟨c', g1', _, _, _, as', g5, _⟩ := k6 m S[m] (by omega) (List.getElem?_eq_getElem (by omega))
      rw [List.getElem?_eq_getElem hm] at g1'
      cases g1'
      rw [e, hc1] at g5
      cases g5
    · by_cases hmi : m = i
      · subst hmi
        rw [List.getElem?_eq_getElem (by omega)] at hsm
        cases hsm
        refine ⟨c, by rw [List.getElem?_append_right (by omega), k4, Nat.sub_self]; rfl, ncd, ncs, ?_, LagsAt.mutN ⟨as, cL, g2, fun j' q' hq' => ?_⟩ ncd nin mu⟩
        · cases e : H c with
          | none => rfl
          | some u => rw [k1 c u ncs e] at hc1; cases hc1
        · obtain ⟨x, h5, dx, h6⟩ := g3 j' q' hq'
          exact ⟨x, h5, dx, e13 _ _ (k1 _ _ (fun e => by rw [e, hd] at h6; cases h6) h6)⟩
      · obtain ⟨c', g1', g2', g3', g4', g5'⟩ := k6 m spm (by omega) hsm
        exact ⟨c', by rw [List.getElem?_append_left (by omega)]; exact g1', g2', g3', g4', (g5'.mono e13).mutN g2' nin mu⟩
  · obtain ⟨k1, k2, cs, k3, k4, k5, k6⟩ := h
    have hlen : (spansKV D.its ds).length = D.its.length := by unfold spansKV; rw [List.length_map, List.length_zip, hl1, Nat.min_self]
    rw [hlen] at k3 k4 k6
    rw [List.take_of_length_le (Nat.le_refl _)] at k3
    refine ⟨k2, ?_⟩
    have e1 : Ex H (upd H1 sd (.dK (spansKV D.its ds))) := fun a u h => by
      by_cases hn : a = sd
      · rw [hn, hd] at h
        rw [hn, upd_same, h]
      · rw [upd_ne hn]
        exact k1 a u hn h
    have mu0 : Mut sd H1 (upd H1 sd (.dK (spansKV D.its ds))) (.dK (spansKV D.its ds)) := Mut.upd
    have d2 := mu0.1 _ _ ndsd k3
    have k6 : ∀ (m : Nat) (spm : List (Int × Int)), S[m]? = some spm → ∃ c, cs[m]? = some c ∧ c ≠ d ∧ H c = none ∧ LagsAt K (upd H1 sd (.dK (spansKV D.its ds))) c spm := fun m spm hm => by
      obtain ⟨c, g1, g2, g3, g4, g5⟩ := k6 m spm (by rw [← hl2]; exact (List.getElem?_eq_some_iff.mp hm).1) hm
      exact ⟨c, g1, g2, g4, g5.mutN g3 (fun C dx fs e => by rw [k2] at e; cases e) mu0⟩
    generalize upd H1 sd (.dK (spansKV D.its ds)) = H2 at e1 d2 k6 ⊢
    obtain ⟨c, g1, g2, g3, as, g4, g5, g6⟩ := k6 i sp hs
    obtain ⟨x0, hx0, _⟩ := g6 j q0 hj
    have dg := DGet.k (k := Sum.inr it.nm) d2
    rw [spans_at k4 ok.nd hi g1] at dg
    refine ⟨_, rfl, _, rfl, _, rfl, d, _, rfl, dg, _, rfl, c, _, rfl, DPut.k (k := Sum.inr z) g4 ?_, ?_⟩
    · refine sz_lt ?_
      unfold lagsKV
      rw [List.length_map, List.length_zip]
      have : wordsL.length = 4 := rfl
      omega
    have l4 : as.length ≤ 4 := by
      have := sok.row i it sp hi hs
      rw [g5, this]
      split <;> omega
    have mu : Mut c H2 (upd H2 c (.dK (putK (lagsKV as) (Sum.inr z) (.ref s1)))) (.dK (lagsKV (as.set j s1))) := by
      rw [lagsKV_set l4 hz hx0]
      exact Mut.upd
    have nin : ∀ C dx fs, H2 c ≠ some (.ins C dx fs) := fun C dx fs e => by rw [g4] at e; cases e
    have e2 : Ex H (upd H2 c (.dK (putK (lagsKV as) (Sum.inr z) (.ref s1)))) := fun a u h => mu.1 _ _ (fun e => by rw [e, g3] at h; cases h) (e1 _ _ h)
    generalize upd H2 c (.dK (putK (lagsKV as) (Sum.inr z) (.ref s1))) = H3 at mu e2 ⊢
    obtain ⟨oo, hoo1, hoo2⟩ := (hL0.mono e2).order T
    refine ⟨_, rfl, _, _, rfl, hoo1, _, rfl, _, _, rfl, oo, d, D, setS S i j q1, rfl, rfl, hoo2, ok, ⟨cs, mu.1 _ _ g2.symm d2, k4, by unfold setS; rw [List.length_modify]; exact hl2, fun m spm hm => ?_⟩, fun p' H' hp' e3 hL' => q p' H' (fresh_back e2 hp') (e2.trans e3) hL'⟩
    rw [setS_get] at hm
    by_cases hmi : i = m
    · subst hmi
      rw [if_pos rfl, hs] at hm
      cases hm
      refine ⟨c, g1, as.set j s1, mu.2, by rw [List.length_set, List.length_set]; exact g5, fun j' q' hq' => ?_⟩
      have hlt : j < as.length := (List.getElem?_eq_some_iff.mp hx0).1
      by_cases hjj : j = j'
      · subst hjj
        rw [List.getElem?_set_self (by omega)] at hq'
        cases hq'
        exact ⟨s1, List.getElem?_set_self hlt, hs1.mono e2⟩
      · rw [List.getElem?_set_ne hjj] at hq'
        obtain ⟨x, hx, dx, hx2⟩ := g6 j' q' hq'
        exact ⟨x, by rw [List.getElem?_set_ne hjj]; exact hx, dx, mu.1 _ _ (fun e => by rw [e, g4] at hx2; cases hx2) hx2⟩
    · rw [if_neg hmi] at hm
      obtain ⟨c', h1', h2', h3', h4'⟩ := k6 m spm hm
      exact ⟨c', h1', h4'.mutN (fun e => hmi ((List.getElem?_inj (List.getElem?_eq_some_iff.mp g1).1 k5).mp (by rw [g1, h1', e]))) nin mu⟩
end
end BB
namespace BB
open PySem PySem.Spec PyProof.Rows L2 He Evl
section
variable {K : PySem.W.Frag} {mg : Str → Option Value} {w : World} {base : Heap} {H H' : Hp} {a : Addr} {it : ItD} {D : DyD} {S : SpD}
theorem OutlookAt.ins (h : OutlookAt K H a D S) : ∃ (dx o sd : Addr), H a = some (.ins (ga K "Outlook") dx [("order", .ref o), ("_spans", .ref sd)]) := by
  obtain ⟨o, sd, ⟨dx, h1⟩, _⟩ := h
  exact ⟨dx, o, sd, h1⟩
def sp_Outlook_narrowed (K : PySem.W.Frag) : Sp := S5 fun a b c d e H Q => ∃ (p : Addr) (D : DyD) (S : SpD) (i j : Nat) (it : ItD) (sp : List (Int × Int)) (q : Int × Int) (lo hi : Int) (z : Str), a = .ref p ∧ OutlookAt K H p D S ∧ ItsOk D.its ∧ D.its[i]? = some it ∧ S[i]? = some sp ∧ SOk D.its S ∧ sp[j]? = some q ∧ wordsL[j]? = some z ∧
  b = .str it.nm ∧ c = .str z ∧ d = .int lo ∧ e = .int hi ∧ q.1 ≤ lo ∧ lo ≤ hi ∧ hi ≤ q.2 ∧ ∀ p' H', H p' = none → Ex H H' → OutlookAt K H' p' D (setS S i j (lo, hi)) → Q (.ref p') H'
theorem ok_Outlook_narrowed (T : TX K mg w) : FnR PP w K mg base CX0 8 (ma K (ga K "Outlook") "narrowed") (sp_Outlook_narrowed K) := by
  refine mkS5 (bn T.f_Outlook_narrowed (fun _ _ _ _ _ _ us hl => match us, hl with | [_, _, _, _, _], _ => rfl)) sc_Outlook_narrowed fun cdv A outer s H a b c d e Q E hr h => ?_
  refine ⟨_, (pss_cons (ps_set (i := 5) sc_Outlook_narrowed.nd rfl (Or.inl rfl) (pe_mt (pv 0) (ok_Outlook_span_of T) (hr.mono (by decide)) T.kp_Outlook_span_of (pa_cons (pv 1) (pa_cons (pv 2) pa_nil))))
      (pss_cons (ps_if (PW.pt (pw_or (pt_cmpR op_gt (pv 3) (pv 4) (nomark _)) (pw_or (pt_cmpR (op_notInO T.d_Span_contains.at_ T.d_Span_contains.fn (ok_Span_contains T) (hr.mono (by decide))) (pv 3) (pv 5) (by with_unfolding_all rfl)) (pw_or1 (pt_cmpR (op_notInO T.d_Span_contains.at_ T.d_Span_contains.fn (ok_Span_contains T) (hr.mono (by decide))) (pv 4) (pv 5) (by with_unfolding_all rfl)))))) (pss_one ps_never)
        pss_nil)
      (pss_one (ps_ret (pe_mt (pv 0) (ok_Outlook_replaced T) (hr.mono (by decide)) T.kp_Outlook_replaced (pa_cons (pv 1) (pa_cons (pv 2) (pa_cons (pe_ctor (ct_Span T) (hr.mono (by decide)) (pa_cons (pv 3) (pa_cons (pv 4) pa_nil))) pa_nil)))))))), ?_⟩
  obtain ⟨p, D, S, i, j, it, sp, q0, lo, hi, z, rfl, hL, ok, hi', hs, sok, hj, hz, rfl, rfl, rfl, rfl, h1, h2, h3, q⟩ := h
  obtain ⟨dx, o, sd, hins⟩ := hL.ins
  refine ⟨_, rfl, _, _, dx, _, rfl, hins, T.c_Outlook, T.m_Outlook_span_of, rfl, _, rfl, _, rfl, _, _, _, rfl, p, D, S, i, j, it, sp, q0, z, rfl, hL, ok.nd, hi', hs, hj, hz, rfl, rfl, fun s0 hs0 => ?_⟩
  obtain ⟨dxs, hs0'⟩ := id hs0
  refine ⟨_, rfl, _, rfl, _, _, rfl, rfl, _, rfl, ?_⟩
  rw [decide_eq_false (by omega : ¬ lo > hi)]
  refine ⟨_, rfl, _, rfl, s0, _, _, rfl, hs0', _, _, rfl, s0, _, _, _, rfl, rfl, hs0, _, rfl, _, rfl, ?_⟩
  rw [decide_eq_true (by omega : q0.1 ≤ lo ∧ lo ≤ q0.2)]
  refine ⟨_, rfl, _, rfl, s0, _, _, rfl, hs0', _, _, rfl, s0, _, _, _, rfl, rfl, hs0, _, rfl, _, rfl, ifF ?_ ?_⟩
  · show (!decide (q0.1 ≤ hi ∧ hi ≤ q0.2)) = false
    rw [decide_eq_true (by omega)]
    rfl
  · refine ⟨_, rfl, _, _, dx, _, rfl, hins, T.c_Outlook, T.m_Outlook__replaced, rfl, _, rfl, _, rfl, _, rfl, _, rfl, _, _, rfl, lo, hi, rfl, rfl, h2, fun s1 H1 hn e1 hS => ?_⟩
    refine ⟨_, _, _, _, rfl, p, s1, D, S, i, j, it, sp, q0, (lo, hi), z, rfl, hL.mono e1, ok, hi', hs, sok, hj, hz, rfl, rfl, rfl, hS, fun p' H' hp' e2 hL' => ?_⟩
    exact q p' H' (fresh_back e1 hp') (e1.trans e2) hL'
/-! ### steps -/
/-- the span of the step from a point to the next -/
def stSp (its : List ItD) (S : SpD) (i : Nat) : Int × Int := match its[i / 2]? with
  | none => (0, 0)
  | some it => if i % 2 = 0 then (S.getD (i / 2) []).getD 0 (0, 0) else if it.pc then (S.getD (i / 2) []).getD 1 (0, 0) else (it.x * it.y, it.x * it.y)
/-- the step itself -/
def stF (its : List ItD) (i : Nat) (m l : Int) : Int := match its[i / 2]? with
  | none => m
  | some it => if i % 2 = 0 then bgn it m l else m + l
theorem stF_even {its : List ItD} {i : Nat} {m l : Int} (h : its[i / 2]? = some it) (e : i % 2 = 0) : stF its i m l = bgn it m l := by
  unfold stF
  rw [h]
  exact if_pos e
theorem stF_odd {its : List ItD} {i : Nat} {m l : Int} (h : its[i / 2]? = some it) (e : ¬ i % 2 = 0) : stF its i m l = m + l := by
  unfold stF
  rw [h]
  exact if_neg e
theorem TX.mBegin (T : TX K mg w) (b : Bool) : Meth K (ga K (itC b)) "begin_at" (ma K (ga K "Timed") "begin_at") := by
  cases b with
  | true => exact T.m_Piece_begin_at
  | false => exact T.m_Break_begin_at
theorem itFs_no (g : Addr) (it : ItD) : (itFs g it).lookup ("begin_at" : Str) = none := by
  unfold itFs
  cases it.pc <;> rfl
theorem mod2 (i : Nat) : (i : Int).fmod 2 = ((i % 2 : Nat) : Int) := by rw [Int.fmod_eq_emod_of_nonneg _ (by decide)]; omega
theorem div2 (i : Nat) : (i : Int).fdiv 2 = ((i / 2 : Nat) : Int) := by rw [Int.fdiv_eq_ediv_of_nonneg _ (by decide)]; omega
theorem dec_even {i : Nat} : decide (V.int ((i : Int).fmod 2) = V.int 0) = decide (i % 2 = 0) := by
  rw [mod2]
  by_cases h : i % 2 = 0
  · rw [decide_eq_true h, h]; rfl
  · rw [decide_eq_false h, decide_eq_false]
    intro e
    have := V.int.inj e
    omega
theorem cd2 (i : Int) : CDivN i 2 := ⟨by decide, by decide⟩
def sp_next_moment (K : PySem.W.Frag) : Sp := S4 fun a b c d H Q => ∃ (o : Addr) (D : DyD) (i : Nat) (m l : Int), a = .ref o ∧ b = .int (i : Nat) ∧ c = .int m ∧ d = .int l ∧ OrderAt K H o D ∧ ItsOk D.its ∧ i < 2 * D.its.length ∧ Q (.int (stF D.its i m l)) H
theorem ok_next_moment (T : TX K mg w) : FnR PP w K mg base CX0 3 (ga K "next_moment") (sp_next_moment K) := by
  refine mkS4 (bn T.f_next_moment (fun _ _ _ _ _ _ us hl => match us, hl with | [_, _, _, _], _ => rfl)) sc_next_moment fun cdv A outer s H a b c d Q E hr h => ?_
  refine ⟨_, (pss_cons (ps_if (pt_cmpR op_eq (pe_op op_modN (pv 1) pe_int) pe_int (nomark _)) (pss_one (ps_ret (pe_mt (pe_ix ix_tup (pe_f (pv 0)) (pe_op op_fdivN (pv 1) pe_int) (fun _ _ => rfl)) (ok_Timed_begin_at T) (hr.mono (by decide)) T.kp_Timed_begin_at (pa_cons (pv 2) (pa_cons (pv 3) pa_nil)))))
        pss_nil)
      (pss_one (ps_ret (pe_op op_add (pv 2) (pv 3))))), ?_⟩
  obtain ⟨o, D, i, m, l, rfl, rfl, rfl, rfl, hO, ok, hi, q⟩ := h
  have hlt : i / 2 < D.its.length := by omega
  have hg := List.getElem?_eq_getElem hlt
  refine ⟨_, rfl, _, _, rfl, rfl, (show (2 : Int) ≠ 0 by decide), rfl, _, rfl, if2 (fun e => ?_) (fun e => ?_)⟩
  · have e : i % 2 = 0 := of_decide_eq_true (dec_even.symm.trans e)
    rw [stF_even hg e] at q
    obtain ⟨tp, is, h1, h2, h3⟩ := hO.lineup T
    obtain ⟨x, hx, hI⟩ := h3.get hlt
    obtain ⟨g, ⟨dg, hI1⟩, _⟩ := id hI
    refine ⟨_, rfl, _, _, rfl, h1, _, rfl, _, _, rfl, rfl, cd2 _, tp, _, _, .ref x, rfl, rfl, SqT.of h2, ?_, ?_⟩
    · rw [div2]
      exact atI_nat (by rw [List.getElem?_map, hx]; rfl)
    · exact ⟨x, _, dg, _, rfl, hI1, (T.cf _).cls, T.mBegin _, itFs_no _ _, _, rfl, _, rfl, _, _, _, rfl, x, D.its[i / 2], m, l, rfl, rfl, rfl, hI, (ok.ok _ (List.getElem_mem _)).st, q⟩
  · have e : ¬ i % 2 = 0 := of_decide_eq_false (dec_even.symm.trans e)
    rw [stF_odd hg e] at q
    exact ⟨_, rfl, _, rfl, _, _, rfl, rfl, q⟩
theorem stSp_even {its : List ItD} {i : Nat} {sp : List (Int × Int)} {q : Int × Int} (h : its[i / 2]? = some it) (e : i % 2 = 0) (hs : S[i / 2]? = some sp) (hq : sp[0]? = some q) : stSp its S i = q := by
  unfold stSp
  rw [h]
  show (if i % 2 = 0 then _ else _) = q
  rw [if_pos e, List.getD_eq_getElem?_getD, List.getD_eq_getElem?_getD, hs]
  show sp[0]?.getD (0, 0) = q
  rw [hq]
  rfl
theorem stSp_odd {its : List ItD} {i : Nat} {sp : List (Int × Int)} {q : Int × Int} (h : its[i / 2]? = some it) (e : ¬ i % 2 = 0) (hp : it.pc = true) (hs : S[i / 2]? = some sp) (hq : sp[1]? = some q) : stSp its S i = q := by
  unfold stSp
  rw [h]
  show (if i % 2 = 0 then _ else if it.pc = true then _ else _) = q
  rw [if_neg e, if_pos hp, List.getD_eq_getElem?_getD, List.getD_eq_getElem?_getD, hs]
  show sp[1]?.getD (0, 0) = q
  rw [hq]
  rfl
theorem stSp_br {its : List ItD} {i : Nat} (h : its[i / 2]? = some it) (e : ¬ i % 2 = 0) (hp : it.pc = false) : stSp its S i = (it.x * it.y, it.x * it.y) := by
  unfold stSp
  rw [h]
  show (if i % 2 = 0 then _ else if it.pc = true then _ else _) = _
  rw [if_neg e, if_neg (by rw [hp]; exact Bool.noConfusion)]
def sp_step_span (K : PySem.W.Frag) : Sp := S2 fun a b H Q => ∃ (p : Addr) (D : DyD) (S : SpD) (i : Nat), a = .ref p ∧ b = .int (i : Nat) ∧ OutlookAt K H p D S ∧ ItsOk D.its ∧ SOk D.its S ∧ i < 2 * D.its.length ∧
  ∀ s H', Ex H H' → SpanAt K H' s (stSp D.its S i).1 (stSp D.its S i).2 → Q (.ref s) H'
theorem ok_step_span (T : TX K mg w) : FnR PP w K mg base CX0 3 (ga K "step_span") (sp_step_span K) := by
  refine mkS2 (bn T.f_step_span (fun _ _ _ _ _ _ us hl => match us, hl with | [_, _], _ => rfl)) sc_step_span fun cdv A outer s H a b Q E hr h => ?_
  refine ⟨_, (pss_cons (ps_set (i := 2) sc_step_span.nd rfl (Or.inl rfl) (pe_ix ix_tup (pe_f (pe_f (pv 0))) (pe_op op_fdivN (pv 1) pe_int) (fun _ _ => rfl)))
      (pss_cons (ps_if (pt_cmpR op_eq (pe_op op_modN (pv 1) pe_int) pe_int (nomark _)) (pss_one (ps_ret (pe_mt (pv 0) (ok_Outlook_span_of T) (hr.mono (by decide)) T.kp_Outlook_span_of (pa_cons (pe_f (pv 2)) (pa_cons pe_str pa_nil)))))
        pss_nil)
      (pss_cons (ps_if (pt_val (pe_callB call_isi (by rfl) T.n_isinstance (by decide +kernel) (pa_cons (pv 2) (pa_cons (pe_gr T.g_Break) pa_nil)))) (pss_one (ps_ret (pe_ctor (ct_Span T) (hr.mono (by decide)) (pa_cons (pe_pr T.c_Break (pr_Break_length T) (hr.mono (by decide)) (pv 2)) (pa_cons (pe_pr T.c_Break (pr_Break_length T) (hr.mono (by decide)) (pv 2)) pa_nil)))))
        pss_nil)
      (pss_one (ps_ret (pe_mt (pv 0) (ok_Outlook_span_of T) (hr.mono (by decide)) T.kp_Outlook_span_of (pa_cons (pe_f (pv 2)) (pa_cons pe_str pa_nil)))))))), ?_⟩
  obtain ⟨p, D, S, i, rfl, rfl, hL, ok, sok, hi, q⟩ := h
  have hlt : i / 2 < D.its.length := by omega
  have hg := List.getElem?_eq_getElem hlt
  have hsg : S[i / 2]? = some (S[i / 2]'(by rw [sok.len]; exact hlt)) := List.getElem?_eq_getElem _
  generalize S[i / 2]'(by rw [sok.len]; exact hlt) = sp at hsg
  have hrow := sok.row _ _ _ hg hsg
  obtain ⟨dx, o', sd, hins⟩ := hL.ins
  obtain ⟨o, ho1, ho2⟩ := hL.order T
  obtain ⟨tp, is, h1, h2, h3⟩ := ho2.lineup T
  obtain ⟨x, hx, hI⟩ := h3.get hlt
  refine ⟨_, rfl, _, _, rfl, ho1, _, _, rfl, h1, _, rfl, _, _, rfl, rfl, cd2 _, tp, _, _, .ref x, rfl, rfl, SqT.of h2, (by rw [div2]; exact atI_nat (by rw [List.getElem?_map, hx]; rfl)), ?_⟩
  refine ⟨_, rfl, _, _, rfl, rfl, (show (2 : Int) ≠ 0 by decide), rfl, _, rfl, if2 (fun e => ?_) (fun e => ?_)⟩
  · have e : i % 2 = 0 := of_decide_eq_true (dec_even.symm.trans e)
    have h0 : ∃ q0, sp[0]? = some q0 := ⟨sp[0]'(by rw [hrow]; split <;> omega), List.getElem?_eq_getElem _⟩
    obtain ⟨q0, h0⟩ := h0
    rw [stSp_even hg e hsg h0] at q
    exact ⟨_, rfl, p, _, dx, _, rfl, hins, T.c_Outlook, T.m_Outlook_span_of, rfl, _, rfl, _, _, rfl, hI.name T, _, _, _, rfl, p, D, S, i / 2, 0, _, sp, q0, "delay", rfl, hL, ok.nd, hg, hsg, h0, rfl, rfl, rfl, fun s hs => q s H (Ex.refl H) hs⟩
  · have e : ¬ i % 2 = 0 := of_decide_eq_false (dec_even.symm.trans e)
    obtain ⟨ty, ht1, ht2⟩ := hI.isi T false
    refine ⟨_, rfl, _, _, _, _, _, rfl, .own _, ht1, ht2, _, rfl, if2 (fun eb => ?_) (fun eb => ?_)⟩
    · have eb : D.its[i / 2].pc = false := by simpa using eb
      obtain ⟨o1, o2, o3, o4, o5⟩ := (ok.ok _ (List.getElem_mem hlt)).br eb
      rw [stSp_br hg e eb] at q
      obtain ⟨gx, ddx, hix⟩ := hI.br eb
      exact ⟨_, rfl, x, ddx, _, rfl, hix, _, rfl, x, _, rfl, hI, eb, (by omega), (by omega), _, rfl, x, ddx, _, rfl, hix, _, rfl, x, _, rfl, hI, eb, (by omega), (by omega), _, _, rfl, _, _, rfl, rfl, Int.le_refl _, fun s H' _ ex hs => q s H' ex hs⟩
    · have eb : D.its[i / 2].pc = true := by simpa using eb
      rw [eb] at hrow
      obtain ⟨q0, h0⟩ : ∃ q0, sp[1]? = some q0 := ⟨sp[1]'(by rw [hrow]; decide), List.getElem?_eq_getElem _⟩
      rw [stSp_odd hg e eb hsg h0] at q
      exact ⟨_, rfl, p, _, dx, _, rfl, hins, T.c_Outlook, T.m_Outlook_span_of, rfl, _, rfl, _, _, rfl, hI.name T, _, _, _, rfl, p, D, S, i / 2, 1, _, sp, q0, "length", rfl, hL, ok.nd, hg, hsg, h0, rfl, rfl, rfl, fun s hs => q s H (Ex.refl H) hs⟩
end
end BB
namespace BB
open PySem PySem.Spec PyProof.Rows L2 He Evl
section
variable {K : PySem.W.Frag} {mg : Str → Option Value} {w : World} {base : Heap} {H H' : Hp} {a : Addr} {it : ItD} {D : DyD} {S : SpD}
/-- a list of an item's spans -/
def LimL (K : PySem.W.Frag) (H : Hp) (b : Addr) (sp : List (Int × Int)) : Prop := ∃ as : List Addr, H b = some (.lst (as.map V.ref)) ∧ as.length = sp.length ∧ ∀ (j : Nat) (q : Int × Int), sp[j]? = some q → ∃ a, as[j]? = some a ∧ SpanAt K H a q.1 q.2
def LimAt (K : PySem.W.Frag) (H : Hp) (l : Addr) (S : SpD) : Prop := ∃ ls : List Addr, H l = some (.lst (ls.map V.ref)) ∧ ls.length = S.length ∧ ∀ (i : Nat) (sp : List (Int × Int)), S[i]? = some sp → ∃ b, ls[i]? = some b ∧ LimL K H b sp
theorem LimL.mono {b : Addr} {sp : List (Int × Int)} (h : LimL K H b sp) (e : Ex H H') : LimL K H' b sp := by
  obtain ⟨as, h1, h2, h3⟩ := h
  refine ⟨as, e _ _ h1, h2, fun j q hq => ?_⟩
  obtain ⟨x, h4, h5⟩ := h3 j q hq
  exact ⟨x, h4, h5.mono e⟩
theorem LimL.mut {b d : Addr} {o : HO} {sp : List (Int × Int)} (h : LimL K H b sp) (n : b ≠ d) (hd : ∀ C dx fs, H d ≠ some (.ins C dx fs)) (m : Mut d H H' o) : LimL K H' b sp := by
  obtain ⟨as, h1, h2, h3⟩ := h
  refine ⟨as, m.1 _ _ n h1, h2, fun j q hq => ?_⟩
  obtain ⟨c, h4, dc, h5⟩ := h3 j q hq
  exact ⟨c, h4, dc, m.1 _ _ (fun z => by rw [z] at h5; exact hd _ _ _ h5) h5⟩
theorem lagsKV_vals {as : List Addr} (h : as.length ≤ 4) : (lagsKV as).map (·.2) = as.map V.ref := by
  unfold lagsKV
  rw [List.map_map]
  match as, h with
  | [], _ => rfl
  | [_], _ => rfl
  | [_, _], _ => rfl
  | [_, _, _], _ => rfl
  | [_, _, _, _], _ => rfl
def sp_Outlook_limits (K : PySem.W.Frag) : Sp := S1 fun a H Q => ∃ (p : Addr) (D : DyD) (S : SpD), a = .ref p ∧ OutlookAt K H p D S ∧ ItsOk D.its ∧ SOk D.its S ∧ ∀ l H', H l = none → Ex H H' → LimAt K H' l S → Q (.ref l) H'
theorem ok_Outlook_limits (T : TX K mg w) : FnR PP w K mg base CX0 1 (ma K (ga K "Outlook") "_limits") (sp_Outlook_limits K) := by
  refine mkS1 (bn T.f_Outlook_limits (fun _ _ _ _ _ _ us hl => match us, hl with | [_], _ => rfl)) sc_Outlook_limits fun cdv A outer s H a Q E hr h => ?_
  refine ⟨_, (pss_one (ps_ret (pe_lcD (own := [("item", 1)]) rfl sc_Outlook_limits.nd (pi_tup (pe_f (pe_f (pv 0)))) (blkOk_by (N := N_Outlook_limits) (sc := defScope s_Outlook_limits) (by decide +kernel)) (fun _ _ _ _ _ => (pg_name (i := 1) sc_Outlook_limits.nd rfl (Or.inl rfl))) (fun _ _ _ _ _ => pts_nil) (fun _ _ _ _ _ => (pe_listVals rfl (pe_dget (hu_of hr) (pe_f (pv 0)) (pe_f (pv 1)) (fun _ _ => rfl)) T.n_list))))), ?_⟩
  obtain ⟨p, D, S, rfl, hL, ok, sok, q⟩ := h
  have l8 := ok.len
  obtain ⟨o, ho1, ho2⟩ := hL.order T
  obtain ⟨tp, is, h1, h2, h3⟩ := ho2.lineup T
  obtain ⟨sd, hs1, ds, hs2, hs3, hs4, hs5⟩ := hL.spans T
  refine ⟨_, rfl, _, _, rfl, ho1, _, _, rfl, h1, tp, rfl, ⟨_, SqT.of h2⟩, fun d hd => ?_⟩
  refine lc_it (walk_tup (xs := is.map V.ref)) (fun i H' => Ex H H' ∧ ∃ ls : List Addr, H' d = some (.lst (ls.map V.ref)) ∧ ls.length = i ∧ ∀ (j : Nat) (sp : List (Int × Int)), j < i → S[j]? = some sp → ∃ b, ls[j]? = some b ∧ b ≠ d ∧ LimL K H' b sp)
    ⟨Ex.new hd, [], upd_same, rfl, fun j sp hj => absurd hj (Nat.not_lt_zero _)⟩ (fun i H' _ h => SqT.of (h.1 _ _ h2)) (fun i x H2 H3 hi h yy => ?_) (fun H2 h => ?_)
  · obtain ⟨e2, ls, k1, k2, k3⟩ := h
    obtain ⟨rfl, ex2⟩ := yy
    obtain ⟨p', hp, rfl⟩ := Option.map_eq_some_iff.mp ((List.getElem?_map ..).symm.trans ex2)
    have hi2 : i < D.its.length := by rw [List.length_map, h3.1] at hi; exact hi
    obtain ⟨p'', hp', hIt⟩ := h3.get hi2
    rw [hp] at hp'
    cases hp'
    have eg : D.its[i]? = some D.its[i] := List.getElem?_eq_getElem hi2
    obtain ⟨b, hb, as, g1, g2, g3⟩ := hs5 i S[i] (List.getElem?_eq_getElem (by omega))
    have dg := DGet.k (k := Sum.inr D.its[i].nm) (e2 _ _ hs2)
    rw [spans_at hs3 ok.nd eg hb] at dg
    refine ⟨rfl, _, rfl, _, _, rfl, hs1.mono e2, _, rfl, _, _, rfl, (hIt.mono e2).name T, sd, _, rfl, dg, b, _, rfl, e2 _ _ g1, fun c hc => ?_⟩
    have a4 : as.length ≤ 4 := by
      have := sok.row i _ _ eg (List.getElem?_eq_getElem (by omega : i < S.length))
      rw [g2, this]
      split <;> omega
    have ncd : c ≠ d := fun e => by rw [e, k1] at hc; cases hc
    have e3 : Ex H3 (upd H3 c (.lst ((lagsKV as).map (·.2)))) := Ex.new hc
    have cc : (upd H3 c (.lst ((lagsKV as).map (·.2)))) c = some (.lst (as.map V.ref)) := by rw [upd_same, lagsKV_vals a4]
    generalize upd H3 c (.lst ((lagsKV as).map (·.2))) = H4 at e3 cc ⊢
    have d3 := e3 _ _ k1
    have mu : Mut d H4 (upd H4 d (.lst (ls.map V.ref ++ [.ref c]))) (.lst (ls.map V.ref ++ [.ref c])) := Mut.upd
    have nin : ∀ C dx fs, H4 d ≠ some (.ins C dx fs) := fun C dx fs e => by rw [d3] at e; cases e
    refine ⟨_, d3, sz_lt (by rw [List.length_map]; omega), (e2.trans e3).mut hd, ls ++ [c], by rw [upd_same, List.map_append]; rfl, by simp [k2], fun j sp hj hs => ?_⟩
    by_cases hji : j = i
    · subst hji
      rw [List.getElem?_eq_getElem (by omega)] at hs
      cases hs
      refine ⟨c, by rw [List.getElem?_append_right (by omega), k2, Nat.sub_self]; rfl, ncd, LimL.mut ⟨as, cc, g2, fun j q hq => ?_⟩ ncd nin mu⟩
      obtain ⟨x, hx, hS⟩ := g3 j q hq
      exact ⟨x, hx, hS.mono (e2.trans e3)⟩
    · obtain ⟨b', hb', nb', hL'⟩ := k3 j sp (by omega) hs
      exact ⟨b', by rw [List.getElem?_append_left (by omega)]; exact hb', nb', (hL'.mono e3).mut nb' nin mu⟩
  · obtain ⟨e2, ls, k1, k2, k3⟩ := h
    rw [List.length_map, h3.1] at k2 k3
    refine q d H2 hd e2 ⟨ls, k1, by rw [k2, hs4], fun i sp hi => ?_⟩
    obtain ⟨b, g1, _, g2⟩ := k3 i sp (by rw [← hs4]; exact (List.getElem?_eq_some_iff.mp hi).1) hi
    exact ⟨b, g1, g2⟩
/-- a row: a list of tuples of so many values -/
def RowAt (H : Hp) (r : Addr) (lens : List Nat) : Prop := ∃ ts : List Addr, H r = some (.lst (ts.map V.ref)) ∧ ts.length = lens.length ∧ ∀ (i n : Nat), lens[i]? = some n → ∃ (t : Addr) (vs : List V), ts[i]? = some t ∧ H t = some (.tup vs) ∧ vs.length = n
theorem RowAt.mono {r : Addr} {lens : List Nat} (h : RowAt H r lens) (e : Ex H H') : RowAt H' r lens := by
  obtain ⟨ts, h1, h2, h3⟩ := h
  refine ⟨ts, e _ _ h1, h2, fun i n hn => ?_⟩
  obtain ⟨t, vs, g1, g2, g3⟩ := h3 i n hn
  exact ⟨t, vs, g1, e _ _ g2, g3⟩
def sp_Outlook_first_row (K : PySem.W.Frag) : Sp := S1 fun a H Q => ∃ (p : Addr) (D : DyD) (S : SpD), a = .ref p ∧ OutlookAt K H p D S ∧ ItsOk D.its ∧ SOk D.its S ∧ ∀ l H', H l = none → Ex H H' → RowAt H' l (S.map List.length) → Q (.ref l) H'
theorem ok_Outlook_first_row (T : TX K mg w) : FnR PP w K mg base CX0 2 (ma K (ga K "Outlook") "first_row") (sp_Outlook_first_row K) := by
  refine mkS1 (bn T.f_Outlook_first_row (fun _ _ _ _ _ _ us hl => match us, hl with | [_], _ => rfl)) sc_Outlook_first_row fun cdv A outer s H a Q E hr h => ?_
  refine ⟨_, (pss_one (ps_ret (pe_lcD (own := [("spans", 1)]) rfl sc_Outlook_first_row.nd (pi_list (pe_mt0 (pv 0) (ok_Outlook_limits T) (hr.mono (by decide)))) (blkOk_by (N := N_Outlook_first_row) (sc := defScope s_Outlook_first_row) (by decide +kernel)) (fun _ _ _ _ _ => (pg_name (i := 1) sc_Outlook_first_row.nd rfl (Or.inl rfl))) (fun _ _ _ _ _ => pts_nil) (fun _ _ _ _ _ => (pe_callTy call_tuple_of (by rfl) T.n_tuple (by decide +kernel) (pa_cons (pe_lcD (own := [("span", 2)]) rfl sc_Outlook_first_row.nd (pi_list (pv 1)) (blkOk_by (by rfl)) (fun _ _ _ _ _ => (pg_name (i := 2) sc_Outlook_first_row.nd rfl (Or.inl rfl))) (fun _ _ _ _ _ => pts_nil) (fun _ _ _ _ _ => (pe_f (pv 2)))) pa_nil)))))), ?_⟩
  obtain ⟨p, D, S, rfl, hL, ok, sok, q⟩ := h
  obtain ⟨dx, o', sd, hins⟩ := hL.ins
  refine ⟨_, rfl, p, _, dx, _, rfl, hins, T.c_Outlook, T.m_Outlook__limits, rfl, _, rfl, p, D, S, rfl, hL, ok, sok, fun l H1 hl e1 hLim => ?_⟩
  obtain ⟨ls, m1, m2, m3⟩ := hLim
  have lS : S.length = D.its.length := sok.len
  have l8 := ok.len
  refine ⟨l, rfl, ⟨_, SqL.of m1⟩, fun d hd => ?_⟩
  refine lc_it (walk_list (xs := ls.map V.ref)) (fun i H' => Ex H1 H' ∧ ∃ ts : List Addr, H' d = some (.lst (ts.map V.ref)) ∧ ts.length = i ∧ ∀ (j : Nat) (sp : List (Int × Int)), j < i → S[j]? = some sp → ∃ (t : Addr) (vs : List V), ts[j]? = some t ∧ t ≠ d ∧ H' t = some (.tup vs) ∧ vs.length = sp.length)
    ⟨Ex.new hd, [], upd_same, rfl, fun j sp hj => absurd hj (Nat.not_lt_zero _)⟩ (fun i H' _ h => SqL.of (h.1 _ _ m1)) (fun i x H2 H3 hi h yy => ?_) (fun H2 h => ?_)
  · obtain ⟨e2, ts, k1, k2, k3⟩ := h
    obtain ⟨rfl, ex2⟩ := yy
    obtain ⟨b, hb, rfl⟩ := Option.map_eq_some_iff.mp ((List.getElem?_map ..).symm.trans ex2)
    have hi2 : i < S.length := by rw [List.length_map, m2] at hi; exact hi
    obtain ⟨b', hb', as, g1, g2, g3⟩ := m3 i S[i] (List.getElem?_eq_getElem hi2)
    rw [hb] at hb'
    cases hb'
    refine ⟨rfl, _, rfl, b, rfl, ⟨_, SqL.of (e2 _ _ g1)⟩, fun d2 hd2 => ?_⟩
    have nd2 : d2 ≠ d := fun e => by rw [e, k1] at hd2; cases hd2
    refine lc_it (walk_list (xs := as.map V.ref)) (fun j H' => Ex H3 H' ∧ ∃ vs : List V, H' d2 = some (.lst vs) ∧ vs.length = j) ⟨Ex.new hd2, [], upd_same, rfl⟩ (fun j H' _ h => SqL.of (h.1 _ _ (e2 _ _ g1))) (fun j x H5 H6 hj h yy => ?_) (fun H5 h => ?_)
    · obtain ⟨e4, vs, n1, n2⟩ := h
      obtain ⟨rfl, ex3⟩ := yy
      obtain ⟨c, hc, rfl⟩ := Option.map_eq_some_iff.mp ((List.getElem?_map ..).symm.trans ex3)
      have hj2 : j < S[i].length := by rw [List.length_map, g2] at hj; exact hj
      obtain ⟨c', hc', hS⟩ := g3 j _ (List.getElem?_eq_getElem hj2)
      rw [hc] at hc'
      cases hc'
      have r4 : S[i].length ≤ 4 := by
        have := sok.row i _ _ (List.getElem?_eq_getElem (by omega : i < D.its.length)) (List.getElem?_eq_getElem hi2)
        rw [this]
        split <;> omega
      exact ⟨rfl, _, rfl, _, _, rfl, (hS.mono (e2.trans e4)).low T, _, n1, sz_lt (by omega), e4.mut hd2, _, upd_same, by simp [n2]⟩
    · obtain ⟨e4, vs, n1, n2⟩ := h
      rw [List.length_map, g2] at n2
      refine ⟨d2, _, rfl, .inl ⟨SqL.of n1, fun t ht => ?_⟩⟩
      have e5 : Ex H3 (upd H5 t (.tup vs)) := e4.trans (Ex.new ht)
      have tt : (upd H5 t (.tup vs)) t = some (.tup vs) := upd_same
      have ntd : t ≠ d := fun e => by rw [e, e4 _ _ k1] at ht; cases ht
      generalize upd H5 t (.tup vs) = H6 at e5 tt ⊢
      have d6 := e5 _ _ k1
      have mu : Mut d H6 (upd H6 d (.lst (ts.map V.ref ++ [.ref t]))) (.lst (ts.map V.ref ++ [.ref t])) := Mut.upd
      refine ⟨_, d6, sz_lt (by rw [List.length_map]; omega), (e2.trans e5).mut hd, ts ++ [t], by rw [upd_same, List.map_append]; rfl, by simp [k2], fun j sp hj hs => ?_⟩
      by_cases hji : j = i
      · subst hji
        rw [List.getElem?_eq_getElem hi2] at hs
        cases hs
        exact ⟨t, vs, by rw [List.getElem?_append_right (by omega), k2, Nat.sub_self]; rfl, ntd, mu.1 _ _ ntd tt, n2⟩
      · obtain ⟨t', vs', p1, p2, p3, p4⟩ := k3 j sp (by omega) hs
        exact ⟨t', vs', by rw [List.getElem?_append_left (by omega)]; exact p1, p2, mu.1 _ _ p2 (e5 _ _ p3), p4⟩
  · obtain ⟨e2, ts, k1, k2, k3⟩ := h
    rw [List.length_map, m2] at k2 k3
    refine q d H2 (fresh_back e1 hd) (e1.trans e2) ⟨ts, k1, by rw [k2, List.length_map], fun i n hn => ?_⟩
    obtain ⟨sp, hsp, rfl⟩ := Option.map_eq_some_iff.mp ((List.getElem?_map ..).symm.trans hn)
    obtain ⟨t, vs, g1, _, g2, g3⟩ := k3 i sp (List.getElem?_eq_some_iff.mp hsp).1 hsp
    exact ⟨t, vs, g1, g2, g3⟩
end
end BB
namespace BB
open PySem PySem.Spec PyProof.Rows L2 He Evl
section
variable {K : PySem.W.Frag} {mg : Str → Option Value} {w : World} {base : Heap} {H H' : Hp} {a : Addr} {it : ItD} {D : DyD} {S : SpD}
theorem ixN_ok {n j : Nat} (h : j < n) : ixN n (j : Int) = some j := by
  unfold ixN
  rw [if_pos (Int.natCast_nonneg j), Int.toNat_natCast, if_pos (by omega)]
def sp_with_lag (K : PySem.W.Frag) : Sp := S5 fun a b c d e H Q => ∃ (o r : Addr) (D : DyD) (i j n : Nat) (it : ItD) (lens : List Nat) (z : Str), a = .ref o ∧ b = .ref r ∧ OrderAt K H o D ∧ (D.its.map (·.nm)).Nodup ∧ D.its[i]? = some it ∧ RowAt H r lens ∧ lens.length ≤ 8 ∧ lens[i]? = some n ∧ n ≤ 4 ∧ j < n ∧ wordsL[j]? = some z ∧
  c = .str it.nm ∧ d = .str z ∧ ∀ r' H', Ex H H' → RowAt H' r' lens → Q (.ref r') H'
theorem ok_with_lag (T : TX K mg w) : FnR PP w K mg base CX0 2 (ga K "with_lag") (sp_with_lag K) := by
  refine mkS5 (bn T.f_with_lag (fun _ _ _ _ _ _ us hl => match us, hl with | [_, _, _, _, _], _ => rfl)) sc_with_lag fun cdv A outer s H a b c d e Q E hr h => ?_
  refine ⟨_, (pss_cons (ps_set (i := 5) sc_with_lag.nd rfl (Or.inl rfl) (pe_mt (pv 0) (ok_Order_number_of T) (hr.mono (by decide)) T.kp_Order_number_of (pa_cons (pv 2) pa_nil)))
      (pss_cons (ps_set (i := 6) sc_with_lag.nd rfl (Or.inl rfl) (pe_callTy call_list_of (by rfl) T.n_list (by decide +kernel) (pa_cons (pe_ix ix_list (pv 1) (pv 5) (fun _ _ => rfl)) pa_nil)))
      (pss_cons (ps_asg (pv 4) (pg_sub (pv 6) (pe_bm PySem.F.plainAttrs_tuple PySem.F.slot_tuple_index PySem.F.type_tuple_index mt_tup_index (pe_gr T.g_WORDS) (pa_cons (pv 3) pa_nil)) set_list))
      (pss_cons (ps_set (i := 7) sc_with_lag.nd rfl (Or.inl rfl) (pe_callTy call_list_of (by rfl) T.n_list (by decide +kernel) (pa_cons (pv 1) pa_nil)))
      (pss_cons (ps_asg (pe_callTy call_tuple_of (by rfl) T.n_tuple (by decide +kernel) (pa_cons (pv 6) pa_nil)) (pg_sub (pv 7) (pv 5) set_list))
      (pss_one (ps_ret (pv 7)))))))), ?_⟩
  obtain ⟨o, r, D, i, j, n, it, lens, z, rfl, rfl, hO, hn, hi, hR, l8, hln, n4, hj, hz, rfl, rfl, q⟩ := h
  have hO2 := hO
  obtain ⟨ho, tp', nd, is', ⟨do_, hins⟩, _⟩ := hO
  obtain ⟨ts, r1, r2, r3⟩ := hR
  obtain ⟨t, vs, t1, t2, t3⟩ := r3 i n hln
  refine ⟨_, rfl, _, _, _, _, rfl, hins, T.c_Order, T.m_Order_number_of, rfl, _, rfl, _, _, rfl, o, D, i, it, rfl, hO2, hn, hi, rfl, ?_⟩
  refine ⟨_, rfl, _, rfl, r, _, _, .ref t, rfl, rfl, SqL.of r1, atI_nat (by rw [List.getElem?_map, t1]; rfl), t, _, rfl, .inr (SqT.of t2), fun l hl => ?_⟩
  have e1 : Ex H (upd H l (.lst vs)) := Ex.new hl
  have l1 : (upd H l (.lst vs)) l = some (.lst vs) := upd_same
  generalize upd H l (.lst vs) = H1 at e1 l1 ⊢
  refine ⟨_, rfl, _, rfl, .inr (.inl ⟨rfl, T.wordsO⟩), _, rfl, ga K "WORDS", wordsL, z, j, rfl, rfl, T.words H1, hz, fun m hm e => ?_, ?_⟩
  · have : wordsL.Nodup := by decide +kernel
    have := nodup_ix this e hz
    omega
  refine ⟨l, _, _, j, rfl, rfl, l1, ?_, ?_⟩
  · exact ixN_ok (by omega)
  have e2 : Ex H (upd H1 l (.lst (vs.set j e))) := e1.mut hl
  have l2 : (upd H1 l (.lst (vs.set j e))) l = some (.lst (vs.set j e)) := upd_same
  generalize upd H1 l (.lst (vs.set j e)) = H2 at e2 l2 ⊢
  refine ⟨_, rfl, r, _, rfl, .inl (SqL.of (e2 _ _ r1)), fun c hc => ?_⟩
  have e3 : Ex H2 (upd H2 c (.lst (ts.map V.ref))) := Ex.new hc
  have c1 : (upd H2 c (.lst (ts.map V.ref))) c = some (.lst (ts.map V.ref)) := upd_same
  generalize upd H2 c (.lst (ts.map V.ref)) = H3 at e3 c1 ⊢
  refine ⟨_, rfl, l, _, rfl, .inl ⟨SqL.of (e3 _ _ l2), fun t' ht' => ?_⟩⟩
  have e4 : Ex H3 (upd H3 t' (.tup (vs.set j e))) := Ex.new ht'
  have c4 : (upd H3 t' (.tup (vs.set j e))) t' = some (.tup (vs.set j e)) := upd_same
  have nt : t' ≠ c := fun z => by rw [z, c1] at ht'; cases ht'
  generalize upd H3 t' (.tup (vs.set j e)) = H4 at e4 c4 ⊢
  refine ⟨_, rfl, _, rfl, c, _, _, i, rfl, rfl, e4 _ _ c1, ?_, _, rfl, ?_⟩
  · refine ixN_ok ?_
    rw [List.length_map, r2]
    exact (List.getElem?_eq_some_iff.mp hln).1
  have eH : Ex H (upd H4 c (.lst ((ts.map V.ref).set i (.ref t')))) := ((e2.trans e3).trans e4).mut (fresh_back e2 hc)
  refine q c _ eH ⟨ts.set i t', by rw [upd_same, List.map_set], by rw [List.length_set]; exact r2, fun m k hm => ?_⟩
  by_cases hmi : i = m
  · subst hmi
    rw [hln] at hm
    cases hm
    refine ⟨t', _, List.getElem?_set_self ?_, (upd_ne nt).trans c4, by rw [List.length_set]; exact t3⟩
    rw [r2]
    exact (List.getElem?_eq_some_iff.mp hln).1
  · obtain ⟨t0, vs0, g1, g2, g3⟩ := r3 m k hm
    exact ⟨t0, vs0, by rw [List.getElem?_set_ne hmi]; exact g1, eH _ _ g2, g3⟩
def sp_step_lag (K : PySem.W.Frag) : Sp := S2 fun a b H Q => ∃ (o : Addr) (D : DyD) (i : Nat) (it : ItD), a = .ref o ∧ b = .int (i : Nat) ∧ OrderAt K H o D ∧ D.its[i / 2]? = some it ∧
  (i % 2 = 0 ∨ it.pc = true → ∀ t H', Ex H H' → H' t = some (.tup [.str it.nm, .str (wordsL.getD (i % 2) "")]) → Q (.ref t) H') ∧ (¬ i % 2 = 0 → it.pc = false → Q .non H)
theorem ok_step_lag (T : TX K mg w) : FnR PP w K mg base CX0 1 (ga K "step_lag") (sp_step_lag K) := by
  refine mkS2 (bn T.f_step_lag (fun _ _ _ _ _ _ us hl => match us, hl with | [_, _], _ => rfl)) sc_step_lag fun cdv A outer s H a b Q E hr h => ?_
  refine ⟨_, (pss_cons (ps_set (i := 2) sc_step_lag.nd rfl (Or.inl rfl) (pe_ix ix_tup (pe_f (pv 0)) (pe_op op_fdivN (pv 1) pe_int) (fun _ _ => rfl)))
      (pss_cons (ps_if (pt_cmpR op_eq (pe_op op_modN (pv 1) pe_int) pe_int (nomark _)) (pss_one (ps_ret (pe_tup (pa_cons (pe_f (pv 2)) (pa_cons pe_str pa_nil)))))
        pss_nil)
      (pss_cons (ps_if (pt_val (pe_callB call_isi (by rfl) T.n_isinstance (by decide +kernel) (pa_cons (pv 2) (pa_cons (pe_gr T.g_Piece) pa_nil)))) (pss_one (ps_ret (pe_tup (pa_cons (pe_f (pv 2)) (pa_cons pe_str pa_nil)))))
        pss_nil)
      (pss_one (ps_ret pe_non))))), ?_⟩
  obtain ⟨o, D, i, it, rfl, rfl, hO, hi, q1, q2⟩ := h
  obtain ⟨tp, is, h1, h2, h3⟩ := hO.lineup T
  obtain ⟨x, hx, hI⟩ := h3.2 _ _ hi
  refine ⟨_, rfl, _, _, rfl, h1, _, rfl, _, _, rfl, rfl, cd2 _, tp, _, _, .ref x, rfl, rfl, SqT.of h2, (by rw [div2]; exact atI_nat (by rw [List.getElem?_map, hx]; rfl)), ?_⟩
  refine ⟨_, rfl, _, _, rfl, rfl, (show (2 : Int) ≠ 0 by decide), rfl, _, rfl, if2 (fun e => ?_) (fun e => ?_)⟩
  · have e : i % 2 = 0 := of_decide_eq_true (dec_even.symm.trans e)
    refine ⟨_, rfl, _, _, rfl, hI.name T, by show 2 ≤ sizeLine; decide, fun t ht => q1 (.inl e) t _ (Ex.new ht) ?_⟩
    rw [e]
    exact upd_same
  · have e : ¬ i % 2 = 0 := of_decide_eq_false (dec_even.symm.trans e)
    have e1 : i % 2 = 1 := by omega
    obtain ⟨ty, ht1, ht2⟩ := hI.isi T true
    refine ⟨_, rfl, _, _, _, _, _, rfl, .own _, ht1, ht2, _, rfl, if2 (fun eb => ?_) (fun eb => ?_)⟩
    · have eb : it.pc = true := by simpa using eb
      refine ⟨_, rfl, _, _, rfl, hI.name T, by show 2 ≤ sizeLine; decide, fun t ht => q1 (.inr eb) t _ (Ex.new ht) ?_⟩
      rw [e1]
      exact upd_same
    · have eb : it.pc = false := by simpa using eb
      exact q2 e eb
/-! ### events -/
inductive EvW where
  | begin_ | end_ | call | enter | out
def EvW.s : EvW → Str
  | .begin_ => "begin"
  | .end_ => "end"
  | .call => "call"
  | .enter => "enter"
  | .out => "out"
inductive EvD where
  | op
  | ev (w : EvW) (k : Nat)
  | pl (k : Nat) (n : Int)
def nmOf (its : List ItD) (k : Nat) : Str := match its[k]? with
  | some it => it.nm
  | none => ""
def evV (its : List ItD) : EvD → List V
  | .op => [.str "opens"]
  | .ev w k => [.str w.s, .str (nmOf its k)]
  | .pl k n => [.str "place", .str (nmOf its k), .int n]
def EvOk (its : List ItD) : EvD → Prop
  | .op => True
  | .ev w k => ∃ it, its[k]? = some it ∧ (it.pc = false → w = .begin_ ∨ w = .end_)
  | .pl k n => ∃ it, its[k]? = some it ∧ it.pc = false ∧ 0 ≤ n ∧ n < it.x
theorem nmOf_eq {its : List ItD} {k : Nat} (h : its[k]? = some it) : nmOf its k = it.nm := by
  unfold nmOf
  rw [h]
def sp_has_event (K : PySem.W.Frag) : Sp := S2 fun a b H Q => ∃ (o t : Addr) (D : DyD) (e : EvD), a = .ref o ∧ b = .ref t ∧ OrderAt K H o D ∧ ItsOk D.its ∧ EvOk D.its e ∧ H t = some (.tup (evV D.its e)) ∧ ∀ H', Ex H H' → Q (.bl true) H'
theorem ok_has_event (T : TX K mg w) : FnR PP w K mg base CX0 4 (ga K "has_event") (sp_has_event K) := by
  refine mkS2 (bn T.f_has_event (fun _ _ _ _ _ _ us hl => match us, hl with | [_, _], _ => rfl)) sc_has_event fun cdv A outer s H a b Q E hr h => ?_
  refine ⟨_, (pss_cons (ps_if (pt_cmpR op_eq (pe_callB call_len_seq (by rfl) T.n_len (by decide +kernel) (pa_cons (pv 1) pa_nil)) pe_int (nomark _)) (pss_one (ps_ret (pe_cmpR op_eq (pe_ix ix_tup (pv 1) pe_int (fun _ _ => rfl)) pe_str (nomark _))))
        pss_nil)
      (pss_cons (ps_par (i := 2) (j := 3) (by rfl) sc_has_event.nd rfl rfl (by decide) rfl rfl (pa_cons (pe_ix ix_tup (pv 1) pe_int (fun _ _ => rfl)) (pa_cons (pe_ix ix_tup (pv 1) pe_int (fun _ _ => rfl)) pa_nil)) (by rfl))
      (pss_cons (ps_if (pt_cmpR (op_notInO T.d_Order_contains.at_ T.d_Order_contains.fn (ok_Order_contains T) (hr.mono (by decide))) (pv 3) (pv 0) (by with_unfolding_all rfl)) (pss_one (ps_ret pe_bl))
        pss_nil)
      (pss_cons (ps_set (i := 4) sc_has_event.nd rfl (Or.inl rfl) (ix_own T.d_Order_getitem.at_ T.d_Order_getitem.fn T.d_Order_getitem.fi (ok_Order_getitem T) (hr.mono (by decide)) (pv 0) (pv 3)))
      (pss_cons (ps_if (pt_cmpR op_eq (pe_callB call_len_seq (by rfl) T.n_len (by decide +kernel) (pa_cons (pv 1) pa_nil)) pe_int (nomark _)) (pss_one (ps_ret (pe_and (pe_cmpR op_eq (pv 2) pe_str (nomark _)) (pe_and (pe_callB call_isi (by rfl) T.n_isinstance (by decide +kernel) (pa_cons (pv 4) (pa_cons (pe_gr T.g_Break) pa_nil))) (pe_one (pe_chain op_le op_lt pe_int (pe_ix ix_tup (pv 1) pe_int (fun _ _ => rfl)) (pe_f (pv 4))))))))
        pss_nil)
      (pss_cons (ps_if (pt_val (pe_callB call_isi (by rfl) T.n_isinstance (by decide +kernel) (pa_cons (pv 4) (pa_cons (pe_gr T.g_Piece) pa_nil)))) (pss_one (ps_ret (pe_cmpR op_in_seq (pv 2) (pe_tup (pa_cons pe_str (pa_cons pe_str (pa_cons pe_str (pa_cons pe_str (pa_cons pe_str pa_nil)))))) (by with_unfolding_all rfl))))
        pss_nil)
      (pss_one (ps_ret (pe_cmpR op_in_seq (pv 2) (pe_tup (pa_cons pe_str (pa_cons pe_str pa_nil))) (by with_unfolding_all rfl)))))))))), ?_⟩
  obtain ⟨o, t, D, e, rfl, rfl, hO, ok, hE, ht, q⟩ := h
  have hO2 := hO
  obtain ⟨ho, tp', nd, is', ⟨do_, hins⟩, _⟩ := hO
  cases e with
  | op =>
    refine ⟨_, rfl, t, _, rfl, .inr (SqT.of ht), rfl, _, rfl, ifT rfl ?_⟩
    exact ⟨_, rfl, t, _, _, .str "opens", rfl, rfl, SqT.of ht, rfl, rfl, q _ (Ex.refl H)⟩
  | ev w k =>
    obtain ⟨it, hk, hw⟩ := hE
    have hnm := nmOf_eq hk
    refine ⟨_, rfl, t, _, rfl, .inr (SqT.of ht), rfl, _, rfl, ifF rfl ?_⟩
    refine ⟨_, rfl, t, _, _, .str w.s, rfl, rfl, SqT.of ht, rfl, _, rfl, t, _, _, .str (nmOf D.its k), rfl, rfl, SqT.of ht, rfl, ?_⟩
    rw [hnm]
    refine ⟨_, _, rfl, _, rfl, _, rfl, o, _, _, rfl, hins, _, _, rfl, o, D, k, it, rfl, hO2, ok.nd, hk, rfl, _, rfl, _, rfl, ifF rfl ?_⟩
    refine ⟨_, rfl, _, rfl, o, _, _, rfl, hins, _, _, rfl, o, D, k, it, rfl, hO2, ok.nd, hk, rfl, fun x hI => ?_⟩
    refine ⟨_, rfl, t, _, rfl, .inr (SqT.of ht), rfl, _, rfl, ifF rfl ?_⟩
    obtain ⟨ty, ht1, ht2⟩ := hI.isi T true
    refine ⟨_, rfl, _, _, _, _, _, rfl, .own _, ht1, ht2, _, rfl, if2 (fun eb => ?_) (fun eb => ?_)⟩
    · refine ⟨_, rfl, by show 5 ≤ sizeLine; decide, fun u hu => ⟨u, _, rfl, .inr (SqT.of upd_same), rfl, rfl, ?_⟩⟩
      cases w <;> exact q _ (Ex.new hu)
    · have eb : it.pc = false := by simpa using eb
      refine ⟨_, rfl, by show 2 ≤ sizeLine; decide, fun u hu => ⟨u, _, rfl, .inr (SqT.of upd_same), rfl, rfl, ?_⟩⟩
      rcases hw eb with rfl | rfl <;> exact q _ (Ex.new hu)
  | pl k n =>
    obtain ⟨it, hk, hp, h0, h1⟩ := hE
    have hnm := nmOf_eq hk
    refine ⟨_, rfl, t, _, rfl, .inr (SqT.of ht), rfl, _, rfl, ifF rfl ?_⟩
    refine ⟨_, rfl, t, _, _, .str "place", rfl, rfl, SqT.of ht, rfl, _, rfl, t, _, _, .str (nmOf D.its k), rfl, rfl, SqT.of ht, rfl, ?_⟩
    rw [hnm]
    refine ⟨_, _, rfl, _, rfl, _, rfl, o, _, _, rfl, hins, _, _, rfl, o, D, k, it, rfl, hO2, ok.nd, hk, rfl, _, rfl, _, rfl, ifF rfl ?_⟩
    refine ⟨_, rfl, _, rfl, o, _, _, rfl, hins, _, _, rfl, o, D, k, it, rfl, hO2, ok.nd, hk, rfl, fun x hI => ?_⟩
    refine ⟨_, rfl, t, _, rfl, .inr (SqT.of ht), rfl, _, rfl, ifT rfl ?_⟩
    obtain ⟨ty, ht1, ht2⟩ := hI.isi T false
    rw [hp] at ht2
    refine ⟨_, rfl, rfl, _, rfl, ifT (decide_eq_true rfl) ⟨_, rfl, _, _, _, _, _, rfl, .own _, ht1, ht2, true, rfl, ?_⟩⟩
    refine ⟨_, rfl, t, _, _, .int n, rfl, rfl, SqT.of ht, rfl, _, _, rfl, rfl, _, rfl, ifT (decide_eq_true h0) ⟨_, rfl, _, _, rfl, hI.places T hp, _, _, rfl, rfl, ?_⟩⟩
    have e : decide (n < it.x) = true := decide_eq_true h1
    have q1 := q H (Ex.refl H)
    rw [← e] at q1
    exact q1
/-- an event's point -/
def ptOf (D : DyD) : EvD → Int
  | .op => 0
  | .ev w k => match w with
    | .begin_ => 2 * (k : Int) + 1
    | .end_ | .out => 2 * (k : Int) + 2
    | .call | .enter => callPt D k
  | .pl k _ => 2 * (k : Int) + 1
def sp_point_of (K : PySem.W.Frag) : Sp := S2 fun a b H Q => ∃ (o t : Addr) (D : DyD) (e : EvD), a = .ref o ∧ b = .ref t ∧ OrderAt K H o D ∧ ItsOk D.its ∧ EvOk D.its e ∧ H t = some (.tup (evV D.its e)) ∧ ∀ H', Ex H H' → Q (.int (ptOf D e)) H'
theorem ok_point_of (T : TX K mg w) : FnR PP w K mg base CX0 5 (ga K "point_of") (sp_point_of K) := by
  refine mkS2 (bn T.f_point_of (fun _ _ _ _ _ _ us hl => match us, hl with | [_, _], _ => rfl)) sc_point_of fun cdv A outer s H a b Q E hr h => ?_
  refine ⟨_, (pss_cons (ps_if (pt_not (pt_val (pe_fn (ok_has_event T) (hr.mono (by decide)) T.kp_has_event T.g_has_event (pa_cons (pv 0) (pa_cons (pv 1) pa_nil))))) (pss_one ps_never)
        pss_nil)
      (pss_cons (ps_set (i := 2) sc_point_of.nd rfl (Or.inl rfl) (pe_ix ix_tup (pv 1) pe_int (fun _ _ => rfl)))
      (pss_cons (ps_if (pt_cmpR op_eq (pv 2) pe_str (nomark _)) (pss_one (ps_ret pe_int))
        pss_nil)
      (pss_cons (ps_if (pt_cmpR op_in_seq (pv 2) (pe_tup (pa_cons pe_str (pa_cons pe_str pa_nil))) (by with_unfolding_all rfl)) (pss_one (ps_ret (pe_mt (pv 0) (ok_Order_call_of T) (hr.mono (by decide)) T.kp_Order_call_of (pa_cons (pe_ix ix_tup (pv 1) pe_int (fun _ _ => rfl)) pa_nil))))
        pss_nil)
      (pss_cons (ps_if (pt_cmpR op_in_seq (pv 2) (pe_tup (pa_cons pe_str (pa_cons pe_str pa_nil))) (by with_unfolding_all rfl)) (pss_one (ps_ret (pe_mt (pv 0) (ok_Order_end_of T) (hr.mono (by decide)) T.kp_Order_end_of (pa_cons (pe_ix ix_tup (pv 1) pe_int (fun _ _ => rfl)) pa_nil))))
        pss_nil)
      (pss_one (ps_ret (pe_mt (pv 0) (ok_Order_begin_of T) (hr.mono (by decide)) T.kp_Order_begin_of (pa_cons (pe_ix ix_tup (pv 1) pe_int (fun _ _ => rfl)) pa_nil))))))))), ?_⟩
  obtain ⟨o, t, D, e, rfl, rfl, hO, ok, hE, ht, q⟩ := h
  refine ⟨_, rfl, _, rfl, _, _, rfl, o, t, D, e, rfl, rfl, hO, ok, hE, ht, fun H1 e1 => ⟨_, rfl, ?_⟩⟩
  have ht := e1 _ _ ht
  have hO := hO.mono e1
  have hO2 := hO
  obtain ⟨ho, tp', nd, is', ⟨do_, hins⟩, _⟩ := hO
  cases e with
  | op => exact ⟨_, rfl, t, _, _, .str "opens", rfl, rfl, SqT.of ht, rfl, _, rfl, rfl, _, rfl, ifT rfl (q _ e1)⟩
  | pl k n =>
    obtain ⟨it, hk, hp, h0, h1⟩ := hE
    have hnm := nmOf_eq hk
    have ht : H1 t = some (.tup [.str "place", .str it.nm, .int n]) := by rw [← hnm]; exact ht
    refine ⟨_, rfl, t, _, _, .str "place", rfl, rfl, SqT.of ht, rfl, _, rfl, rfl, _, rfl, ifF rfl ?_⟩
    refine ⟨_, rfl, by show 2 ≤ sizeLine; decide, fun u hu => ⟨u, _, rfl, .inr (SqT.of upd_same), rfl, rfl, _, rfl, ifF rfl ?_⟩⟩
    refine ⟨_, rfl, by show 2 ≤ sizeLine; decide, fun u2 hu2 => ⟨u2, _, rfl, .inr (SqT.of upd_same), rfl, rfl, _, rfl, ifF rfl ?_⟩⟩
    have e2 := (Ex.new (o := .tup [.str "call", .str "enter"]) hu).trans (Ex.new (o := .tup [.str "end", .str "out"]) hu2)
    exact ⟨_, rfl, o, _, _, _, rfl, e2 _ _ hins, T.c_Order, T.m_Order_begin_of, rfl, _, rfl, t, _, _, .str it.nm, rfl, rfl, SqT.of (e2 _ _ ht), rfl, _, _, rfl, o, D, k, it, rfl, hO2.mono e2, ok.nd, hk, rfl, q _ (e1.trans e2)⟩
  | ev w k =>
    obtain ⟨it, hk, hw⟩ := hE
    have hnm := nmOf_eq hk
    have ht : H1 t = some (.tup [.str w.s, .str it.nm]) := by rw [← hnm]; exact ht
    refine ⟨_, rfl, t, _, _, .str w.s, rfl, rfl, SqT.of ht, rfl, _, rfl, rfl, _, rfl, ifF (by cases w <;> rfl) ?_⟩
    refine ⟨_, rfl, by show 2 ≤ sizeLine; decide, fun u hu => ⟨u, _, rfl, .inr (SqT.of upd_same), rfl, rfl, _, rfl, if2 (fun eb => ?_) (fun eb => ?_)⟩⟩
    · have e2 := Ex.new (o := .tup [.str "call", .str "enter"]) hu
      have hc : (w = .call ∨ w = .enter) := by cases w <;> first | exact .inl rfl | exact .inr rfl | exact absurd (show false = true from eb) (by decide)
      have hp : it.pc = true := by
        cases hp : it.pc with
        | true => rfl
        | false => rcases hw hp with rfl | rfl <;> rcases hc with h | h <;> cases h
      have ep : ptOf D (.ev w k) = callPt D k := by rcases hc with rfl | rfl <;> rfl
      rw [ep] at q
      exact ⟨_, rfl, o, _, _, _, rfl, e2 _ _ hins, T.c_Order, T.m_Order_call_of, rfl, _, rfl, t, _, _, .str it.nm, rfl, rfl, SqT.of (e2 _ _ ht), rfl, _, _, rfl, o, D, k, it, rfl, hO2.mono e2, ok.nd, hk, hp, rfl, q _ (e1.trans e2)⟩
    · refine ⟨_, rfl, by show 2 ≤ sizeLine; decide, fun u2 hu2 => ⟨u2, _, rfl, .inr (SqT.of upd_same), rfl, rfl, _, rfl, if2 (fun eb2 => ?_) (fun eb2 => ?_)⟩⟩
      · have e2 := (Ex.new (o := .tup [.str "call", .str "enter"]) hu).trans (Ex.new (o := .tup [.str "end", .str "out"]) hu2)
        have hc : (w = .end_ ∨ w = .out) := by cases w <;> first | exact .inl rfl | exact .inr rfl | exact absurd (show false = true from eb2) (by decide)
        have ep : ptOf D (.ev w k) = 2 * (k : Int) + 2 := by rcases hc with rfl | rfl <;> rfl
        rw [ep] at q
        exact ⟨_, rfl, o, _, _, _, rfl, e2 _ _ hins, T.c_Order, T.m_Order_end_of, rfl, _, rfl, t, _, _, .str it.nm, rfl, rfl, SqT.of (e2 _ _ ht), rfl, _, _, rfl, o, D, k, it, rfl, hO2.mono e2, ok.nd, hk, rfl, q _ (e1.trans e2)⟩
      · have e2 := (Ex.new (o := .tup [.str "call", .str "enter"]) hu).trans (Ex.new (o := .tup [.str "end", .str "out"]) hu2)
        have hc : w = .begin_ := by cases w <;> first | rfl | exact absurd (show true = false from eb) (by decide) | exact absurd (show true = false from eb2) (by decide)
        subst hc
        exact ⟨_, rfl, o, _, _, _, rfl, e2 _ _ hins, T.c_Order, T.m_Order_begin_of, rfl, _, rfl, t, _, _, .str it.nm, rfl, rfl, SqT.of (e2 _ _ ht), rfl, _, _, rfl, o, D, k, it, rfl, hO2.mono e2, ok.nd, hk, rfl, q _ (e1.trans e2)⟩
end
end BB
namespace BB
open PySem PySem.Spec PyProof.Rows L2 He Evl
section
variable {X : Cx} {o i : Expr} {td ty : TE} {pos : Pos} {d : Addr} {es : Array DictEntry} {n : Nat}
theorem pe_kd (DK : KDict X.K X.w d es n) (ho : PE X o td) (hi : PE X i ty) (hs : NoSl i) :
    PE X (.Subscript o i pos) (tOp (fun x y H Q => ∃ (z : Str) (u0 : Value) (v0 : V), x = .ref d ∧ y = .str z ∧ PySem.W.nsIn X.K d z = some (some u0) ∧ RelV v0 u0 ∧ Q v0 H) td ty) := by
  refine ⟨fun pins s σ H Q I h => ?_⟩
  refine subD_of PySem.F.slot_dict_getitem.lookup hs (thn (ho.run pins s σ H _ I h) fun u s1 ⟨x, H1, I1, rx, q1⟩ => thn (hi.run pins s1 σ H1 _ I1 q1) fun iv s2 ⟨y, H2, I2, ry, z, u0, v0, ex, ey, g, r, q2⟩ => ?_)
  subst ex
  obtain rfl : u = Value.ref d := rx
  exact ⟨kd_type DK I2, op_item_kd DK pins s2 σ H2 (.ref d) y _ _ _ I2 (show RelV (.ref d) (.ref d) from rfl) ry ⟨z, u0, v0, rfl, ey, g, r, q2⟩⟩
end
section
variable {K : PySem.W.Frag} {mg : Str → Option Value} {w : World} {base : Heap} {H H' : Hp} {a : Addr} {it : ItD} {D : DyD} {S : SpD}
/-- an event's own lag: its least and greatest ticks -/
def evSp (its : List ItD) (S : SpD) : EvD → Int × Int
  | .op => (0, 0)
  | .ev w k => match w with
    | .enter => (S.getD k []).getD 2 (0, 0)
    | .out => (S.getD k []).getD 3 (0, 0)
    | _ => (0, 0)
  | .pl k n => match its[k]? with
    | some it => (n * it.y, n * it.y)
    | none => (0, 0)
def HangAt (K : PySem.W.Frag) (H : Hp) (h ol : Addr) (D : DyD) (S : SpD) (e : EvD) : Prop := ∃ t : Addr, Ins K H h "Hang" [("outlook", .ref ol), ("event", .ref t), ("point", .int (ptOf D e)), ("least", .int (evSp D.its S e).1), ("greatest", .int (evSp D.its S e).2)] ∧ H t = some (.tup (evV D.its e))
theorem HangAt.mono {h ol : Addr} {e : EvD} (x : HangAt K H h ol D S e) (e1 : Ex H H') : HangAt K H' h ol D S e := by
  obtain ⟨t, h1, h2⟩ := x
  exact ⟨t, h1.mono e1, e1 _ _ h2⟩
theorem HangAt.point {h ol : Addr} {e : EvD} (x : HangAt K H h ol D S e) (T : TX K mg w) : Fd K H h "point" (.int (ptOf D e)) := by
  obtain ⟨t, h1, h2⟩ := x
  exact h1.fd T.c_Hang T.a_Hang_point rfl
theorem HangAt.least {h ol : Addr} {e : EvD} (x : HangAt K H h ol D S e) (T : TX K mg w) : Fd K H h "least" (.int (evSp D.its S e).1) := by
  obtain ⟨t, h1, h2⟩ := x
  exact h1.fd T.c_Hang T.a_Hang_least rfl
theorem HangAt.greatest {h ol : Addr} {e : EvD} (x : HangAt K H h ol D S e) (T : TX K mg w) : Fd K H h "greatest" (.int (evSp D.its S e).2) := by
  obtain ⟨t, h1, h2⟩ := x
  exact h1.fd T.c_Hang T.a_Hang_greatest rfl
def sp_Hang_init (K : PySem.W.Frag) : Sp := S3 fun a b c H Q => ∃ (y dx ol t : Addr) (D : DyD) (S : SpD) (B : Hp) (e : EvD), a = .ref y ∧ H y = some (.ins (ga K "Hang") dx []) ∧ b = .ref ol ∧ c = .ref t ∧ Off y B H ∧ OutlookAt K B ol D S ∧ B t = some (.tup (evV D.its e)) ∧ ItsOk D.its ∧ SOk D.its S ∧ EvOk D.its e ∧
  ∀ H', Mut y H H' (.ins (ga K "Hang") dx [("outlook", .ref ol), ("event", .ref t), ("point", .int (ptOf D e)), ("least", .int (evSp D.its S e).1), ("greatest", .int (evSp D.its S e).2)]) → Q .non H'
theorem ok_Hang_init (T : TX K mg w) : FnR PP w K mg base CX0 6 (ma K (ga K "Hang") "__init__") (sp_Hang_init K) := by
  obtain ⟨es_, n_, DK⟩ := T.tab
  refine mkS3 (bn T.f_Hang_init (fun _ _ _ _ _ _ us hl => match us, hl with | [_, _, _], _ => rfl)) sc_Hang_init fun cdv A outer s H a b c Q E hr h => ?_
  refine ⟨_, (pss_cons (ps_fld (pv 0) (pv 1) rfl)
      (pss_cons (ps_fld (pv 0) (pv 2) rfl)
      (pss_cons (ps_fld (pv 0) (pe_fn (ok_point_of T) (hr.mono (by decide)) T.kp_point_of T.g_point_of (pa_cons (pe_f (pv 1)) (pa_cons (pv 2) pa_nil))) rfl)
      (pss_cons (ps_fld (pv 0) pe_int rfl)
      (pss_cons (ps_fld (pv 0) pe_int rfl)
      (pss_one (ps_if (pt_cmpR (op_in_kd DK) (pe_ix ix_tup (pv 2) pe_int (fun _ _ => rfl)) (pe_gr T.g_OWN_LAGS) (by with_unfolding_all rfl)) (pss_cons (ps_set (i := 3) sc_Hang_init.nd rfl (Or.inl rfl) (pe_mt (pv 1) (ok_Outlook_span_of T) (hr.mono (by decide)) T.kp_Outlook_span_of (pa_cons (pe_ix ix_tup (pv 2) pe_int (fun _ _ => rfl)) (pa_cons (pe_kd DK (pe_gr T.g_OWN_LAGS) (pe_ix ix_tup (pv 2) pe_int (fun _ _ => rfl)) (fun _ _ => rfl)) pa_nil))))
      (pss_cons (ps_fld (pv 0) (pe_f (pv 3)) rfl)
      (pss_one (ps_fld (pv 0) (pe_f (pv 3)) rfl))))
        (pss_one (ps_if (pt_cmpR op_eq (pe_ix ix_tup (pv 2) pe_int (fun _ _ => rfl)) pe_str (nomark _)) (pss_cons (ps_fld (pv 0) (pe_op op_mul (pe_ix ix_tup (pv 2) pe_int (fun _ _ => rfl)) (pe_f (ix_own T.d_Order_getitem.at_ T.d_Order_getitem.fn T.d_Order_getitem.fi (ok_Order_getitem T) (hr.mono (by decide)) (pe_f (pv 1)) (pe_ix ix_tup (pv 2) pe_int (fun _ _ => rfl))))) rfl)
      (pss_one (ps_fld (pv 0) (pe_f (pv 0)) rfl)))
        pss_nil))))))))), ?_⟩
  obtain ⟨y, dx, ol, t, D, S, B, e, rfl, hy, rfl, rfl, hB, hL, ht, ok, sok, hE, q⟩ := h
  refine ⟨_, rfl, _, rfl, y, _, dx, _, rfl, hy, T.c_Hang, T.a_Hang_outlook, ltK rfl, ?_⟩
  refine ⟨_, rfl, _, rfl, y, _, dx, _, rfl, upd_same, T.c_Hang, T.a_Hang_event, ltK rfl, ?_⟩
  have m1 : Mut y H (upd (upd H y (.ins (ga K "Hang") dx (putF "outlook" (.ref ol) []))) y (.ins (ga K "Hang") dx (putF "event" (.ref t) (putF "outlook" (.ref ol) [])))) (.ins (ga K "Hang") dx [("outlook", .ref ol), ("event", .ref t)]) := Mut.upd.then_upd
  generalize upd (upd H y (.ins (ga K "Hang") dx (putF "outlook" (.ref ol) []))) y (.ins (ga K "Hang") dx (putF "event" (.ref t) (putF "outlook" (.ref ol) []))) = H1 at m1 ⊢
  have e1 := hB.ex m1
  obtain ⟨o, ho1, ho2⟩ := (hL.mono e1).order T
  refine ⟨_, rfl, _, _, rfl, ho1, _, rfl, _, _, rfl, o, t, D, e, rfl, rfl, ho2, ok, hE, e1 _ _ ht, fun H2 e2 => ?_⟩
  have m2 := m1.exr e2
  refine ⟨_, rfl, y, _, dx, _, rfl, m2.2, T.c_Hang, T.a_Hang_point, ltK rfl, ?_⟩
  refine ⟨_, rfl, y, _, dx, _, rfl, upd_same, T.c_Hang, T.a_Hang_least, ltK rfl, ?_⟩
  refine ⟨_, rfl, y, _, dx, _, rfl, upd_same, T.c_Hang, T.a_Hang_greatest, ltK rfl, ?_⟩
  have m3 : Mut y H (upd (upd (upd H2 y (.ins (ga K "Hang") dx (putF "point" (.int (ptOf D e)) [("outlook", .ref ol), ("event", .ref t)]))) y (.ins (ga K "Hang") dx (putF "least" (.int 0) (putF "point" (.int (ptOf D e)) [("outlook", .ref ol), ("event", .ref t)]))))
      y (.ins (ga K "Hang") dx (putF "greatest" (.int 0) (putF "least" (.int 0) (putF "point" (.int (ptOf D e)) [("outlook", .ref ol), ("event", .ref t)])))))
    (.ins (ga K "Hang") dx [("outlook", .ref ol), ("event", .ref t), ("point", .int (ptOf D e)), ("least", .int 0), ("greatest", .int 0)]) := m2.then_upd.then_upd.then_upd
  generalize upd (upd (upd H2 y (.ins (ga K "Hang") dx (putF "point" (.int (ptOf D e)) [("outlook", .ref ol), ("event", .ref t)]))) y (.ins (ga K "Hang") dx (putF "least" (.int 0) (putF "point" (.int (ptOf D e)) [("outlook", .ref ol), ("event", .ref t)]))))
      y (.ins (ga K "Hang") dx (putF "greatest" (.int 0) (putF "least" (.int 0) (putF "point" (.int (ptOf D e)) [("outlook", .ref ol), ("event", .ref t)])))) = H3 at m3 ⊢
  have e3 := hB.ex m3
  have ht3 := e3 _ _ ht
  have hL3 := hL.mono e3
  obtain ⟨dxo, oo, sd, hins⟩ := hL3.ins
  obtain ⟨⟨u1, own1, own1r⟩, ⟨u2, own2, own2r⟩⟩ := T.own_lags
  cases e with
  | op =>
    refine ⟨_, rfl, t, _, _, .str "opens", rfl, rfl, SqT.of ht3, rfl, _, _, rfl, rfl, T.own_no_opens, _, rfl, ifF rfl ?_⟩
    refine ⟨_, rfl, t, _, _, .str "opens", rfl, rfl, SqT.of ht3, rfl, rfl, _, rfl, ifF rfl ?_⟩
    exact q _ m3
  | pl k n =>
    obtain ⟨it, hk, hp, h0, h1⟩ := hE
    have hnm := nmOf_eq hk
    have ht4 : H3 t = some (.tup [.str "place", .str it.nm, .int n]) := by rw [← hnm]; exact ht3
    refine ⟨_, rfl, t, _, _, .str "place", rfl, rfl, SqT.of ht4, rfl, _, _, rfl, rfl, T.own_no_place, _, rfl, ifF rfl ?_⟩
    refine ⟨_, rfl, t, _, _, .str "place", rfl, rfl, SqT.of ht4, rfl, rfl, _, rfl, ifT rfl ?_⟩
    obtain ⟨o3, ho3, hO3⟩ := hL3.order T
    have hO4 := hO3
    obtain ⟨hox, tpx, ndx, isx, ⟨dx3, hins3⟩, _⟩ := hO3
    obtain ⟨b1, b2, b3, b4, b5⟩ := (ok.ok _ (List.mem_of_getElem? hk)).br hp
    refine ⟨_, rfl, t, _, _, .int n, rfl, rfl, SqT.of ht4, rfl, _, rfl, _, _, rfl, ho3, _, rfl, t, _, _, .str it.nm, rfl, rfl, SqT.of ht4, rfl, o3, _, _, rfl, hins3, _, _, rfl, o3, D, k, it, rfl, hO4, ok.nd, hk, rfl, fun x hI => ?_⟩
    refine ⟨_, _, rfl, hI.unit T hp, _, _, rfl, rfl, .inl (by constructor <;> omega), _, rfl, y, _, dx, _, rfl, m3.2, T.c_Hang, T.a_Hang_least, ltK rfl, ?_⟩
    refine ⟨_, rfl, _, _, rfl, ⟨_, _, _, upd_same, T.c_Hang, T.a_Hang_least, rfl⟩, _, rfl, y, _, dx, _, rfl, upd_same, T.c_Hang, T.a_Hang_greatest, ltK rfl, ?_⟩
    have ee : evSp D.its S (.pl k n) = (n * it.y, n * it.y) := by
      show (match D.its[k]? with | some it => (n * it.y, n * it.y) | none => (0, 0)) = _
      rw [hk]
    rw [ee] at q
    exact q _ m3.then_upd.then_upd
  | ev wd k =>
    obtain ⟨it, hk, hw⟩ := hE
    have hnm := nmOf_eq hk
    have ht4 : H3 t = some (.tup [.str wd.s, .str it.nm]) := by rw [← hnm]; exact ht3
    have own : ∀ (j : Nat) (z : Str) (u : Value), wordsL[j]? = some z → it.pc = true → PySem.W.nsIn K (ga K "OWN_LAGS") wd.s = some (some u) → RelV (.str z) u → j < 4 → ∃ sp q0, S[k]? = some sp ∧ sp[j]? = some q0 := fun j z u _ hp _ _ hj => by
      have hlt : k < S.length := by rw [sok.len]; exact (List.getElem?_eq_some_iff.mp hk).1
      have hr := sok.row k it _ hk (List.getElem?_eq_getElem hlt)
      rw [hp] at hr
      exact ⟨_, S[k][j]'(by rw [hr]; exact hj), List.getElem?_eq_getElem hlt, List.getElem?_eq_getElem _⟩
    cases wd with
    | begin_ =>
      refine ⟨_, rfl, t, _, _, .str "begin", rfl, rfl, SqT.of ht4, rfl, _, _, rfl, rfl, T.own_no_begin, _, rfl, ifF rfl ?_⟩
      exact ⟨_, rfl, t, _, _, .str "begin", rfl, rfl, SqT.of ht4, rfl, rfl, _, rfl, ifF rfl (q _ m3)⟩
    | end_ =>
      refine ⟨_, rfl, t, _, _, .str "end", rfl, rfl, SqT.of ht4, rfl, _, _, rfl, rfl, T.own_no_end, _, rfl, ifF rfl ?_⟩
      exact ⟨_, rfl, t, _, _, .str "end", rfl, rfl, SqT.of ht4, rfl, rfl, _, rfl, ifF rfl (q _ m3)⟩
    | call =>
      refine ⟨_, rfl, t, _, _, .str "call", rfl, rfl, SqT.of ht4, rfl, _, _, rfl, rfl, T.own_no_call, _, rfl, ifF rfl ?_⟩
      exact ⟨_, rfl, t, _, _, .str "call", rfl, rfl, SqT.of ht4, rfl, rfl, _, rfl, ifF rfl (q _ m3)⟩
    | enter =>
      have hp : it.pc = true := by
        cases hp : it.pc with
        | true => rfl
        | false => rcases hw hp with h | h <;> cases h
      obtain ⟨sp, q0, hs, hq⟩ := own 2 "walk" u1 rfl hp own1 own1r (by decide)
      have ee : evSp D.its S (.ev .enter k) = q0 := by
        show (S.getD k []).getD 2 (0, 0) = q0
        rw [List.getD_eq_getElem?_getD, List.getD_eq_getElem?_getD, hs]
        show sp[2]?.getD (0, 0) = q0
        rw [hq]
        rfl
      rw [ee] at q
      refine ⟨_, rfl, t, _, _, .str "enter", rfl, rfl, SqT.of ht4, rfl, _, _, rfl, rfl, own1, _, rfl, ifT rfl ?_⟩
      refine ⟨_, rfl, ol, _, dxo, _, rfl, hins, T.c_Outlook, T.m_Outlook_span_of, rfl, _, rfl, t, _, _, .str it.nm, rfl, rfl, SqT.of ht4, rfl, _, rfl, t, _, _, .str "enter", rfl, rfl, SqT.of ht4, rfl, _, u1, .str "walk", rfl, rfl, own1, own1r, _, _, _, rfl, ol, D, S, k, 2, it, sp, q0, "walk", rfl, hL3, ok.nd, hk, hs, hq, rfl, rfl, rfl, fun s0 hs0 => ?_⟩
      refine ⟨_, rfl, _, _, rfl, hs0.low T, _, rfl, y, _, dx, _, rfl, m3.2, T.c_Hang, T.a_Hang_least, ltK rfl, ?_⟩
      exact ⟨_, rfl, _, _, rfl, (hs0.mutY m3.2 (show 5 ≠ 2 by decide) Mut.upd).high T, _, rfl, y, _, dx, _, rfl, upd_same, T.c_Hang, T.a_Hang_greatest, ltK rfl, q _ m3.then_upd.then_upd⟩
    | out =>
      have hp : it.pc = true := by
        cases hp : it.pc with
        | true => rfl
        | false => rcases hw hp with h | h <;> cases h
      obtain ⟨sp, q0, hs, hq⟩ := own 3 "pack" u2 rfl hp own2 own2r (by decide)
      have ee : evSp D.its S (.ev .out k) = q0 := by
        show (S.getD k []).getD 3 (0, 0) = q0
        rw [List.getD_eq_getElem?_getD, List.getD_eq_getElem?_getD, hs]
        show sp[3]?.getD (0, 0) = q0
        rw [hq]
        rfl
      rw [ee] at q
      refine ⟨_, rfl, t, _, _, .str "out", rfl, rfl, SqT.of ht4, rfl, _, _, rfl, rfl, own2, _, rfl, ifT rfl ?_⟩
      refine ⟨_, rfl, ol, _, dxo, _, rfl, hins, T.c_Outlook, T.m_Outlook_span_of, rfl, _, rfl, t, _, _, .str it.nm, rfl, rfl, SqT.of ht4, rfl, _, rfl, t, _, _, .str "out", rfl, rfl, SqT.of ht4, rfl, _, u2, .str "pack", rfl, rfl, own2, own2r, _, _, _, rfl, ol, D, S, k, 3, it, sp, q0, "pack", rfl, hL3, ok.nd, hk, hs, hq, rfl, rfl, rfl, fun s0 hs0 => ?_⟩
      refine ⟨_, rfl, _, _, rfl, hs0.low T, _, rfl, y, _, dx, _, rfl, m3.2, T.c_Hang, T.a_Hang_least, ltK rfl, ?_⟩
      exact ⟨_, rfl, _, _, rfl, (hs0.mutY m3.2 (show 5 ≠ 2 by decide) Mut.upd).high T, _, rfl, y, _, dx, _, rfl, upd_same, T.c_Hang, T.a_Hang_greatest, ltK rfl, q _ m3.then_upd.then_upd⟩
def spm_Hang (K : PySem.W.Frag) : Sp := S2 fun b c H Q => ∃ (ol t : Addr) (D : DyD) (S : SpD) (e : EvD), b = .ref ol ∧ c = .ref t ∧ OutlookAt K H ol D S ∧ H t = some (.tup (evV D.its e)) ∧ ItsOk D.its ∧ SOk D.its S ∧ EvOk D.its e ∧ ∀ p H', H p = none → Ex H H' → HangAt K H' p ol D S e → Q (.ref p) H'
theorem ct_Hang (T : TX K mg w) : Ctor PP w K mg base 6 "Hang" (ga K "Hang") (spm_Hang K) := by
  refine ⟨_, _, T.k_Hang, T.g_Hang, ok_Hang_init T, fun vs H Q h y dx hy hd ne => ?_⟩
  obtain ⟨b, c, rfl, ol, t, D, S, e, rfl, rfl, hL, ht, ok, sok, hE, q⟩ := h
  refine ⟨_, _, _, rfl, y, dx, ol, t, D, S, H, e, rfl, upd_same, rfl, rfl, Off.new hy hd, hL, ht, ok, sok, hE, fun H' m => ⟨rfl, ?_⟩⟩
  have e2 := exNew m hy hd
  exact q y H' hy e2 ⟨t, ⟨dx, m.2⟩, e2 _ _ ht⟩
end
end BB
namespace BB
open PySem PySem.Spec PyProof.Rows L2 He Evl
section
variable {K : PySem.W.Frag} {mg : Str → Option Value} {w : World} {base : Heap} {H H' : Hp} {a : Addr} {it : ItD} {D : DyD} {S : SpD}
theorem SOk.len4 {its : List ItD} (h : SOk its S) {i n : Nat} (hn : (S.map List.length)[i]? = some n) : n ≤ 4 := by
  obtain ⟨sp, hs, rfl⟩ := Option.map_eq_some_iff.mp ((List.getElem?_map ..).symm.trans hn)
  have hlt : i < its.length := by rw [← h.len]; exact (List.getElem?_eq_some_iff.mp hs).1
  rw [h.row i _ sp (List.getElem?_eq_getElem hlt) hs]
  split <;> omega
def sp_Hang_with_excess (K : PySem.W.Frag) : Sp := S3 fun a b c H Q => ∃ (h ol r : Addr) (D : DyD) (S : SpD) (e : EvD) (x : Int), a = .ref h ∧ b = .ref r ∧ c = .int x ∧ HangAt K H h ol D S e ∧ OutlookAt K H ol D S ∧ ItsOk D.its ∧ SOk D.its S ∧ EvOk D.its e ∧ RowAt H r (S.map List.length) ∧
  ∀ r' H', Ex H H' → RowAt H' r' (S.map List.length) → Q (.ref r') H'
theorem ok_Hang_with_excess (T : TX K mg w) : FnR PP w K mg base CX0 3 (ma K (ga K "Hang") "with_excess") (sp_Hang_with_excess K) := by
  obtain ⟨es_, n_, DK⟩ := T.tab
  refine mkS3 (bn T.f_Hang_with_excess (fun _ _ _ _ _ _ us hl => match us, hl with | [_, _, _], _ => rfl)) sc_Hang_with_excess fun cdv A outer s H a b c Q E hr h => ?_
  refine ⟨_, (pss_cons (ps_if (pt_cmpR (op_notIn_kd DK) (pe_ix ix_tup (pe_f (pv 0)) pe_int (fun _ _ => rfl)) (pe_gr T.g_OWN_LAGS) (by with_unfolding_all rfl)) (pss_one (ps_ret (pe_callTy call_list_of (by rfl) T.n_list (by decide +kernel) (pa_cons (pv 1) pa_nil))))
        pss_nil)
      (pss_cons (ps_set (i := 3) sc_Hang_with_excess.nd rfl (Or.inl rfl) (pe_kd DK (pe_gr T.g_OWN_LAGS) (pe_ix ix_tup (pe_f (pv 0)) pe_int (fun _ _ => rfl)) (fun _ _ => rfl)))
      (pss_one (ps_ret (pe_fn (ok_with_lag T) (hr.mono (by decide)) T.kp_with_lag T.g_with_lag (pa_cons (pe_f (pe_f (pv 0))) (pa_cons (pv 1) (pa_cons (pe_ix ix_tup (pe_f (pv 0)) pe_int (fun _ _ => rfl)) (pa_cons (pv 3) (pa_cons (pe_op op_add (pe_f (pv 0)) (pv 2)) pa_nil)))))))))), ?_⟩
  obtain ⟨h, ol, r, D, S, e, x, rfl, rfl, rfl, hH, hL, ok, sok, hE, hR, q⟩ := h
  obtain ⟨t, hI, ht⟩ := id hH
  have hev : Fd K H h "event" (.ref t) := hI.fd T.c_Hang T.a_Hang_event rfl
  have hout : Fd K H h "outlook" (.ref ol) := hI.fd T.c_Hang T.a_Hang_outlook rfl
  obtain ⟨⟨u1, own1, own1r⟩, ⟨u2, own2, own2r⟩⟩ := T.own_lags
  obtain ⟨ts, r1, r2, r3⟩ := id hR
  have lst : ∀ l, H l = none → Q (.ref l) (upd H l (.lst (ts.map V.ref))) := fun l hl => q l _ (Ex.new hl) ⟨ts, upd_same, r2, fun i n hn => by
    obtain ⟨t0, vs, g1, g2, g3⟩ := r3 i n hn
    exact ⟨t0, vs, g1, Ex.new hl _ _ g2, g3⟩⟩
  cases e with
  | op => exact ⟨_, rfl, _, _, rfl, hev, t, _, _, .str "opens", rfl, rfl, SqT.of ht, rfl, _, _, rfl, rfl, T.own_no_opens, _, rfl, ifT rfl ⟨_, rfl, r, _, rfl, .inl (SqL.of r1), lst⟩⟩
  | pl k n => exact ⟨_, rfl, _, _, rfl, hev, t, _, _, .str "place", rfl, rfl, SqT.of ht, rfl, _, _, rfl, rfl, T.own_no_place, _, rfl, ifT rfl ⟨_, rfl, r, _, rfl, .inl (SqL.of r1), lst⟩⟩
  | ev wd k =>
    obtain ⟨it, hk, hw⟩ := hE
    have hnm := nmOf_eq hk
    have ht4 : H t = some (.tup [.str wd.s, .str it.nm]) := by rw [← hnm]; exact ht
    have hpc : wd = .enter ∨ wd = .out → (S.map List.length)[k]? = some 4 := fun hwd => by
      have hp : it.pc = true := by
        cases hp : it.pc with
        | true => rfl
        | false => rcases hwd with rfl | rfl <;> rcases hw hp with h | h <;> cases h
      have hlt : k < S.length := by rw [sok.len]; exact (List.getElem?_eq_some_iff.mp hk).1
      have hr := sok.row k it _ hk (List.getElem?_eq_getElem hlt)
      rw [hp] at hr
      rw [List.getElem?_map, List.getElem?_eq_getElem hlt]
      show some (S[k].length) = some 4
      rw [hr]
      rfl
    have l8 : (S.map List.length).length ≤ 8 := by rw [List.length_map, sok.len]; exact ok.len
    obtain ⟨o, ho1, ho2⟩ := hL.order T
    cases wd with
    | begin_ => exact ⟨_, rfl, _, _, rfl, hev, t, _, _, .str "begin", rfl, rfl, SqT.of ht4, rfl, _, _, rfl, rfl, T.own_no_begin, _, rfl, ifT rfl ⟨_, rfl, r, _, rfl, .inl (SqL.of r1), lst⟩⟩
    | end_ => exact ⟨_, rfl, _, _, rfl, hev, t, _, _, .str "end", rfl, rfl, SqT.of ht4, rfl, _, _, rfl, rfl, T.own_no_end, _, rfl, ifT rfl ⟨_, rfl, r, _, rfl, .inl (SqL.of r1), lst⟩⟩
    | call => exact ⟨_, rfl, _, _, rfl, hev, t, _, _, .str "call", rfl, rfl, SqT.of ht4, rfl, _, _, rfl, rfl, T.own_no_call, _, rfl, ifT rfl ⟨_, rfl, r, _, rfl, .inl (SqL.of r1), lst⟩⟩
    | enter =>
      refine ⟨_, rfl, _, _, rfl, hev, t, _, _, .str "enter", rfl, rfl, SqT.of ht4, rfl, _, _, rfl, rfl, own1, _, rfl, ifF rfl ?_⟩
      refine ⟨_, rfl, _, _, rfl, hev, t, _, _, .str "enter", rfl, rfl, SqT.of ht4, rfl, _, u1, .str "walk", rfl, rfl, own1, own1r, ?_⟩
      exact ⟨_, rfl, _, _, rfl, hout, _, _, rfl, ho1, _, rfl, _, rfl, _, _, rfl, hev, t, _, _, .str it.nm, rfl, rfl, SqT.of ht4, rfl, _, rfl, _, rfl, _, _, rfl, hH.least T, _, rfl, _, _, rfl, rfl, _, _, _, _, _, rfl, o, r, D, k, 2, 4, it, _, "walk", rfl, rfl, ho2, ok.nd, hk, hR, l8, hpc (.inl rfl), by decide, by decide, rfl, rfl, rfl, q⟩
    | out =>
      refine ⟨_, rfl, _, _, rfl, hev, t, _, _, .str "out", rfl, rfl, SqT.of ht4, rfl, _, _, rfl, rfl, own2, _, rfl, ifF rfl ?_⟩
      refine ⟨_, rfl, _, _, rfl, hev, t, _, _, .str "out", rfl, rfl, SqT.of ht4, rfl, _, u2, .str "pack", rfl, rfl, own2, own2r, ?_⟩
      exact ⟨_, rfl, _, _, rfl, hout, _, _, rfl, ho1, _, rfl, _, rfl, _, _, rfl, hev, t, _, _, .str it.nm, rfl, rfl, SqT.of ht4, rfl, _, rfl, _, rfl, _, _, rfl, hH.least T, _, rfl, _, _, rfl, rfl, _, _, _, _, _, rfl, o, r, D, k, 3, 4, it, _, "pack", rfl, rfl, ho2, ok.nd, hk, hR, l8, hpc (.inr rfl), by decide, by decide, rfl, rfl, rfl, q⟩
/-! ### courses -/
/-- n steps from the s-th point -/
def crs (f : Nat → Int → Int) (s : Nat) : Nat → Int → Int
  | 0, m => m
  | n + 1, m => f (s + n) (crs f s n m)
def loF (its : List ItD) (S : SpD) (i : Nat) (m : Int) : Int := stF its i m (stSp its S i).1
def hiF (its : List ItD) (S : SpD) (i : Nat) (m : Int) : Int := stF its i m (stSp its S i).2
def CourseAt (K : PySem.W.Frag) (H : Hp) (c ol : Addr) (D : DyD) (S : SpD) (s g : Nat) : Prop := ∃ (l : Addr) (as : List Addr), Ins K H c "Course" [("outlook", .ref ol), ("start", .int (s : Nat)), ("goal", .int (g : Nat)), ("_spans", .ref l)] ∧ H l = some (.lst (as.map V.ref)) ∧ as.length = g - s ∧
  ∀ j, j < g - s → ∃ a, as[j]? = some a ∧ SpanAt K H a (stSp D.its S (s + j)).1 (stSp D.its S (s + j)).2
theorem CourseAt.mono {c ol : Addr} {s g : Nat} (h : CourseAt K H c ol D S s g) (e : Ex H H') : CourseAt K H' c ol D S s g := by
  obtain ⟨l, as, h1, h2, h3, h4⟩ := h
  refine ⟨l, as, h1.mono e, e _ _ h2, h3, fun j hj => ?_⟩
  obtain ⟨x, h5, h6⟩ := h4 j hj
  exact ⟨x, h5, h6.mono e⟩
theorem SpanAt.mutN {d b : Addr} {o : HO} {lo hi : Int} (h : SpanAt K H b lo hi) (hd : ∀ C dx fs, H d ≠ some (.ins C dx fs)) (m : Mut d H H' o) : SpanAt K H' b lo hi := by
  obtain ⟨dx, h⟩ := h
  exact ⟨dx, m.1 _ _ (fun z => by rw [z] at h; exact hd _ _ _ h) h⟩
def sp_Course_init (K : PySem.W.Frag) : Sp := S4 fun a b c d H Q => ∃ (y dx ol : Addr) (D : DyD) (S : SpD) (B : Hp) (s g : Nat), a = .ref y ∧ H y = some (.ins (ga K "Course") dx []) ∧ b = .ref ol ∧ c = .int (s : Nat) ∧ d = .int (g : Nat) ∧ Off y B H ∧ OutlookAt K B ol D S ∧ ItsOk D.its ∧ SOk D.its S ∧ s ≤ g ∧ g ≤ 2 * D.its.length ∧
  ∀ (H' : Hp) (l : Addr) (as : List Addr), Mut y H H' (.ins (ga K "Course") dx [("outlook", .ref ol), ("start", .int (s : Nat)), ("goal", .int (g : Nat)), ("_spans", .ref l)]) → H' l = some (.lst (as.map V.ref)) → as.length = g - s → (∀ j, j < g - s → ∃ a, as[j]? = some a ∧ SpanAt K H' a (stSp D.its S (s + j)).1 (stSp D.its S (s + j)).2) → Q .non H'
theorem ok_Course_init (T : TX K mg w) : FnR PP w K mg base CX0 4 (ma K (ga K "Course") "__init__") (sp_Course_init K) := by
  refine mkS4 (bn T.f_Course_init (fun _ _ _ _ _ _ us hl => match us, hl with | [_, _, _, _], _ => rfl)) sc_Course_init fun cdv A outer s H a b c d Q E hr h => ?_
  refine ⟨_, (pss_cons (ps_set (i := 4) sc_Course_init.nd rfl (Or.inl rfl) (pe_op op_sub (pe_pr T.c_Order (pr_Order_points T) (hr.mono (by decide)) (pe_f (pv 1))) pe_int))
      (pss_cons (ps_if (pt_not (pt_chain op_le op_le pe_int (pv 2) (pv 4))) (pss_one ps_never)
        pss_nil)
      (pss_cons (ps_if (pt_not (pt_chain op_le op_le (pv 2) (pv 3) (pv 4))) (pss_one ps_never)
        pss_nil)
      (pss_cons (ps_fld (pv 0) (pv 1) rfl)
      (pss_cons (ps_fld (pv 0) (pv 2) rfl)
      (pss_cons (ps_fld (pv 0) (pv 3) rfl)
      (pss_one (ps_fld (pv 0) (pe_lcD (own := [("point", 5)]) rfl sc_Course_init.nd (pi_range2 rfl T.n_range (pa_cons (pv 2) (pa_cons (pv 3) pa_nil))) (blkOk_by (N := N_Course_init) (sc := defScope s_Course_init) (by decide +kernel)) (fun _ _ _ _ _ => (pg_name (i := 5) sc_Course_init.nd rfl (Or.inl rfl))) (fun _ _ _ _ _ => pts_nil) (fun _ _ _ _ _ => (pe_fn (ok_step_span T) (hr.mono (by decide)) T.kp_step_span T.g_step_span (pa_cons (pv 1) (pa_cons (pv 5) pa_nil))))) rfl)))))))), ?_⟩
  obtain ⟨y, dx, ol, D, S, B, s', g, rfl, hy, rfl, rfl, rfl, hB, hL, ok, sok, hsg, hg, q⟩ := h
  have l8 := ok.len
  have e0 : Ex B H := hB.ex0
  obtain ⟨o, ho1, ho2⟩ := (hL.mono e0).order T
  have ho3 := ho2
  obtain ⟨hox, tpx, ndx, isx, ⟨dx3, hins3⟩, _⟩ := ho2
  refine ⟨_, rfl, _, _, rfl, ho1, o, dx3, _, rfl, hins3, _, rfl, o, D, rfl, ho3, _, _, rfl, rfl, ?_⟩
  refine ⟨_, rfl, _, _, rfl, rfl, _, rfl, ifT (decide_eq_true (by omega)) ⟨_, rfl, _, _, rfl, rfl, _, rfl, ifF (by simp; omega) ?_⟩⟩
  refine ⟨_, rfl, _, rfl, _, _, rfl, rfl, _, rfl, ifT (decide_eq_true (by omega)) ⟨_, rfl, _, _, rfl, rfl, _, rfl, ifF (by simp; omega) ?_⟩⟩
  refine ⟨_, rfl, _, rfl, y, _, dx, _, rfl, hy, T.c_Course, T.a_Course_outlook, ltK rfl, ?_⟩
  refine ⟨_, rfl, _, rfl, y, _, dx, _, rfl, upd_same, T.c_Course, T.a_Course_start, ltK rfl, ?_⟩
  refine ⟨_, rfl, _, rfl, y, _, dx, _, rfl, upd_same, T.c_Course, T.a_Course_goal, ltK rfl, ?_⟩
  have m1 : Mut y H (upd (upd (upd H y (.ins (ga K "Course") dx (putF "outlook" (.ref ol) []))) y (.ins (ga K "Course") dx (putF "start" (.int (s' : Nat)) (putF "outlook" (.ref ol) [])))) y (.ins (ga K "Course") dx (putF "goal" (.int (g : Nat)) (putF "start" (.int (s' : Nat)) (putF "outlook" (.ref ol) [])))))
    (.ins (ga K "Course") dx [("outlook", .ref ol), ("start", .int (s' : Nat)), ("goal", .int (g : Nat))]) := Mut.upd.then_upd.then_upd
  generalize upd (upd (upd H y (.ins (ga K "Course") dx (putF "outlook" (.ref ol) []))) y (.ins (ga K "Course") dx (putF "start" (.int (s' : Nat)) (putF "outlook" (.ref ol) [])))) y (.ins (ga K "Course") dx (putF "goal" (.int (g : Nat)) (putF "start" (.int (s' : Nat)) (putF "outlook" (.ref ol) [])))) = H1 at m1 ⊢
  have e1 := hB.ex m1
  have en : ((g : Int) - (s' : Int)).toNat = g - s' := by omega
  refine ⟨_, rfl, _, rfl, _, _, rfl, ⟨by omega, by omega, by omega, by omega⟩, fun d hd => ?_⟩
  rw [en]
  refine lc_it walk_range (fun i H' => Ex H1 H' ∧ ∃ as : List Addr, H' d = some (.lst (as.map V.ref)) ∧ as.length = i ∧ ∀ j, j < i → ∃ a, as[j]? = some a ∧ SpanAt K H' a (stSp D.its S (s' + j)).1 (stSp D.its S (s' + j)).2)
    ⟨Ex.new hd, [], upd_same, rfl, fun j hj => absurd hj (Nat.not_lt_zero _)⟩ (fun _ _ _ _ => trivial) (fun i x H2 H3 hi h yy => ?_) (fun H2 h => ?_)
  · obtain ⟨e2, as, k1, k2, k3⟩ := h
    obtain ⟨rfl, rfl⟩ := yy
    refine ⟨rfl, _, rfl, _, rfl, _, _, rfl, ol, D, S, s' + i, rfl, rfl, hL.mono (e1.trans e2), ok, sok, by omega, fun b H4 e4 hS => ?_⟩
    have d4 := e4 _ _ k1
    have mu : Mut d H4 (upd H4 d (.lst (as.map V.ref ++ [.ref b]))) (.lst (as.map V.ref ++ [.ref b])) := Mut.upd
    have nin : ∀ C dx fs, H4 d ≠ some (.ins C dx fs) := fun C dx fs e => by rw [d4] at e; cases e
    refine ⟨_, d4, sz_lt (by rw [List.length_map]; omega), (e2.trans e4).mut hd, as ++ [b], by rw [upd_same, List.map_append]; rfl, by simp [k2], fun j hj => ?_⟩
    by_cases hji : j = i
    · subst hji
      exact ⟨b, by rw [List.getElem?_append_right (by omega), k2, Nat.sub_self]; rfl, hS.mutN nin mu⟩
    · obtain ⟨b', hb', hS'⟩ := k3 j (by omega)
      exact ⟨b', by rw [List.getElem?_append_left (by omega)]; exact hb', (hS'.mono e4).mutN nin mu⟩
  · obtain ⟨e2, as, k1, k2, k3⟩ := h
    have m2 := m1.exr e2
    refine ⟨_, rfl, y, _, dx, _, rfl, m2.2, T.c_Course, T.a_Course__spans, ltK rfl, ?_⟩
    have mu : Mut y H2 (upd H2 y (.ins (ga K "Course") dx [("outlook", .ref ol), ("start", .int (s' : Nat)), ("goal", .int (g : Nat)), ("_spans", .ref d)])) (.ins (ga K "Course") dx [("outlook", .ref ol), ("start", .int (s' : Nat)), ("goal", .int (g : Nat)), ("_spans", .ref d)]) := Mut.upd
    refine q _ d as (m2.trans mu) (mu.1 _ _ (fun e => by rw [e, m2.2] at k1; cases k1) k1) k2 fun j hj => ?_
    obtain ⟨b', hb', hS'⟩ := k3 j hj
    exact ⟨b', hb', hS'.mutY m2.2 (show 3 ≠ 2 by decide) mu⟩
def spm_Course (K : PySem.W.Frag) : Sp := S3 fun b c d H Q => ∃ (ol : Addr) (D : DyD) (S : SpD) (s g : Nat), b = .ref ol ∧ c = .int (s : Nat) ∧ d = .int (g : Nat) ∧ OutlookAt K H ol D S ∧ ItsOk D.its ∧ SOk D.its S ∧ s ≤ g ∧ g ≤ 2 * D.its.length ∧
  ∀ p H', H p = none → Ex H H' → CourseAt K H' p ol D S s g → Q (.ref p) H'
theorem ct_Course (T : TX K mg w) : Ctor PP w K mg base 4 "Course" (ga K "Course") (spm_Course K) := by
  refine ⟨_, _, T.k_Course, T.g_Course, ok_Course_init T, fun vs H Q h y dx hy hd ne => ?_⟩
  obtain ⟨b, c, d, rfl, ol, D, S, s, g, rfl, rfl, rfl, hL, ok, sok, h1, h2, q⟩ := h
  refine ⟨_, _, _, _, rfl, y, dx, ol, D, S, H, s, g, rfl, upd_same, rfl, rfl, rfl, Off.new hy hd, hL, ok, sok, h1, h2, fun H' l as m k1 k2 k3 => ⟨rfl, ?_⟩⟩
  exact q y H' hy (exNew m hy hd) ⟨l, as, ⟨dx, m.2⟩, k1, k2, k3⟩
def sp_Course_call (K : PySem.W.Frag) : Sp := S2 fun a b H Q => ∃ (c ol : Addr) (D : DyD) (S : SpD) (s g : Nat) (m : Int), a = .ref c ∧ b = .int m ∧ CourseAt K H c ol D S s g ∧ OutlookAt K H ol D S ∧ ItsOk D.its ∧ s ≤ g ∧ g ≤ 2 * D.its.length ∧ ∀ H', Ex H H' → Q (.int (crs (loF D.its S) s (g - s) m)) H'
theorem ok_Course_call (T : TX K mg w) : FnR PP w K mg base CX0 4 (ma K (ga K "Course") "__call__") (sp_Course_call K) := by
  refine mkS2 (bn T.f_Course_call (fun _ _ _ _ _ _ us hl => match us, hl with | [_, _], _ => rfl)) sc_Course_call fun cdv A outer s H a b Q E hr h => ?_
  refine ⟨_, (pss_cons (ps_set (i := 2) sc_Course_call.nd rfl (Or.inl rfl) (pv 1))
      (pss_cons (ps_for PassesOwn.never rfl (pi_enum (by rfl) T.n_enumerate (pa_cons (pe_f (pv 0)) pa_nil)) (pg_tup rfl (pgs_cons (pg_name (i := 3) sc_Course_call.nd rfl (Or.inl rfl)) (pgs_cons (pg_name (i := 4) sc_Course_call.nd rfl (Or.inl rfl)) pgs_nil)))
        (pss_one (ps_set (i := 2) sc_Course_call.nd rfl (Or.inl rfl) (pe_fn (ok_next_moment T) (hr.mono (by decide)) T.kp_next_moment T.g_next_moment (pa_cons (pe_f (pe_f (pv 0))) (pa_cons (pe_op op_add (pe_f (pv 0)) (pv 3)) (pa_cons (pv 2) (pa_cons (pe_f (pv 4)) pa_nil))))))))
      (pss_one (ps_ret (pv 2))))), ?_⟩
  obtain ⟨c, ol, D, S, s', g, m, rfl, rfl, hC, hL, ok, hsg, hg, q⟩ := h
  obtain ⟨l, as, hI, hl, hal, has⟩ := id hC
  refine ⟨_, rfl, ?_⟩
  refine ⟨_, rfl, _, _, rfl, hI.fd T.c_Course T.a_Course__spans rfl, l, _, rfl, SqL.of hl, ?_⟩
  refine for_it walk_enum (fun i σ H' => Ex H H' ∧ ∃ x y, σ = [some (.ref c), some (.int m), some (.int (crs (loF D.its S) s' i m)), x, y]) ⟨Ex.refl H, _, _, rfl⟩ (fun i σ H' _ h => SqL.of (h.1 _ _ hl)) (fun i x σ H1 H2 hi h yy => ?_) (fun σ H1 h => ?_)
  · obtain ⟨e, s1, s2, rfl⟩ := h
    obtain ⟨t, x1, x2, rfl, hT, rfl, e1, e2⟩ := yy
    cases e1
    obtain ⟨b, hb, rfl⟩ := Option.map_eq_some_iff.mp ((List.getElem?_map ..).symm.trans e2)
    have hi2 : i < g - s' := by rw [List.length_map, hal] at hi; exact hi
    obtain ⟨b', hb', hS⟩ := has i hi2
    rw [hb] at hb'
    cases hb'
    have e3 : Ex H (upd H1 t (.tup [.int (i : Nat), .ref b])) := e.trans (Ex.new hT)
    obtain ⟨o, ho1, ho2⟩ := (hL.mono e3).order T
    refine ⟨t, _, rfl, SqT.of upd_same, rfl, _, _, rfl, _, _, rfl, rfl, ?_⟩
    refine ⟨_, rfl, _, _, rfl, (hI.mono e3).fd T.c_Course T.a_Course_outlook rfl, _, _, rfl, ho1, _, rfl, _, _, rfl, (hI.mono e3).fd T.c_Course T.a_Course_start rfl, _, rfl, _, _, rfl, rfl, _, rfl, _, rfl, _, _, rfl, (hS.mono e3).low T, _, _, _, _, rfl, o, D, s' + i, _, _, rfl, rfl, rfl, rfl, ho2, ok, by omega, e3, _, _, rfl⟩
  · obtain ⟨e, s1, s2, rfl⟩ := h
    rw [List.length_map, hal]
    exact ⟨_, rfl, q _ e⟩
def sp_Course_latest (K : PySem.W.Frag) : Sp := S2 fun a b H Q => ∃ (c ol : Addr) (D : DyD) (S : SpD) (s g : Nat) (m : Int), a = .ref c ∧ b = .int m ∧ CourseAt K H c ol D S s g ∧ OutlookAt K H ol D S ∧ ItsOk D.its ∧ s ≤ g ∧ g ≤ 2 * D.its.length ∧ ∀ H', Ex H H' → Q (.int (crs (hiF D.its S) s (g - s) m)) H'
theorem ok_Course_latest (T : TX K mg w) : FnR PP w K mg base CX0 4 (ma K (ga K "Course") "latest") (sp_Course_latest K) := by
  refine mkS2 (bn T.f_Course_latest (fun _ _ _ _ _ _ us hl => match us, hl with | [_, _], _ => rfl)) sc_Course_latest fun cdv A outer s H a b Q E hr h => ?_
  refine ⟨_, (pss_cons (ps_set (i := 2) sc_Course_latest.nd rfl (Or.inl rfl) (pv 1))
      (pss_cons (ps_for PassesOwn.never rfl (pi_enum (by rfl) T.n_enumerate (pa_cons (pe_f (pv 0)) pa_nil)) (pg_tup rfl (pgs_cons (pg_name (i := 3) sc_Course_latest.nd rfl (Or.inl rfl)) (pgs_cons (pg_name (i := 4) sc_Course_latest.nd rfl (Or.inl rfl)) pgs_nil)))
        (pss_one (ps_set (i := 2) sc_Course_latest.nd rfl (Or.inl rfl) (pe_fn (ok_next_moment T) (hr.mono (by decide)) T.kp_next_moment T.g_next_moment (pa_cons (pe_f (pe_f (pv 0))) (pa_cons (pe_op op_add (pe_f (pv 0)) (pv 3)) (pa_cons (pv 2) (pa_cons (pe_f (pv 4)) pa_nil))))))))
      (pss_one (ps_ret (pv 2))))), ?_⟩
  obtain ⟨c, ol, D, S, s', g, m, rfl, rfl, hC, hL, ok, hsg, hg, q⟩ := h
  obtain ⟨l, as, hI, hl, hal, has⟩ := id hC
  refine ⟨_, rfl, ?_⟩
  refine ⟨_, rfl, _, _, rfl, hI.fd T.c_Course T.a_Course__spans rfl, l, _, rfl, SqL.of hl, ?_⟩
  refine for_it walk_enum (fun i σ H' => Ex H H' ∧ ∃ x y, σ = [some (.ref c), some (.int m), some (.int (crs (hiF D.its S) s' i m)), x, y]) ⟨Ex.refl H, _, _, rfl⟩ (fun i σ H' _ h => SqL.of (h.1 _ _ hl)) (fun i x σ H1 H2 hi h yy => ?_) (fun σ H1 h => ?_)
  · obtain ⟨e, s1, s2, rfl⟩ := h
    obtain ⟨t, x1, x2, rfl, hT, rfl, e1, e2⟩ := yy
    cases e1
    obtain ⟨b, hb, rfl⟩ := Option.map_eq_some_iff.mp ((List.getElem?_map ..).symm.trans e2)
    have hi2 : i < g - s' := by rw [List.length_map, hal] at hi; exact hi
    obtain ⟨b', hb', hS⟩ := has i hi2
    rw [hb] at hb'
    cases hb'
    have e3 : Ex H (upd H1 t (.tup [.int (i : Nat), .ref b])) := e.trans (Ex.new hT)
    obtain ⟨o, ho1, ho2⟩ := (hL.mono e3).order T
    refine ⟨t, _, rfl, SqT.of upd_same, rfl, _, _, rfl, _, _, rfl, rfl, ?_⟩
    refine ⟨_, rfl, _, _, rfl, (hI.mono e3).fd T.c_Course T.a_Course_outlook rfl, _, _, rfl, ho1, _, rfl, _, _, rfl, (hI.mono e3).fd T.c_Course T.a_Course_start rfl, _, rfl, _, _, rfl, rfl, _, rfl, _, rfl, _, _, rfl, (hS.mono e3).high T, _, _, _, _, rfl, o, D, s' + i, _, _, rfl, rfl, rfl, rfl, ho2, ok, by omega, e3, _, _, rfl⟩
  · obtain ⟨e, s1, s2, rfl⟩ := h
    rw [List.length_map, hal]
    exact ⟨_, rfl, q _ e⟩
end
end BB
namespace BB
open PySem PySem.Spec PyProof.Rows L2 He Evl
/-! ### how many different ints there are in a window -/
theorem nodup_lt : ∀ (n : Nat) (l : List Nat), l.Nodup → (∀ x ∈ l, x < n) → l.length ≤ n
  | 0, l, _, h => by
    cases l with
    | nil => exact Nat.le_refl _
    | cons a r => exact absurd (h a List.mem_cons_self) (Nat.not_lt_zero _)
  | n + 1, l, hn, h => by
    by_cases hm : n ∈ l
    · have := nodup_lt n (l.erase n) (hn.erase n) fun x hx => by
        have h1 := h x (List.mem_of_mem_erase hx)
        have h2 : x ≠ n := fun e => by
          rw [e] at hx
          exact ((List.Nodup.mem_erase_iff hn).mp hx).1 rfl
        omega
      rw [List.length_erase_of_mem hm] at this
      omega
    · have := nodup_lt n l hn fun x hx => by
        have h1 := h x hx
        have h2 : x ≠ n := fun e => hm (e ▸ hx)
        omega
      omega
theorem nodup_win {l : List Int} {A : Int} {n : Nat} (hn : l.Nodup) (h : ∀ x ∈ l, A ≤ x ∧ x ≤ A + (n : Int)) : l.length ≤ n + 1 := by
  have h1 : (l.map fun x => (x - A).toNat).Nodup := by
    rw [List.nodup_iff_pairwise_ne, List.pairwise_map]
    rw [List.nodup_iff_pairwise_ne] at hn
    refine hn.imp_of_mem fun {a b} ha hb e z => e ?_
    have := h a ha
    have := h b hb
    omega
  have := nodup_lt (n + 1) _ h1 fun x hx => by
    obtain ⟨y, hy, rfl⟩ := List.mem_map.mp hx
    have := h y hy
    omega
  rw [List.length_map] at this
  exact this
theorem bar_lo {st sh t : Int} (h : 0 < st) : t ≤ barOf st sh t ∧ barOf st sh t < t + st := by
  unfold barOf
  have h1 := Int.fmod_nonneg_of_pos (sh - t) h
  have h2 := Int.fmod_lt_of_pos (sh - t) h
  omega
theorem rdy_win {it : ItD} {A m : Int} {n : Int} (h1 : A ≤ m) (h2 : m ≤ A + n) (hn : 0 ≤ n) : rdy it A ≤ rdy it m ∧ rdy it m ≤ rdy it A + n := by
  unfold rdy
  cases it.mi with
  | none => exact ⟨h1, h2⟩
  | some c =>
    dsimp only
    split <;> split <;> omega
/-- what the i-th step makes of these moments -/
def Img (its : List ItD) (S : SpD) (i : Nat) (ms : List Int) (x : Int) : Prop := ∃ m ∈ ms, ∃ l, (stSp its S i).1 ≤ l ∧ l ≤ (stSp its S i).2 ∧ x = stF its i m l
theorem stSp_wd {its : List ItD} {S : SpD} {i : Nat} (sok : SOk its S) (hi : i < 2 * its.length) : (stSp its S i).1 ≤ (stSp its S i).2 ∧ (stSp its S i).2 ≤ (stSp its S i).1 + 8 := by
  have hlt : i / 2 < its.length := by omega
  have hg := List.getElem?_eq_getElem hlt
  have hsl : i / 2 < S.length := by rw [sok.len]; exact hlt
  have hsg := List.getElem?_eq_getElem hsl
  have hrow := sok.row _ _ _ hg hsg
  by_cases e : i % 2 = 0
  · have h0 : 0 < S[i / 2].length := by rw [hrow]; split <;> omega
    rw [stSp_even hg e hsg (List.getElem?_eq_getElem h0)]
    exact ⟨sok.le _ (List.getElem_mem _) _ (List.getElem_mem _), (sok.bd _ (List.getElem_mem hsl) _ (List.getElem_mem h0)).2.2⟩
  · cases hp : its[i / 2].pc with
    | true =>
      have h0 : 1 < S[i / 2].length := by rw [hrow, hp]; decide
      rw [stSp_odd hg e hp hsg (List.getElem?_eq_getElem h0)]
      exact ⟨sok.le _ (List.getElem_mem _) _ (List.getElem_mem _), (sok.bd _ (List.getElem_mem hsl) _ (List.getElem_mem h0)).2.2⟩
    | false =>
      rw [stSp_br hg e hp]
      exact ⟨Int.le_refl _, by omega⟩
theorem img_win {its : List ItD} {S : SpD} {i : Nat} {ms : List Int} {A n : Int} (ok : ItsOk its) (sok : SOk its S) (hi : i < 2 * its.length) (h : ∀ m ∈ ms, A ≤ m ∧ m ≤ A + n) (hn : 0 ≤ n) : ∃ A', ∀ x, Img its S i ms x → A' ≤ x ∧ x ≤ A' + (n + 24) := by
  have hlt : i / 2 < its.length := by omega
  have hg := List.getElem?_eq_getElem hlt
  obtain ⟨w1, w2⟩ := stSp_wd sok hi
  by_cases e : i % 2 = 0
  · have io := ok.ok _ (List.getElem_mem hlt)
    refine ⟨rdy its[i / 2] A + (stSp its S i).1, fun x ⟨m, hm, l, h1, h2, hx⟩ => ?_⟩
    rw [hx, stF_even hg e]
    obtain ⟨m1, m2⟩ := h m hm
    obtain ⟨r1, r2⟩ := rdy_win (it := its[i / 2]) m1 m2 hn
    unfold bgn
    have := bar_lo (sh := its[i / 2].sh) (t := rdy its[i / 2] m + l) io.st
    have := io.st16
    omega
  · refine ⟨A + (stSp its S i).1, fun x ⟨m, hm, l, h1, h2, hx⟩ => ?_⟩
    rw [hx, stF_odd hg e]
    obtain ⟨m1, m2⟩ := h m hm
    omega
/-! ### dicts by moments -/
theorem any_keys {kvs : List (Key × V)} {ks : List Int} {r : Int} (h : kvs.map (·.1) = ks.map Sum.inl) : (kvs.any fun kv => decide (kv.1 = Sum.inl r)) = decide (r ∈ ks) := by
  rw [Bool.eq_iff_iff, List.any_eq_true, decide_eq_true_iff]
  constructor
  · rintro ⟨q, hq, e⟩
    have h1 := List.mem_map_of_mem (f := (·.1)) hq
    rw [h, of_decide_eq_true e] at h1
    obtain ⟨x, hx, ex⟩ := List.mem_map.mp h1
    cases ex
    exact hx
  · intro hr
    have h1 : (Sum.inl r : Key) ∈ kvs.map (·.1) := by rw [h]; exact List.mem_map_of_mem hr
    obtain ⟨q, hq, e⟩ := List.mem_map.mp h1
    exact ⟨q, hq, decide_eq_true e⟩
theorem putK_keys {kvs : List (Key × V)} {ks : List Int} {r : Int} {v : V} (h : kvs.map (·.1) = ks.map Sum.inl) : (putK kvs (Sum.inl r) v).map (·.1) = (if r ∈ ks then ks else ks ++ [r]).map Sum.inl := by
  unfold putK
  have e := any_keys (r := r) h
  rw [e]
  by_cases hm : r ∈ ks
  · rw [if_pos (decide_eq_true hm), if_pos hm, List.map_map, ← h]
    refine List.map_congr_left fun q _ => ?_
    show (if q.1 = Sum.inl r then (q.1, v) else q).1 = q.1
    split <;> rfl
  · rw [if_neg (by rw [decide_eq_false hm]; exact Bool.false_ne_true), if_neg hm, List.map_append, List.map_append, h]
    rfl
theorem putK_mem {kvs : List (Key × V)} {k : Key} {v : V} {q : Key × V} (h : q ∈ putK kvs k v) : q ∈ kvs ∨ q = (k, v) := by
  unfold putK at h
  split at h
  · obtain ⟨p, hp, rfl⟩ := List.mem_map.mp h
    split
    · rename_i e
      exact .inr (by rw [e])
    · exact .inl hp
  · rcases List.mem_append.mp h with h | h
    · exact .inl h
    · exact .inr (by simpa using h)
theorem valV_in {kvs : List (Key × V)} {ks : List Int} {r : Int} (h : kvs.map (·.1) = ks.map Sum.inl) : (valV kvs (Sum.inl r)).isSome = decide (r ∈ ks) := by
  rw [← valV_any]
  exact any_keys h
theorem valV_mem {kvs : List (Key × V)} {k : Key} {v : V} (h : valV kvs k = some v) : (k, v) ∈ kvs := by
  unfold valV at h
  obtain ⟨p, hp, rfl⟩ := Option.map_eq_some_iff.mp h
  have h1 := List.find?_some hp
  have h2 := List.mem_of_find?_eq_some hp
  have : p.1 = k := of_decide_eq_true h1
  rw [← this]
  exact h2
section
variable {K : PySem.W.Frag} {mg : Str → Option Value} {w : World} {base : Heap} {H H' : Hp} {a : Addr} {it : ItD} {D : DyD} {S : SpD}
/-- a table: pairs of a moment and an int -/
def TabAt (H : Hp) (tb : Addr) (ms : List Int) : Prop := ∃ ts : List Addr, H tb = some (.lst (ts.map V.ref)) ∧ ts.length = ms.length ∧ ∀ (i : Nat) (m : Int), ms[i]? = some m → ∃ (t : Addr) (v : Int), ts[i]? = some t ∧ H t = some (.tup [.int m, .int v])
theorem TabAt.mono {tb : Addr} {ms : List Int} (h : TabAt H tb ms) (e : Ex H H') : TabAt H' tb ms := by
  obtain ⟨ts, h1, h2, h3⟩ := h
  refine ⟨ts, e _ _ h1, h2, fun i m hm => ?_⟩
  obtain ⟨t, v, g1, g2⟩ := h3 i m hm
  exact ⟨t, v, g1, e _ _ g2⟩
/-- where the moments come from -/
def OrgAt (H : Hp) (od : Addr) (ms' ms : List Int) : Prop := ∃ kvs, H od = some (.dK kvs) ∧ ∀ x ∈ ms', ∃ (t : Addr) (m l : Int), valV kvs (Sum.inl x) = some (.ref t) ∧ H t = some (.tup [.int m, .int l]) ∧ m ∈ ms
theorem OrgAt.mono {od : Addr} {ms' ms : List Int} (h : OrgAt H od ms' ms) (e : Ex H H') : OrgAt H' od ms' ms := by
  obtain ⟨kvs, h1, h2⟩ := h
  refine ⟨kvs, e _ _ h1, fun x hx => ?_⟩
  obtain ⟨t, m, l, g1, g2, g3⟩ := h2 x hx
  exact ⟨t, m, l, g1, e _ _ g2, g3⟩
/-- while a table is made: ld, od the two dicts; P tells which moments are in them -/
def NT (H1 : Hp) (ld od : Addr) (ms : List Int) (P : Int → Prop) (H' : Hp) : Prop := Ex H1 H' ∧ ∃ ks : List Int, ks.Nodup ∧ (∀ x, x ∈ ks ↔ P x) ∧ (∃ lkv, H' ld = some (.dK lkv) ∧ lkv.map (·.1) = ks.map Sum.inl ∧ ∀ q ∈ lkv, ∃ n, q.2 = V.int n) ∧
  ∃ okv, H' od = some (.dK okv) ∧ okv.map (·.1) = ks.map Sum.inl ∧ ∀ q ∈ okv, ∃ t m l, q.2 = V.ref t ∧ H' t = some (.tup [.int m, .int l]) ∧ m ∈ ms
theorem NT.iff {H1 : Hp} {ld od : Addr} {ms : List Int} {P P' : Int → Prop} (h : NT H1 ld od ms P H) (e : ∀ x, P x ↔ P' x) : NT H1 ld od ms P' H := by
  obtain ⟨h1, ks, h2, h3, h4⟩ := h
  exact ⟨h1, ks, h2, fun x => (h3 x).trans (e x), h4⟩
theorem NT.ex {H1 : Hp} {ld od : Addr} {ms : List Int} {P : Int → Prop} (h : NT H1 ld od ms P H) (e : Ex H H') : NT H1 ld od ms P H' := by
  obtain ⟨h1, ks, h2, h3, ⟨lkv, h4, h5, h6⟩, okv, h7, h8, h9⟩ := h
  refine ⟨h1.trans e, ks, h2, h3, ⟨lkv, e _ _ h4, h5, h6⟩, okv, e _ _ h7, h8, fun q hq => ?_⟩
  obtain ⟨t, m, l, g1, g2, g3⟩ := h9 q hq
  exact ⟨t, m, l, g1, e _ _ g2, g3⟩
theorem stSp_bd {i : Nat} (ok : ItsOk D.its) (sok : SOk D.its S) (hi : i < 2 * D.its.length) : 0 ≤ (stSp D.its S i).1 ∧ (stSp D.its S i).2 ≤ 100000 := by
  have hlt : i / 2 < D.its.length := by omega
  have hg := List.getElem?_eq_getElem hlt
  have hsl : i / 2 < S.length := by rw [sok.len]; exact hlt
  have hsg := List.getElem?_eq_getElem hsl
  have hrow := sok.row _ _ _ hg hsg
  by_cases e : i % 2 = 0
  · have h0 : 0 < S[i / 2].length := by rw [hrow]; split <;> omega
    rw [stSp_even hg e hsg (List.getElem?_eq_getElem h0)]
    have := sok.bd _ (List.getElem_mem hsl) _ (List.getElem_mem h0)
    omega
  · have io := ok.ok _ (List.getElem_mem hlt)
    cases hp : D.its[i / 2].pc with
    | true =>
      have h0 : 1 < S[i / 2].length := by rw [hrow, hp]; decide
      rw [stSp_odd hg e hp hsg (List.getElem?_eq_getElem h0)]
      have := sok.bd _ (List.getElem_mem hsl) _ (List.getElem_mem h0)
      omega
    | false =>
      rw [stSp_br hg e hp]
      obtain ⟨b1, b2, b3, _⟩ := io.br hp
      have b4 := io.y1000
      have h1 : 0 ≤ D.its[i / 2].x * D.its[i / 2].y := Int.mul_nonneg (by omega) (by omega)
      have h2 : D.its[i / 2].x * D.its[i / 2].y ≤ 12 * 1000 := Int.mul_le_mul b2 b4 (by omega) (by omega)
      exact ⟨h1, by show D.its[i / 2].x * D.its[i / 2].y ≤ 100000; omega⟩
theorem NT_put {H0 : Hp} {ld od t : Addr} {ms ks : List Int} {P : Int → Prop} {lkv okv : List (Key × V)} {r n m l : Int} (e : Ex H0 H) (hn : ks.Nodup) (hk : ∀ x, x ∈ ks ↔ P x) (l1 : H ld = some (.dK lkv)) (l2 : lkv.map (·.1) = ks.map Sum.inl) (l3 : ∀ q ∈ lkv, ∃ n, q.2 = V.int n)
    (o1 : H od = some (.dK okv)) (o2 : okv.map (·.1) = ks.map Sum.inl) (o3 : ∀ q ∈ okv, ∃ t m l, q.2 = V.ref t ∧ H t = some (.tup [.int m, .int l]) ∧ m ∈ ms) (hl0 : H0 ld = none) (ho0 : H0 od = none) (nlo : od ≠ ld)
    (ht : upd H ld (.dK (putK lkv (Sum.inl r) (.int n))) t = none) (hm : m ∈ ms) :
    NT H0 ld od ms (fun x => P x ∨ x = r) (upd (upd (upd H ld (.dK (putK lkv (Sum.inl r) (.int n)))) t (.tup [.int m, .int l])) od (.dK (putK okv (Sum.inl r) (.ref t)))) := by
  have ntl : t ≠ ld := fun z => by rw [z, upd_same] at ht; cases ht
  have ht0 : H t = none := by rw [upd_ne ntl] at ht; exact ht
  have nto : t ≠ od := fun z => by rw [z, o1] at ht0; cases ht0
  have e2 : Ex H0 (upd (upd (upd H ld (.dK (putK lkv (Sum.inl r) (.int n)))) t (.tup [.int m, .int l])) od (.dK (putK okv (Sum.inl r) (.ref t)))) := fun a u h => by
    have n1 : a ≠ ld := fun z => by rw [z, hl0] at h; cases h
    have n2 : a ≠ od := fun z => by rw [z, ho0] at h; cases h
    have h2 := e a u h
    have n3 : a ≠ t := fun z => by rw [z, ht0] at h2; cases h2
    rw [upd_ne n2, upd_ne n3, upd_ne n1]
    exact h2
  refine ⟨e2, if r ∈ ks then ks else ks ++ [r], ?_, fun x => ?_, ⟨_, (upd_ne nlo.symm).trans ((upd_ne ntl.symm).trans upd_same), putK_keys l2, fun q hq => ?_⟩, _, upd_same, putK_keys o2, fun q hq => ?_⟩
  · split
    · exact hn
    · rename_i hr
      rw [List.nodup_append]
      exact ⟨hn, by simp, fun x hx y hy => by
        have : y = r := by simpa using hy
        rw [this]
        exact fun z => hr (z ▸ hx)⟩
  · by_cases hr : r ∈ ks
    · rw [if_pos hr, hk]
      exact ⟨.inl, fun h => h.elim id fun h => by rw [h]; exact (hk r).mp hr⟩
    · rw [if_neg hr, List.mem_append, hk]
      simp
  · rcases putK_mem hq with h | h
    · exact l3 q h
    · exact ⟨n, by rw [h]⟩
  · rcases putK_mem hq with h | h
    · obtain ⟨t', m', l', g1, g2, g3⟩ := o3 q h
      have n1 : t' ≠ ld := fun z => by rw [z, l1] at g2; cases g2
      have n2 : t' ≠ od := fun z => by rw [z, o1] at g2; cases g2
      have n3 : t' ≠ t := fun z => by rw [z, ht0] at g2; cases g2
      exact ⟨t', m', l', g1, by rw [upd_ne n2, upd_ne n3, upd_ne n1]; exact g2, g3⟩
    · exact ⟨t, m, l, by rw [h], (upd_ne nto).trans upd_same, hm⟩
def sp_next_table (K : PySem.W.Frag) : Sp := S3 fun a b c H Q => ∃ (ol tb : Addr) (D : DyD) (S : SpD) (i : Nat) (ms : List Int) (A n : Int), a = .ref ol ∧ b = .int (i : Nat) ∧ c = .ref tb ∧ OutlookAt K H ol D S ∧ ItsOk D.its ∧ SOk D.its S ∧ i < 2 * D.its.length ∧ TabAt H tb ms ∧ (∀ m ∈ ms, A ≤ m ∧ m ≤ A + n) ∧ 0 ≤ n ∧ n ≤ 1000 ∧
  ∀ t H' tb' od ms', Ex H H' → H' t = some (.tup [.ref tb', .ref od]) → H tb' = none → TabAt H' tb' ms' → OrgAt H' od ms' ms → ms'.Nodup → (∀ x, x ∈ ms' ↔ Img D.its S i ms x) → Q (.ref t) H'
theorem ok_next_table (T : TX K mg w) : FnR PP w K mg base CX0 4 (ga K "next_table") (sp_next_table K) := by
  obtain ⟨es_, n_, DK⟩ := T.tab
  refine mkS3 (bn T.f_next_table (fun _ _ _ _ _ _ us hl => match us, hl with | [_, _, _], _ => rfl)) sc_next_table fun cdv A outer s H a b c Q E hr h => ?_
  refine ⟨_, (pss_cons (ps_set (i := 3) sc_next_table.nd rfl (Or.inl rfl) (pe_fn (ok_step_span T) (hr.mono (by decide)) T.kp_step_span T.g_step_span (pa_cons (pv 0) (pa_cons (pv 1) pa_nil))))
      (pss_cons (ps_set (i := 4) sc_next_table.nd rfl (Or.inr rfl) pe_dnewK)
      (pss_cons (ps_set (i := 5) sc_next_table.nd rfl (Or.inl rfl) pe_dnewK)
      (pss_cons (ps_for PassesOwn.never rfl (pi_list (pv 2)) (pg_tup rfl (pgs_cons (pg_name (i := 6) sc_next_table.nd rfl (Or.inl rfl)) (pgs_cons (pg_name (i := 7) sc_next_table.nd rfl (Or.inl rfl)) pgs_nil)))
        (pss_one (ps_for PassesOwn.never rfl (pi_range2 rfl T.n_range (pa_cons (pe_f (pv 3)) (pa_cons (pe_op op_add (pe_f (pv 3)) pe_int) pa_nil))) (pg_name (i := 8) sc_next_table.nd rfl (Or.inl rfl))
        (pss_cons (ps_set (i := 9) sc_next_table.nd rfl (Or.inl rfl) (pe_fn (ok_next_moment T) (hr.mono (by decide)) T.kp_next_moment T.g_next_moment (pa_cons (pe_f (pv 0)) (pa_cons (pv 1) (pa_cons (pv 6) (pa_cons (pv 8) pa_nil))))))
      (pss_cons (ps_set (i := 10) sc_next_table.nd rfl (Or.inl rfl) (pe_op op_sub (pe_op op_add (pv 7) (pv 8)) (pe_f (pv 3))))
      (pss_one (ps_if (PW.pt (pw_or (pt_cmp (pc_dnotin (hu_of hr) (pv 9) (pv 4))) (pw_or1 (pt_cmpR op_lt (pv 10) (pe_dget (hu_of hr) (pv 4) (pv 9) (fun _ _ => rfl)) (nomark _))))) (pss_cons (ps_dput (hu_of hr) (pv 4) (pv 9) (pv 10) rfl)
      (pss_one (ps_dput (hu_of hr) (pv 5) (pv 9) (pe_tup (pa_cons (pv 6) (pa_cons (pv 8) pa_nil))) rfl)))
        pss_nil)))))))
      (pss_one (ps_ret (pe_tup (pa_cons (pe_lcD (own := [("moment", 6)]) rfl sc_next_table.nd (pi_list (pe_callB (cr_sortedDK rfl) (by rfl) T.n_sorted (by decide +kernel) (pa_cons (pv 4) pa_nil))) (blkOk_by (N := N_next_table) (sc := defScope s_next_table) (by decide +kernel)) (fun _ _ _ _ _ => (pg_name (i := 6) sc_next_table.nd rfl (Or.inl rfl))) (fun _ _ _ _ _ => pts_nil) (fun _ _ _ _ _ => (pe_tup (pa_cons (pv 6) (pa_cons (pe_dget (hu_of hr) (pv 4) (pv 6) (fun _ _ => rfl)) pa_nil))))) (pa_cons (pv 5) pa_nil))))))))), ?_⟩
  obtain ⟨ol, tb, D, S, i, ms, A, n, rfl, rfl, rfl, hL, ok, sok, hi, hT, hA, hn0, hn1, q⟩ := h
  obtain ⟨A', hA'⟩ := img_win ok sok hi hA hn0
  refine ⟨_, rfl, _, rfl, _, _, rfl, ol, D, S, i, rfl, rfl, hL, ok, sok, hi, fun s0 H0 e0 hS0 => ?_⟩
  intro ld hld
  intro od hod
  have nlo : od ≠ ld := fun e => by rw [e, upd_same] at hod; cases hod
  have l1 : (upd (upd H0 ld (.dK [])) od (.dK [])) ld = some (.dK []) := (upd_ne nlo.symm).trans upd_same
  have o1 : (upd (upd H0 ld (.dK [])) od (.dK [])) od = some (.dK []) := upd_same
  have hod0 : H0 od = none := by rw [upd_ne nlo] at hod; exact hod
  have nt0 : NT H0 ld od ms (fun x => Img D.its S i (ms.take 0) x) (upd (upd H0 ld (.dK [])) od (.dK [])) := ⟨(Ex.new hld).trans (Ex.new hod), [], List.nodup_nil, fun x => Iff.intro (fun h => absurd h List.not_mem_nil) (fun h => by obtain ⟨m, hm, _⟩ := h; exact absurd hm List.not_mem_nil), ⟨[], l1, rfl, fun q hq => by cases hq⟩, [], o1, rfl, fun q hq => by cases hq⟩
  obtain ⟨ts, t1, t2, t3⟩ := hT.mono e0
  have hL0 := hL.mono e0
  obtain ⟨o, ho1, ho2⟩ := hL0.order T
  obtain ⟨w1, w2⟩ := stSp_wd sok hi
  obtain ⟨b1, b2⟩ := stSp_bd ok sok hi
  have small : ∀ (P : Int → Prop) (H' : Hp), NT H0 ld od ms P H' → (∀ x, P x → Img D.its S i ms x) → ∀ kvs, (H' ld = some (.dK kvs) ∨ H' od = some (.dK kvs)) → kvs.length < sizeLine := fun P H' h hP kvs hk => by
    obtain ⟨_, ks, h2, h3, ⟨lkv, h4, h5, h6⟩, okv, h7, h8, h9⟩ := h
    have hlen : ks.length ≤ (n + 24).toNat + 1 := nodup_win (A := A') h2 fun x hx => by
      have := hA' x (hP x ((h3 x).mp hx))
      omega
    rcases hk with hk | hk
    · rw [h4] at hk
      cases hk
      have := congrArg List.length h5
      rw [List.length_map, List.length_map] at this
      exact sz_lt (by omega)
    · rw [h7] at hk
      cases hk
      have := congrArg List.length h8
      rw [List.length_map, List.length_map] at this
      exact sz_lt (by omega)
  refine ⟨_, rfl, tb, rfl, ⟨_, SqL.of (nt0.1 _ _ t1)⟩, ?_⟩
  refine for_it (walk_list (xs := ts.map V.ref)) (fun j σ H' => NT H0 ld od ms (fun x => Img D.its S i (ms.take j) x) H' ∧ ∃ x6 x7 x8 x9 x10, σ = [some (.ref ol), some (.int (i : Nat)), some (.ref tb), some (.ref s0), some (.ref ld), some (.ref od), x6, x7, x8, x9, x10])
    ⟨nt0, _, _, _, _, _, rfl⟩ (fun j σ H' _ h => SqL.of (h.1.1 _ _ t1)) (fun j x σ H1 H2 hj h yy => ?_) (fun σ H1 h => ?_)
  · obtain ⟨nt, x6, x7, x8, x9, x10, rfl⟩ := h
    obtain ⟨rfl, ex⟩ := yy
    obtain ⟨t, ht, rfl⟩ := Option.map_eq_some_iff.mp ((List.getElem?_map ..).symm.trans ex)
    have hj2 : j < ms.length := by rw [List.length_map, t2] at hj; exact hj
    obtain ⟨t', v, ht', tt⟩ := t3 j ms[j] (List.getElem?_eq_getElem hj2)
    rw [ht] at ht'
    cases ht'
    have hmj : ms[j] ∈ ms := List.getElem_mem hj2
    generalize hmv : ms[j] = mj at *
    refine ⟨t, _, rfl, SqT.of (nt.1 _ _ tt), rfl, _, _, rfl, _, _, rfl, rfl, ?_⟩
    have en : ((stSp D.its S i).2 + 1 - (stSp D.its S i).1).toNat = ((stSp D.its S i).2 - (stSp D.its S i).1).toNat + 1 := by omega
    refine ⟨_, rfl, _, _, rfl, (hS0.mono nt.1).low T, _, rfl, _, _, rfl, (hS0.mono nt.1).high T, _, _, rfl, rfl, _, _, rfl, ⟨by omega, by omega, by omega, by omega⟩, ?_⟩
    rw [en]
    refine for_it walk_range (fun k σ H' => NT H0 ld od ms (fun x => Img D.its S i (ms.take j) x ∨ ∃ l, (stSp D.its S i).1 ≤ l ∧ l < (stSp D.its S i).1 + (k : Int) ∧ x = stF D.its i mj l) H' ∧ ∃ x8 x9 x10, σ = [some (.ref ol), some (.int (i : Nat)), some (.ref tb), some (.ref s0), some (.ref ld), some (.ref od), some (.int mj), some (.int v), x8, x9, x10])
      ⟨nt.iff fun x => Iff.intro (fun h => Or.inl h) (fun h => h.elim id fun h => by obtain ⟨l, h1, h2, _⟩ := h; omega), _, _, _, rfl⟩ (fun _ _ _ _ _ => trivial) (fun k x σ H4 H5 hk h yy => ?_) (fun σ H4 h => ?_)
    · obtain ⟨nt2, y8, y9, y10, rfl⟩ := h
      obtain ⟨rfl, rfl⟩ := yy
      have hmem : ∀ x, (Img D.its S i (ms.take j) x ∨ ∃ l, (stSp D.its S i).1 ≤ l ∧ l < (stSp D.its S i).1 + (k : Int) ∧ x = stF D.its i mj l) → Img D.its S i ms x := fun x h => by
        rcases h with ⟨m, hm, h⟩ | ⟨l, h1, h2, h3⟩
        · exact ⟨m, List.mem_of_mem_take hm, h⟩
        · exact ⟨mj, hmj, l, h1, by omega, h3⟩
      have hsm := small _ _ nt2 hmem
      have nt3 := nt2
      obtain ⟨e4, ks, k1, k2, ⟨lkv, k3, k4, k5⟩, okv, k6, k7, k8⟩ := nt3
      obtain ⟨o4, ho4, hO4⟩ := (hL0.mono e4).order T
      refine ⟨_, rfl, _, _, rfl, ho4, _, rfl, _, rfl, _, rfl, _, _, _, _, rfl, o4, D, i, mj, _, rfl, rfl, rfl, rfl, hO4, ok, hi, ?_⟩
      refine ⟨_, rfl, _, rfl, _, _, rfl, rfl, _, rfl, _, _, rfl, (hS0.mono e4).low T, _, _, rfl, rfl, ?_⟩
      generalize hr' : stF D.its i mj ((stSp D.its S i).1 + (k : Int)) = r
      have dg := DGet.k (k := Sum.inl r) k3
      have grow : ∀ x, (Img D.its S i (ms.take j) x ∨ ∃ l, (stSp D.its S i).1 ≤ l ∧ l < (stSp D.its S i).1 + ((k + 1 : Nat) : Int) ∧ x = stF D.its i mj l) ↔ ((Img D.its S i (ms.take j) x ∨ ∃ l, (stSp D.its S i).1 ≤ l ∧ l < (stSp D.its S i).1 + (k : Int) ∧ x = stF D.its i mj l) ∨ x = r) := fun x => by
        constructor
        · rintro (h | ⟨l, h1, h2, h3⟩)
          · exact .inl (.inl h)
          · by_cases hl : l = (stSp D.its S i).1 + (k : Int)
            · exact .inr (by rw [h3, hl, hr'])
            · exact .inl (.inr ⟨l, h1, by omega, h3⟩)
        · rintro ((h | ⟨l, h1, h2, h3⟩) | h)
          · exact .inl h
          · exact .inr ⟨l, h1, by omega, h3⟩
          · exact .inr ⟨(stSp D.its S i).1 + (k : Int), by omega, by omega, by rw [h, ← hr']⟩
      have yes : ∀ n0 : Int, ∀ t5, upd H5 ld (.dK (putK lkv (Sum.inl r) (.int n0))) t5 = none → NT H0 ld od ms (fun x => Img D.its S i (ms.take j) x ∨ ∃ l, (stSp D.its S i).1 ≤ l ∧ l < (stSp D.its S i).1 + ((k + 1 : Nat) : Int) ∧ x = stF D.its i mj l)
          (upd (upd (upd H5 ld (.dK (putK lkv (Sum.inl r) (.int n0)))) t5 (.tup [.int mj, .int ((stSp D.its S i).1 + (k : Int))])) od (.dK (putK okv (Sum.inl r) (.ref t5)))) := fun n0 t5 ht5 =>
        (NT_put e4 k1 k2 k3 k4 k5 k6 k7 k8 hld hod0 nlo ht5 hmj).iff fun x => (grow x).symm
      have odAt : ∀ n0 : Int, ∀ t5, upd H5 ld (.dK (putK lkv (Sum.inl r) (.int n0))) t5 = none → (upd (upd H5 ld (.dK (putK lkv (Sum.inl r) (.int n0)))) t5 (.tup [.int mj, .int ((stSp D.its S i).1 + (k : Int))])) od = some (.dK okv) := fun n0 t5 ht5 => by
        have n1 : od ≠ t5 := fun z => by rw [← z, upd_ne nlo, k6] at ht5; cases ht5
        rw [upd_ne n1, upd_ne nlo]
        exact k6
      have hin := valV_in (r := r) k4
      cases hv : valV lkv (Sum.inl r) with
      | none =>
        rw [hv] at dg
        refine ⟨_, rfl, _, rfl, ld, _, rfl, dg, _, rfl, ?_⟩
        refine ⟨_, rfl, _, rfl, _, rfl, ld, _, rfl, DPut.k (k := Sum.inl r) k3 (hsm _ (.inl k3)), ?_⟩
        exact ⟨_, rfl, _, rfl, by show 2 ≤ sizeLine; decide, fun t5 ht5 => ⟨_, rfl, _, rfl, od, _, rfl, DPut.k (k := Sum.inl r) (odAt _ t5 ht5) (hsm _ (.inr k6)), yes _ t5 ht5, _, _, _, rfl⟩⟩
      | some v0 =>
        rw [hv] at dg hin
        have hr : r ∈ ks := of_decide_eq_true hin.symm
        obtain ⟨n0, hn0⟩ := k5 _ (valV_mem hv)
        dsimp only at hn0
        subst hn0
        refine ⟨_, rfl, _, rfl, ld, _, rfl, dg, _, rfl, ?_⟩
        refine ⟨_, rfl, _, rfl, _, rfl, ld, _, rfl, dg, _, _, rfl, rfl, _, rfl, if2 (fun _ => ?_) (fun _ => ?_)⟩
        · refine ⟨_, rfl, _, rfl, _, rfl, ld, _, rfl, DPut.k (k := Sum.inl r) k3 (hsm _ (.inl k3)), ?_⟩
          exact ⟨_, rfl, _, rfl, by show 2 ≤ sizeLine; decide, fun t5 ht5 => ⟨_, rfl, _, rfl, od, _, rfl, DPut.k (k := Sum.inl r) (odAt _ t5 ht5) (hsm _ (.inr k6)), yes _ t5 ht5, _, _, _, rfl⟩⟩
        · exact ⟨nt2.iff fun x => Iff.intro (fun h => (grow x).mpr (.inl h)) (fun h => ((grow x).mp h).elim id fun e => by rw [e]; exact (k2 r).mp hr), _, _, _, rfl⟩
    · obtain ⟨nt2, y8, y9, y10, rfl⟩ := h
      refine ⟨nt2.iff fun x => ?_, _, _, _, _, _, rfl⟩
      rw [take_next hj2, hmv]
      constructor
      · rintro (⟨m, hm, l, h1, h2, h3⟩ | ⟨l, h1, h2, h3⟩)
        · exact ⟨m, List.mem_append_left _ hm, l, h1, h2, h3⟩
        · exact ⟨mj, by simp, l, h1, by omega, h3⟩
      · rintro ⟨m, hm, l, h1, h2, h3⟩
        rcases List.mem_append.mp hm with hm | hm
        · exact .inl ⟨m, hm, l, h1, h2, h3⟩
        · have : m = mj := by simpa using hm
          subst this
          exact .inr ⟨l, h1, by omega, h3⟩
  · obtain ⟨nt, x6, x7, x8, x9, x10, rfl⟩ := h
    rw [List.take_of_length_le (by rw [List.length_map]; omega)] at nt
    have hsm := small _ _ nt fun x h => h
    obtain ⟨e4, ks, k1, k2, ⟨lkv, k3, k4, k5⟩, okv, k6, k7, k8⟩ := nt
    refine ⟨_, rfl, ld, lkv, ks, rfl, .inl k3, k4, fun ys p hperm hsort hp => ⟨p, rfl, ⟨_, SqL.of upd_same⟩, fun d hd => ?_⟩⟩
    have e5 : Ex H1 (upd H1 p (.lst (ys.map V.int))) := Ex.new hp
    have p5 : (upd H1 p (.lst (ys.map V.int))) p = some (.lst (ys.map V.int)) := upd_same
    have hd1 : H1 d = none := fresh_back e5 hd
    generalize upd H1 p (.lst (ys.map V.int)) = H5 at e5 p5 hd ⊢
    have yl : ys.length < 100000 := by
      have := hperm.length_eq
      have h2 := congrArg List.length k4
      rw [List.length_map, List.length_map] at h2
      have hlen : ks.length ≤ (n + 24).toNat + 1 := nodup_win (A := A') k1 fun x hx => by
        have := hA' x ((k2 x).mp hx)
        omega
      omega
    refine lc_it (walk_list (xs := ys.map V.int)) (fun j H' => Ex H5 H' ∧ ∃ ts' : List Addr, H' d = some (.lst (ts'.map V.ref)) ∧ ts'.length = j ∧ ∀ (c : Nat) (m : Int), c < j → ys[c]? = some m → ∃ (t : Addr) (v : Int), ts'[c]? = some t ∧ H' t = some (.tup [.int m, .int v]))
      ⟨Ex.new hd, [], upd_same, rfl, fun c m hc => absurd hc (Nat.not_lt_zero _)⟩ (fun j H' _ h => SqL.of (h.1 _ _ p5)) (fun j x H2 H3 hj h yy => ?_) (fun H2 h => ?_)
    · obtain ⟨e6, ts', g1, g2, g3⟩ := h
      obtain ⟨rfl, ex⟩ := yy
      obtain ⟨m, hm, rfl⟩ := Option.map_eq_some_iff.mp ((List.getElem?_map ..).symm.trans ex)
      have hj2 : j < ys.length := by rw [List.length_map] at hj; exact hj
      have hmk : m ∈ ks := hperm.mem_iff.mp (List.mem_of_getElem? hm)
      have hin := valV_in (r := m) k4
      rw [decide_eq_true hmk] at hin
      obtain ⟨v0, hv⟩ := Option.isSome_iff_exists.mp hin
      obtain ⟨n0, hn0⟩ := k5 _ (valV_mem hv)
      dsimp only at hn0
      subst hn0
      have dg := DGet.k (k := Sum.inl m) (e6 _ _ (e5 _ _ k3))
      rw [hv] at dg
      refine ⟨rfl, _, rfl, _, rfl, _, rfl, ld, _, rfl, dg, by show 2 ≤ sizeLine; decide, fun t ht => ?_⟩
      have ntd : t ≠ d := fun z => by rw [z, g1] at ht; cases ht
      have mu : Mut d (upd H3 t (.tup [.int m, .int n0])) (upd (upd H3 t (.tup [.int m, .int n0])) d (.lst (ts'.map V.ref ++ [.ref t]))) (.lst (ts'.map V.ref ++ [.ref t])) := Mut.upd
      refine ⟨_, (upd_ne ntd.symm).trans g1, sz_lt (by rw [List.length_map]; omega), (e6.trans (Ex.new ht)).mut hd, ts' ++ [t], by rw [upd_same, List.map_append]; rfl, by simp [g2], fun c m' hc hm' => ?_⟩
      by_cases hcj : c = j
      · subst hcj
        rw [hm] at hm'
        cases hm'
        exact ⟨t, n0, by rw [List.getElem?_append_right (by omega), g2, Nat.sub_self]; rfl, mu.1 _ _ ntd upd_same⟩
      · obtain ⟨t', v', q1, q2⟩ := g3 c m' (by omega) hm'
        have n1 : t' ≠ d := fun z => by rw [z, g1] at q2; cases q2
        exact ⟨t', v', by rw [List.getElem?_append_left (by omega)]; exact q1, mu.1 _ _ n1 (Ex.new ht _ _ q2)⟩
    · obtain ⟨e6, ts', g1, g2, g3⟩ := h
      rw [List.length_map] at g2 g3
      refine ⟨_, rfl, by show 2 ≤ sizeLine; decide, fun t ht => ?_⟩
      have e7 := Ex.new (o := .tup [.ref d, .ref od]) ht
      have eH : Ex H (upd H2 t (.tup [.ref d, .ref od])) := (((e0.trans e4).trans e5).trans e6).trans e7
      refine q t _ d od ys eH upd_same (fresh_back (e0.trans e4) hd1) (TabAt.mono ⟨ts', g1, g2, fun c m hm => g3 c m (List.getElem?_eq_some_iff.mp hm).1 hm⟩ e7) (OrgAt.mono ⟨okv, e6 _ _ (e5 _ _ k6), fun x hx => ?_⟩ e7) (hperm.nodup_iff.mpr k1) fun x => (hperm.mem_iff).trans (k2 x)
      have hxk : x ∈ ks := hperm.mem_iff.mp hx
      have hin := valV_in (r := x) k7
      rw [decide_eq_true hxk] at hin
      obtain ⟨v0, hv⟩ := Option.isSome_iff_exists.mp hin
      obtain ⟨t6, m6, l6, q1, q2, q3⟩ := k8 _ (valV_mem hv)
      dsimp only at q1
      subst q1
      exact ⟨t6, m6, l6, hv, e6 _ _ (e5 _ _ q2), q3⟩
end
end BB
namespace BB
open PySem PySem.Spec PyProof.Rows L2 He Evl
/-- range(n) -/
theorem walk_r0 {n : Nat} : Walk (Itr 0 n) n (fun _ => True) (YFn fun i => .int (i : Nat)) := (walk_range (lo := 0) (n := n)).mono (fun _ h => h) fun i H x H' _ _ y => ⟨y.1, by rw [y.2]; exact congrArg V.int (Int.zero_add _)⟩
/-- the moments, point by point, up to the N-th -/
structure TabsOk (its : List ItD) (S : SpD) (opens : Int) (tabs : List (List Int)) (N : Nat) : Prop where
  len : tabs.length = N + 1
  zero : tabs[0]? = some [opens]
  step : ∀ (k : Nat) (ms ms' : List Int), tabs[k]? = some ms → tabs[k + 1]? = some ms' → ∀ x, x ∈ ms' ↔ Img its S k ms x
  nd : ∀ (k : Nat) (ms : List Int), tabs[k]? = some ms → ms.Nodup
  win : ∀ (k : Nat) (ms : List Int), tabs[k]? = some ms → ∃ A : Int, ∀ m ∈ ms, A ≤ m ∧ m ≤ A + 24 * (k : Int)
theorem TabsOk.add {its : List ItD} {S : SpD} {opens : Int} {tabs : List (List Int)} {N : Nat} {ms ms' : List Int} (h : TabsOk its S opens tabs N) (ok : ItsOk its) (sok : SOk its S) (hN : N < 2 * its.length) (hm : tabs[N]? = some ms) (hs : ∀ x, x ∈ ms' ↔ Img its S N ms x) (hn : ms'.Nodup) : TabsOk its S opens (tabs ++ [ms']) (N + 1) := by
  have hl := h.len
  have low : ∀ k, k ≤ N → (tabs ++ [ms'])[k]? = tabs[k]? := fun k hk => List.getElem?_append_left (by omega)
  have top : (tabs ++ [ms'])[N + 1]? = some ms' := by rw [List.getElem?_append_right (by omega), hl, Nat.sub_self]; rfl
  have lt : ∀ k x, (tabs ++ [ms'])[k]? = some x → k ≤ N + 1 := fun k x hk => by
    have := (List.getElem?_eq_some_iff.mp hk).1
    rw [List.length_append, hl] at this
    simp at this
    omega
  refine ⟨by simp [hl], by rw [low 0 (by omega)]; exact h.zero, fun k a b ha hb => ?_, fun k a ha => ?_, fun k a ha => ?_⟩
  · have h1 := lt _ _ hb
    by_cases hk : k = N
    · subst hk
      rw [low k (Nat.le_refl _), hm] at ha
      rw [top] at hb
      cases ha
      cases hb
      exact hs
    · rw [low k (by omega)] at ha
      rw [low (k + 1) (by omega)] at hb
      exact h.step k a b ha hb
  · have h1 := lt _ _ ha
    by_cases hk : k = N + 1
    · subst hk
      rw [top] at ha
      cases ha
      exact hn
    · rw [low k (by omega)] at ha
      exact h.nd k a ha
  · have h1 := lt _ _ ha
    by_cases hk : k = N + 1
    · subst hk
      rw [top] at ha
      cases ha
      obtain ⟨A, hA⟩ := h.win N ms hm
      obtain ⟨A', hA'⟩ := img_win ok sok hN hA (by omega)
      refine ⟨A', fun m hm' => ?_⟩
      have := hA' m ((hs m).mp hm')
      omega
    · rw [low k (by omega)] at ha
      exact h.win k a ha
section
variable {K : PySem.W.Frag} {mg : Str → Option Value} {w : World} {base : Heap} {H H' : Hp} {a : Addr} {it : ItD} {D : DyD} {S : SpD}
theorem TabAt.mut {tb d : Addr} {ms : List Int} {o : HO} (h : TabAt H tb ms) (n : tb ≠ d) (hd : ∀ vs, H d ≠ some (.tup vs)) (m : Mut d H H' o) : TabAt H' tb ms := by
  obtain ⟨ts, h1, h2, h3⟩ := h
  refine ⟨ts, m.1 _ _ n h1, h2, fun i m' hm => ?_⟩
  obtain ⟨t, v, g1, g2⟩ := h3 i m' hm
  exact ⟨t, v, g1, m.1 _ _ (fun z => by rw [z] at g2; exact hd _ g2) g2⟩
theorem OrgAt.mut {od d : Addr} {ms' ms : List Int} {o : HO} (h : OrgAt H od ms' ms) (hd1 : ∀ kvs, H d ≠ some (.dK kvs)) (hd : ∀ vs, H d ≠ some (.tup vs)) (m : Mut d H H' o) : OrgAt H' od ms' ms := by
  obtain ⟨kvs, h1, h2⟩ := h
  refine ⟨kvs, m.1 _ _ (fun z => by rw [z] at h1; exact hd1 _ h1) h1, fun x hx => ?_⟩
  obtain ⟨t, m', l, g1, g2, g3⟩ := h2 x hx
  exact ⟨t, m', l, g1, m.1 _ _ (fun z => by rw [z] at g2; exact hd _ g2) g2, g3⟩
/-- a reach's lists -/
structure RLists (H : Hp) (tl orl : Addr) (tabs : List (List Int)) (tas ods : List Addr) : Prop where
  tlE : H tl = some (.lst (tas.map V.ref))
  tlen : tas.length = tabs.length
  tat : ∀ (k : Nat) (ms : List Int), tabs[k]? = some ms → ∃ b, tas[k]? = some b ∧ b ≠ tl ∧ b ≠ orl ∧ TabAt H b ms
  olE : H orl = some (.lst (ods.map V.ref))
  olen : ods.length = tabs.length
  oat : ∀ (k : Nat) (ms ms' : List Int), tabs[k]? = some ms → tabs[k + 1]? = some ms' → ∃ b, ods[k + 1]? = some b ∧ OrgAt H b ms' ms
def ReachAt (K : PySem.W.Frag) (H : Hp) (r ol : Addr) (D : DyD) (S : SpD) (tabs : List (List Int)) : Prop := TabsOk D.its S D.opens tabs (2 * D.its.length) ∧ ∃ (tl orl ll : Addr) (tas ods lds : List Addr), Ins K H r "Reach" [("outlook", .ref ol), ("tables", .ref tl), ("_origins", .ref orl), ("_least", .ref ll)] ∧ RLists H tl orl tabs tas ods ∧
  H ll = some (.lst (lds.map V.ref)) ∧ lds.length = tabs.length ∧ ∀ (k : Nat) (ms : List Int), tabs[k]? = some ms → ∃ b kvs, lds[k]? = some b ∧ H b = some (.dK kvs) ∧ ∀ x ∈ ms, (valV kvs (Sum.inl x)).isSome = true
theorem RLists.mono {tl orl : Addr} {tabs : List (List Int)} {tas ods : List Addr} (h : RLists H tl orl tabs tas ods) (e : Ex H H') : RLists H' tl orl tabs tas ods :=
  ⟨e _ _ h.tlE, h.tlen, fun k ms hk => by
    obtain ⟨b, h1, h2, h3, h4⟩ := h.tat k ms hk
    exact ⟨b, h1, h2, h3, h4.mono e⟩, e _ _ h.olE, h.olen, fun k ms ms' h1 h2 => by
    obtain ⟨b, h3, h4⟩ := h.oat k ms ms' h1 h2
    exact ⟨b, h3, h4.mono e⟩⟩
theorem RLists.mutI {tl orl y C dx : Addr} {fs : List (Str × V)} {o : HO} {tabs : List (List Int)} {tas ods : List Addr} (h : RLists H tl orl tabs tas ods) (hy : H y = some (.ins C dx fs)) (m : Mut y H H' o) : RLists H' tl orl tabs tas ods := by
  have k1 : ∀ vs, H y ≠ some (.tup vs) := fun vs z => by rw [hy] at z; cases z
  have k2 : ∀ kvs, H y ≠ some (.dK kvs) := fun vs z => by rw [hy] at z; cases z
  refine ⟨m.1 _ _ (fun z => by have := h.tlE; rw [z, hy] at this; cases this) h.tlE, h.tlen, fun k ms hk => ?_, m.1 _ _ (fun z => by have := h.olE; rw [z, hy] at this; cases this) h.olE, h.olen, fun k ms ms' h1 h2 => ?_⟩
  · obtain ⟨b, q1, q2, q3, q4⟩ := h.tat k ms hk
    refine ⟨b, q1, q2, q3, q4.mut (fun z => ?_) k1 m⟩
    obtain ⟨ts, q5, _⟩ := q4
    rw [z, hy] at q5
    cases q5
  · obtain ⟨b, q1, q2⟩ := h.oat k ms ms' h1 h2
    exact ⟨b, q1, q2.mut k2 k1 m⟩
theorem ReachAt.mono {r ol : Addr} {tabs : List (List Int)} (h : ReachAt K H r ol D S tabs) (e : Ex H H') : ReachAt K H' r ol D S tabs := by
  obtain ⟨h0, tl, orl, ll, tas, ods, lds, h1, h2, h3, h4, h5⟩ := h
  refine ⟨h0, tl, orl, ll, tas, ods, lds, h1.mono e, h2.mono e, e _ _ h3, h4, fun k ms hk => ?_⟩
  obtain ⟨b, kvs, g1, g2, g3⟩ := h5 k ms hk
  exact ⟨b, kvs, g1, e _ _ g2, g3⟩
/-- dict(..) of a table -/
theorem merge_new : ∀ {more kvs : List (Key × V)}, ((kvs ++ more).map (·.1)).Nodup → mergeK kvs more = kvs ++ more
  | [], kvs, _ => by
    show kvs = kvs ++ []
    rw [List.append_nil]
  | p :: r, kvs, h => by
    show mergeK (putK kvs p.1 p.2) r = kvs ++ p :: r
    have hno : valV kvs p.1 = none := valV_none fun q hq e => by
      rw [List.map_append, List.nodup_append] at h
      exact h.2.2 _ (List.mem_map_of_mem (f := fun q : Key × V => q.1) hq) _ (by rw [List.map_cons]; exact List.mem_cons_self) e
    rw [putK_new hno, merge_new (by rw [List.append_assoc]; exact h), List.append_assoc]
    rfl
def sp_Reach_init (K : PySem.W.Frag) : Sp := S2 fun a b H Q => ∃ (y dx ol : Addr) (D : DyD) (S : SpD) (B : Hp), a = .ref y ∧ H y = some (.ins (ga K "Reach") dx []) ∧ b = .ref ol ∧ Off y B H ∧ OutlookAt K B ol D S ∧ ItsOk D.its ∧ SOk D.its S ∧
  ∀ (H' : Hp) (tl orl ll : Addr) (tabs : List (List Int)), Mut y H H' (.ins (ga K "Reach") dx [("outlook", .ref ol), ("tables", .ref tl), ("_origins", .ref orl), ("_least", .ref ll)]) → ReachAt K H' y ol D S tabs → Q .non H'
theorem ok_Reach_init (T : TX K mg w) : FnR PP w K mg base CX0 5 (ma K (ga K "Reach") "__init__") (sp_Reach_init K) := by
  refine mkS2 (bn T.f_Reach_init (fun _ _ _ _ _ _ us hl => match us, hl with | [_, _], _ => rfl)) sc_Reach_init fun cdv A outer s H a b Q E hr h => ?_
  refine ⟨_, (pss_cons (ps_set (i := 2) sc_Reach_init.nd rfl (Or.inl rfl) (pe_lst (pa_cons (pe_lst (pa_cons (pe_tup (pa_cons (pe_f (pe_f (pv 1))) (pa_cons pe_int pa_nil))) pa_nil)) pa_nil)))
      (pss_cons (ps_set (i := 3) sc_Reach_init.nd rfl (Or.inl rfl) (pe_lst (pa_cons pe_dnewK pa_nil)))
      (pss_cons (ps_for PassesOwn.never rfl (pi_range1 rfl T.n_range (pa_cons (pe_op op_sub (pe_pr T.c_Order (pr_Order_points T) (hr.mono (by decide)) (pe_f (pv 1))) pe_int) pa_nil)) (pg_name (i := 4) sc_Reach_init.nd rfl (Or.inl rfl))
        (pss_cons (ps_asg (pe_fn (ok_next_table T) (hr.mono (by decide)) T.kp_next_table T.g_next_table (pa_cons (pv 1) (pa_cons (pv 4) (pa_cons (pe_ix ix_list (pv 2) (pv 4) (fun _ _ => rfl)) pa_nil)))) (pg_tup rfl (pgs_cons (pg_name (i := 5) sc_Reach_init.nd rfl (Or.inl rfl)) (pgs_cons (pg_name (i := 6) sc_Reach_init.nd rfl (Or.inl rfl)) pgs_nil))))
      (pss_cons (ps_expr (pe_bm PySem.F.plainAttrs_list PySem.F.slot_list_append PySem.F.type_list_append mt_append (pv 2) (pa_cons (pv 5) pa_nil)))
      (pss_one (ps_expr (pe_bm PySem.F.plainAttrs_list PySem.F.slot_list_append PySem.F.type_list_append mt_append (pv 3) (pa_cons (pv 6) pa_nil)))))))
      (pss_cons (ps_fld (pv 0) (pv 1) rfl)
      (pss_cons (ps_fld (pv 0) (pv 2) rfl)
      (pss_cons (ps_fld (pv 0) (pv 3) rfl)
      (pss_one (ps_fld (pv 0) (pe_lcD (own := [("table", 5)]) rfl sc_Reach_init.nd (pi_list (pv 2)) (blkOk_by (N := N_Reach_init) (sc := defScope s_Reach_init) (by decide +kernel)) (fun _ _ _ _ _ => (pg_name (i := 5) sc_Reach_init.nd rfl (Or.inl rfl))) (fun _ _ _ _ _ => pts_nil) (fun _ _ _ _ _ => (pe_callTy (call_dictP rfl) (by rfl) T.n_dict (by decide +kernel) (pa_cons (pv 5) pa_nil)))) rfl)))))))), ?_⟩
  obtain ⟨y, dx, ol, D, S, B, rfl, hy, rfl, hB, hL, ok, sok, q⟩ := h
  have l8 := ok.len
  have eB := hB.ex0
  obtain ⟨o, ho1, ho2⟩ := (hL.mono eB).order T
  have hop := ho2.opens T
  refine ⟨_, rfl, _, _, rfl, ho1, _, _, rfl, hop, by show 2 ≤ sizeLine; decide, fun t0 ht0 => ?_⟩
  refine ⟨by show 1 ≤ sizeLine; decide, fun b0 hb0 => ⟨by show 1 ≤ sizeLine; decide, fun tl htl => ?_⟩⟩
  intro d0 hd0
  refine ⟨by show 1 ≤ sizeLine; decide, fun orl horl => ?_⟩
  have n1 : b0 ≠ t0 := fun z => by rw [z, upd_same] at hb0; cases hb0
  have e1 : Ex H (upd (upd (upd (upd (upd H t0 (.tup [.int D.opens, .int 0])) b0 (.lst [.ref t0])) tl (.lst [.ref b0])) d0 (.dK [])) orl (.lst [.ref d0])) := ((((Ex.new ht0).trans (Ex.new hb0)).trans (Ex.new htl)).trans (Ex.new hd0)).trans (Ex.new horl)
  have c1 : (upd (upd H t0 (.tup [.int D.opens, .int 0])) b0 (.lst [.ref t0])) t0 = some (.tup [.int D.opens, .int 0]) := (upd_ne n1.symm).trans upd_same
  have c2 : (upd (upd H t0 (.tup [.int D.opens, .int 0])) b0 (.lst [.ref t0])) b0 = some (.lst [.ref t0]) := upd_same
  have c3 := Ex.new (o := .lst [.ref b0]) htl
  have c4 := Ex.new (o := .dK []) hd0
  have c5 := Ex.new (o := .lst [.ref d0]) horl
  have hb1 := c3 _ _ c2
  have n2 : tl ≠ b0 := fun z => by rw [z, c2] at htl; cases htl
  have htl1 : (upd (upd (upd H t0 (.tup [.int D.opens, .int 0])) b0 (.lst [.ref t0])) tl (.lst [.ref b0])) tl = some (.lst [.ref b0]) := upd_same
  have n3 : orl ≠ tl := fun z => by rw [z, c4 _ _ htl1] at horl; cases horl
  have n4 : orl ≠ b0 := fun z => by rw [z, c4 _ _ hb1] at horl; cases horl
  have n5 : H tl = none := fresh_back ((Ex.new ht0).trans (Ex.new hb0)) htl
  have n6 : H orl = none := fresh_back (((((Ex.new ht0).trans (Ex.new hb0)).trans (Ex.new htl)).trans (Ex.new hd0))) horl
  have R0 : RLists (upd (upd (upd (upd (upd H t0 (.tup [.int D.opens, .int 0])) b0 (.lst [.ref t0])) tl (.lst [.ref b0])) d0 (.dK [])) orl (.lst [.ref d0])) tl orl [[D.opens]] [b0] [d0] := by
    refine ⟨c5 _ _ (c4 _ _ htl1), rfl, fun k ms hk => ?_, upd_same, rfl, fun k ms ms' h1 h2 => (by cases h2)⟩
    match k, hk with
    | 0, hk =>
      cases hk
      refine ⟨b0, rfl, n2.symm, n4.symm, [t0], c5 _ _ (c4 _ _ hb1), rfl, fun i m hm => ?_⟩
      match i, hm with
      | 0, hm =>
        cases hm
        exact ⟨t0, 0, rfl, c5 _ _ (c4 _ _ (c3 _ _ c1))⟩
  have TO0 : TabsOk D.its S D.opens [[D.opens]] 0 := by
    refine ⟨rfl, rfl, fun k ms ms' h1 h2 => (by cases h2), fun k ms hk => ?_, fun k ms hk => ?_⟩
    · match k, hk with
      | 0, hk =>
        cases hk
        exact List.nodup_cons.mpr ⟨List.not_mem_nil, List.nodup_nil⟩
    · match k, hk with
      | 0, hk =>
        cases hk
        exact ⟨D.opens, fun m hm => by
          have : m = D.opens := by simpa using hm
          omega⟩
  generalize upd (upd (upd (upd (upd H t0 (.tup [.int D.opens, .int 0])) b0 (.lst [.ref t0])) tl (.lst [.ref b0])) d0 (.dK [])) orl (.lst [.ref d0]) = H1 at e1 R0 ⊢
  have hL1 := hL.mono (eB.trans e1)
  obtain ⟨o1, ho1, hO1⟩ := hL1.order T
  have hO2 := hO1
  obtain ⟨hox, tpx, ndx, isx, ⟨dx3, hins3⟩, _⟩ := hO1
  have en : (2 * (D.its.length : Int) + 1 - 1).toNat = 2 * D.its.length := by omega
  refine ⟨_, rfl, _, _, rfl, ho1, o1, dx3, _, rfl, hins3, _, rfl, o1, D, rfl, hO2, _, _, rfl, rfl, ?_⟩
  refine ⟨2 * (D.its.length : Int) + 1 - 1, rfl, by omega, by omega, ?_⟩
  rw [en]
  refine for_it walk_r0 (fun i σ H' => Ex H H' ∧ (∃ (tabs : List (List Int)) (tas ods : List Addr), TabsOk D.its S D.opens tabs i ∧ RLists H' tl orl tabs tas ods) ∧ ∃ x4 x5 x6, σ = [some (.ref y), some (.ref ol), some (.ref tl), some (.ref orl), x4, x5, x6])
    ⟨e1, ⟨_, _, _, TO0, R0⟩, _, _, _, rfl⟩ (fun _ _ _ _ _ => trivial) (fun i x σ H2 H3 hi h yy => ?_) (fun σ H2 h => ?_)
  · obtain ⟨e2, ⟨tabs, tas, ods, TO, R⟩, x4, x5, x6, rfl⟩ := h
    obtain ⟨rfl, rfl⟩ := yy
    have hlt : i < tabs.length := by rw [TO.len]; omega
    have hg := List.getElem?_eq_getElem hlt
    generalize tabs[i] = ms at hg
    obtain ⟨b, hb, hb2, hb3, hT⟩ := R.tat i ms hg
    obtain ⟨A, hA⟩ := TO.win i ms hg
    refine ⟨_, rfl, _, rfl, _, rfl, _, rfl, tl, _, _, .ref b, rfl, rfl, SqL.of R.tlE, atI_nat (by rw [List.getElem?_map, hb]; rfl), _, _, _, rfl, ol, b, D, S, i, ms, A, 24 * (i : Int), rfl, rfl, rfl, hL.mono (eB.trans e2), ok, sok, hi, hT, hA, by omega, by omega, fun t H4 tb' od' ms' e4 ht hfr hT' hO' hn' hm' => ?_⟩
    have R4 := R.mono e4
    have ntl : tb' ≠ tl := fun z => by rw [z, R.tlE] at hfr; cases hfr
    have nol : tb' ≠ orl := fun z => by rw [z, R.olE] at hfr; cases hfr
    refine ⟨t, _, rfl, SqT.of ht, rfl, _, _, rfl, _, _, rfl, rfl, ?_⟩
    refine ⟨_, rfl, .inl ⟨rfl, _, SqL.of R4.tlE⟩, _, rfl, tl, _, _, rfl, rfl, R4.tlE, sz_lt (by rw [List.length_map, R.tlen, TO.len]; omega), ?_⟩
    have mu : Mut tl H4 (upd H4 tl (.lst (tas.map V.ref ++ [.ref tb']))) (.lst (tas.map V.ref ++ [.ref tb'])) := Mut.upd
    have k1 : ∀ vs, H4 tl ≠ some (.tup vs) := fun vs z => by rw [R4.tlE] at z; cases z
    have k2 : ∀ kvs, H4 tl ≠ some (.dK kvs) := fun vs z => by rw [R4.tlE] at z; cases z
    have ol5 := mu.1 _ _ n3 R4.olE
    have e5 : Ex H (upd H4 tl (.lst (tas.map V.ref ++ [.ref tb']))) := (e2.trans e4).mut n5
    have hT5 := hT'.mut ntl k1 mu
    have hO5 := hO'.mut k2 k1 mu
    have tat5 : ∀ (k : Nat) (ms : List Int), tabs[k]? = some ms → ∃ b, tas[k]? = some b ∧ b ≠ tl ∧ b ≠ orl ∧ TabAt (upd H4 tl (.lst (tas.map V.ref ++ [.ref tb']))) b ms := fun k ms hk => by
      obtain ⟨b, q1, q2, q3, q4⟩ := R4.tat k ms hk
      exact ⟨b, q1, q2, q3, q4.mut q2 k1 mu⟩
    have oat5 : ∀ (k : Nat) (ms ms' : List Int), tabs[k]? = some ms → tabs[k + 1]? = some ms' → ∃ b, ods[k + 1]? = some b ∧ OrgAt (upd H4 tl (.lst (tas.map V.ref ++ [.ref tb']))) b ms' ms := fun k ms ms' h1 h2 => by
      obtain ⟨b, q1, q2⟩ := R4.oat k ms ms' h1 h2
      exact ⟨b, q1, q2.mut k2 k1 mu⟩
    have tl5 := mu.2
    generalize upd H4 tl (.lst (tas.map V.ref ++ [.ref tb'])) = H5 at ol5 e5 hT5 hO5 tat5 oat5 tl5 ⊢
    refine ⟨_, rfl, .inl ⟨rfl, _, SqL.of ol5⟩, _, rfl, orl, _, _, rfl, rfl, ol5, sz_lt (by rw [List.length_map, R.olen, TO.len]; omega), ?_⟩
    have mu6 : Mut orl H5 (upd H5 orl (.lst (ods.map V.ref ++ [.ref od']))) (.lst (ods.map V.ref ++ [.ref od'])) := Mut.upd
    have k3 : ∀ vs, H5 orl ≠ some (.tup vs) := fun vs z => by rw [ol5] at z; cases z
    have k4 : ∀ kvs, H5 orl ≠ some (.dK kvs) := fun vs z => by rw [ol5] at z; cases z
    refine ⟨e5.mut n6, ⟨tabs ++ [ms'], tas ++ [tb'], ods ++ [od'], TO.add ok sok hi hg hm' hn', mu6.1 _ _ n3.symm (by rw [tl5, List.map_append]; rfl), by simp [R.tlen], fun k a ha => ?_, by rw [upd_same, List.map_append]; rfl, by simp [R.olen], fun k a a' ha ha' => ?_⟩, _, _, _, rfl⟩
    · by_cases hk : k < tabs.length
      · rw [List.getElem?_append_left hk] at ha
        obtain ⟨b, q1, q2, q3, q4⟩ := tat5 k a ha
        exact ⟨b, by rw [List.getElem?_append_left (by rw [R.tlen]; exact hk)]; exact q1, q2, q3, q4.mut q3 k3 mu6⟩
      · rw [List.getElem?_append_right (by omega)] at ha
        have h0 : k - tabs.length = 0 := by
          have := (List.getElem?_eq_some_iff.mp ha).1
          simp at this
          omega
        rw [h0] at ha
        cases ha
        exact ⟨tb', by rw [List.getElem?_append_right (by rw [R.tlen]; omega), R.tlen, h0]; rfl, ntl, nol, hT5.mut nol k3 mu6⟩
    · by_cases hk : k + 1 < tabs.length
      · rw [List.getElem?_append_left (by omega)] at ha
        rw [List.getElem?_append_left hk] at ha'
        obtain ⟨b, q1, q2⟩ := oat5 k a a' ha ha'
        exact ⟨b, by rw [List.getElem?_append_left (by rw [R.olen]; exact hk)]; exact q1, q2.mut k4 k3 mu6⟩
      · rw [List.getElem?_append_right (by omega)] at ha'
        have h0 : k + 1 - tabs.length = 0 := by
          have := (List.getElem?_eq_some_iff.mp ha').1
          simp at this
          omega
        rw [h0] at ha'
        cases ha'
        have hki : k = i := by have := TO.len; omega
        subst hki
        rw [List.getElem?_append_left hlt, hg] at ha
        cases ha
        exact ⟨od', by rw [List.getElem?_append_right (by rw [R.olen]; omega), R.olen, h0]; rfl, hO5.mut k4 k3 mu6⟩
  · obtain ⟨e2, ⟨tabs, tas, ods, TO, R⟩, x4, x5, x6, rfl⟩ := h
    have hy2 := e2 _ _ hy
    have nt : tl ≠ y := fun z => by have := R.tlE; rw [z, hy2] at this; cases this
    refine ⟨_, rfl, _, rfl, y, _, dx, _, rfl, hy2, T.c_Reach, T.a_Reach_outlook, ltK rfl, ?_⟩
    refine ⟨_, rfl, _, rfl, y, _, dx, _, rfl, upd_same, T.c_Reach, T.a_Reach_tables, ltK rfl, ?_⟩
    refine ⟨_, rfl, _, rfl, y, _, dx, _, rfl, upd_same, T.c_Reach, T.a_Reach__origins, ltK rfl, ?_⟩
    have m1 : Mut y H2 (upd (upd (upd H2 y (.ins (ga K "Reach") dx (putF "outlook" (.ref ol) []))) y (.ins (ga K "Reach") dx (putF "tables" (.ref tl) (putF "outlook" (.ref ol) [])))) y (.ins (ga K "Reach") dx (putF "_origins" (.ref orl) (putF "tables" (.ref tl) (putF "outlook" (.ref ol) [])))))
      (.ins (ga K "Reach") dx [("outlook", .ref ol), ("tables", .ref tl), ("_origins", .ref orl)]) := Mut.upd.then_upd.then_upd
    have R3 : RLists (upd (upd (upd H2 y (.ins (ga K "Reach") dx (putF "outlook" (.ref ol) []))) y (.ins (ga K "Reach") dx (putF "tables" (.ref tl) (putF "outlook" (.ref ol) [])))) y (.ins (ga K "Reach") dx (putF "_origins" (.ref orl) (putF "tables" (.ref tl) (putF "outlook" (.ref ol) []))))) tl orl tabs tas ods := R.mutI hy2 m1
    generalize upd (upd (upd H2 y (.ins (ga K "Reach") dx (putF "outlook" (.ref ol) []))) y (.ins (ga K "Reach") dx (putF "tables" (.ref tl) (putF "outlook" (.ref ol) [])))) y (.ins (ga K "Reach") dx (putF "_origins" (.ref orl) (putF "tables" (.ref tl) (putF "outlook" (.ref ol) [])))) = H3 at m1 R3 ⊢
    refine ⟨_, rfl, tl, rfl, ⟨_, SqL.of R3.tlE⟩, fun d hd => ?_⟩
    refine lc_it (walk_list (xs := tas.map V.ref)) (fun j H' => Ex H3 H' ∧ ∃ lds : List Addr, H' d = some (.lst (lds.map V.ref)) ∧ lds.length = j ∧ ∀ (k : Nat) (ms : List Int), k < j → tabs[k]? = some ms → ∃ b kvs, lds[k]? = some b ∧ H' b = some (.dK kvs) ∧ ∀ x ∈ ms, (valV kvs (Sum.inl x)).isSome = true)
      ⟨Ex.new hd, [], upd_same, rfl, fun k ms hk => absurd hk (Nat.not_lt_zero _)⟩ (fun j H' _ h => SqL.of (h.1 _ _ R3.tlE)) (fun j x H4 H5 hj h yy => ?_) (fun H4 h => ?_)
    · obtain ⟨e4, lds, g1, g2, g3⟩ := h
      obtain ⟨rfl, ex⟩ := yy
      obtain ⟨b, hb, rfl⟩ := Option.map_eq_some_iff.mp ((List.getElem?_map ..).symm.trans ex)
      have hj2 : j < tabs.length := by rw [List.length_map, R3.tlen] at hj; exact hj
      have hg := List.getElem?_eq_getElem hj2
      generalize tabs[j] = ms at hg
      obtain ⟨b', hb', _, _, hT⟩ := (R3.mono e4).tat j ms hg
      rw [hb] at hb'
      cases hb'
      obtain ⟨ts, t1, t2, t3⟩ := hT
      have jl : tabs.length ≤ 17 := by rw [TO.len]; omega
      have hkv : ∃ kvs : List (Key × V), Paired (fun p kv => SqT K H5 p [kV kv.1, kv.2]) ts kvs ∧ kvs.map (·.1) = ms.map Sum.inl := by
        have : ∀ (ms : List Int) (ts : List Addr), ts.length = ms.length → (∀ (i : Nat) (m : Int), ms[i]? = some m → ∃ (t : Addr) (v : Int), ts[i]? = some t ∧ H5 t = some (.tup [.int m, .int v])) →
            ∃ kvs : List (Key × V), Paired (fun p kv => SqT K H5 p [kV kv.1, kv.2]) ts kvs ∧ kvs.map (·.1) = ms.map Sum.inl := by
          intro ms
          induction ms with
          | nil =>
            intro ts hl _
            cases ts with
            | nil => exact ⟨[], .nil, rfl⟩
            | cons _ _ => cases hl
          | cons m ms ih =>
            intro ts hl h
            cases ts with
            | nil => cases hl
            | cons t ts =>
              obtain ⟨kvs, p1, p2⟩ := ih ts (by simpa using hl) fun i m' hm => h (i + 1) m' hm
              obtain ⟨t', v, q1, q2⟩ := h 0 m rfl
              cases q1
              exact ⟨(Sum.inl m, .int v) :: kvs, .cons (SqT.of q2) p1, by rw [List.map_cons, List.map_cons, p2]⟩
        exact this ms ts t2 t3
      obtain ⟨kvs, hp, hk⟩ := hkv
      have hnd : (kvs.map (·.1)).Nodup := by
        rw [hk]
        have := TO.nd j ms hg
        rw [List.nodup_iff_pairwise_ne, List.pairwise_map]
        rw [List.nodup_iff_pairwise_ne] at this
        exact this.imp fun e z => e (Sum.inl.inj z)
      have hmg : mergeK [] kvs = kvs := merge_new (kvs := []) hnd
      refine ⟨rfl, _, rfl, b, ts, kvs, rfl, SqL.of t1, hp, fun c hc => ?_⟩
      rw [hmg]
      have ncd : c ≠ d := fun z => by rw [z, g1] at hc; cases hc
      have e5 := Ex.new (o := .dK kvs) hc
      have mu : Mut d (upd H5 c (.dK kvs)) (upd (upd H5 c (.dK kvs)) d (.lst (lds.map V.ref ++ [.ref c]))) (.lst (lds.map V.ref ++ [.ref c])) := Mut.upd
      refine ⟨_, e5 _ _ g1, sz_lt (by rw [List.length_map]; omega), (e4.trans e5).mut hd, lds ++ [c], by rw [upd_same, List.map_append]; rfl, by simp [g2], fun k ms' hk' hms' => ?_⟩
      by_cases hkj : k = j
      · subst hkj
        rw [hg] at hms'
        cases hms'
        exact ⟨c, kvs, by rw [List.getElem?_append_right (by omega), g2, Nat.sub_self]; rfl, mu.1 _ _ ncd upd_same, fun x hx => by rw [valV_in hk, decide_eq_true hx]⟩
      · obtain ⟨b', kvs', q1, q2, q3⟩ := g3 k ms' (by omega) hms'
        exact ⟨b', kvs', by rw [List.getElem?_append_left (by omega)]; exact q1, mu.1 _ _ (fun z => by rw [z, g1] at q2; cases q2) (e5 _ _ q2), q3⟩
    · obtain ⟨e4, lds, g1, g2, g3⟩ := h
      rw [List.length_map, R3.tlen] at g2 g3
      have m2 := m1.exr e4
      refine ⟨_, rfl, y, _, dx, _, rfl, m2.2, T.c_Reach, T.a_Reach__least, ltK rfl, ?_⟩
      have mu : Mut y H4 (upd H4 y (.ins (ga K "Reach") dx [("outlook", .ref ol), ("tables", .ref tl), ("_origins", .ref orl), ("_least", .ref d)])) (.ins (ga K "Reach") dx [("outlook", .ref ol), ("tables", .ref tl), ("_origins", .ref orl), ("_least", .ref d)]) := Mut.upd
      refine q _ tl orl d tabs (Mut.exl e2 (m2.trans mu)) ⟨TO, tl, orl, d, tas, ods, lds, ⟨dx, mu.2⟩, (R3.mono e4).mutI m2.2 mu, mu.1 _ _ (fun z => by rw [z, m2.2] at g1; cases g1) g1, g2, fun k ms hk => ?_⟩
      obtain ⟨b, kvs, q1, q2, q3⟩ := g3 k ms (List.getElem?_eq_some_iff.mp hk).1 hk
      exact ⟨b, kvs, q1, mu.1 _ _ (fun z => by rw [z, m2.2] at q2; cases q2) q2, q3⟩
def spm_Reach (K : PySem.W.Frag) : Sp := S1 fun b H Q => ∃ (ol : Addr) (D : DyD) (S : SpD), b = .ref ol ∧ OutlookAt K H ol D S ∧ ItsOk D.its ∧ SOk D.its S ∧ ∀ p H' tabs, H p = none → Ex H H' → ReachAt K H' p ol D S tabs → Q (.ref p) H'
theorem ct_Reach (T : TX K mg w) : Ctor PP w K mg base 5 "Reach" (ga K "Reach") (spm_Reach K) := by
  refine ⟨_, _, T.k_Reach, T.g_Reach, ok_Reach_init T, fun vs H Q h y dx hy hd ne => ?_⟩
  obtain ⟨b, rfl, ol, D, S, rfl, hL, ok, sok, q⟩ := h
  refine ⟨_, _, rfl, y, dx, ol, D, S, H, rfl, upd_same, rfl, Off.new hy hd, hL, ok, sok, fun H' tl orl ll tabs m hR => ⟨rfl, ?_⟩⟩
  exact q y H' tabs hy (exNew m hy hd) hR
end
end BB
namespace BB
open PySem PySem.Spec PyProof.Rows L2 He Evl
section
variable {K : PySem.W.Frag} {mg : Str → Option Value} {w : World} {base : Heap} {H H' : Hp} {a : Addr} {it : ItD} {D : DyD} {S : SpD}
theorem ReachAt.ins {r ol : Addr} {tabs : List (List Int)} (h : ReachAt K H r ol D S tabs) : ∃ (dx tl orl ll : Addr), H r = some (.ins (ga K "Reach") dx [("outlook", .ref ol), ("tables", .ref tl), ("_origins", .ref orl), ("_least", .ref ll)]) := by
  obtain ⟨_, tl, orl, ll, _, _, _, ⟨dx, h⟩, _⟩ := h
  exact ⟨dx, tl, orl, ll, h⟩
def sp_Reach_check_point (K : PySem.W.Frag) : Sp := S2 fun a b H Q => ∃ (r ol : Addr) (D : DyD) (S : SpD) (tabs : List (List Int)) (p : Nat), a = .ref r ∧ b = .int (p : Nat) ∧ ReachAt K H r ol D S tabs ∧ p < tabs.length ∧ Q .non H
theorem ok_Reach_check_point (T : TX K mg w) : FnR PP w K mg base CX0 3 (ma K (ga K "Reach") "_check_point") (sp_Reach_check_point K) := by
  refine mkS2 (bn T.f_Reach_check_point (fun _ _ _ _ _ _ us hl => match us, hl with | [_, _], _ => rfl)) sc_Reach_check_point fun cdv A outer s H a b Q E hr h => ?_
  refine ⟨_, (pss_one (ps_if (pt_not (pt_chain op_le op_lt pe_int (pv 1) (pe_callB call_len_seq (by rfl) T.n_len (by decide +kernel) (pa_cons (pe_f (pv 0)) pa_nil)))) (pss_one ps_never)
        pss_nil)), ?_⟩
  obtain ⟨r, ol, D, S, tabs, p, rfl, rfl, hR, hp, q⟩ := h
  obtain ⟨_, tl, orl, ll, tas, ods, lds, hI, R, _⟩ := hR
  refine ⟨_, rfl, _, _, rfl, rfl, _, rfl, ifT (decide_eq_true (by omega)) ⟨_, rfl, _, _, rfl, hI.fd T.c_Reach T.a_Reach_tables rfl, tl, _, rfl, .inl (SqL.of R.tlE), _, _, rfl, rfl, _, rfl, ifF ?_ q⟩⟩
  rw [List.length_map, R.tlen]
  simp
  omega
def sp_Reach_check_moment (K : PySem.W.Frag) : Sp := S3 fun a b c H Q => ∃ (r ol : Addr) (D : DyD) (S : SpD) (tabs : List (List Int)) (p : Nat) (ms : List Int) (m : Int), a = .ref r ∧ b = .int (p : Nat) ∧ c = .int m ∧ ReachAt K H r ol D S tabs ∧ tabs[p]? = some ms ∧ m ∈ ms ∧ Q .non H
theorem ok_Reach_check_moment (T : TX K mg w) : FnR PP w K mg base CX0 4 (ma K (ga K "Reach") "_check_moment") (sp_Reach_check_moment K) := by
  refine mkS3 (bn T.f_Reach_check_moment (fun _ _ _ _ _ _ us hl => match us, hl with | [_, _, _], _ => rfl)) sc_Reach_check_moment fun cdv A outer s H a b c Q E hr h => ?_
  refine ⟨_, (pss_cons (ps_expr (pe_mt (pv 0) (ok_Reach_check_point T) (hr.mono (by decide)) T.kp_Reach_check_point (pa_cons (pv 1) pa_nil)))
      (pss_one (ps_if (pt_cmp (pc_dnotin (hu_of hr) (pv 2) (pe_ix ix_list (pe_f (pv 0)) (pv 1) (fun _ _ => rfl)))) (pss_one ps_never)
        pss_nil))), ?_⟩
  obtain ⟨r, ol, D, S, tabs, p, ms, m, rfl, rfl, rfl, hR, hp, hm, q⟩ := h
  have hR2 := hR
  obtain ⟨dx, tl', orl', ll', hins⟩ := hR.ins
  obtain ⟨_, tl, orl, ll, tas, ods, lds, hI, R, l1, l2, l3⟩ := hR
  obtain ⟨b, kvs, g1, g2, g3⟩ := l3 p ms hp
  have dg := DGet.k (k := Sum.inl m) g2
  refine ⟨_, rfl, _, _, dx, _, rfl, hins, T.c_Reach, T.m_Reach__check_point, rfl, _, rfl, _, _, rfl, r, ol, D, S, tabs, p, rfl, rfl, hR2, (List.getElem?_eq_some_iff.mp hp).1, ?_⟩
  exact ⟨_, rfl, _, rfl, _, _, rfl, hI.fd T.c_Reach T.a_Reach__least rfl, _, rfl, ll, _, _, .ref b, rfl, rfl, SqL.of l1, atI_nat (by rw [List.getElem?_map, g1]; rfl), b, _, rfl, dg, _, rfl, ifF (by rw [g3 m hm]; rfl) q⟩
def sp_Reach_moments_at (K : PySem.W.Frag) : Sp := S2 fun a b H Q => ∃ (r ol : Addr) (D : DyD) (S : SpD) (tabs : List (List Int)) (p : Nat) (ms : List Int), a = .ref r ∧ b = .int (p : Nat) ∧ ReachAt K H r ol D S tabs ∧ tabs[p]? = some ms ∧ ms.length ≤ 1000 ∧ ∀ l H', H l = none → Ex H H' → H' l = some (.lst (ms.map V.int)) → Q (.ref l) H'
theorem ok_Reach_moments_at (T : TX K mg w) : FnR PP w K mg base CX0 4 (ma K (ga K "Reach") "moments_at") (sp_Reach_moments_at K) := by
  refine mkS2 (bn T.f_Reach_moments_at (fun _ _ _ _ _ _ us hl => match us, hl with | [_, _], _ => rfl)) sc_Reach_moments_at fun cdv A outer s H a b Q E hr h => ?_
  refine ⟨_, (pss_cons (ps_expr (pe_mt (pv 0) (ok_Reach_check_point T) (hr.mono (by decide)) T.kp_Reach_check_point (pa_cons (pv 1) pa_nil)))
      (pss_one (ps_ret (pe_lcD (own := [("moment", 2), ("lateness", 3)]) rfl sc_Reach_moments_at.nd (pi_list (pe_ix ix_list (pe_f (pv 0)) (pv 1) (fun _ _ => rfl))) (blkOk_by (N := N_Reach_moments_at) (sc := defScope s_Reach_moments_at) (by decide +kernel)) (fun _ _ _ _ _ => (pg_tup rfl (pgs_cons (pg_name (i := 2) sc_Reach_moments_at.nd rfl (Or.inl rfl)) (pgs_cons (pg_name (i := 3) sc_Reach_moments_at.nd rfl (Or.inl rfl)) pgs_nil)))) (fun _ _ _ _ _ => pts_nil) (fun _ _ _ _ _ => (pv 2)))))), ?_⟩
  obtain ⟨r, ol, D, S, tabs, p, ms, rfl, rfl, hR, hp, hml, q⟩ := h
  have hR2 := hR
  obtain ⟨dx, tl', orl', ll', hins⟩ := hR.ins
  obtain ⟨_, tl, orl, ll, tas, ods, lds, hI, R, l1, l2, l3⟩ := hR
  obtain ⟨b, hb, _, _, ts, t1, t2, t3⟩ := R.tat p ms hp
  refine ⟨_, rfl, _, _, dx, _, rfl, hins, T.c_Reach, T.m_Reach__check_point, rfl, _, rfl, _, _, rfl, r, ol, D, S, tabs, p, rfl, rfl, hR2, (List.getElem?_eq_some_iff.mp hp).1, ?_⟩
  refine ⟨_, rfl, _, _, rfl, hI.fd T.c_Reach T.a_Reach_tables rfl, _, rfl, tl, _, _, .ref b, rfl, rfl, SqL.of R.tlE, atI_nat (by rw [List.getElem?_map, hb]; rfl), b, rfl, ⟨_, SqL.of t1⟩, fun d hd => ?_⟩
  refine lc_it (walk_list (xs := ts.map V.ref)) (fun j H' => Ex H H' ∧ H' d = some (.lst ((ms.take j).map V.int))) ⟨Ex.new hd, upd_same⟩ (fun j H' _ h => SqL.of (h.1 _ _ t1)) (fun j x H2 H3 hj h yy => ?_) (fun H2 h => ?_)
  · obtain ⟨e2, g1⟩ := h
    obtain ⟨rfl, ex⟩ := yy
    obtain ⟨t, ht, rfl⟩ := Option.map_eq_some_iff.mp ((List.getElem?_map ..).symm.trans ex)
    have hj2 : j < ms.length := by rw [List.length_map, t2] at hj; exact hj
    obtain ⟨t', v, ht', tt⟩ := t3 j ms[j] (List.getElem?_eq_getElem hj2)
    rw [ht] at ht'
    cases ht'
    refine ⟨t, _, rfl, SqT.of (e2 _ _ tt), rfl, _, _, rfl, _, _, rfl, rfl, rfl, _, rfl, _, g1, sz_lt (by rw [List.length_map, List.length_take]; omega), e2.mut hd, ?_⟩
    rw [upd_same, take_next hj2, List.map_append]
    rfl
  · obtain ⟨e2, g1⟩ := h
    rw [List.take_of_length_le (by rw [List.length_map]; omega)] at g1
    exact q d H2 hd e2 g1
/-- a row under work: a list of lists of so many values, all newer than B -/
def LRow (B H : Hp) (r : Addr) (lens : List Nat) : Prop := B r = none ∧ ∃ ls : List Addr, H r = some (.lst (ls.map V.ref)) ∧ ls.length = lens.length ∧ ∀ (i n : Nat), lens[i]? = some n → ∃ (b : Addr) (vs : List V), ls[i]? = some b ∧ b ≠ r ∧ B b = none ∧ H b = some (.lst vs) ∧ vs.length = n
theorem LRow.set {B : Hp} {r b : Addr} {lens : List Nat} {vs : List V} (h : LRow B H r lens) (hn : b ≠ r) (hb : H b = some (.lst vs)) (j : Nat) (v : V) : LRow B (upd H b (.lst (vs.set j v))) r lens := by
  obtain ⟨h0, ls, h1, h2, h3⟩ := h
  refine ⟨h0, ls, (upd_ne hn.symm).trans h1, h2, fun i n hi => ?_⟩
  obtain ⟨c, us, g1, g2, g3, g4, g5⟩ := h3 i n hi
  by_cases e : c = b
  · subst e
    rw [hb] at g4
    cases g4
    exact ⟨c, _, g1, g2, g3, upd_same, by rw [List.length_set]; exact g5⟩
  · exact ⟨c, us, g1, g2, g3, (upd_ne e).trans g4, g5⟩
theorem LRow.ex {B : Hp} {r : Addr} {lens : List Nat} (h : LRow B H r lens) (e : Ex H H') : LRow B H' r lens := by
  obtain ⟨h0, ls, h1, h2, h3⟩ := h
  refine ⟨h0, ls, e _ _ h1, h2, fun i n hi => ?_⟩
  obtain ⟨c, us, g1, g2, g3, g4, g5⟩ := h3 i n hi
  exact ⟨c, us, g1, g2, g3, e _ _ g4, g5⟩
def sp_Reach_row_to (K : PySem.W.Frag) : Sp := S3 fun a b c H Q => ∃ (r ol : Addr) (D : DyD) (S : SpD) (tabs : List (List Int)) (p : Nat) (ms : List Int) (m : Int), a = .ref r ∧ b = .int (p : Nat) ∧ c = .int m ∧ ReachAt K H r ol D S tabs ∧ OutlookAt K H ol D S ∧ ItsOk D.its ∧ SOk D.its S ∧ tabs[p]? = some ms ∧ m ∈ ms ∧
  ∀ r' H', Ex H H' → RowAt H' r' (S.map List.length) → Q (.ref r') H'
theorem ok_Reach_row_to (T : TX K mg w) : FnR PP w K mg base CX0 5 (ma K (ga K "Reach") "row_to") (sp_Reach_row_to K) := by
  refine mkS3 (bn T.f_Reach_row_to (fun _ _ _ _ _ _ us hl => match us, hl with | [_, _, _], _ => rfl)) sc_Reach_row_to fun cdv A outer s H a b c Q E hr h => ?_
  refine ⟨_, (pss_cons (ps_expr (pe_mt (pv 0) (ok_Reach_check_moment T) (hr.mono (by decide)) T.kp_Reach_check_moment (pa_cons (pv 1) (pa_cons (pv 2) pa_nil))))
      (pss_cons (ps_setLcD (i := 3) (own := [("lags", 8)]) rfl sc_Reach_row_to.nd rfl rfl (sw_true rfl rfl rfl (by decide +kernel)) (pi_list (pe_mt0 (pe_f (pv 0)) (ok_Outlook_first_row T) (hr.mono (by decide)))) (blkOk_by (N := N_Reach_row_to) (sc := defScope s_Reach_row_to) (by decide +kernel)) (fun _ _ _ _ _ => (pg_name (i := 8) sc_Reach_row_to.nd rfl (Or.inl rfl))) (fun _ _ _ _ _ => pts_nil) (fun _ _ _ _ _ => (pe_callTy call_list_of (by rfl) T.n_list (by decide +kernel) (pa_cons (pv 8) pa_nil))))
      (pss_cons (ps_set (i := 4) sc_Reach_row_to.nd rfl (Or.inl rfl) (pv 2))
      (pss_cons (ps_for PassesOwn.never rfl (pi_revR (by rfl) T.n_reversed (prg_1 (by rfl) T.n_range (pv 1))) (pg_name (i := 5) sc_Reach_row_to.nd rfl (Or.inl rfl))
        (pss_cons (ps_asg (pe_dget (hu_of hr) (pe_ix ix_list (pe_f (pv 0)) (pe_op op_add (pv 5) pe_int) (fun _ _ => rfl)) (pv 4) (fun _ _ => rfl)) (pg_tup rfl (pgs_cons (pg_name (i := 4) sc_Reach_row_to.nd rfl (Or.inl rfl)) (pgs_cons (pg_name (i := 6) sc_Reach_row_to.nd rfl (Or.inl rfl)) pgs_nil))))
      (pss_cons (ps_set (i := 7) sc_Reach_row_to.nd rfl (Or.inl rfl) (pe_op op_fdivN (pv 5) pe_int))
      (pss_one (ps_if (pt_cmpR op_eq (pe_op op_modN (pv 5) pe_int) pe_int (nomark _)) (pss_one (ps_asg (pv 6) (pg_sub (pe_ix ix_list (pv 3) (pv 7) (fun _ _ => rfl)) (pe_gi T.i_DELAY) set_list)))
        (pss_one (ps_if (pt_val (pe_callB call_isi (by rfl) T.n_isinstance (by decide +kernel) (pa_cons (pe_ix ix_tup (pe_f (pe_f (pe_f (pv 0)))) (pv 7) (fun _ _ => rfl)) (pa_cons (pe_gr T.g_Piece) pa_nil)))) (pss_one (ps_asg (pv 6) (pg_sub (pe_ix ix_list (pv 3) (pv 7) (fun _ _ => rfl)) (pe_gi T.i_LENGTH) set_list)))
        pss_nil)))))))
      (pss_one (ps_ret (pe_lcD (own := [("lags", 8)]) rfl sc_Reach_row_to.nd (pi_list (pv 3)) (blkOk_by (N := N_Reach_row_to) (sc := defScope s_Reach_row_to) (by decide +kernel)) (fun _ _ _ _ _ => (pg_name (i := 8) sc_Reach_row_to.nd rfl (Or.inl rfl))) (fun _ _ _ _ _ => pts_nil) (fun _ _ _ _ _ => (pe_callTy call_tuple_of (by rfl) T.n_tuple (by decide +kernel) (pa_cons (pv 8) pa_nil)))))))))), ?_⟩
  obtain ⟨r, ol, D, S, tabs, p, ms, m, rfl, rfl, rfl, hR, hL, ok, sok, hp, hm, q⟩ := h
  have hR2 := hR
  have l8 := ok.len
  have lS := sok.len
  obtain ⟨dx, tl', orl', ll', hins⟩ := hR.ins
  obtain ⟨TO, tl, orl, ll, tas, ods, lds, hI, R, l1, l2, l3⟩ := hR
  have hpl : p ≤ 2 * D.its.length := by have := (List.getElem?_eq_some_iff.mp hp).1; have := TO.len; omega
  obtain ⟨dxo, oo, sd, hinsO⟩ := hL.ins
  refine ⟨_, rfl, _, _, dx, _, rfl, hins, T.c_Reach, T.m_Reach__check_moment, rfl, _, rfl, _, rfl, _, _, _, rfl, r, ol, D, S, tabs, p, ms, m, rfl, rfl, rfl, hR2, hp, hm, ?_⟩
  refine ⟨_, rfl, _, _, rfl, hI.fd T.c_Reach T.a_Reach_outlook rfl, ol, _, dxo, _, rfl, hinsO, T.c_Outlook, T.m_Outlook_first_row, rfl, _, rfl, ol, D, S, rfl, hL, ok, sok, fun r0 H1 hr0 e1 hRow => ?_⟩
  obtain ⟨ts, t1, t2, t3⟩ := hRow
  refine ⟨r0, rfl, ⟨_, SqL.of t1⟩, fun d hd => ?_⟩
  have hdH : H d = none := fresh_back e1 hd
  refine lc_it (walk_list (xs := ts.map V.ref)) (fun j H' => Ex H1 H' ∧ ∃ ls : List Addr, H' d = some (.lst (ls.map V.ref)) ∧ ls.length = j ∧ ∀ (c n : Nat), c < j → (S.map List.length)[c]? = some n → ∃ (b : Addr) (vs : List V), ls[c]? = some b ∧ b ≠ d ∧ H b = none ∧ H' b = some (.lst vs) ∧ vs.length = n)
    ⟨Ex.new hd, [], upd_same, rfl, fun c n hc => absurd hc (Nat.not_lt_zero _)⟩ (fun j H' _ h => SqL.of (h.1 _ _ t1)) (fun j x H2 H3 hj h yy => ?_) (fun H2 h => ?_)
  · obtain ⟨e2, ls, g1, g2, g3⟩ := h
    obtain ⟨rfl, ex⟩ := yy
    obtain ⟨t, ht, rfl⟩ := Option.map_eq_some_iff.mp ((List.getElem?_map ..).symm.trans ex)
    have hj2 : j < (S.map List.length).length := by rw [List.length_map, t2] at hj; exact hj
    have hj3 : j < 8 + 1 := by rw [List.length_map] at hj2; omega
    obtain ⟨t', vs, ht', tt, tn⟩ := t3 j _ (List.getElem?_eq_getElem hj2)
    rw [ht] at ht'
    cases ht'
    refine ⟨rfl, _, rfl, t, _, rfl, .inr (SqT.of (e2 _ _ tt)), fun b hb => ?_⟩
    have nbd : b ≠ d := fun z => by rw [z, g1] at hb; cases hb
    have e3 := Ex.new (o := .lst vs) hb
    have mu : Mut d (upd H3 b (.lst vs)) (upd (upd H3 b (.lst vs)) d (.lst (ls.map V.ref ++ [.ref b]))) (.lst (ls.map V.ref ++ [.ref b])) := Mut.upd
    refine ⟨_, e3 _ _ g1, sz_lt (by rw [List.length_map]; omega), (e2.trans e3).mut hd, ls ++ [b], by rw [upd_same, List.map_append]; rfl, by simp [g2], fun c n hc hn => ?_⟩
    by_cases hcj : c = j
    · subst hcj
      rw [List.getElem?_eq_getElem hj2] at hn
      cases hn
      exact ⟨b, vs, by rw [List.getElem?_append_right (by omega), g2, Nat.sub_self]; rfl, nbd, fresh_back (e1.trans e2) hb, mu.1 _ _ nbd upd_same, tn⟩
    · obtain ⟨b', vs', q1, q2, q3, q4, q5⟩ := g3 c n (by omega) hn
      exact ⟨b', vs', by rw [List.getElem?_append_left (by omega)]; exact q1, q2, q3, mu.1 _ _ q2 (e3 _ _ q4), q5⟩
  · obtain ⟨e2, ls, g1, g2, g3⟩ := h
    rw [List.length_map, t2] at g2 g3
    have LR : LRow H H2 d (S.map List.length) := ⟨hdH, ls, g1, g2, fun i n hi => g3 i n (List.getElem?_eq_some_iff.mp hi).1 hi⟩
    have eH2 := e1.trans e2
    have ep : ((p : Int) - 0).toNat = p := by omega
    refine ⟨_, rfl, _, rfl, (p : Int), rfl, by omega, by omega, by omega, by omega, ?_⟩
    rw [ep]
    refine for_it walk_rangeC (fun i σ H' => Ex H H' ∧ LRow H H' d (S.map List.length) ∧ ∃ (ms' : List Int) (m' : Int), tabs[p - i]? = some ms' ∧ m' ∈ ms' ∧ ∃ x5 x6 x7 x8, σ = [some (.ref r), some (.int (p : Nat)), some (.int m), some (.ref d), some (.int m'), x5, x6, x7, x8])
      ⟨eH2, LR, ms, m, hp, hm, _, _, _, _, rfl⟩ (fun _ _ _ _ _ => trivial) (fun i x σ H4 H5 hi h yy => ?_) (fun σ H4 h => ?_)
    · obtain ⟨e4, LR4, ms', m', hms, hm', x5, x6, x7, x8, rfl⟩ := h
      obtain ⟨rfl, rfl⟩ := yy
      -- the point that is left
      obtain ⟨st, est, est2⟩ : ∃ st : Nat, (0 + (p : Int) - 1 + (i : Nat) * -1 = (st : Int)) ∧ st + 1 = p - i := ⟨p - 1 - i, by omega, by omega⟩
      have hst : st < 2 * D.its.length := by omega
      have hlt : st / 2 < D.its.length := by omega
      have hgs : st < tabs.length := by rw [TO.len]; omega
      have hms1 : tabs[st + 1]? = some ms' := by rw [est2]; exact hms
      obtain ⟨od, hod, hO⟩ := (R.mono e4).oat st _ ms' (List.getElem?_eq_getElem hgs) hms1
      obtain ⟨kvs, o1, o2⟩ := hO
      obtain ⟨t, m0, lg, hv, ht, hm0⟩ := o2 m' hm'
      have dg := DGet.k (k := Sum.inl m') o1
      rw [hv] at dg
      have orlE := (R.mono e4).olE
      have I4 := hI.mono e4
      have es1 : atI (ods.map V.ref) ((st : Int) + 1) = some (.ref od) := by
        have : ((st : Int) + 1) = ((st + 1 : Nat) : Int) := by omega
        rw [this]
        exact atI_nat (by rw [List.getElem?_map, hod]; rfl)
      show (gName 5 (V.int (0 + (p : Int) - 1 + (i : Nat) * -1)) _ _ _)
      rw [est]
      refine ⟨_, rfl, _, _, rfl, I4.fd T.c_Reach T.a_Reach__origins rfl, _, rfl, _, _, rfl, rfl, orl, _, _, .ref od, rfl, rfl, SqL.of orlE, es1, _, rfl, od, _, rfl, dg, t, _, rfl, SqT.of ht, rfl, _, _, rfl, _, _, rfl, rfl, ?_⟩
      refine ⟨_, rfl, _, _, rfl, rfl, cd2 _, ?_⟩
      have hlen : (S.map List.length)[st / 2]? = some (S[st / 2]'(by omega)).length := by rw [List.getElem?_map, List.getElem?_eq_getElem (by omega)]; rfl
      have hrow := sok.row (st / 2) _ _ (List.getElem?_eq_getElem hlt) (List.getElem?_eq_getElem (by omega : st / 2 < S.length))
      obtain ⟨h0, ls4, q1, q2, q3⟩ := id LR4
      obtain ⟨b, vs, b1, b2, b3, b4, b5⟩ := q3 _ _ hlen
      have aix : atI (ls4.map V.ref) ((st : Int).fdiv 2) = some (.ref b) := by
        rw [div2]
        exact atI_nat (by rw [List.getElem?_map, b1]; rfl)
      have next : ∀ H6, Ex H H6 → LRow H H6 d (S.map List.length) → ∀ y5 y6 y7 y8, Ex H H6 ∧ LRow H H6 d (S.map List.length) ∧ ∃ (ms' : List Int) (m' : Int), tabs[p - (i + 1)]? = some ms' ∧ m' ∈ ms' ∧ ∃ x5 x6 x7 x8, [some (V.ref r), some (.int (p : Nat)), some (.int m), some (.ref d), some (.int m0), y5, y6, y7, y8] = [some (V.ref r), some (.int (p : Nat)), some (.int m), some (.ref d), some (.int m'), x5, x6, x7, x8] := fun H6 e6 L6 y5 y6 y7 y8 =>
        ⟨e6, L6, tabs[st], m0, by rw [show p - (i + 1) = st by omega]; exact List.getElem?_eq_getElem hgs, hm0, _, _, _, _, rfl⟩
      have exb : ∀ j v, Ex H (upd H5 b (.lst (vs.set j v))) := fun j v => e4.mut b3
      obtain ⟨w1, hDEL⟩ := T.i_DELAY
      refine ⟨_, rfl, _, _, rfl, rfl, (show (2 : Int) ≠ 0 by decide), rfl, _, rfl, if2 (fun eb => ?_) (fun eb => ?_)⟩
      · have hpos : 0 < vs.length := by rw [b5, hrow]; split <;> omega
        refine ⟨_, rfl, _, rfl, _, rfl, d, _, _, .ref b, rfl, rfl, SqL.of q1, aix, b, _, _, 0, rfl, rfl, b4, ixN_ok hpos, ?_⟩
        exact next _ (exb _ _) (LR4.set b2 b4 _ _) _ _ _ _
      · have e : ¬ st % 2 = 0 := of_decide_eq_false (dec_even.symm.trans eb)
        obtain ⟨o3, ho3, hO3⟩ := (hL.mono e4).order T
        obtain ⟨tp, is, g1, g2', g3'⟩ := hO3.lineup T
        obtain ⟨x, hx, hIx⟩ := g3'.get hlt
        obtain ⟨ty, ht1, ht2⟩ := hIx.isi T true
        refine ⟨_, rfl, _, _, rfl, I4.fd T.c_Reach T.a_Reach_outlook rfl, _, _, rfl, ho3, _, _, rfl, g1, _, rfl, tp, _, _, .ref x, rfl, rfl, SqT.of g2', (by rw [div2]; exact atI_nat (by rw [List.getElem?_map, hx]; rfl)), _, _, _, _, _, rfl, .own _, ht1, ht2, _, rfl, if2 (fun ec => ?_) (fun ec => ?_)⟩
        · have ec : D.its[st / 2].pc = true := by simpa using ec
          have hpos : 1 < vs.length := by rw [b5, hrow, ec]; decide
          refine ⟨_, rfl, _, rfl, _, rfl, d, _, _, .ref b, rfl, rfl, SqL.of q1, aix, b, _, _, 1, rfl, rfl, b4, ixN_ok hpos, ?_⟩
          exact next _ (exb _ _) (LR4.set b2 b4 _ _) _ _ _ _
        · exact next _ e4 LR4 _ _ _ _
    · obtain ⟨e4, LR4, ms', m', hms, hm', x5, x6, x7, x8, rfl⟩ := h
      obtain ⟨h0, ls4, q1, q2, q3⟩ := LR4
      refine ⟨_, rfl, d, rfl, ⟨_, SqL.of q1⟩, fun d2 hd2 => ?_⟩
      refine lc_it (walk_list (xs := ls4.map V.ref)) (fun j H' => Ex H4 H' ∧ ∃ ts' : List Addr, H' d2 = some (.lst (ts'.map V.ref)) ∧ ts'.length = j ∧ ∀ (c n : Nat), c < j → (S.map List.length)[c]? = some n → ∃ (t : Addr) (vs : List V), ts'[c]? = some t ∧ H' t = some (.tup vs) ∧ vs.length = n)
        ⟨Ex.new hd2, [], upd_same, rfl, fun c n hc => absurd hc (Nat.not_lt_zero _)⟩ (fun j H' _ h => SqL.of (h.1 _ _ q1)) (fun j x H6 H7 hj h yy => ?_) (fun H6 h => ?_)
      · obtain ⟨e6, ts', g1', g2', g3'⟩ := h
        obtain ⟨rfl, ex⟩ := yy
        obtain ⟨b, hb, rfl⟩ := Option.map_eq_some_iff.mp ((List.getElem?_map ..).symm.trans ex)
        have hj2 : j < (S.map List.length).length := by rw [List.length_map, q2] at hj; exact hj
        have hj3 : j < 9 := by rw [List.length_map] at hj2; omega
        obtain ⟨b', vs, hb', _, _, hbv, hbn⟩ := q3 j _ (List.getElem?_eq_getElem hj2)
        rw [hb] at hb'
        cases hb'
        refine ⟨rfl, _, rfl, b, _, rfl, .inl ⟨SqL.of (e6 _ _ hbv), fun t ht => ?_⟩⟩
        have ntd : t ≠ d2 := fun z => by rw [z, g1'] at ht; cases ht
        have e7 := Ex.new (o := .tup vs) ht
        have mu : Mut d2 (upd H7 t (.tup vs)) (upd (upd H7 t (.tup vs)) d2 (.lst (ts'.map V.ref ++ [.ref t]))) (.lst (ts'.map V.ref ++ [.ref t])) := Mut.upd
        refine ⟨_, e7 _ _ g1', sz_lt (by rw [List.length_map]; omega), (e6.trans e7).mut hd2, ts' ++ [t], by rw [upd_same, List.map_append]; rfl, by simp [g2'], fun c n hc hn => ?_⟩
        by_cases hcj : c = j
        · subst hcj
          rw [List.getElem?_eq_getElem hj2] at hn
          cases hn
          exact ⟨t, vs, by rw [List.getElem?_append_right (by omega), g2', Nat.sub_self]; rfl, mu.1 _ _ ntd upd_same, hbn⟩
        · obtain ⟨t', vs', z1, z2, z3⟩ := g3' c n (by omega) hn
          exact ⟨t', vs', by rw [List.getElem?_append_left (by omega)]; exact z1, mu.1 _ _ (fun z => by rw [z, g1'] at z2; cases z2) (e7 _ _ z2), z3⟩
      · obtain ⟨e6, ts', g1', g2', g3'⟩ := h
        rw [List.length_map, q2] at g2' g3'
        exact q d2 H6 (e4.trans e6) ⟨ts', g1', g2', fun i n hi => g3' i n (List.getElem?_eq_some_iff.mp hi).1 hi⟩
end
end BB
namespace BB
open PySem PySem.Spec PyProof.Rows L2 He Evl
theorem TabsOk.small {its : List ItD} {S : SpD} {opens : Int} {tabs : List (List Int)} {N k : Nat} {ms : List Int} (h : TabsOk its S opens tabs N) (hk : tabs[k]? = some ms) (hl : k ≤ 16) : ms.length ≤ 385 := by
  obtain ⟨A, hA⟩ := h.win k ms hk
  have := nodup_win (n := 24 * k) (h.nd k ms hk) (A := A) fun x hx => by
    have := hA x hx
    omega
  omega
theorem TabsOk.ne {its : List ItD} {S : SpD} {opens : Int} {tabs : List (List Int)} {N : Nat} (sok : SOk its S) (h : TabsOk its S opens tabs N) (hN : N ≤ 2 * its.length) : ∀ (k : Nat) (ms : List Int), tabs[k]? = some ms → ms ≠ []
  | 0, ms, hk => by
    rw [h.zero] at hk
    cases hk
    exact List.cons_ne_nil _ _
  | k + 1, ms, hk => by
    have hlt : k + 1 < tabs.length := (List.getElem?_eq_some_iff.mp hk).1
    have hg := List.getElem?_eq_getElem (show k < tabs.length by omega)
    have := TabsOk.ne sok h hN k _ hg
    obtain ⟨m, hm⟩ := List.exists_mem_of_ne_nil _ this
    have hl := h.len
    obtain ⟨w1, w2⟩ := stSp_wd sok (show k < 2 * its.length by omega)
    exact List.ne_nil_of_mem ((h.step k _ _ hg hk _).mpr ⟨m, hm, _, Int.le_refl _, w1, rfl⟩)
section
variable {K : PySem.W.Frag} {mg : Str → Option Value} {w : World} {base : Heap} {H H' : Hp} {a : Addr} {it : ItD} {D : DyD} {S : SpD}
/-- the least of f over ms -/
def LeastOf (f : Int → Int) (ms : List Int) (t : Int) : Prop := (∃ m ∈ ms, t = f m) ∧ ∀ m ∈ ms, t ≤ f m
def sp_least_ahead (K : PySem.W.Frag) : Sp := S3 fun a b c H Q => ∃ (r ol : Addr) (D : DyD) (S : SpD) (tabs : List (List Int)) (s g : Nat) (ms : List Int), a = .ref r ∧ b = .int (s : Nat) ∧ c = .int (g : Nat) ∧ ReachAt K H r ol D S tabs ∧ OutlookAt K H ol D S ∧ ItsOk D.its ∧ SOk D.its S ∧ s ≤ g ∧ g ≤ 2 * D.its.length ∧ tabs[s]? = some ms ∧
  ∀ (t r' : Addr) (H' : Hp) (x : Int), Ex H H' → H' t = some (.tup [.int x, .ref r']) → RowAt H' r' (S.map List.length) → LeastOf (fun m => crs (loF D.its S) s (g - s) m - m) ms x → Q (.ref t) H'
theorem ok_least_ahead (T : TX K mg w) : FnR PP w K mg base CX0 6 (ga K "least_ahead") (sp_least_ahead K) := by
  refine mkS3 (bn T.f_least_ahead (fun _ _ _ _ _ _ us hl => match us, hl with | [_, _, _], _ => rfl)) sc_least_ahead fun cdv A outer s H a b c Q E hr h => ?_
  refine ⟨_, (pss_cons (ps_set (i := 3) sc_least_ahead.nd rfl (Or.inr rfl) (pe_ctor (ct_Course T) (hr.mono (by decide)) (pa_cons (pe_f (pv 0)) (pa_cons (pv 1) (pa_cons (pv 2) pa_nil)))))
      (pss_cons (ps_asg (pe_callB (cr_minP rfl (hu_of hr)) (by rfl) T.n_min (by decide +kernel) (pa_cons (pe_lcD (own := [("at", 6)]) rfl sc_least_ahead.nd (pi_list (pe_mt (pv 0) (ok_Reach_moments_at T) (hr.mono (by decide)) T.kp_Reach_moments_at (pa_cons (pv 1) pa_nil))) (blkOk_by (N := N_least_ahead) (sc := defScope s_least_ahead) (by decide +kernel)) (fun _ _ _ _ _ => (pg_name (i := 6) sc_least_ahead.nd rfl (Or.inl rfl))) (fun _ _ _ _ _ => pts_nil) (fun _ _ _ _ _ => (pe_tup (pa_cons (pe_op op_sub (StX.pe_callO (pv 3) ⟨T.d_Course_call.at_, T.d_Course_call.fn, T.d_Course_call.fi⟩ (ok_Course_call T) (hr.mono (by decide)) pass0 (pa_cons (pv 6) pa_nil)) (pv 6)) (pa_cons (pv 6) pa_nil))))) pa_nil)) (pg_tup rfl (pgs_cons (pg_name (i := 4) sc_least_ahead.nd rfl (Or.inl rfl)) (pgs_cons (pg_name (i := 5) sc_least_ahead.nd rfl (Or.inl rfl)) pgs_nil))))
      (pss_one (ps_ret (pe_tup (pa_cons (pv 4) (pa_cons (pe_mt (pv 0) (ok_Reach_row_to T) (hr.mono (by decide)) T.kp_Reach_row_to (pa_cons (pv 1) (pa_cons (pv 5) pa_nil))) pa_nil))))))), ?_⟩
  obtain ⟨r, ol, D, S, tabs, s', g, ms, rfl, rfl, rfl, hR, hL, ok, sok, hsg, hg, hms, q⟩ := h
  have l8 := ok.len
  have hR2 := hR
  obtain ⟨dx, tl', orl', ll', hins⟩ := hR.ins
  obtain ⟨TO, tl, orl, ll, tas, ods, lds, hI, R, l1, l2, l3⟩ := hR
  have hml := TO.small hms (by omega)
  refine ⟨_, rfl, _, _, rfl, hI.fd T.c_Reach T.a_Reach_outlook rfl, _, rfl, _, rfl, _, _, _, rfl, ol, D, S, s', g, rfl, rfl, rfl, hL, ok, sok, hsg, hg, fun c H1 hc e1 hC => ?_⟩
  refine ⟨_, rfl, _, _, dx, _, rfl, e1 _ _ hins, T.c_Reach, T.m_Reach_moments_at, rfl, _, rfl, _, _, rfl, r, ol, D, S, tabs, s', ms, rfl, rfl, hR2.mono e1, hms, by omega, fun l H2 hl e2 hl2 => ⟨l, rfl, ⟨_, SqL.of hl2⟩, fun d hd => ?_⟩⟩
  refine lc_it (walk_list (xs := ms.map V.int)) (fun j H' => Ex H2 H' ∧ ∃ ts : List Addr, H' d = some (.lst (ts.map V.ref)) ∧ ts.length = j ∧ ∀ (i : Nat) (m : Int), i < j → ms[i]? = some m → ∃ t, ts[i]? = some t ∧ H' t = some (.tup [.int (crs (loF D.its S) s' (g - s') m - m), .int m]))
    ⟨Ex.new hd, [], upd_same, rfl, fun i m hi => absurd hi (Nat.not_lt_zero _)⟩ (fun j H' _ h => SqL.of (h.1 _ _ hl2)) (fun j x H3 H4 hj h yy => ?_) (fun H3 h => ?_)
  · obtain ⟨e3, ts, g1, g2, g3⟩ := h
    obtain ⟨rfl, ex⟩ := yy
    obtain ⟨m, hm, rfl⟩ := Option.map_eq_some_iff.mp ((List.getElem?_map ..).symm.trans ex)
    have hj2 : j < ms.length := by rw [List.length_map] at hj; exact hj
    have e13 := (e1.trans e2).trans e3
    have hC4 := (hC.mono e2).mono e3
    obtain ⟨lc, as, ⟨dxc, hic⟩, _⟩ := id hC4
    refine ⟨rfl, _, rfl, c, rfl, _, rfl, .inr ⟨dxc, _, hic⟩, _, _, rfl, c, ol, D, S, s', g, m, rfl, rfl, hC4, hL.mono e13, ok, hsg, hg, fun H5 e5 => ?_⟩
    refine ⟨_, rfl, _, _, rfl, rfl, _, rfl, by show 2 ≤ sizeLine; decide, fun t ht => ?_⟩
    have ntd : t ≠ d := fun z => by rw [z, e5 _ _ g1] at ht; cases ht
    have e6 := e5.trans (Ex.new (o := .tup [.int (crs (loF D.its S) s' (g - s') m - m), .int m]) ht)
    have mu : Mut d (upd H5 t (.tup [.int (crs (loF D.its S) s' (g - s') m - m), .int m])) (upd (upd H5 t (.tup [.int (crs (loF D.its S) s' (g - s') m - m), .int m])) d (.lst (ts.map V.ref ++ [.ref t]))) (.lst (ts.map V.ref ++ [.ref t])) := Mut.upd
    refine ⟨_, e6 _ _ g1, sz_lt (by rw [List.length_map]; omega), (e3.trans e6).mut hd, ts ++ [t], by rw [upd_same, List.map_append]; rfl, by simp [g2], fun i m' hi hm' => ?_⟩
    by_cases hij : i = j
    · subst hij
      rw [hm] at hm'
      cases hm'
      exact ⟨t, by rw [List.getElem?_append_right (by omega), g2, Nat.sub_self]; rfl, mu.1 _ _ ntd upd_same⟩
    · obtain ⟨t', z1, z2⟩ := g3 i m' (by omega) hm'
      exact ⟨t', by rw [List.getElem?_append_left (by omega)]; exact z1, mu.1 _ _ (fun z => by rw [z, g1] at z2; cases z2) (e6 _ _ z2)⟩
  · obtain ⟨e3, ts, g1, g2, g3⟩ := h
    rw [List.length_map] at g2 g3
    have hne := TO.ne sok (Nat.le_refl _) s' ms hms
    have hpos : 0 < ms.length := List.length_pos_iff.mpr hne
    refine ⟨d, _, fun i => ((crs (loF D.its S) s' (g - s') (ms.getD i 0) - ms.getD i 0), ms.getD i 0), rfl, SqL.of g1, by rw [List.length_map, g2]; exact hpos, fun i x hx => ?_, fun j t hj hjt hmin => ?_⟩
    · obtain ⟨t, ht, rfl⟩ := Option.map_eq_some_iff.mp ((List.getElem?_map ..).symm.trans hx)
      have hi : i < ms.length := by rw [← g2]; exact (List.getElem?_eq_some_iff.mp ht).1
      have hgi := List.getElem?_eq_getElem hi
      obtain ⟨t', z1, z2⟩ := g3 i _ hi hgi
      rw [ht] at z1
      cases z1
      refine ⟨t, rfl, ?_⟩
      show H3 t = some (.tup [.int (crs (loF D.its S) s' (g - s') (ms.getD i 0) - ms.getD i 0), .int (ms.getD i 0)])
      rw [List.getD_eq_getElem?_getD, hgi]
      exact z2
    · rw [List.length_map, g2] at hj hmin
      have hgj := List.getElem?_eq_getElem hj
      obtain ⟨t', z1, z2⟩ := g3 j _ hj hgj
      have : t = t' := by
        rw [List.getElem?_map, z1] at hjt
        exact (V.ref.inj (Option.some.inj hjt)).symm
      subst this
      have e13 := (e1.trans e2).trans e3
      have hgd : ∀ i (hi : i < ms.length), ms.getD i 0 = ms[i] := fun i hi => by rw [List.getD_eq_getElem?_getD, List.getElem?_eq_getElem hi]; rfl
      refine ⟨t, _, rfl, SqT.of z2, rfl, _, _, rfl, _, _, rfl, rfl, ?_⟩
      refine ⟨_, rfl, _, rfl, _, _, dx, _, rfl, e13 _ _ hins, T.c_Reach, T.m_Reach_row_to, rfl, _, rfl, _, rfl, _, _, _, rfl, r, ol, D, S, tabs, s', ms, ms[j], rfl, rfl, rfl, hR2.mono e13, hL.mono e13, ok, sok, hms, List.getElem_mem _, fun r' H4 e4 hrow => ?_⟩
      refine ⟨by show 2 ≤ sizeLine; decide, fun t2 ht2 => q t2 r' _ _ ((e13.trans e4).trans (Ex.new ht2)) upd_same (hrow.mono (Ex.new ht2)) ⟨⟨ms[j], List.getElem_mem _, rfl⟩, fun m hm => ?_⟩⟩
      obtain ⟨i, hi, rfl⟩ := List.mem_iff_getElem.mp hm
      have := hmin i hi
      dsimp only at this
      rw [hgd j hj, hgd i hi] at this
      exact this
end
end BB
namespace BB
open PySem PySem.Spec PyProof.Rows L2 He Evl
section
variable {K : PySem.W.Frag} {mg : Str → Option Value} {w : World} {base : Heap} {H H' : Hp} {a : Addr} {it : ItD} {D : DyD} {S : SpD}
def sp_least_back (K : PySem.W.Frag) : Sp := S3 fun a b c H Q => ∃ (r ol : Addr) (D : DyD) (S : SpD) (tabs : List (List Int)) (s g : Nat) (ms : List Int), a = .ref r ∧ b = .int (s : Nat) ∧ c = .int (g : Nat) ∧ ReachAt K H r ol D S tabs ∧ OutlookAt K H ol D S ∧ ItsOk D.its ∧ SOk D.its S ∧ g ≤ s ∧ s ≤ 2 * D.its.length ∧ tabs[g]? = some ms ∧
  ∀ (t r' : Addr) (H' : Hp) (x : Int), Ex H H' → H' t = some (.tup [.int x, .ref r']) → RowAt H' r' (S.map List.length) → LeastOf (fun m => m - crs (hiF D.its S) g (s - g) m) ms x → Q (.ref t) H'
theorem ok_least_back (T : TX K mg w) : FnR PP w K mg base CX0 6 (ga K "least_back") (sp_least_back K) := by
  refine mkS3 (bn T.f_least_back (fun _ _ _ _ _ _ us hl => match us, hl with | [_, _, _], _ => rfl)) sc_least_back fun cdv A outer s H a b c Q E hr h => ?_
  refine ⟨_, (pss_cons (ps_set (i := 3) sc_least_back.nd rfl (Or.inl rfl) (pe_f (pv 0)))
      (pss_cons (ps_set (i := 4) sc_least_back.nd rfl (Or.inr rfl) (pe_ctor (ct_Course T) (hr.mono (by decide)) (pa_cons (pv 3) (pa_cons (pv 2) (pa_cons (pv 1) pa_nil)))))
      (pss_cons (ps_asg (pe_callB (cr_minP rfl (hu_of hr)) (by rfl) T.n_min (by decide +kernel) (pa_cons (pe_lcD (own := [("at", 12)]) rfl sc_least_back.nd (pi_list (pe_mt (pv 0) (ok_Reach_moments_at T) (hr.mono (by decide)) T.kp_Reach_moments_at (pa_cons (pv 2) pa_nil))) (blkOk_by (N := N_least_back) (sc := defScope s_least_back) (by decide +kernel)) (fun _ _ _ _ _ => (pg_name (i := 12) sc_least_back.nd rfl (Or.inl rfl))) (fun _ _ _ _ _ => pts_nil) (fun _ _ _ _ _ => (pe_tup (pa_cons (pe_op op_sub (pv 12) (pe_mt (pv 4) (ok_Course_latest T) (hr.mono (by decide)) T.kp_Course_latest (pa_cons (pv 12) pa_nil))) (pa_cons (pv 12) pa_nil))))) pa_nil)) (pg_tup rfl (pgs_cons (pg_name (i := 5) sc_least_back.nd rfl (Or.inl rfl)) (pgs_cons (pg_name (i := 6) sc_least_back.nd rfl (Or.inl rfl)) pgs_nil))))
      (pss_cons (ps_set (i := 7) sc_least_back.nd rfl (Or.inl rfl) (pe_mt (pv 0) (ok_Reach_row_to T) (hr.mono (by decide)) T.kp_Reach_row_to (pa_cons (pv 2) (pa_cons (pv 6) pa_nil))))
      (pss_cons (ps_for PassesOwn.never rfl (pi_range2 rfl T.n_range (pa_cons (pv 2) (pa_cons (pv 1) pa_nil))) (pg_name (i := 8) sc_least_back.nd rfl (Or.inl rfl))
        (pss_cons (ps_set (i := 9) sc_least_back.nd rfl (Or.inl rfl) (pe_fn (ok_step_lag T) (hr.mono (by decide)) T.kp_step_lag T.g_step_lag (pa_cons (pe_f (pv 3)) (pa_cons (pv 8) pa_nil))))
      (pss_one (ps_if (pt_cmpR op_notN (pv 9) pe_non (nomark _)) (pss_cons (ps_asg (pv 9) (pg_tup rfl (pgs_cons (pg_name (i := 10) sc_least_back.nd rfl (Or.inl rfl)) (pgs_cons (pg_name (i := 11) sc_least_back.nd rfl (Or.inl rfl)) pgs_nil))))
      (pss_one (ps_set (i := 7) sc_least_back.nd rfl (Or.inl rfl) (pe_fn (ok_with_lag T) (hr.mono (by decide)) T.kp_with_lag T.g_with_lag (pa_cons (pe_f (pv 3)) (pa_cons (pv 7) (pa_cons (pv 10) (pa_cons (pv 11) (pa_cons (pe_f (pe_mt (pv 3) (ok_Outlook_span_of T) (hr.mono (by decide)) T.kp_Outlook_span_of (pa_cons (pv 10) (pa_cons (pv 11) pa_nil)))) pa_nil)))))))))
        pss_nil))))
      (pss_one (ps_ret (pe_tup (pa_cons (pv 5) (pa_cons (pv 7) pa_nil)))))))))), ?_⟩
  obtain ⟨r, ol, D, S, tabs, s', g, ms, rfl, rfl, rfl, hR, hL, ok, sok, hsg, hg, hms, q⟩ := h
  have l8 := ok.len
  have hR2 := hR
  obtain ⟨dx, tl', orl', ll', hins⟩ := hR.ins
  obtain ⟨TO, tl, orl, ll, tas, ods, lds, hI, R, l1, l2, l3⟩ := hR
  have hml := TO.small hms (by omega)
  refine ⟨_, rfl, _, _, rfl, hI.fd T.c_Reach T.a_Reach_outlook rfl, ?_⟩
  refine ⟨_, rfl, _, rfl, _, rfl, _, _, _, rfl, ol, D, S, g, s', rfl, rfl, rfl, hL, ok, sok, hsg, hg, fun c H1 hc e1 hC => ?_⟩
  refine ⟨_, rfl, _, _, dx, _, rfl, e1 _ _ hins, T.c_Reach, T.m_Reach_moments_at, rfl, _, rfl, _, _, rfl, r, ol, D, S, tabs, g, ms, rfl, rfl, hR2.mono e1, hms, by omega, fun l H2 hl e2 hl2 => ⟨l, rfl, ⟨_, SqL.of hl2⟩, fun d hd => ?_⟩⟩
  refine lc_it (walk_list (xs := ms.map V.int)) (fun j H' => Ex H2 H' ∧ ∃ ts : List Addr, H' d = some (.lst (ts.map V.ref)) ∧ ts.length = j ∧ ∀ (i : Nat) (m : Int), i < j → ms[i]? = some m → ∃ t, ts[i]? = some t ∧ H' t = some (.tup [.int (m - crs (hiF D.its S) g (s' - g) m), .int m]))
    ⟨Ex.new hd, [], upd_same, rfl, fun i m hi => absurd hi (Nat.not_lt_zero _)⟩ (fun j H' _ h => SqL.of (h.1 _ _ hl2)) (fun j x H3 H4 hj h yy => ?_) (fun H3 h => ?_)
  · obtain ⟨e3, ts, g1, g2, g3⟩ := h
    obtain ⟨rfl, ex⟩ := yy
    obtain ⟨m, hm, rfl⟩ := Option.map_eq_some_iff.mp ((List.getElem?_map ..).symm.trans ex)
    have hj2 : j < ms.length := by rw [List.length_map] at hj; exact hj
    have e13 := (e1.trans e2).trans e3
    have hC4 := (hC.mono e2).mono e3
    obtain ⟨lc, as, ⟨dxc, hic⟩, _⟩ := id hC4
    refine ⟨rfl, _, rfl, _, rfl, c, _, dxc, _, rfl, hic, T.c_Course, T.m_Course_latest, rfl, _, rfl, _, _, rfl, c, ol, D, S, g, s', m, rfl, rfl, hC4, hL.mono e13, ok, hsg, hg, fun H5 e5 => ?_⟩
    refine ⟨_, _, rfl, rfl, _, rfl, by show 2 ≤ sizeLine; decide, fun t ht => ?_⟩
    have ntd : t ≠ d := fun z => by rw [z, e5 _ _ g1] at ht; cases ht
    have e6 := e5.trans (Ex.new (o := .tup [.int (m - crs (hiF D.its S) g (s' - g) m), .int m]) ht)
    have mu : Mut d (upd H5 t (.tup [.int (m - crs (hiF D.its S) g (s' - g) m), .int m])) (upd (upd H5 t (.tup [.int (m - crs (hiF D.its S) g (s' - g) m), .int m])) d (.lst (ts.map V.ref ++ [.ref t]))) (.lst (ts.map V.ref ++ [.ref t])) := Mut.upd
    refine ⟨_, e6 _ _ g1, sz_lt (by rw [List.length_map]; omega), (e3.trans e6).mut hd, ts ++ [t], by rw [upd_same, List.map_append]; rfl, by simp [g2], fun i m' hi hm' => ?_⟩
    by_cases hij : i = j
    · subst hij
      rw [hm] at hm'
      cases hm'
      exact ⟨t, by rw [List.getElem?_append_right (by omega), g2, Nat.sub_self]; rfl, mu.1 _ _ ntd upd_same⟩
    · obtain ⟨t', z1, z2⟩ := g3 i m' (by omega) hm'
      exact ⟨t', by rw [List.getElem?_append_left (by omega)]; exact z1, mu.1 _ _ (fun z => by rw [z, g1] at z2; cases z2) (e6 _ _ z2)⟩
  · obtain ⟨e3, ts, g1, g2, g3⟩ := h
    rw [List.length_map] at g2 g3
    have hne := TO.ne sok (Nat.le_refl _) g ms hms
    have hpos : 0 < ms.length := List.length_pos_iff.mpr hne
    refine ⟨d, _, fun i => ((ms.getD i 0 - crs (hiF D.its S) g (s' - g) (ms.getD i 0)), ms.getD i 0), rfl, SqL.of g1, by rw [List.length_map, g2]; exact hpos, fun i x hx => ?_, fun j t hj hjt hmin => ?_⟩
    · obtain ⟨t, ht, rfl⟩ := Option.map_eq_some_iff.mp ((List.getElem?_map ..).symm.trans hx)
      have hi : i < ms.length := by rw [← g2]; exact (List.getElem?_eq_some_iff.mp ht).1
      have hgi := List.getElem?_eq_getElem hi
      obtain ⟨t', z1, z2⟩ := g3 i _ hi hgi
      rw [ht] at z1
      cases z1
      refine ⟨t, rfl, ?_⟩
      show H3 t = some (.tup [.int (ms.getD i 0 - crs (hiF D.its S) g (s' - g) (ms.getD i 0)), .int (ms.getD i 0)])
      rw [List.getD_eq_getElem?_getD, hgi]
      exact z2
    · rw [List.length_map, g2] at hj hmin
      have hgj := List.getElem?_eq_getElem hj
      obtain ⟨t', z1, z2⟩ := g3 j _ hj hgj
      have : t = t' := by
        rw [List.getElem?_map, z1] at hjt
        exact (V.ref.inj (Option.some.inj hjt)).symm
      subst this
      have e13 := (e1.trans e2).trans e3
      have hgd : ∀ i (hi : i < ms.length), ms.getD i 0 = ms[i] := fun i hi => by rw [List.getD_eq_getElem?_getD, List.getElem?_eq_getElem hi]; rfl
      have least : LeastOf (fun m => m - crs (hiF D.its S) g (s' - g) m) ms (ms[j] - crs (hiF D.its S) g (s' - g) ms[j]) := ⟨⟨ms[j], List.getElem_mem _, rfl⟩, fun m hm => by
        obtain ⟨i, hi, rfl⟩ := List.mem_iff_getElem.mp hm
        have := hmin i hi
        dsimp only at this
        rw [hgd j hj, hgd i hi] at this
        exact this⟩
      refine ⟨t, _, rfl, SqT.of z2, rfl, _, _, rfl, _, _, rfl, rfl, ?_⟩
      refine ⟨_, rfl, _, _, dx, _, rfl, e13 _ _ hins, T.c_Reach, T.m_Reach_row_to, rfl, _, rfl, _, rfl, _, _, _, rfl, r, ol, D, S, tabs, g, ms, ms[j], rfl, rfl, rfl, hR2.mono e13, hL.mono e13, ok, sok, hms, List.getElem_mem _, fun r' H4 e4 hrow => ?_⟩
      have e14 := e13.trans e4
      generalize ms[j] - crs (hiF D.its S) g (s' - g) ms[j] = x at least ⊢
      refine ⟨_, rfl, _, rfl, _, _, rfl, ⟨by omega, by omega, by omega, by omega⟩, ?_⟩
      refine for_it walk_range (fun i σ H' => Ex H H' ∧ ∃ (r'' : Addr) (x1 x2 x3 x4 x5 x6 : Option V), RowAt H' r'' (S.map List.length) ∧ σ = [some (.ref r), some (.int (s' : Nat)), some (.int (g : Nat)), some (.ref ol), x6, some (.int x), x5, some (.ref r''), x1, x2, x3, x4, none]) ⟨e14, _, _, _, _, _, _, _, hrow, rfl⟩ (fun _ _ _ _ _ => trivial) (fun i x σ H5 H6 hi h yy => ?_) (fun σ H5 h => ?_)
      · obtain ⟨e5, r'', x1, x2, x3, x4, x5, x6, hrow5, rfl⟩ := h
        obtain ⟨rfl, rfl⟩ := yy
        have hg2 : (g + i) / 2 < D.its.length := by omega
        have hgi := List.getElem?_eq_getElem hg2
        have hgS := List.getElem?_eq_getElem (show (g + i) / 2 < S.length by rw [sok.len]; exact hg2)
        have hrw := sok.row _ _ _ hgi hgS
        have hln : (S.map List.length)[(g + i) / 2]? = some (S[(g + i) / 2]'(by rw [sok.len]; exact hg2)).length := by rw [List.getElem?_map, hgS]; rfl
        obtain ⟨o, ho1, ho2⟩ := (hL.mono e5).order T
        obtain ⟨dxo, o', sd, hio⟩ := hL.ins
        have hjn : (g + i) % 2 = 0 ∨ D.its[(g + i) / 2].pc = true → (g + i) % 2 < (S[(g + i) / 2]'(by rw [sok.len]; exact hg2)).length := fun hh => by
          rw [hrw]
          split <;> rcases hh with hh | hh <;> first | omega | simp_all
        refine ⟨_, rfl, _, _, rfl, ho1, _, rfl, _, _, rfl, o, D, g + i, _, rfl, rfl, ho2, hgi, fun hh t H7 e7 ht => ?_, fun hn hp => ?_⟩
        · have e57 := e5.trans e7
          have hj4 := hjn hh
          have hz : wordsL[(g + i) % 2]? = some (wordsL.getD ((g + i) % 2) "") := by
            rcases (show (g + i) % 2 = 0 ∨ (g + i) % 2 = 1 by omega) with z | z <;> rw [z] <;> rfl
          have hn4 : (S[(g + i) / 2]'(by rw [sok.len]; exact hg2)).length ≤ 4 := sok.len4 hln
          have l8' : (S.map List.length).length ≤ 8 := by rw [List.length_map, sok.len]; exact ok.len
          obtain ⟨o2, ho1', ho2'⟩ := (hL.mono e57).order T
          refine ⟨_, rfl, rfl, _, rfl, ifT rfl ?_⟩
          refine ⟨_, rfl, t, _, rfl, SqT.of ht, rfl, _, _, rfl, _, _, rfl, rfl, ?_⟩
          refine ⟨_, rfl, _, _, rfl, ho1', _, rfl, _, rfl, _, rfl, _, rfl, _, _, dxo, _, rfl, e57 _ _ hio, T.c_Outlook, T.m_Outlook_span_of, rfl, _, rfl, _, rfl, _, _, _, rfl, ol, D, S, (g + i) / 2, (g + i) % 2, _, _, _, _, rfl, hL.mono e57, ok.nd, hgi, hgS, List.getElem?_eq_getElem hj4, hz, rfl, rfl, fun sp hsp => ?_⟩
          exact ⟨_, _, rfl, hsp.high T, _, _, _, _, _, rfl, o2, r'', D, (g + i) / 2, (g + i) % 2, _, _, _, _, rfl, rfl, ho2', ok.nd, hgi, hrow5.mono e7, l8', hln, hn4, hj4, hz, rfl, rfl, fun r3 H8 e8 hrow8 => ⟨e57.trans e8, r3, _, _, _, _, _, _, hrow8, rfl⟩⟩
        · exact ⟨_, rfl, rfl, _, rfl, ifF rfl ⟨e5, r'', _, _, _, _, _, _, hrow5, rfl⟩⟩
      · obtain ⟨e5, r'', x1, x2, x3, x4, x5, x6, hrow5, rfl⟩ := h
        exact ⟨_, rfl, _, rfl, by show 2 ≤ sizeLine; decide, fun t2 ht2 => q t2 r'' _ _ (e5.trans (Ex.new ht2)) upd_same (hrow5.mono (Ex.new ht2)) least⟩
end
end BB
namespace BB
open PySem PySem.Spec PyProof.Rows L2 He Evl
section
variable {K : PySem.W.Frag} {mg : Str → Option Value} {w : World} {base : Heap} {H H' : Hp} {a : Addr} {it : ItD} {D : DyD} {S : SpD}
/-! ### nearest, farthest -/
def evDat (its : List ItD) : EvD → List PyData
  | .op => [.str "opens"]
  | .ev w k => [.str w.s, .str (nmOf its k)]
  | .pl k n => [.str "place", .str (nmOf its k), .int n]
theorem evDat_dp (its : List ItD) (e : EvD) : DpAll K H (evV its e) (evDat its e) := by
  cases e with
  | op => exact .cons (.str _) .nil
  | ev w k => exact .cons (.str _) (.cons (.str _) .nil)
  | pl k n => exact .cons (.str _) (.cons (.str _) (.cons (.int _) .nil))
theorem NmOk.strOk {z : Str} (h : NmOk z) : PyData.strOk z = true := by
  refine Array.all_eq_true_iff_forall_mem.mpr fun c hc => ?_
  rcases h.all c (Array.mem_toList_iff.mpr hc) with h | h
  · have := of_decide_eq_true h
    exact decide_eq_true (by omega)
  · have := of_decide_eq_true h
    exact decide_eq_true (by omega)
theorem evDat_shaped {its : List ItD} {e : EvD} (ok : ItsOk its) (h : EvOk its e) : SeqAt.shaped (.tuple (evDat its e)) = true := by
  have hn : ∀ (k : Nat) (it : ItD), its[k]? = some it → PyData.strOk (nmOf its k) = true := fun k it hk => by
    rw [nmOf_eq hk]
    exact (ok.ok it (List.mem_of_getElem? hk)).nm.strOk
  cases e with
  | op => simp [SeqAt.shaped, evDat, PyData.canLay0, PyData.canLayAll0, PyData.depth, PyData.depthAll]; decide +kernel
  | ev w k =>
    obtain ⟨it, hk, _⟩ := h
    have hw : PyData.strOk w.s = true := by cases w <;> decide +kernel
    simp [SeqAt.shaped, evDat, PyData.canLay0, PyData.canLayAll0, PyData.depth, PyData.depthAll, hn k it hk, hw]
  | pl k n =>
    obtain ⟨it, hk, _⟩ := h
    have hw : PyData.strOk "place" = true := by decide +kernel
    simp [SeqAt.shaped, evDat, PyData.canLay0, PyData.canLayAll0, PyData.depth, PyData.depthAll, hn k it hk, hw]
theorem evDat_eq {its : List ItD} {e f : EvD} (h : PyData.eqv (.tuple (evDat its e)) (.tuple (evDat its f)) = true) : evV its e = evV its f := by
  cases e <;> cases f <;> simp_all [evDat, evV, PyData.eqv, PyData.eqvAll]
/-- what nearest finds -/
def Near (D : DyD) (S : SpD) (tabs : List (List Int)) (e f : EvD) (x : Int) : Prop :=
  (evV D.its e = evV D.its f ∧ x = 0) ∨
  (∃ (s g : Nat) (ms : List Int) (t : Int), ptOf D e = s ∧ ptOf D f = g ∧ s ≤ g ∧ tabs[s]? = some ms ∧ LeastOf (fun m => crs (loF D.its S) s (g - s) m - m) ms t ∧ x = t + (evSp D.its S f).1 - (evSp D.its S e).2) ∨
  (∃ (s g : Nat) (ms : List Int) (t : Int), ptOf D e = s ∧ ptOf D f = g ∧ g < s ∧ tabs[g]? = some ms ∧ LeastOf (fun m => m - crs (hiF D.its S) g (s - g) m) ms t ∧ x = t + (evSp D.its S f).1 - (evSp D.its S e).2)
theorem ptOf_nat {D : DyD} {e : EvD} (h : EvOk D.its e) (hc : 0 ≤ D.ahead) : ∃ p : Nat, ptOf D e = p ∧ p ≤ 2 * D.its.length := by
  have key : ∀ x : Int, 0 ≤ x → x ≤ 2 * D.its.length → ∃ p : Nat, x = p ∧ p ≤ 2 * D.its.length := fun x h0 h1 => ⟨x.toNat, by omega, by omega⟩
  cases e with
  | op => exact key _ (by show (0:Int) ≤ 0; omega) (by show (0:Int) ≤ _; omega)
  | ev w k =>
    obtain ⟨it, hk, _⟩ := h
    have hlt := (List.getElem?_eq_some_iff.mp hk).1
    have hcp : 0 ≤ callPt D k ∧ callPt D k ≤ 2 * D.its.length := by
      unfold callPt
      split <;> omega
    cases w with
    | begin_ => exact key (2 * (k : Int) + 1) (by omega) (by omega)
    | end_ => exact key (2 * (k : Int) + 2) (by omega) (by omega)
    | out => exact key (2 * (k : Int) + 2) (by omega) (by omega)
    | call => exact key _ hcp.1 hcp.2
    | enter => exact key _ hcp.1 hcp.2
  | pl k n =>
    obtain ⟨it, hk, _⟩ := h
    have hlt := (List.getElem?_eq_some_iff.mp hk).1
    exact key (2 * (k : Int) + 1) (by omega) (by omega)
theorem ReachAt.outlook {r ol : Addr} {tabs : List (List Int)} (h : ReachAt K H r ol D S tabs) (T : TX K mg w) : Fd K H r "outlook" (.ref ol) := by
  obtain ⟨TO, tl, orl, ll, tas, ods, lds, hI, R, l1, l2, l3⟩ := h
  exact hI.fd T.c_Reach T.a_Reach_outlook rfl
def sp_nearest (K : PySem.W.Frag) : Sp := S3 fun a b c H Q => ∃ (r ol t1 t2 : Addr) (D : DyD) (S : SpD) (tabs : List (List Int)) (e f : EvD), a = .ref r ∧ b = .ref t1 ∧ c = .ref t2 ∧ ReachAt K H r ol D S tabs ∧ OutlookAt K H ol D S ∧ ItsOk D.its ∧ SOk D.its S ∧ 0 ≤ D.ahead ∧ EvOk D.its e ∧ EvOk D.its f ∧ H t1 = some (.tup (evV D.its e)) ∧ H t2 = some (.tup (evV D.its f)) ∧
  ∀ (p : Addr) (H' : Hp) (x : Int), Ex H H' → DistAt K H' p x → Near D S tabs e f x → Q (.ref p) H'
theorem ok_nearest (T : TX K mg w) : FnR PP w K mg base CX0 8 (ga K "nearest") (sp_nearest K) := by
  refine mkS3 (bn T.f_nearest (fun _ _ _ _ _ _ us hl => match us, hl with | [_, _, _], _ => rfl)) sc_nearest fun cdv A outer s H a b c Q E hr h => ?_
  refine ⟨_, (pss_cons (ps_set (i := 3) sc_nearest.nd rfl (Or.inl rfl) (pe_f (pv 0)))
      (pss_cons (ps_set (i := 4) sc_nearest.nd rfl (Or.inl rfl) (pe_ctor (ct_Hang T) (hr.mono (by decide)) (pa_cons (pv 3) (pa_cons (pv 1) pa_nil))))
      (pss_cons (ps_set (i := 5) sc_nearest.nd rfl (Or.inl rfl) (pe_ctor (ct_Hang T) (hr.mono (by decide)) (pa_cons (pv 3) (pa_cons (pv 2) pa_nil))))
      (pss_cons (ps_if (pt_cmpR (op_eqD hr.units) (pv 1) (pv 2) (nomark _)) (pss_one (ps_ret (pe_ctor (ct_Distance T) (hr.mono (by decide)) (pa_cons pe_int (pa_cons (pe_mt0 (pv 3) (ok_Outlook_first_row T) (hr.mono (by decide))) pa_nil)))))
        pss_nil)
      (pss_cons (ps_if (pt_cmpR op_le (pe_f (pv 4)) (pe_f (pv 5)) (nomark _)) (pss_one (ps_asg (pe_fn (ok_least_ahead T) (hr.mono (by decide)) T.kp_least_ahead T.g_least_ahead (pa_cons (pv 0) (pa_cons (pe_f (pv 4)) (pa_cons (pe_f (pv 5)) pa_nil)))) (pg_tup rfl (pgs_cons (pg_name (i := 6) sc_nearest.nd rfl (Or.inl rfl)) (pgs_cons (pg_name (i := 7) sc_nearest.nd rfl (Or.inl rfl)) pgs_nil)))))
        (pss_one (ps_asg (pe_fn (ok_least_back T) (hr.mono (by decide)) T.kp_least_back T.g_least_back (pa_cons (pv 0) (pa_cons (pe_f (pv 4)) (pa_cons (pe_f (pv 5)) pa_nil)))) (pg_tup rfl (pgs_cons (pg_name (i := 6) sc_nearest.nd rfl (Or.inl rfl)) (pgs_cons (pg_name (i := 7) sc_nearest.nd rfl (Or.inl rfl)) pgs_nil))))))
      (pss_cons (ps_set (i := 7) sc_nearest.nd rfl (Or.inl rfl) (pe_mt (pv 4) (ok_Hang_with_excess T) (hr.mono (by decide)) T.kp_Hang_with_excess (pa_cons (pv 7) (pa_cons (pe_op op_sub (pe_f (pv 4)) (pe_f (pv 4))) pa_nil))))
      (pss_one (ps_ret (pe_ctor (ct_Distance T) (hr.mono (by decide)) (pa_cons (pe_op op_sub (pe_op op_add (pv 6) (pe_f (pv 5))) (pe_f (pv 4))) (pa_cons (pv 7) pa_nil))))))))))), ?_⟩
  obtain ⟨r, ol, t1, t2, D, S, tabs, e, f, rfl, rfl, rfl, hR, hL, ok, sok, hah, he, hf, ht1, ht2, q⟩ := h
  have l8 := ok.len
  obtain ⟨s', es, hs⟩ := ptOf_nat he hah
  obtain ⟨g, eg, hg⟩ := ptOf_nat hf hah
  obtain ⟨dx, tl', orl', ll', hins⟩ := hR.ins
  obtain ⟨dxo, o', sd, hio⟩ := hL.ins
  have TO : TabsOk D.its S D.opens tabs (2 * D.its.length) := by
    obtain ⟨TO, _⟩ := hR
    exact TO
  have tab : ∀ k, k ≤ 2 * D.its.length → ∃ ms, tabs[k]? = some ms := fun k hk => ⟨tabs[k]'(by rw [TO.len]; omega), List.getElem?_eq_getElem _⟩
  refine ⟨_, rfl, _, _, rfl, hR.outlook T, ?_⟩
  refine ⟨_, rfl, _, rfl, _, _, rfl, ol, t1, D, S, e, rfl, rfl, hL, ht1, ok, sok, he, fun h1 H1 n1 e1 hH1 => ?_⟩
  refine ⟨_, rfl, _, rfl, _, _, rfl, ol, t2, D, S, f, rfl, rfl, hL.mono e1, e1 _ _ ht2, ok, sok, hf, fun h2 H2 n2 e2 hH2 => ?_⟩
  have e12 := e1.trans e2
  have hH1' := hH1.mono e2
  refine ⟨_, rfl, _, rfl, _, _, .tup (SqT.of (e12 _ _ ht1)) (evDat_dp _ _), .tup (SqT.of (e12 _ _ ht2)) (evDat_dp _ _), evDat_shaped ok he, evDat_shaped ok hf, _, rfl, if2 (fun ee => ?_) (fun _ => ?_)⟩
  · have ee := evDat_eq ee
    refine ⟨_, rfl, _, _, dxo, _, rfl, e12 _ _ hio, T.c_Outlook, T.m_Outlook_first_row, rfl, _, rfl, ol, D, S, rfl, hL.mono e12, ok, sok, fun r0 H3 hr0 e3 hRow => ?_⟩
    exact ⟨_, _, rfl, _, rfl, fun p H4 n4 e4 hD => q p _ _ ((e12.trans e3).trans e4) hD (.inl ⟨ee, rfl⟩)⟩
  · refine ⟨_, rfl, _, _, rfl, hH1'.point T, _, rfl, _, _, rfl, hH2.point T, _, _, rfl, rfl, _, rfl, if2 (fun hle => ?_) (fun hle => ?_)⟩
    · have hle := of_decide_eq_true hle
      rw [es, eg] at hle
      obtain ⟨ms, hms⟩ := tab s' hs
      refine ⟨_, rfl, _, rfl, _, _, rfl, es ▸ hH1'.point T, _, rfl, _, _, rfl, eg ▸ hH2.point T, _, _, _, rfl, r, ol, D, S, tabs, s', g, ms, rfl, rfl, rfl, hR.mono e12, hL.mono e12, ok, sok, by omega, hg, hms, fun t r' H3 x e3 ht hrow hx => ?_⟩
      refine ⟨t, _, rfl, SqT.of ht, rfl, _, _, rfl, _, _, rfl, rfl, ?_⟩
      have e13 := e12.trans e3
      obtain ⟨t0, hI1, _⟩ := id (hH1'.mono e3)
      obtain ⟨dxh, hih⟩ := hI1
      refine ⟨_, rfl, h1, _, dxh, _, rfl, hih, T.c_Hang, T.m_Hang_with_excess, rfl, _, rfl, _, rfl, _, _, rfl, (hH1'.mono e3).greatest T, _, rfl, _, _, rfl, (hH1'.mono e3).least T, _, _, rfl, rfl, _, _, _, rfl, h1, ol, r', D, S, e, _, rfl, rfl, rfl, hH1'.mono e3, hL.mono e13, ok, sok, he, hrow, fun r2 H4 e4 hr2 => ?_⟩
      exact ⟨_, rfl, _, rfl, _, _, rfl, (hH2.mono (e3.trans e4)).least T, _, _, rfl, rfl, _, rfl, _, _, rfl, (hH1'.mono (e3.trans e4)).greatest T, _, _, rfl, rfl, _, rfl, _, _, rfl, _, rfl, fun p H5 n5 e5 hD => q p _ _ ((e13.trans e4).trans e5) hD (.inr (.inl ⟨s', g, ms, x, es, eg, by omega, hms, hx, rfl⟩))⟩
    · have hle := of_decide_eq_false hle
      rw [es, eg] at hle
      obtain ⟨ms, hms⟩ := tab g hg
      refine ⟨_, rfl, _, rfl, _, _, rfl, es ▸ hH1'.point T, _, rfl, _, _, rfl, eg ▸ hH2.point T, _, _, _, rfl, r, ol, D, S, tabs, s', g, ms, rfl, rfl, rfl, hR.mono e12, hL.mono e12, ok, sok, by omega, hs, hms, fun t r' H3 x e3 ht hrow hx => ?_⟩
      refine ⟨t, _, rfl, SqT.of ht, rfl, _, _, rfl, _, _, rfl, rfl, ?_⟩
      have e13 := e12.trans e3
      obtain ⟨t0, hI1, _⟩ := id (hH1'.mono e3)
      obtain ⟨dxh, hih⟩ := hI1
      refine ⟨_, rfl, h1, _, dxh, _, rfl, hih, T.c_Hang, T.m_Hang_with_excess, rfl, _, rfl, _, rfl, _, _, rfl, (hH1'.mono e3).greatest T, _, rfl, _, _, rfl, (hH1'.mono e3).least T, _, _, rfl, rfl, _, _, _, rfl, h1, ol, r', D, S, e, _, rfl, rfl, rfl, hH1'.mono e3, hL.mono e13, ok, sok, he, hrow, fun r2 H4 e4 hr2 => ?_⟩
      exact ⟨_, rfl, _, rfl, _, _, rfl, (hH2.mono (e3.trans e4)).least T, _, _, rfl, rfl, _, rfl, _, _, rfl, (hH1'.mono (e3.trans e4)).greatest T, _, _, rfl, rfl, _, rfl, _, _, rfl, _, rfl, fun p H5 n5 e5 hD => q p _ _ ((e13.trans e4).trans e5) hD (.inr (.inr ⟨s', g, ms, x, es, eg, by omega, hms, hx, rfl⟩))⟩
def sp_farthest (K : PySem.W.Frag) : Sp := S3 fun a b c H Q => ∃ (r ol t1 t2 : Addr) (D : DyD) (S : SpD) (tabs : List (List Int)) (e f : EvD), a = .ref r ∧ b = .ref t1 ∧ c = .ref t2 ∧ ReachAt K H r ol D S tabs ∧ OutlookAt K H ol D S ∧ ItsOk D.its ∧ SOk D.its S ∧ 0 ≤ D.ahead ∧ EvOk D.its e ∧ EvOk D.its f ∧ H t1 = some (.tup (evV D.its e)) ∧ H t2 = some (.tup (evV D.its f)) ∧
  ∀ (p : Addr) (H' : Hp) (x : Int), Ex H H' → DistAt K H' p (-x) → Near D S tabs f e x → Q (.ref p) H'
theorem ok_farthest (T : TX K mg w) : FnR PP w K mg base CX0 9 (ga K "farthest") (sp_farthest K) := by
  refine mkS3 (bn T.f_farthest (fun _ _ _ _ _ _ us hl => match us, hl with | [_, _, _], _ => rfl)) sc_farthest fun cdv A outer s H a b c Q E hr h => ?_
  refine ⟨_, (pss_cons (ps_expr (pe_fn (ok_point_of T) (hr.mono (by decide)) T.kp_point_of T.g_point_of (pa_cons (pe_f (pe_f (pv 0))) (pa_cons (pv 1) pa_nil))))
      (pss_cons (ps_set (i := 3) sc_farthest.nd rfl (Or.inl rfl) (pe_fn (ok_nearest T) (hr.mono (by decide)) T.kp_nearest T.g_nearest (pa_cons (pv 0) (pa_cons (pv 2) (pa_cons (pv 1) pa_nil)))))
      (pss_one (ps_ret (pe_ctor (ct_Distance T) (hr.mono (by decide)) (pa_cons (pe_un un_neg (pe_f (pv 3))) (pa_cons (pe_f (pv 3)) pa_nil))))))), ?_⟩
  obtain ⟨r, ol, t1, t2, D, S, tabs, e, f, rfl, rfl, rfl, hR, hL, ok, sok, hah, he, hf, ht1, ht2, q⟩ := h
  obtain ⟨dxo, o', sd, hio⟩ := hL.ins
  obtain ⟨o, ho1, ho2⟩ := hL.order T
  refine ⟨_, rfl, _, _, rfl, hR.outlook T, _, _, rfl, ho1, _, rfl, _, _, rfl, o, t1, D, e, rfl, rfl, ho2, ok, he, ht1, fun H1 e1 => ?_⟩
  refine ⟨_, rfl, _, rfl, _, rfl, _, _, _, rfl, r, ol, t2, t1, D, S, tabs, f, e, rfl, rfl, rfl, hR.mono e1, hL.mono e1, ok, sok, hah, hf, he, e1 _ _ ht2, e1 _ _ ht1, fun p H2 x e2 hD hx => ?_⟩
  obtain ⟨v, hI⟩ := hD
  refine ⟨_, rfl, _, _, rfl, hI.fd T.c_Distance T.a_Distance_ticks rfl, _, rfl, _, rfl, _, _, rfl, hI.fd T.c_Distance T.a_Distance_row rfl, _, _, rfl, _, rfl, fun p2 H3 n3 e3 hD => q p2 _ x ((e1.trans e2).trans e3) hD hx⟩
end
end BB
namespace BB
open PySem PySem.Spec PyProof.Rows L2 He Evl
section
variable {K : PySem.W.Frag} {mg : Str → Option Value} {w : World} {base : Heap} {H H' : Hp} {a : Addr} {it : ItD} {D : DyD} {S : SpD}
/-! ### corners -/
def ext (q : Int × Int) (b : Bool) : Int := if b then q.2 else q.1
/-- one item's lags in the corner (late) or the hollow of a point -/
def bentI (sp : List (Int × Int)) (pc : Bool) (k p : Nat) (late : Bool) : List Int :=
  ext (sp.getD 0 (0, 0)) (decide (2 * k < p) == late) :: (if pc then [ext (sp.getD 1 (0, 0)) (decide (2 * k + 1 < p) == late), (sp.getD 2 (0, 0)).1, (sp.getD 3 (0, 0)).2] else [])
/-- a row of tuples of ints -/
def RowV (H : Hp) (r : Addr) (rows : List (List Int)) : Prop := ∃ ts : List Addr, H r = some (.lst (ts.map V.ref)) ∧ ts.length = rows.length ∧ ∀ (i : Nat) (row : List Int), rows[i]? = some row → ∃ t, ts[i]? = some t ∧ H t = some (.tup (row.map V.int))
theorem RowV.mono {r : Addr} {rows : List (List Int)} (h : RowV H r rows) (e : Ex H H') : RowV H' r rows := by
  obtain ⟨ts, h1, h2, h3⟩ := h
  refine ⟨ts, e _ _ h1, h2, fun i row hr => ?_⟩
  obtain ⟨t, h4, h5⟩ := h3 i row hr
  exact ⟨t, h4, e _ _ h5⟩
def bent (its : List ItD) (S : SpD) (p : Nat) (late : Bool) : List (List Int) := its.zipIdx.map fun q => bentI (S.getD q.2 []) q.1.pc q.2 p late
def sp_bent_row (K : PySem.W.Frag) : Sp := S3 fun a b c H Q => ∃ (ol : Addr) (D : DyD) (S : SpD) (p : Nat) (late : Bool), a = .ref ol ∧ b = .int (p : Nat) ∧ c = .bl late ∧ OutlookAt K H ol D S ∧ ItsOk D.its ∧ SOk D.its S ∧ p ≤ 2 * D.its.length ∧
  ∀ r H', H r = none → Ex H H' → RowV H' r (bent D.its S p late) → Q (.ref r) H'
theorem ok_bent_row (T : TX K mg w) : FnR PP w K mg base CX0 3 (ga K "bent_row") (sp_bent_row K) := by
  refine mkS3 (bn T.f_bent_row (fun _ _ _ _ _ _ us hl => match us, hl with | [_, _, _], _ => rfl)) sc_bent_row fun cdv A outer s H a b c Q E hr h => ?_
  refine ⟨_, (pss_cons (ps_if (pt_not (pt_chain op_le op_lt pe_int (pv 1) (pe_pr T.c_Order (pr_Order_points T) (hr.mono (by decide)) (pe_f (pv 0))))) (pss_one ps_never)
        pss_nil)
      (pss_cons (ps_set (i := 3) sc_bent_row.nd rfl (Or.inl rfl) (pe_lst pa_nil))
      (pss_cons (ps_for PassesOwn.never rfl (pi_enumT (by rfl) T.n_enumerate (pa_cons (pe_f (pe_f (pv 0))) pa_nil)) (pg_tup rfl (pgs_cons (pg_name (i := 4) sc_bent_row.nd rfl (Or.inl rfl)) (pgs_cons (pg_name (i := 5) sc_bent_row.nd rfl (Or.inl rfl)) pgs_nil)))
        (pss_cons (ps_set (i := 6) sc_bent_row.nd rfl (Or.inl rfl) (pe_lst (pa_cons (pe_fn (ok_extreme T) (hr.mono (by decide)) T.kp_extreme T.g_extreme (pa_cons (pe_mt (pv 0) (ok_Outlook_span_of T) (hr.mono (by decide)) T.kp_Outlook_span_of (pa_cons (pe_f (pv 5)) (pa_cons pe_str pa_nil))) (pa_cons (pe_cmpR op_eq (pe_cmpR op_gt (pv 1) (pe_op op_mul pe_int (pv 4)) (nomark _)) (pv 2) (nomark _)) pa_nil))) pa_nil)))
      (pss_cons (ps_if (pt_val (pe_callB call_isi (by rfl) T.n_isinstance (by decide +kernel) (pa_cons (pv 5) (pa_cons (pe_gr T.g_Piece) pa_nil)))) (pss_cons (ps_expr (pe_bm PySem.F.plainAttrs_list PySem.F.slot_list_append PySem.F.type_list_append mt_append (pv 6) (pa_cons (pe_fn (ok_extreme T) (hr.mono (by decide)) T.kp_extreme T.g_extreme (pa_cons (pe_mt (pv 0) (ok_Outlook_span_of T) (hr.mono (by decide)) T.kp_Outlook_span_of (pa_cons (pe_f (pv 5)) (pa_cons pe_str pa_nil))) (pa_cons (pe_cmpR op_eq (pe_cmpR op_gt (pv 1) (pe_op op_add (pe_op op_mul pe_int (pv 4)) pe_int) (nomark _)) (pv 2) (nomark _)) pa_nil))) pa_nil)))
      (pss_cons (ps_expr (pe_bm PySem.F.plainAttrs_list PySem.F.slot_list_append PySem.F.type_list_append mt_append (pv 6) (pa_cons (pe_f (pe_mt (pv 0) (ok_Outlook_span_of T) (hr.mono (by decide)) T.kp_Outlook_span_of (pa_cons (pe_f (pv 5)) (pa_cons pe_str pa_nil)))) pa_nil)))
      (pss_one (ps_expr (pe_bm PySem.F.plainAttrs_list PySem.F.slot_list_append PySem.F.type_list_append mt_append (pv 6) (pa_cons (pe_f (pe_mt (pv 0) (ok_Outlook_span_of T) (hr.mono (by decide)) T.kp_Outlook_span_of (pa_cons (pe_f (pv 5)) (pa_cons pe_str pa_nil)))) pa_nil))))))
        pss_nil)
      (pss_one (ps_expr (pe_bm PySem.F.plainAttrs_list PySem.F.slot_list_append PySem.F.type_list_append mt_append (pv 3) (pa_cons (pe_callTy call_tuple_of (by rfl) T.n_tuple (by decide +kernel) (pa_cons (pv 6) pa_nil)) pa_nil)))))))
      (pss_one (ps_ret (pv 3)))))), ?_⟩
  obtain ⟨ol, D, S, p, late, rfl, rfl, rfl, hL, ok, sok, hp, q⟩ := h
  have l8 := ok.len
  obtain ⟨dxo, o', sd, hio⟩ := hL.ins
  obtain ⟨o, ho1, ho2⟩ := hL.order T
  have ho3 := ho2
  obtain ⟨hox, tpx, ndx, isx, ⟨dx3, hins3⟩, _⟩ := ho2
  obtain ⟨tp, is, h1, h2, h3⟩ := ho3.lineup T
  refine ⟨_, rfl, _, _, rfl, rfl, _, rfl, ifT (decide_eq_true (by omega)) ⟨_, rfl, _, _, rfl, ho1, o, dx3, _, rfl, hins3, _, rfl, o, D, rfl, ho3, _, _, rfl, rfl, _, rfl, ifF (by simp; omega) ?_⟩⟩
  refine ⟨by show 0 ≤ sizeLine; decide, fun d hd => ?_⟩
  have e1 : Ex H (upd H d (.lst [])) := Ex.new hd
  have d1 : (upd H d (.lst [])) d = some (.lst []) := upd_same
  generalize upd H d (.lst []) = H1 at e1 d1 ⊢
  refine ⟨_, rfl, _, _, rfl, ho1.mono e1, _, _, rfl, h1.mono e1, tp, _, rfl, SqT.of (e1 _ _ h2), ?_⟩
  refine for_it walk_enumT (fun i σ H' => Ex H H' ∧ (∃ ts : List Addr, H' d = some (.lst (ts.map V.ref)) ∧ ts.length = i ∧ ∀ (j : Nat) (row : List Int), j < i → (bent D.its S p late)[j]? = some row → ∃ t, ts[j]? = some t ∧ H' t = some (.tup (row.map V.int))) ∧ ∃ x4 x5 x6, σ = [some (.ref ol), some (.int (p : Nat)), some (.bl late), some (.ref d), x4, x5, x6])
    ⟨e1, ⟨[], d1, rfl, fun j row hj => absurd hj (Nat.not_lt_zero _)⟩, _, _, _, rfl⟩ (fun i σ H' _ h => SqT.of (h.1 _ _ h2)) (fun i x σ H2 H3 hi h yy => ?_) (fun σ H2 h => ?_)
  · obtain ⟨e2, ⟨ts, g1, g2, g3⟩, x4, x5, x6, rfl⟩ := h
    obtain ⟨t, y1, y2, rfl, hT, rfl, z1, z2⟩ := yy
    cases z1
    obtain ⟨x, hx, rfl⟩ := Option.map_eq_some_iff.mp ((List.getElem?_map ..).symm.trans z2)
    have hi2 : i < D.its.length := by rw [List.length_map, h3.1] at hi; exact hi
    have hg := List.getElem?_eq_getElem hi2
    have hsg := List.getElem?_eq_getElem (show i < S.length by rw [sok.len]; exact hi2)
    generalize S[i]'(by rw [sok.len]; exact hi2) = sp at hsg
    have hrow := sok.row _ _ _ hg hsg
    generalize hit : D.its[i] = it at hg hrow
    have e3 : Ex H (upd H2 t (.tup [.int (i : Nat), .ref x])) := e2.trans (Ex.new hT)
    have d3 : (upd H2 t (.tup [.int (i : Nat), .ref x])) d = some (.lst (ts.map V.ref)) := (Ex.new hT) _ _ g1
    have e23 : Ex H2 (upd H2 t (.tup [.int (i : Nat), .ref x])) := Ex.new hT
    have t3 : (upd H2 t (.tup [.int (i : Nat), .ref x])) t = some (.tup [.int (i : Nat), .ref x]) := upd_same
    generalize upd H2 t (.tup [.int (i : Nat), .ref x]) = H3 at e3 d3 e23 t3 ⊢
    refine ⟨t, _, rfl, SqT.of t3, rfl, _, _, rfl, _, _, rfl, rfl, ?_⟩
    obtain ⟨x', hx', hI0⟩ := h3.2 _ _ hg
    rw [hx] at hx'
    cases hx'
    have hI := hI0.mono e3
    have hL3 := hL.mono e3
    have h0 : sp[0]? = some (sp.getD 0 (0, 0)) := by
      have : 0 < sp.length := by rw [hrow]; split <;> omega
      rw [List.getD_eq_getElem?_getD, List.getElem?_eq_getElem this]; rfl
    have dec : ∀ (m : Int) (M : Nat), m = M → V.bl (decide (V.bl (decide (m < (p : Nat))) = V.bl late)) = V.bl (decide (M < p) == late) := fun m M e => by
      have : decide (m < (p : Nat)) = decide (M < p) := by rw [e]; simp
      rw [this]
      cases decide (M < p) <;> cases late <;> rfl
    refine ⟨_, rfl, ol, _, dxo, _, rfl, e3 _ _ hio, T.c_Outlook, T.m_Outlook_span_of, rfl, _, rfl, _, _, rfl, hI.name T, _, _, _, rfl, ol, D, S, i, 0, it, sp, _, "delay", rfl, hL3, ok.nd, hg, hsg, h0, rfl, rfl, rfl, fun s1 hs1 => ?_⟩
    refine ⟨_, rfl, _, rfl, _, _, rfl, rfl, .inl ⟨by decide, by decide⟩, _, _, rfl, rfl, _, rfl, rfl, _, _, rfl, s1, _, _, (decide (2 * i < p) == late), rfl, dec _ (2 * i) (by omega), hs1, by show 1 ≤ sizeLine; decide, fun lg hlg => ?_⟩
    have e34 : Ex H3 (upd H3 lg (.lst [.int (if (decide (2 * i < p) == late) = true then (sp.getD 0 (0, 0)).2 else (sp.getD 0 (0, 0)).1)])) := Ex.new hlg
    have l4 : (upd H3 lg (.lst [.int (if (decide (2 * i < p) == late) = true then (sp.getD 0 (0, 0)).2 else (sp.getD 0 (0, 0)).1)])) lg = some (.lst [.int (ext (sp.getD 0 (0, 0)) (decide (2 * i < p) == late))]) := upd_same
    generalize upd H3 lg (.lst [.int (if (decide (2 * i < p) == late) = true then (sp.getD 0 (0, 0)).2 else (sp.getD 0 (0, 0)).1)]) = H4 at e34 l4 ⊢
    have e4 := e3.trans e34
    have ngd : lg ≠ d := fun z => by rw [z, d3] at hlg; cases hlg
    obtain ⟨ty, ht1, ht2⟩ := (hI.mono e34).isi T true
    -- the last append
    have hbi : (bent D.its S p late)[i]? = some (bentI sp it.pc i p late) := by
      unfold bent
      rw [List.getElem?_map, List.getElem?_zipIdx, hg]
      show some (bentI (S.getD (0 + i) []) it.pc (0 + i) p late) = _
      rw [Nat.zero_add, List.getD_eq_getElem?_getD, hsg]
      rfl
    have fin : ∀ (H5 : Hp) (t' : Addr), Ex H3 H5 → H5 t' = none → (upd H5 t' (.tup ((bentI sp it.pc i p late).map V.int))) d = some (.lst (ts.map V.ref)) ∧ Ex H (upd (upd H5 t' (.tup ((bentI sp it.pc i p late).map V.int))) d (.lst (ts.map V.ref ++ [.ref t']))) ∧
      ∃ ts2 : List Addr, (upd (upd H5 t' (.tup ((bentI sp it.pc i p late).map V.int))) d (.lst (ts.map V.ref ++ [.ref t']))) d = some (.lst (ts2.map V.ref)) ∧ ts2.length = i + 1 ∧ ∀ (j : Nat) (row : List Int), j < i + 1 → (bent D.its S p late)[j]? = some row → ∃ t, ts2[j]? = some t ∧ (upd (upd H5 t' (.tup ((bentI sp it.pc i p late).map V.int))) d (.lst (ts.map V.ref ++ [.ref t']))) t = some (.tup (row.map V.int)) := fun H5 t' e5 ht' => by
      have d5 := e5 _ _ d3
      have ntd : t' ≠ d := fun z => by rw [z, d5] at ht'; cases ht'
      have e6 := e5.trans (Ex.new (o := .tup ((bentI sp it.pc i p late).map V.int)) ht')
      have mu : Mut d (upd H5 t' (.tup ((bentI sp it.pc i p late).map V.int))) (upd (upd H5 t' (.tup ((bentI sp it.pc i p late).map V.int))) d (.lst (ts.map V.ref ++ [.ref t']))) (.lst (ts.map V.ref ++ [.ref t'])) := Mut.upd
      refine ⟨e6 _ _ d3, (e3.trans e6).mut hd, ts ++ [t'], by rw [upd_same, List.map_append]; rfl, by simp [g2], fun j row hj hr => ?_⟩
      by_cases hji : j = i
      · subst hji
        rw [hbi] at hr
        cases hr
        exact ⟨t', by rw [List.getElem?_append_right (by omega), g2, Nat.sub_self]; rfl, mu.1 _ _ ntd upd_same⟩
      · obtain ⟨t2, w1, w2⟩ := g3 j row (by omega) hr
        exact ⟨t2, by rw [List.getElem?_append_left (by omega)]; exact w1, mu.1 _ _ (fun z => by rw [z, g1] at w2; cases w2) (e6 _ _ (e23 _ _ w2))⟩
    have sz : (ts.map V.ref).length < sizeLine := sz_lt (by rw [List.length_map]; omega)
    refine ⟨_, rfl, _, _, _, _, _, rfl, .own _, ht1, ht2, _, rfl, if2 (fun eb => ?_) (fun eb => ?_)⟩
    · have eb : it.pc = true := by simpa using eb
      rw [eb] at hrow fin
      have hrow : sp.length = 4 := hrow
      have hq : ∀ k, k < 4 → sp[k]? = some (sp.getD k (0, 0)) := fun k hk => by rw [List.getD_eq_getElem?_getD, List.getElem?_eq_getElem (by omega)]; rfl
      have hL4 := hL3.mono e34
      refine ⟨_, rfl, .inl ⟨rfl, _, SqL.of l4⟩, _, rfl, ol, _, dxo, _, rfl, e4 _ _ hio, T.c_Outlook, T.m_Outlook_span_of, rfl, _, rfl, _, _, rfl, (hI.mono e34).name T, _, _, _, rfl, ol, D, S, i, 1, it, sp, _, "length", rfl, hL4, ok.nd, hg, hsg, hq 1 (by omega), rfl, rfl, rfl, fun s2 hs2 => ?_⟩
      refine ⟨_, rfl, _, rfl, _, _, rfl, rfl, .inl ⟨by decide, by decide⟩, _, _, rfl, rfl, _, _, rfl, rfl, _, rfl, rfl, _, _, rfl, s2, _, _, (decide (2 * i + 1 < p) == late), rfl, dec _ (2 * i + 1) (by omega), hs2, lg, _, _, rfl, rfl, l4, sz_lt (by show 1 < _; omega), ?_⟩
      have e35 : Ex H3 (upd H4 lg (.lst ([.int (ext (sp.getD 0 (0, 0)) (decide (2 * i < p) == late))] ++ [.int (if (decide (2 * i + 1 < p) == late) = true then (sp.getD 1 (0, 0)).2 else (sp.getD 1 (0, 0)).1)]))) := e34.mut hlg
      have l5 : (upd H4 lg (.lst ([.int (ext (sp.getD 0 (0, 0)) (decide (2 * i < p) == late))] ++ [.int (if (decide (2 * i + 1 < p) == late) = true then (sp.getD 1 (0, 0)).2 else (sp.getD 1 (0, 0)).1)]))) lg = some (.lst [.int (ext (sp.getD 0 (0, 0)) (decide (2 * i < p) == late)), .int (ext (sp.getD 1 (0, 0)) (decide (2 * i + 1 < p) == late))]) := upd_same
      generalize upd H4 lg (.lst ([.int (ext (sp.getD 0 (0, 0)) (decide (2 * i < p) == late))] ++ [.int (if (decide (2 * i + 1 < p) == late) = true then (sp.getD 1 (0, 0)).2 else (sp.getD 1 (0, 0)).1)])) = H5 at e35 l5 ⊢
      refine ⟨_, rfl, .inl ⟨rfl, _, SqL.of l5⟩, _, rfl, ol, _, dxo, _, rfl, (e3.trans e35) _ _ hio, T.c_Outlook, T.m_Outlook_span_of, rfl, _, rfl, _, _, rfl, (hI.mono e35).name T, _, _, _, rfl, ol, D, S, i, 2, it, sp, _, "walk", rfl, hL3.mono e35, ok.nd, hg, hsg, hq 2 (by omega), rfl, rfl, rfl, fun s3 hs3 => ?_⟩
      refine ⟨_, _, rfl, hs3.low T, lg, _, _, rfl, rfl, l5, sz_lt (by show 2 < _; omega), ?_⟩
      have e36 : Ex H3 (upd H5 lg (.lst ([.int (ext (sp.getD 0 (0, 0)) (decide (2 * i < p) == late)), .int (ext (sp.getD 1 (0, 0)) (decide (2 * i + 1 < p) == late))] ++ [.int (sp.getD 2 (0, 0)).1]))) := e35.mut hlg
      have l6 : (upd H5 lg (.lst ([.int (ext (sp.getD 0 (0, 0)) (decide (2 * i < p) == late)), .int (ext (sp.getD 1 (0, 0)) (decide (2 * i + 1 < p) == late))] ++ [.int (sp.getD 2 (0, 0)).1]))) lg = some (.lst [.int (ext (sp.getD 0 (0, 0)) (decide (2 * i < p) == late)), .int (ext (sp.getD 1 (0, 0)) (decide (2 * i + 1 < p) == late)), .int (sp.getD 2 (0, 0)).1]) := upd_same
      generalize upd H5 lg (.lst ([.int (ext (sp.getD 0 (0, 0)) (decide (2 * i < p) == late)), .int (ext (sp.getD 1 (0, 0)) (decide (2 * i + 1 < p) == late))] ++ [.int (sp.getD 2 (0, 0)).1])) = H6 at e36 l6 ⊢
      refine ⟨_, rfl, .inl ⟨rfl, _, SqL.of l6⟩, _, rfl, ol, _, dxo, _, rfl, (e3.trans e36) _ _ hio, T.c_Outlook, T.m_Outlook_span_of, rfl, _, rfl, _, _, rfl, (hI.mono e36).name T, _, _, _, rfl, ol, D, S, i, 3, it, sp, _, "pack", rfl, hL3.mono e36, ok.nd, hg, hsg, hq 3 (by omega), rfl, rfl, rfl, fun s4 hs4 => ?_⟩
      refine ⟨_, _, rfl, hs4.high T, lg, _, _, rfl, rfl, l6, sz_lt (by show 3 < _; omega), ?_⟩
      have e37 : Ex H3 (upd H6 lg (.lst ([.int (ext (sp.getD 0 (0, 0)) (decide (2 * i < p) == late)), .int (ext (sp.getD 1 (0, 0)) (decide (2 * i + 1 < p) == late)), .int (sp.getD 2 (0, 0)).1] ++ [.int (sp.getD 3 (0, 0)).2]))) := e36.mut hlg
      have l7 : (upd H6 lg (.lst ([.int (ext (sp.getD 0 (0, 0)) (decide (2 * i < p) == late)), .int (ext (sp.getD 1 (0, 0)) (decide (2 * i + 1 < p) == late)), .int (sp.getD 2 (0, 0)).1] ++ [.int (sp.getD 3 (0, 0)).2]))) lg = some (.lst ((bentI sp true i p late).map V.int)) := upd_same
      generalize upd H6 lg (.lst ([.int (ext (sp.getD 0 (0, 0)) (decide (2 * i < p) == late)), .int (ext (sp.getD 1 (0, 0)) (decide (2 * i + 1 < p) == late)), .int (sp.getD 2 (0, 0)).1] ++ [.int (sp.getD 3 (0, 0)).2])) = H7 at e37 l7 ⊢
      refine ⟨_, rfl, .inl ⟨rfl, _, SqL.of (e37 _ _ d3)⟩, _, rfl, lg, _, rfl, .inl ⟨SqL.of l7, fun t' ht' => ?_⟩⟩
      obtain ⟨f1, f2, f3⟩ := fin H7 t' e37 ht'
      exact ⟨d, _, _, rfl, rfl, f1, sz, f2, f3, _, _, _, rfl⟩
    · have eb : it.pc = false := by simpa using eb
      rw [eb] at fin
      refine ⟨_, rfl, .inl ⟨rfl, _, SqL.of (e34 _ _ d3)⟩, _, rfl, lg, _, rfl, .inl ⟨SqL.of l4, fun t' ht' => ?_⟩⟩
      obtain ⟨f1, f2, f3⟩ := fin H4 t' e34 ht'
      exact ⟨d, _, _, rfl, rfl, f1, sz, f2, f3, _, _, _, rfl⟩
  · obtain ⟨e2, ⟨ts, g1, g2, g3⟩, x4, x5, x6, rfl⟩ := h
    refine ⟨_, rfl, q d H2 hd e2 ⟨ts, g1, ?_, fun i row hr => g3 i row ?_ hr⟩⟩
    · rw [g2, List.length_map, h3.1]
      unfold bent
      rw [List.length_map, List.length_zipIdx]
    · have := (List.getElem?_eq_some_iff.mp hr).1
      unfold bent at this
      rw [List.length_map, List.length_zipIdx] at this
      rw [List.length_map, h3.1]
      exact this
def sp_corner (K : PySem.W.Frag) : Sp := S2 fun a b H Q => ∃ (ol : Addr) (D : DyD) (S : SpD) (p : Nat), a = .ref ol ∧ b = .int (p : Nat) ∧ OutlookAt K H ol D S ∧ ItsOk D.its ∧ SOk D.its S ∧ p ≤ 2 * D.its.length ∧
  ∀ r H', H r = none → Ex H H' → RowV H' r (bent D.its S p true) → Q (.ref r) H'
theorem ok_corner (T : TX K mg w) : FnR PP w K mg base CX0 4 (ga K "corner") (sp_corner K) := by
  refine mkS2 (bn T.f_corner (fun _ _ _ _ _ _ us hl => match us, hl with | [_, _], _ => rfl)) sc_corner fun cdv A outer s H a b Q E hr h => ?_
  refine ⟨_, (pss_one (ps_ret (pe_fn (ok_bent_row T) (hr.mono (by decide)) T.kp_bent_row T.g_bent_row (pa_cons (pv 0) (pa_cons (pv 1) (pa_cons pe_bl pa_nil)))))), ?_⟩
  obtain ⟨ol, D, S, p, rfl, rfl, hL, ok, sok, hp, q⟩ := h
  exact ⟨_, rfl, _, rfl, _, _, _, rfl, ol, D, S, p, true, rfl, rfl, rfl, hL, ok, sok, hp, q⟩
def sp_hollow (K : PySem.W.Frag) : Sp := S2 fun a b H Q => ∃ (ol : Addr) (D : DyD) (S : SpD) (p : Nat), a = .ref ol ∧ b = .int (p : Nat) ∧ OutlookAt K H ol D S ∧ ItsOk D.its ∧ SOk D.its S ∧ p ≤ 2 * D.its.length ∧
  ∀ r H', H r = none → Ex H H' → RowV H' r (bent D.its S p false) → Q (.ref r) H'
theorem ok_hollow (T : TX K mg w) : FnR PP w K mg base CX0 4 (ga K "hollow") (sp_hollow K) := by
  refine mkS2 (bn T.f_hollow (fun _ _ _ _ _ _ us hl => match us, hl with | [_, _], _ => rfl)) sc_hollow fun cdv A outer s H a b Q E hr h => ?_
  refine ⟨_, (pss_one (ps_ret (pe_fn (ok_bent_row T) (hr.mono (by decide)) T.kp_bent_row T.g_bent_row (pa_cons (pv 0) (pa_cons (pv 1) (pa_cons pe_bl pa_nil)))))), ?_⟩
  obtain ⟨ol, D, S, p, rfl, rfl, hL, ok, sok, hp, q⟩ := h
  exact ⟨_, rfl, _, rfl, _, _, _, rfl, ol, D, S, p, false, rfl, rfl, rfl, hL, ok, sok, hp, q⟩
end
end BB
namespace BB
open PySem PySem.Spec PyProof.Rows L2 He Evl
section
variable {K : PySem.W.Frag} {mg : Str → Option Value} {w : World} {base : Heap} {H H' : Hp} {a : Addr} {it : ItD} {D : DyD} {S : SpD}
def sp_np (K : PySem.W.Frag) : Sp := S2 fun a b H Q => ∃ (y : Addr) (i : Int), a = .ref y ∧ b = .int i ∧ H y = some (exo y (ga K "NoPoint") none) ∧ ∀ dx, H dx = none → dx ≠ y → Q .non (upd (upd H dx (exd dx [("point", .int i)])) y (exo y (ga K "NoPoint") (some dx)))
theorem fo_np (T : TX K mg w) : ∃ fd : FuncData, FnOk PP w K mg base CX0 2 (ma K (ga K "NoPoint") "__init__") fd ["self", "point"] (sp_np K) ∧ Binds K fd ["self", "point"] [] := by
  obtain ⟨fd, F⟩ := T.np_sup
  refine ⟨fd, fn_supE (N := N_NoPoint_init) (k := 1) F sc_NoPoint_init rfl rfl T.np_oex T.np_si (fun vs H Q E h => ?_) (fun cdv A outer s H vs Q E hr h => ?_) (fun _ _ => rfl) (fun _ _ => rfl) (fun _ _ => rfl) (fun _ _ => rfl), ?_⟩
  · obtain ⟨a, b, rfl, _⟩ := h
    rfl
  · obtain ⟨a, b, rfl, y, i, rfl, rfl, hy, q⟩ := h
    refine ⟨y, _, _, rfl, hy, pa_cons pe_str pa_nil, pss_one (ps_ost (pv 0) (pv 1)), ?_⟩
    refine ⟨hy, by show 1 ≤ 1000; decide, ?_⟩
    exact ⟨_, rfl, _, rfl, y, _, rfl, T.np_oex, T.np_at.1, .inl ⟨hy, fun dx h1 h2 => q dx h1 h2⟩⟩
  · obtain ⟨oc, od, dV, kV, doc, pm, an, cda, ct, osl, ccl, cdd, cvs, ccs, file, tf, rfl, _, _, hD, hK, _⟩ := F.ex
    rcases hD with ⟨_, rfl⟩ | ⟨e, _⟩
    · exact Binds.all fun us hl => match us, hl with | [_, _], _ => rfl
    · exact absurd rfl e
def sp_bentX (K : PySem.W.Frag) : Sp := fun vs H Q E => ∃ (ol : Addr) (D : DyD) (S : SpD) (p : Int) (c : V), vs = [.ref ol, .int p, c] ∧ OutlookAt K H ol D S ∧ ItsOk D.its ∧ SOk D.its S ∧ (p < 0 ∨ 2 * (D.its.length : Int) < p) ∧
  ∀ (H' : Hp) (d : Addr), Ex H H' → H' d = some (.xd [("point", .int p)]) → E (.ref (ga K "NoPoint")) (some d) H'
theorem okX_bent_row (T : TX K mg w) : FnR PP w K mg base (L2.CX PP w) 4 (ga K "bent_row") (sp_bentX K) := by
  refine mkX (bn T.f_bent_row (fun _ _ _ _ _ _ us hl => match us, hl with | [_, _, _], _ => rfl)) sc_bent_row (fun vs H Q E h => ?_) fun cdv A outer s H vs Q E hr h => ?_
  · obtain ⟨ol, D, S, p, c, rfl, _⟩ := h
    rfl
  obtain ⟨ol, D, S, p, c, rfl, hL, ok, sok, hp, q⟩ := h
  obtain ⟨fd, F, b⟩ := fo_np T
  obtain ⟨o, ho1, ho2⟩ := hL.order T
  have ho3 := ho2
  obtain ⟨hox, tpx, ndx, isx, ⟨dx3, hins3⟩, _⟩ := ho2
  refine ⟨_, pss_cons (ps_if (pt_not (pt_chain op_le op_lt pe_int (pv 1) (pe_pr T.c_Order (pr_Order_points T) (hr.mono (by decide)) (pe_f (pv 0))))) (pss_one (ps_raise rfl (takes_of rfl rfl rfl rfl) (pmk_oex T.np_oex T.np_at.2.2 T.np_ga.2.2.1 F hr b .nil pass0 (by rfl) T.g_NoPoint (pa_cons (pv 1) pa_nil)))) pss_nil) pss_never, ?_⟩
  have rest : ∃ y : V, y = V.int p ∧ (∃ vs : List V, vs = [y] ∧ vs.length ≤ 1000 ∧ ∀ a, H a = none → sp_np K (.ref a :: (vs ++ [])) (upd H a (exo a (ga K "NoPoint") none)) (fun v H2 => v = .non ∧ ∃ (d : Addr) (fs : List (Str × V)), H2 a = some (exo a (ga K "NoPoint") (some d)) ∧ H2 d = some (exd d fs) ∧ H d = none ∧ E (.ref (ga K "NoPoint")) (some d) (upd (del H2 a) d (.xd fs))) (fun _ _ _ => False)) := by
    refine ⟨_, rfl, _, rfl, by show 1 ≤ 1000; decide, fun a ha => ⟨_, _, rfl, a, p, rfl, rfl, upd_same, fun dx h1 h2 => ⟨rfl, dx, _, upd_same, (upd_ne h2).trans upd_same, by rw [← h1, upd_ne h2], q _ dx ?_ upd_same⟩⟩⟩
    intro b u hb
    have na : b ≠ a := fun z => by rw [z, ha] at hb; cases hb
    have nd : b ≠ dx := fun z => by rw [z, ← upd_ne (H := H) (o := exo a (ga K "NoPoint") none) h2, h1] at hb; cases hb
    rw [upd_ne nd, del_ne na, upd_ne na, upd_ne nd, upd_ne na]
    exact hb
  obtain ⟨y, rfl, vs, rfl, r1, r2⟩ := rest
  rcases hp with hp | hp
  · exact ⟨_, rfl, _, _, rfl, rfl, _, rfl, ifF (decide_eq_false (by omega)) ⟨_, rfl, _, rfl, r1, r2⟩⟩
  · exact ⟨_, rfl, _, _, rfl, rfl, _, rfl, ifT (decide_eq_true (by omega)) ⟨_, rfl, _, _, rfl, ho1, o, dx3, _, rfl, hins3, _, rfl, o, D, rfl, ho3, _, _, rfl, rfl, _, rfl, ifT (by simp; omega) ⟨_, rfl, r1, r2⟩⟩⟩
def sp_cornX (K : PySem.W.Frag) : Sp := fun vs H Q E => ∃ (ol : Addr) (D : DyD) (S : SpD) (p : Int), vs = [.ref ol, .int p] ∧ OutlookAt K H ol D S ∧ ItsOk D.its ∧ SOk D.its S ∧ (p < 0 ∨ 2 * (D.its.length : Int) < p) ∧
  ∀ (H' : Hp) (d : Addr), Ex H H' → H' d = some (.xd [("point", .int p)]) → E (.ref (ga K "NoPoint")) (some d) H'
theorem okX_corner (T : TX K mg w) : FnR PP w K mg base (L2.CX PP w) 5 (ga K "corner") (sp_cornX K) := by
  refine mkX (bn T.f_corner (fun _ _ _ _ _ _ us hl => match us, hl with | [_, _], _ => rfl)) sc_corner (fun vs H Q E h => ?_) fun cdv A outer s H vs Q E hr h => ?_
  · obtain ⟨ol, D, S, p, rfl, _⟩ := h
    rfl
  obtain ⟨ol, D, S, p, rfl, hL, ok, sok, hp, q⟩ := h
  refine ⟨_, pss_one (ps_ret (pe_fnX (okX_bent_row T) hr T.kp_bent_row T.g_bent_row (fun σ => passAt (W := fun cls d _ H => E cls d H) (takes_of rfl rfl rfl rfl) σ) (pa_cons (pv 0) (pa_cons (pv 1) (pa_cons pe_bl pa_nil))))), ?_⟩
  exact ⟨_, rfl, _, rfl, ol, D, S, p, _, rfl, hL, ok, sok, hp, q⟩
theorem okX_hollow (T : TX K mg w) : FnR PP w K mg base (L2.CX PP w) 5 (ga K "hollow") (sp_cornX K) := by
  refine mkX (bn T.f_hollow (fun _ _ _ _ _ _ us hl => match us, hl with | [_, _], _ => rfl)) sc_hollow (fun vs H Q E h => ?_) fun cdv A outer s H vs Q E hr h => ?_
  · obtain ⟨ol, D, S, p, rfl, _⟩ := h
    rfl
  obtain ⟨ol, D, S, p, rfl, hL, ok, sok, hp, q⟩ := h
  refine ⟨_, pss_one (ps_ret (pe_fnX (okX_bent_row T) hr T.kp_bent_row T.g_bent_row (fun σ => passAt (W := fun cls d _ H => E cls d H) (takes_of rfl rfl rfl rfl) σ) (pa_cons (pv 0) (pa_cons (pv 1) (pa_cons pe_bl pa_nil))))), ?_⟩
  exact ⟨_, rfl, _, rfl, ol, D, S, p, _, rfl, hL, ok, sok, hp, q⟩
theorem TX.ec (T : TX K mg w) : EcC K (ga K "NoPoint") := ⟨T.np_ga.2.1, T.np_ga.1, T.np_at.2.1, T.np_oex.exC, T.np_cls.1, T.np_cls.2.1, T.np_cls.2.2.1, T.np_cls.2.2.2⟩
theorem TX.xf (T : TX K mg w) : XfC K (ga K "NoPoint") := ⟨T.np_ga.1, T.np_at.2.1, T.np_oex.exC, T.np_ga.2.1⟩
def sp_refused (K : PySem.W.Frag) : Sp := S3 fun a b c H Q => ∃ (ol : Addr) (D : DyD) (S : SpD) (i p : Int), a = .ref ol ∧ b = .int i ∧ c = .int p ∧ OutlookAt K H ol D S ∧ ItsOk D.its ∧ SOk D.its S ∧ (p < 0 ∨ 2 * (D.its.length : Int) < p) ∧
  ∀ (t : Addr) (H' : Hp), Ex H H' → H' t = some (.tup [.int p, .bl true, .bl true, .bl false]) → Q (.ref t) H'
theorem ok_refused (T : TX K mg w) : FnR PP w K mg base CX0 6 (ga K "_law_refused") (sp_refused K) := by
  refine mkS3 (bn T.f_refused (fun _ _ _ _ _ _ us hl => match us, hl with | [_, _, _], _ => rfl)) sc_refused fun cdv A outer s H a b c Q E hr h => ?_
  refine ⟨_, pss_cons (ps_set (i := 3) sc_refused.nd rfl (Or.inl rfl) pe_non) (pss_cons (ps_try_as (i := 4)
    (tb := fun W => tIfS (tTest (tOp rEq (tVar 1) (tC (.int 0)))) (tDrop (tFnX (sp_cornX K) (WE W) (tCons (tVar 0) (tCons (tVar 2) tNil)))) (tDrop (tFnX (sp_cornX K) (WE W) (tCons (tVar 0) (tCons (tVar 2) tNil)))))
    (Wout := fun _ _ _ _ => False) rfl rfl sc_refused.nd rfl rfl ⟨rfl, by decide, Or.inl T.g_NoPoint⟩ takes0
    (fun W pn xe tk _ => pss_one (ps_if (pt_cmpR op_eq (pv 1) pe_int (nomark _)) (pss_one (ps_expr (pe_fnX (okX_corner T) hr T.kp_corner T.g_corner (fun σ => passAt tk σ) (pa_cons (pv 0) (pa_cons (pv 2) pa_nil))))) (pss_one (ps_expr (pe_fnX (okX_hollow T) hr T.kp_hollow T.g_hollow (fun σ => passAt tk σ) (pa_cons (pv 0) (pa_cons (pv 2) pa_nil)))))))
    (fun a oe cls d pn hz hf => pss_one (ps_set (i := 3) sc_refused.nd rfl (Or.inl rfl) (pe_tup (pa_cons (pe_xf T.xf T.np_at.1 hz hf (pv 4)) (pa_cons (pe_callB (call_isX T.ec hz hf) (by rfl) T.n_isinstance (by decide +kernel) (pa_cons (pv 4) (pa_cons (pe_gr T.g_BarbreaksError) pa_nil)))
      (pa_cons (pe_callB (call_isX T.ec hz hf) (by rfl) T.n_isinstance (by decide +kernel) (pa_cons (pv 4) (pa_cons (pe_bltn (v := .ty "ValueError") (by rfl) T.n_ValueError (by decide +kernel : bootBuiltins "ValueError" = some (.type "ValueError")) rfl) pa_nil)))
      (pa_cons (pe_callB (call_isXT T.ec hz hf) (by rfl) T.n_isinstance (by decide +kernel) (pa_cons (pv 4) (pa_cons (pe_tup (pa_cons (pe_gr T.g_Refused) (pa_cons (pe_gr T.g_NotReached) pa_nil))) pa_nil))) pa_nil))))))))
    (pss_one (ps_ret (pv 3)))), ?_⟩
  obtain ⟨ol, D, S, i, p, rfl, rfl, rfl, hL, ok, sok, hp, q⟩ := h
  have kA : PySem.W.kitAny K (.ref (ga K "NoPoint")) [.ref (ga K "Refused"), .ref (ga K "NotReached")] = some false := kitAny_cons T.np_is_Refused.2 (fun _ => kitAny_cons T.np_is_NotReached.2 (fun _ => kitAny_nil) fun z => Bool.noConfusion z) fun z => Bool.noConfusion z
  refine ⟨_, rfl, rfl, _, rfl, if2 (fun _ => ?_) (fun _ => ?_)⟩
  all_goals
    refine ⟨_, rfl, _, rfl, ol, D, S, p, rfl, hL, ok, sok, hp, fun H' d e hd => ⟨true, T.np_is_NoPoint.1, fun _ a ha => ?_, fun z => Bool.noConfusion z⟩⟩
    refine ⟨_, rfl, rfl, rfl, d, _, _, rfl, hd, rfl, _, rfl, _, _, _, d, _, rfl, rfl, rfl, hd, .own _, T.np_is_BarbreaksError.2, _, rfl, _, _, _, d, _, rfl, rfl, rfl, hd, .ty _, T.np_isV, _, rfl, by show 2 ≤ sizeLine; decide, fun tp htp => ?_⟩
    refine ⟨tp, _, _, false, d, _, rfl, rfl, rfl, (Ex.new htp) _ _ hd, upd_same, .cons (.own _) (.cons (.own _) .nil), kA, by show 4 ≤ sizeLine; decide, fun t ht => ?_⟩
    exact ⟨_, rfl, q t _ ((e.trans (Ex.new htp)).trans (Ex.new ht)) upd_same⟩
end
end BB
namespace BB
open PySem PySem.Spec PyProof.Rows L2 He Evl
/-! ### the pool: the one list that the law writes at, hidden from all else -/
def hid (p : Addr) (H : Hp) : Hp := fun b => if b = p then none else H b
theorem hid_ne {p a : Addr} {H : Hp} (h : a ≠ p) : hid p H a = H a := if_neg h
theorem hid_self {p : Addr} {H : Hp} : hid p H p = none := if_pos rfl
theorem hid_ex {p : Addr} {H : Hp} : Ex (hid p H) H := fun a u h => by
  by_cases e : a = p
  · rw [e, hid_self] at h; cases h
  · rw [hid_ne e] at h; exact h
theorem exHid {p : Addr} {H H' : Hp} (e : Ex H H') : Ex (hid p H) (hid p H') := fun a u h => by
  by_cases z : a = p
  · rw [z, hid_self] at h; cases h
  · rw [hid_ne z] at h ⊢; exact e _ _ h
/-- the pool at p, its numbers at cl -/
structure PL (p cl : Addr) (ns : List Int) (H : Hp) : Prop where
  ne : cl ≠ p
  cs : H cl = some (.lst (ns.map V.int))
  at_ : ∃ p0 p1 p2 p3 : Int, 0 ≤ p1 ∧ H p = some (.lst [.int p0, .int p1, .int p2, .int p3, .ref cl])
section
variable {p cl a : Addr} {ns : List Int} {H H' H'' : Hp} {o : HO}
theorem PL.some (h : PL p cl ns H) : ∃ u, H p = some u := by
  obtain ⟨_, _, _, _, _, h⟩ := h.at_
  exact ⟨_, h⟩
theorem PL.ne_new (h : PL p cl ns H) (ha : H a = none) : a ≠ p ∧ a ≠ cl := by
  obtain ⟨u, hu⟩ := h.some
  have hc := h.cs
  exact ⟨fun z => (by rw [z, hu] at ha; cases ha), fun z => (by rw [z, hc] at ha; cases ha)⟩
theorem PL.ex (h : PL p cl ns H) (e : Ex H H') : PL p cl ns H' := by
  obtain ⟨a, b, c, d, h0, h1⟩ := h.at_
  exact ⟨h.ne, e _ _ h.cs, a, b, c, d, h0, e _ _ h1⟩
/-- on from H: the pool may have moved, all else stands -/
structure PX (p cl : Addr) (ns : List Int) (H H' : Hp) : Prop where
  e : Ex (hid p H) (hid p H')
  l : PL p cl ns H'
theorem PX.refl (h : PL p cl ns H) : PX p cl ns H H := ⟨Ex.refl _, h⟩
theorem PX.trans (x : PX p cl ns H H') (y : PX p cl ns H' H'') : PX p cl ns H H'' := ⟨x.e.trans y.e, y.l⟩
theorem PX.ex (x : PX p cl ns H H') (e : Ex H' H'') : PX p cl ns H H'' := ⟨x.e.trans (exHid e), x.l.ex e⟩
theorem PX.of (h : PL p cl ns H) (e : Ex H H') : PX p cl ns H H' := (PX.refl h).ex e
theorem PX.get (x : PX p cl ns H H') {u : HO} (h : hid p H a = some u) : H' a = some u := hid_ex _ _ (x.e _ _ h)
theorem PX.new (x : PX p cl ns H H') (h : H' a = none) : PX p cl ns H (upd H' a o) := x.ex (Ex.new h)
theorem hid_new (h : PL p cl ns H) (ha : H a = none) : hid p (upd H a o) a = some o := by
  rw [hid_ne (h.ne_new ha).1, upd_same]
/-- what was new may be written at -/
theorem PX.mut (x : PX p cl ns H H') (h0 : PL p cl ns H) (ha : H a = none) : PX p cl ns H (upd H' a o) := by
  obtain ⟨n1, n2⟩ := h0.ne_new ha
  refine ⟨fun b u hb => ?_, ⟨x.l.ne, ?_, ?_⟩⟩
  · have hbp : b ≠ p := fun z => by rw [z, hid_self] at hb; cases hb
    have hba : b ≠ a := fun z => by rw [hid_ne hbp, z, ha] at hb; cases hb
    rw [hid_ne hbp, upd_ne hba]
    have := x.e b u hb
    rwa [hid_ne hbp] at this
  · rw [upd_ne (Ne.symm n2)]
    exact x.l.cs
  · obtain ⟨a0, b0, c0, d0, h1, h2⟩ := x.l.at_
    exact ⟨a0, b0, c0, d0, h1, by rw [upd_ne (Ne.symm n1)]; exact h2⟩
theorem PX.back (x : PX p cl ns H H') (h0 : PL p cl ns H) (ha : H' a = none) : H a = none := by
  cases e : H a with
  | none => rfl
  | some u =>
    by_cases z : a = p
    · obtain ⟨v, hv⟩ := x.l.some
      rw [z, hv] at ha; cases ha
    · have := x.get (a := a) (u := u) (by rw [hid_ne z]; exact e)
      rw [ha] at this; cases this
/-- the pool is written at -/
theorem PX.set (x : PX p cl ns H H') {p0 p1 p2 p3 : Int} (h : 0 ≤ p1) : PX p cl ns H (upd H' p (.lst [.int p0, .int p1, .int p2, .int p3, .ref cl])) := by
  refine ⟨fun b u hb => ?_, ⟨x.l.ne, ?_, p0, p1, p2, p3, h, upd_same⟩⟩
  · have hbp : b ≠ p := fun z => by rw [z, hid_self] at hb; cases hb
    have := x.e b u hb
    rw [hid_ne hbp] at this ⊢
    rwa [upd_ne hbp]
  · rw [upd_ne x.l.ne]
    exact x.l.cs
end
end BB
namespace BB
open PySem PySem.Spec PyProof.Rows L2 He Evl
section
variable {K : PySem.W.Frag} {mg : Str → Option Value} {w : World} {base : Heap} {H H' : Hp} {a : Addr}
theorem cm_r {i j : Int} (h : -18446744073709551616 < j ∧ j < 18446744073709551616) : CMul i j := .inr h
theorem cm_l {i j : Int} (h : -18446744073709551616 < i ∧ i < 18446744073709551616) : CMul i j := .inl h
theorem fm_lo {a n : Int} (h : 0 < n) : 0 ≤ a.fmod n := by
  rw [Int.fmod_eq_emod_of_nonneg _ (by omega)]
  exact Int.emod_nonneg _ (by omega)
theorem fm_hi {a n : Int} (h : 0 < n) : a.fmod n < n := by
  rw [Int.fmod_eq_emod_of_nonneg _ (by omega)]
  exact Int.emod_lt_of_pos _ h
def sp_take (K : PySem.W.Frag) : Sp := S2 fun a b H Q => ∃ (p cl : Addr) (ns : List Int) (n : Int), a = .ref p ∧ b = .int n ∧ PL p cl ns H ∧ 0 < n ∧ n ≤ 1000000000 ∧
  ∀ (x : Int) (H' : Hp), PX p cl ns H H' → 0 ≤ x → x < n → Q (.int x) H'
theorem ok_take (T : TX K mg w) : FnR PP w K mg base CX0 1 (ga K "_law_take") (sp_take K) := by
  refine mkS2 (bn T.f_take (fun _ _ _ _ _ _ us hl => match us, hl with | [_, _], _ => rfl)) sc_take fun cdv A outer s H a b Q E hr h => ?_
  refine ⟨_, (pss_cons (ps_set (i := 2) sc_take.nd rfl (Or.inl rfl) (pe_ix ix_list (pv 0) pe_int (fun _ _ => rfl)))
      (pss_cons (ps_asg (pe_op op_add (pe_ix ix_list (pv 0) pe_int (fun _ _ => rfl)) pe_int) (pg_sub (pv 0) pe_int set_list))
      (pss_cons (ps_set (i := 3) sc_take.nd rfl (Or.inl rfl) (pe_op op_modN (pe_callTy call_int1 (by rfl) T.n_int (by decide +kernel) (pa_cons (pe_op op_add (pe_op op_add (pe_op op_mul (pe_ix ix_list (pv 0) pe_int (fun _ _ => rfl)) pe_int) (pe_op op_mul (pe_ix ix_list (pv 0) pe_int (fun _ _ => rfl)) pe_int)) pe_int) pa_nil)) pe_int))
      (pss_cons (ps_if (PW.pt (pw_and (pt_cmpR op_eq (pe_ix ix_list (pv 0) pe_int (fun _ _ => rfl)) pe_int (nomark _)) (pw_and1 (pt_cmpR op_lt (pe_ix ix_list (pv 0) pe_int (fun _ _ => rfl)) (pe_callB call_len_seq (by rfl) T.n_len (by decide +kernel) (pa_cons (pv 2) pa_nil)) (nomark _))))) (pss_cons (ps_set (i := 4) sc_take.nd rfl (Or.inl rfl) (pe_callTy call_int1 (by rfl) T.n_int (by decide +kernel) (pa_cons (pe_ix ix_list (pv 2) (pe_ix ix_list (pv 0) pe_int (fun _ _ => rfl)) (fun _ _ => rfl)) pa_nil)))
      (pss_cons (ps_asg (pe_op op_add (pe_ix ix_list (pv 0) pe_int (fun _ _ => rfl)) pe_int) (pg_sub (pv 0) pe_int set_list))
      (pss_cons (ps_set (i := 3) sc_take.nd rfl (Or.inl rfl) (pe_op op_modN (pe_callTy call_int1 (by rfl) T.n_int (by decide +kernel) (pa_cons (pe_op op_add (pe_op op_add (pe_op op_mul (pv 4) pe_int) (pe_ix ix_list (pv 0) pe_int (fun _ _ => rfl))) (pe_op op_mul (pe_ix ix_list (pv 0) pe_int (fun _ _ => rfl)) pe_int)) pa_nil)) pe_int))
      (pss_one (ps_if (pt_cmpR op_ge (pv 4) (pe_op op_pow pe_int pe_int) (nomark _)) (pss_one (ps_asg (pv 4) (pg_sub (pv 0) pe_int set_list)))
        pss_nil)))))
        pss_nil)
      (pss_cons (ps_if (pt_cmpR op_gt (pe_ix ix_list (pv 0) pe_int (fun _ _ => rfl)) pe_int (nomark _)) (pss_cons (ps_set (i := 5) sc_take.nd rfl (Or.inl rfl) (pe_op op_modN (pe_callTy call_int1 (by rfl) T.n_int (by decide +kernel) (pa_cons (pe_ix ix_list (pv 0) pe_int (fun _ _ => rfl)) pa_nil)) (pv 1)))
      (pss_cons (ps_asg (pe_op op_fdivN (pe_ix ix_list (pv 0) pe_int (fun _ _ => rfl)) (pv 1)) (pg_sub (pv 0) pe_int set_list))
      (pss_one (ps_ret (pv 5)))))
        pss_nil)
      (pss_cons (ps_set (i := 3) sc_take.nd rfl (Or.inl rfl) (pe_op op_modN (pe_callTy call_int1 (by rfl) T.n_int (by decide +kernel) (pa_cons (pe_op op_add (pe_op op_mul (pv 3) pe_int) (pe_op op_fdivN (pv 3) pe_int)) pa_nil)) pe_int))
      (pss_one (ps_ret (pe_op op_modN (pe_callTy call_int1 (by rfl) T.n_int (by decide +kernel) (pa_cons (pv 3) pa_nil)) (pv 1)))))))))), ?_⟩
  obtain ⟨p, cl, ns, n, rfl, rfl, hP, h1, h2, q⟩ := h
  obtain ⟨p0, p1, p2, p3, g1, g2⟩ := hP.at_
  refine ⟨_, rfl, p, _, _, .ref cl, rfl, rfl, SqL.of g2, rfl, ?_⟩
  refine ⟨_, rfl, p, _, _, .int p2, rfl, rfl, SqL.of g2, rfl, _, _, rfl, rfl, _, rfl, p, _, _, 2, rfl, rfl, g2, rfl, ?_⟩
  have x1 : PX p cl ns H (upd H p (.lst ([V.int p0, V.int p1, V.int p2, V.int p3, V.ref cl].set 2 (.int (p2 + 1))))) := (PX.refl hP).set (p0 := p0) (p2 := p2 + 1) (p3 := p3) g1
  have k1 : (upd H p (.lst ([V.int p0, V.int p1, V.int p2, V.int p3, V.ref cl].set 2 (.int (p2 + 1))))) p = some (.lst [.int p0, .int p1, .int (p2 + 1), .int p3, .ref cl]) := upd_same
  generalize upd H p (.lst ([V.int p0, V.int p1, V.int p2, V.int p3, V.ref cl].set 2 (.int (p2 + 1)))) = H1 at x1 k1 ⊢
  refine ⟨_, rfl, p, _, _, .int p3, rfl, rfl, SqL.of k1, rfl, _, _, rfl, rfl, cm_r ⟨by decide, by decide⟩, _, rfl, p, _, _, .int (p2 + 1), rfl, rfl, SqL.of k1, rfl, _, _, rfl, rfl, cm_r ⟨by decide, by decide⟩, _, _, rfl, rfl, _, _, rfl, rfl, .inl ⟨_, rfl, _, _, rfl, rfl, (show (2147483647 : Int) ≠ 0 by decide), ?_⟩⟩
  refine ⟨_, rfl, p, _, _, .int p0, rfl, rfl, SqL.of k1, rfl, rfl, _, rfl, if2 (fun ea => ?_) (fun ea => ?_)⟩
  · refine ⟨_, rfl, p, _, _, .int p1, rfl, rfl, SqL.of k1, rfl, _, rfl, cl, _, rfl, .inl (SqL.of x1.l.cs), _, _, rfl, rfl, _, rfl, if2 (fun eb => ?_) (fun eb => ?_)⟩
    · have hlt : p1.toNat < ns.length := by
        have := of_decide_eq_true eb
        rw [List.length_map] at this
        omega
      obtain ⟨c, hidx⟩ : ∃ c, atI (ns.map V.int) p1 = some (.int c) := by
        obtain ⟨k, hk⟩ : ∃ k : Nat, p1 = k := ⟨p1.toNat, by omega⟩
        subst hk
        exact ⟨_, atI_nat (by rw [List.getElem?_map, List.getElem?_eq_getElem (by simpa using hlt)]; rfl)⟩
      refine ⟨_, rfl, _, rfl, p, _, _, .int p1, rfl, rfl, SqL.of k1, rfl, cl, _, _, .int c, rfl, rfl, SqL.of x1.l.cs, hidx, .inl ⟨_, rfl, ?_⟩⟩
      refine ⟨_, rfl, p, _, _, .int p1, rfl, rfl, SqL.of k1, rfl, _, _, rfl, rfl, _, rfl, p, _, _, 1, rfl, rfl, k1, rfl, ?_⟩
      have x2 : PX p cl ns H (upd H1 p (.lst ([V.int p0, V.int p1, V.int (p2 + 1), V.int p3, V.ref cl].set 1 (.int (p1 + 1))))) := x1.set (p0 := p0) (p2 := p2 + 1) (p3 := p3) (show 0 ≤ p1 + 1 by omega)
      have k2 : (upd H1 p (.lst ([V.int p0, V.int p1, V.int (p2 + 1), V.int p3, V.ref cl].set 1 (.int (p1 + 1))))) p = some (.lst [.int p0, .int (p1 + 1), .int (p2 + 1), .int p3, .ref cl]) := upd_same
      generalize upd H1 p (.lst ([V.int p0, V.int p1, V.int (p2 + 1), V.int p3, V.ref cl].set 1 (.int (p1 + 1)))) = H2 at x2 k2 ⊢
      refine ⟨_, rfl, _, _, rfl, rfl, cm_r ⟨by decide, by decide⟩, _, rfl, p, _, _, .int p3, rfl, rfl, SqL.of k2, rfl, _, _, rfl, rfl, _, rfl, p, _, _, .int (p2 + 1), rfl, rfl, SqL.of k2, rfl, _, _, rfl, rfl, cm_r ⟨by decide, by decide⟩, _, _, rfl, rfl, .inl ⟨_, rfl, _, _, rfl, rfl, (show (2147483647 : Int) ≠ 0 by decide), ?_⟩⟩
      refine ⟨_, rfl, _, _, rfl, rfl, ⟨by decide, by decide, by decide⟩, _, _, rfl, rfl, _, rfl, if2 (fun ec => ?_) (fun ec => ?_)⟩
      · refine ⟨_, rfl, _, rfl, p, _, _, 0, rfl, rfl, k2, rfl, ?_⟩
        have x3 : PX p cl ns H (upd H2 p (.lst ([V.int p0, V.int (p1 + 1), V.int (p2 + 1), V.int p3, V.ref cl].set 0 (.int c)))) := x2.set (p0 := c) (p2 := p2 + 1) (p3 := p3) (show 0 ≤ p1 + 1 by omega)
        have k3 : (upd H2 p (.lst ([V.int p0, V.int (p1 + 1), V.int (p2 + 1), V.int p3, V.ref cl].set 0 (.int c)))) p = some (.lst [.int c, .int (p1 + 1), .int (p2 + 1), .int p3, .ref cl]) := upd_same
        generalize upd H2 p (.lst ([V.int p0, V.int (p1 + 1), V.int (p2 + 1), V.int p3, V.ref cl].set 0 (.int c))) = H3 at x3 k3 ⊢
        obtain ⟨HZ, eZ, xz, q0, q1, q2, q3, kz, gz⟩ : ∃ HZ, HZ = H3 ∧ PX p cl ns H HZ ∧ ∃ q0 q1 q2 q3 : Int, HZ p = some (.lst [.int q0, .int q1, .int q2, .int q3, .ref cl]) ∧ 0 ≤ q1 := ⟨_, rfl, x3, _, _, _, _, k3, by omega⟩
        subst eZ
        refine ⟨_, rfl, p, _, _, .int q0, rfl, rfl, SqL.of kz, rfl, _, _, rfl, rfl, _, rfl, if2 (fun _ => ?_) (fun _ => ?_)⟩
        · refine ⟨_, rfl, p, _, _, .int q0, rfl, rfl, SqL.of kz, rfl, .inl ⟨_, rfl, _, rfl, _, _, rfl, rfl, (by omega), ?_⟩⟩
          refine ⟨_, rfl, p, _, _, .int q0, rfl, rfl, SqL.of kz, rfl, _, rfl, _, _, rfl, rfl, ⟨by omega, by omega⟩, _, rfl, p, _, _, 0, rfl, rfl, kz, rfl, ?_⟩
          exact ⟨_, rfl, q _ _ (xz.set (p0 := q0.fdiv n) (p2 := q2) (p3 := q3) gz) (fm_lo h1) (fm_hi h1)⟩
        · refine ⟨_, rfl, _, _, rfl, rfl, cm_r ⟨by decide, by decide⟩, _, rfl, _, _, rfl, rfl, ⟨by decide, by decide⟩, _, _, rfl, rfl, .inl ⟨_, rfl, _, _, rfl, rfl, (show (2147483399 : Int) ≠ 0 by decide), ?_⟩⟩
          exact ⟨_, rfl, .inl ⟨_, rfl, _, rfl, _, _, rfl, rfl, (by omega), q _ _ xz (fm_lo h1) (fm_hi h1)⟩⟩
      · obtain ⟨HZ, eZ, xz, q0, q1, q2, q3, kz, gz⟩ : ∃ HZ, HZ = H2 ∧ PX p cl ns H HZ ∧ ∃ q0 q1 q2 q3 : Int, HZ p = some (.lst [.int q0, .int q1, .int q2, .int q3, .ref cl]) ∧ 0 ≤ q1 := ⟨_, rfl, x2, _, _, _, _, k2, by omega⟩
        subst eZ
        refine ⟨_, rfl, p, _, _, .int q0, rfl, rfl, SqL.of kz, rfl, _, _, rfl, rfl, _, rfl, if2 (fun _ => ?_) (fun _ => ?_)⟩
        · refine ⟨_, rfl, p, _, _, .int q0, rfl, rfl, SqL.of kz, rfl, .inl ⟨_, rfl, _, rfl, _, _, rfl, rfl, (by omega), ?_⟩⟩
          refine ⟨_, rfl, p, _, _, .int q0, rfl, rfl, SqL.of kz, rfl, _, rfl, _, _, rfl, rfl, ⟨by omega, by omega⟩, _, rfl, p, _, _, 0, rfl, rfl, kz, rfl, ?_⟩
          exact ⟨_, rfl, q _ _ (xz.set (p0 := q0.fdiv n) (p2 := q2) (p3 := q3) gz) (fm_lo h1) (fm_hi h1)⟩
        · refine ⟨_, rfl, _, _, rfl, rfl, cm_r ⟨by decide, by decide⟩, _, rfl, _, _, rfl, rfl, ⟨by decide, by decide⟩, _, _, rfl, rfl, .inl ⟨_, rfl, _, _, rfl, rfl, (show (2147483399 : Int) ≠ 0 by decide), ?_⟩⟩
          exact ⟨_, rfl, .inl ⟨_, rfl, _, rfl, _, _, rfl, rfl, (by omega), q _ _ xz (fm_lo h1) (fm_hi h1)⟩⟩
    · obtain ⟨HZ, eZ, xz, q0, q1, q2, q3, kz, gz⟩ : ∃ HZ, HZ = H1 ∧ PX p cl ns H HZ ∧ ∃ q0 q1 q2 q3 : Int, HZ p = some (.lst [.int q0, .int q1, .int q2, .int q3, .ref cl]) ∧ 0 ≤ q1 := ⟨_, rfl, x1, _, _, _, _, k1, by omega⟩
      subst eZ
      refine ⟨_, rfl, p, _, _, .int q0, rfl, rfl, SqL.of kz, rfl, _, _, rfl, rfl, _, rfl, if2 (fun _ => ?_) (fun _ => ?_)⟩
      · refine ⟨_, rfl, p, _, _, .int q0, rfl, rfl, SqL.of kz, rfl, .inl ⟨_, rfl, _, rfl, _, _, rfl, rfl, (by omega), ?_⟩⟩
        refine ⟨_, rfl, p, _, _, .int q0, rfl, rfl, SqL.of kz, rfl, _, rfl, _, _, rfl, rfl, ⟨by omega, by omega⟩, _, rfl, p, _, _, 0, rfl, rfl, kz, rfl, ?_⟩
        exact ⟨_, rfl, q _ _ (xz.set (p0 := q0.fdiv n) (p2 := q2) (p3 := q3) gz) (fm_lo h1) (fm_hi h1)⟩
      · refine ⟨_, rfl, _, _, rfl, rfl, cm_r ⟨by decide, by decide⟩, _, rfl, _, _, rfl, rfl, ⟨by decide, by decide⟩, _, _, rfl, rfl, .inl ⟨_, rfl, _, _, rfl, rfl, (show (2147483399 : Int) ≠ 0 by decide), ?_⟩⟩
        exact ⟨_, rfl, .inl ⟨_, rfl, _, rfl, _, _, rfl, rfl, (by omega), q _ _ xz (fm_lo h1) (fm_hi h1)⟩⟩
  · obtain ⟨HZ, eZ, xz, q0, q1, q2, q3, kz, gz⟩ : ∃ HZ, HZ = H1 ∧ PX p cl ns H HZ ∧ ∃ q0 q1 q2 q3 : Int, HZ p = some (.lst [.int q0, .int q1, .int q2, .int q3, .ref cl]) ∧ 0 ≤ q1 := ⟨_, rfl, x1, _, _, _, _, k1, by omega⟩
    subst eZ
    refine ⟨_, rfl, p, _, _, .int q0, rfl, rfl, SqL.of kz, rfl, _, _, rfl, rfl, _, rfl, if2 (fun _ => ?_) (fun _ => ?_)⟩
    · refine ⟨_, rfl, p, _, _, .int q0, rfl, rfl, SqL.of kz, rfl, .inl ⟨_, rfl, _, rfl, _, _, rfl, rfl, (by omega), ?_⟩⟩
      refine ⟨_, rfl, p, _, _, .int q0, rfl, rfl, SqL.of kz, rfl, _, rfl, _, _, rfl, rfl, ⟨by omega, by omega⟩, _, rfl, p, _, _, 0, rfl, rfl, kz, rfl, ?_⟩
      exact ⟨_, rfl, q _ _ (xz.set (p0 := q0.fdiv n) (p2 := q2) (p3 := q3) gz) (fm_lo h1) (fm_hi h1)⟩
    · refine ⟨_, rfl, _, _, rfl, rfl, cm_r ⟨by decide, by decide⟩, _, rfl, _, _, rfl, rfl, ⟨by decide, by decide⟩, _, _, rfl, rfl, .inl ⟨_, rfl, _, _, rfl, rfl, (show (2147483399 : Int) ≠ 0 by decide), ?_⟩⟩
      exact ⟨_, rfl, .inl ⟨_, rfl, _, rfl, _, _, rfl, rfl, (by omega), q _ _ xz (fm_lo h1) (fm_hi h1)⟩⟩
def sp_big (K : PySem.W.Frag) : Sp := S1 fun a H Q => ∃ (p cl : Addr) (ns : List Int), a = .ref p ∧ PL p cl ns H ∧ ∀ (x : Int) (H' : Hp), PX p cl ns H H' → Q (.int x) H'
theorem ok_big (T : TX K mg w) : FnR PP w K mg base CX0 2 (ga K "_law_big") (sp_big K) := by
  refine mkS1 (bn T.f_big (fun _ _ _ _ _ _ us hl => match us, hl with | [_], _ => rfl)) sc_big fun cdv A outer s H a Q E hr h => ?_
  refine ⟨_, (pss_cons (ps_set (i := 1) sc_big.nd rfl (Or.inl rfl) pe_int)
      (pss_cons (ps_for PassesOwn.never rfl (pi_range1 rfl T.n_range (pa_cons pe_int pa_nil)) (pg_name (i := 2) sc_big.nd rfl (Or.inl rfl))
        (pss_one (ps_set (i := 1) sc_big.nd rfl (Or.inl rfl) (pe_op op_add (pe_op op_mul (pv 1) (pe_op op_pow pe_int pe_int)) (pe_fn (ok_take T) (hr.mono (by decide)) T.kp_take T.g__law_take (pa_cons (pv 0) (pa_cons (pe_op op_pow pe_int pe_int) pa_nil)))))))
      (pss_one (ps_ret (pv 1))))), ?_⟩
  obtain ⟨p, cl, ns, rfl, hP, q⟩ := h
  refine ⟨_, rfl, by decide, by decide, ?_⟩
  refine for_it walk_range (fun i σ H' => PX p cl ns H H' ∧ ∃ x y, σ = [some (.ref p), some (.int x), y]) ⟨PX.refl hP, _, _, rfl⟩ (fun _ _ _ _ _ => trivial) (fun i x σ H1 H2 hi h yy => ?_) (fun σ H1 h => ?_)
  · obtain ⟨x1, v, y, rfl⟩ := h
    obtain ⟨rfl, rfl⟩ := yy
    refine ⟨_, rfl, _, _, rfl, rfl, ⟨by decide, by decide, by decide⟩, _, _, rfl, rfl, cm_r ⟨by decide, by decide⟩, _, rfl, _, _, rfl, rfl, ⟨by decide, by decide, by decide⟩, _, _, rfl, p, cl, ns, _, rfl, rfl, x1.l, by decide, by decide, fun z H3 x2 _ _ => ?_⟩
    exact ⟨_, _, rfl, rfl, x1.trans x2, _, _, rfl⟩
  · obtain ⟨x1, v, y, rfl⟩ := h
    exact ⟨_, rfl, q _ _ x1⟩
def sp_first (K : PySem.W.Frag) : Sp := S3 fun a b c H Q => ∃ (n o t : Int), a = .int n ∧ b = .int o ∧ c = .int t ∧ 0 < n ∧ Q (.int (t + (o - t).fmod n)) H
theorem ok_first (T : TX K mg w) : FnR PP w K mg base CX0 1 (ga K "_law_first") (sp_first K) := by
  refine mkS3 (bn T.f_first (fun _ _ _ _ _ _ us hl => match us, hl with | [_, _, _], _ => rfl)) sc_first fun cdv A outer s H a b c Q E hr h => ?_
  refine ⟨_, (pss_one (ps_ret (pe_op op_add (pv 2) (pe_op op_modN (pe_callTy call_int1 (by rfl) T.n_int (by decide +kernel) (pa_cons (pe_op op_sub (pv 1) (pv 2)) pa_nil)) (pv 0))))), ?_⟩
  obtain ⟨n, o, t, rfl, rfl, rfl, hn, q⟩ := h
  exact ⟨_, rfl, _, rfl, _, rfl, _, _, rfl, rfl, .inl ⟨_, rfl, _, rfl, _, _, rfl, rfl, (by omega), _, _, rfl, rfl, q⟩⟩
def sp_opens (K : PySem.W.Frag) : Sp := S1 fun a H Q => ∃ (p cl : Addr) (ns : List Int), a = .ref p ∧ PL p cl ns H ∧ ∀ (x : Int) (H' : Hp), PX p cl ns H H' → Q (.int x) H'
theorem ok_opens (T : TX K mg w) : FnR PP w K mg base CX0 3 (ga K "_law_opens") (sp_opens K) := by
  refine mkS1 (bn T.f_opens (fun _ _ _ _ _ _ us hl => match us, hl with | [_], _ => rfl)) sc_opens fun cdv A outer s H a Q E hr h => ?_
  refine ⟨_, (pss_cons (ps_set (i := 1) sc_opens.nd rfl (Or.inl rfl) (pe_fn (ok_take T) (hr.mono (by decide)) T.kp_take T.g__law_take (pa_cons (pv 0) (pa_cons pe_int pa_nil))))
      (pss_cons (ps_if (pt_cmpR op_eq (pv 1) pe_int (nomark _)) (pss_one (ps_ret pe_int))
        pss_nil)
      (pss_cons (ps_if (pt_cmpR op_eq (pv 1) pe_int (nomark _)) (pss_one (ps_ret (pe_op op_sub (pe_fn (ok_take T) (hr.mono (by decide)) T.kp_take T.g__law_take (pa_cons (pv 0) (pa_cons pe_int pa_nil))) pe_int)))
        pss_nil)
      (pss_cons (ps_if (pt_cmpR op_eq (pv 1) pe_int (nomark _)) (pss_one (ps_ret (pe_op op_sub pe_int (pe_fn (ok_big T) (hr.mono (by decide)) T.kp_big T.g__law_big (pa_cons (pv 0) pa_nil)))))
        pss_nil)
      (pss_one (ps_ret (pe_fn (ok_big T) (hr.mono (by decide)) T.kp_big T.g__law_big (pa_cons (pv 0) pa_nil)))))))), ?_⟩
  obtain ⟨p, cl, ns, rfl, hP, q⟩ := h
  refine ⟨_, rfl, _, _, rfl, p, cl, ns, _, rfl, rfl, hP, by decide, by decide, fun z H1 x1 _ _ => ?_⟩
  refine ⟨_, rfl, rfl, _, rfl, if2 (fun _ => q _ _ x1) (fun _ => ?_)⟩
  refine ⟨_, rfl, rfl, _, rfl, if2 (fun _ => ?_) (fun _ => ?_)⟩
  · exact ⟨_, rfl, _, _, rfl, p, cl, ns, _, rfl, rfl, x1.l, by decide, by decide, fun z H2 x2 _ _ => ⟨_, _, rfl, rfl, q _ _ (x1.trans x2)⟩⟩
  refine ⟨_, rfl, rfl, _, rfl, if2 (fun _ => ?_) (fun _ => ?_)⟩
  · exact ⟨_, rfl, _, rfl, p, cl, ns, rfl, x1.l, fun z H2 x2 => ⟨_, _, rfl, rfl, q _ _ (x1.trans x2)⟩⟩
  · exact ⟨_, rfl, _, rfl, p, cl, ns, rfl, x1.l, fun z H2 x2 => q _ _ (x1.trans x2)⟩
def sp_pool (K : PySem.W.Frag) : Sp := S1 fun a H Q => ∃ (l : Addr) (ns : List Int), a = .ref l ∧ SqL K H l (ns.map V.int) ∧ ns.length ≤ 63 ∧ ∀ (p cl : Addr) (H' : Hp), Ex H H' → PL p cl ns H' → H p = none → Q (.ref p) H'
theorem ok_pool (T : TX K mg w) : FnR PP w K mg base CX0 1 (ga K "_law_pool") (sp_pool K) := by
  refine mkS1 (bn T.f_pool (fun _ _ _ _ _ _ us hl => match us, hl with | [_], _ => rfl)) sc_pool fun cdv A outer s H a Q E hr h => ?_
  refine ⟨_, (pss_cons (ps_set (i := 1) sc_pool.nd rfl (Or.inl rfl) pe_int)
      (pss_cons (ps_for PassesOwn.never rfl (pi_list (pv 0)) (pg_name (i := 2) sc_pool.nd rfl (Or.inl rfl))
        (pss_one (ps_set (i := 1) sc_pool.nd rfl (Or.inl rfl) (pe_op op_modN (pe_callTy call_int1 (by rfl) T.n_int (by decide +kernel) (pa_cons (pe_op op_add (pe_op op_add (pe_op op_mul (pv 1) pe_int) (pe_op op_mul (pe_callTy call_int1 (by rfl) T.n_int (by decide +kernel) (pa_cons (pv 2) pa_nil)) pe_int)) pe_int) pa_nil)) pe_int))))
      (pss_one (ps_ret (pe_lst (pa_cons pe_int (pa_cons pe_int (pa_cons pe_int (pa_cons (pv 1) (pa_cons (pe_callTy call_list_of (by rfl) T.n_list (by decide +kernel) (pa_cons (pv 0) pa_nil)) pa_nil)))))))))), ?_⟩
  obtain ⟨l, ns, rfl, hl, h63, q⟩ := h
  refine ⟨_, rfl, l, rfl, ⟨_, hl⟩, ?_⟩
  refine for_it (walk_list (xs := ns.map V.int)) (fun i σ H' => H' = H ∧ ∃ x y, σ = [some (.ref l), some (.int x), y]) ⟨rfl, _, _, rfl⟩ (fun i σ H' _ h => by rw [h.1]; exact hl) (fun i x σ H1 H2 hi h yy => ?_) (fun σ H1 h => ?_)
  · obtain ⟨rfl, v, y, rfl⟩ := h
    obtain ⟨rfl, ex⟩ := yy
    obtain ⟨m, hm, rfl⟩ := Option.map_eq_some_iff.mp ((List.getElem?_map ..).symm.trans ex)
    exact ⟨_, rfl, _, _, rfl, rfl, cm_r ⟨by decide, by decide⟩, _, rfl, .inl ⟨_, rfl, _, _, rfl, rfl, cm_r ⟨by decide, by decide⟩, _, _, rfl, rfl, _, _, rfl, rfl, .inl ⟨_, rfl, _, _, rfl, rfl, (show (2147483647 : Int) ≠ 0 by decide), rfl, _, _, rfl⟩⟩⟩
  · obtain ⟨rfl, v, y, rfl⟩ := h
    refine ⟨_, rfl, _, rfl, l, _, rfl, .inl hl, fun c hc => ?_⟩
    refine ⟨by show 5 ≤ sizeLine; decide, fun p hp => q p c _ ((Ex.new hc).trans (Ex.new hp)) ?_ ?_⟩
    · have ne : c ≠ p := fun z => by rw [z, upd_same] at hp; cases hp
      exact ⟨ne, (Ex.new hp) _ _ upd_same, _, _, _, _, by decide, upd_same⟩
    · exact fresh_back (Ex.new hc) hp
end
end BB
namespace BB
open PySem PySem.Spec PyProof.Rows L2 He Evl
/-! ### texts as lists of signs -/
abbrev cl (z : Str) : List Nat := z.cps.toList
theorem cl_app (a b : Str) : cl (a ++ b) = cl a ++ cl b := by
  show (a.cps ++ b.cps).toList = _
  exact Array.toList_append
theorem cl_ext {a b : Str} (h : cl a = cl b) : a = b := by
  cases a
  cases b
  exact congrArg Str.mk (Array.toList_inj.mp h)
theorem cl_one (c : Nat) : cl ⟨#[c]⟩ = [c] := rfl
theorem cl_cut (z : Str) (lo hi : Option Int) : cl (cutS z lo hi) = ((cl z).drop (HT.sIx z.length 0 lo)).take (HT.sIx z.length z.length hi - HT.sIx z.length 0 lo) := rfl
theorem cl_len (z : Str) : (cl z).length = z.length := cps_len z
theorem cl_join : ∀ l : List Str, cl (Txt.join "" l) = (l.map cl).flatten := by
  intro l
  show cl (Builtin.Str.glued (PySem.Str.ofString "") l) = _
  rw [StrLaws.glued_eq_join]
  have key : ∀ l : List Str, cl (Str.join "" l) = (l.map cl).flatten := by
    intro l
    induction l with
    | nil => rfl
    | cons a r ih =>
      cases r with
      | nil =>
        show cl a = [cl a].flatten
        simp
      | cons b s =>
        show cl (a ++ "" ++ Str.join "" (b :: s)) = _
        rw [cl_app, cl_app, ih]
        show cl a ++ [] ++ _ = _
        rw [List.append_nil]
        rfl
  exact key l
/-- signs, each a text of its own -/
abbrev ones (cs : List Nat) : List Str := cs.map fun c => ⟨#[c]⟩
theorem cl_ones : ∀ cs : List Nat, ((ones cs).map cl).flatten = cs
  | [] => rfl
  | c :: cs => by
    show [c] ++ ((ones cs).map cl).flatten = _
    rw [cl_ones cs]
    rfl
theorem sum_ones : ∀ cs : List Nat, ((ones cs).map (·.length)).sum = cs.length
  | [] => rfl
  | c :: cs => by
    show (⟨#[c]⟩ : Str).length + ((ones cs).map (·.length)).sum = _
    rw [sum_ones cs]
    show 1 + cs.length = _
    rw [List.length_cons]
    omega
/-- the k-th letter, counted around -/
def lett (x : Int) : Nat := 97 + (x.fmod 26).toNat
theorem lett_ok (x : Int) : letterC (lett x) = true := by
  have h0 := fm_lo (a := x) (n := 26) (by decide)
  have h1 := fm_hi (a := x) (n := 26) (by decide)
  exact decide_eq_true (by unfold lett; omega)
theorem lett_at (x : Int) : atI (cl "abcdefghijklmnopqrstuvwxyz") (x.fmod 26) = some (lett x) := by
  have h0 := fm_lo (a := x) (n := 26) (by decide)
  have h1 := fm_hi (a := x) (n := 26) (by decide)
  unfold lett
  generalize x.fmod 26 = y at h0 h1
  obtain ⟨k, rfl⟩ : ∃ k : Nat, y = k := ⟨y.toNat, by omega⟩
  have : ∀ k : Fin 26, (cl "abcdefghijklmnopqrstuvwxyz")[k.val]? = some (97 + k.val) := by decide +kernel
  exact atI_nat (this ⟨k, by omega⟩)
theorem lett_inj {x : Int} {s t : Nat} (h : lett (x + s) = lett (x + t)) (hs : s < 26) (ht : t < 26) : s = t := by
  unfold lett at h
  have a0 := fm_lo (a := x + s) (n := 26) (by decide)
  have b0 := fm_lo (a := x + t) (n := 26) (by decide)
  rw [Int.fmod_eq_emod_of_nonneg _ (by decide)] at a0 h
  rw [Int.fmod_eq_emod_of_nonneg _ (by decide)] at b0 h
  omega
theorem sign_at (x : Int) : ∃ c, atI (cl (("abcdefghijklmnopqrstuvwxyz" : Str) ++ ("0123456789" : Str))) (x.fmod 36) = some c ∧ (letterC c = true ∨ digitC c = true) := by
  have h0 := fm_lo (a := x) (n := 36) (by decide)
  have h1 := fm_hi (a := x) (n := 36) (by decide)
  generalize x.fmod 36 = y at h0 h1
  obtain ⟨k, rfl⟩ : ∃ k : Nat, y = k := ⟨y.toNat, by omega⟩
  have : ∀ k : Fin 36, ∃ c, (cl (("abcdefghijklmnopqrstuvwxyz" : Str) ++ ("0123456789" : Str)))[k.val]? = some c ∧ (letterC c = true ∨ digitC c = true) := by
    intro k
    have h : ∀ k : Fin 36, ((cl (("abcdefghijklmnopqrstuvwxyz" : Str) ++ ("0123456789" : Str)))[k.val]?.any fun c => letterC c || digitC c) = true := by decide +kernel
    have := h k
    cases e : (cl (("abcdefghijklmnopqrstuvwxyz" : Str) ++ ("0123456789" : Str)))[k.val]? with
    | none => rw [e] at this; cases this
    | some c =>
      rw [e] at this
      exact ⟨c, rfl, by simpa using this⟩
  obtain ⟨c, e1, e2⟩ := this ⟨k, by omega⟩
  exact ⟨c, atI_nat e1, e2⟩
theorem nm_of {z : Str} {c : Nat} {r : List Nat} (e : cl z = c :: r) (hc : letterC c = true) (hr : ∀ d ∈ r, letterC d = true ∨ digitC d = true) (hl : r.length ≤ 11) : NmOk z := by
  have l := cl_len z
  rw [e, List.length_cons] at l
  refine ⟨by omega, by omega, fun d hd => ?_, fun d hd => ?_⟩
  · have hd : (cl z)[0]? = some d := hd
    rw [e] at hd
    cases hd
    exact hc
  · have hd : d ∈ cl z := hd
    rw [e] at hd
    rcases List.mem_cons.mp hd with rfl | hd
    · exact .inl hc
    · exact hr d hd
theorem nm_letters {z : Str} (h : ∀ c ∈ cl z, letterC c = true) (h1 : 1 ≤ (cl z).length) (h2 : (cl z).length ≤ 12) : NmOk z := by
  cases e : cl z with
  | nil => rw [e] at h1; simp at h1
  | cons c r =>
    rw [e, List.length_cons] at h2
    rw [e] at h
    exact nm_of e (h c List.mem_cons_self) (fun d hd => .inl (h d (List.mem_cons_of_mem _ hd))) (by omega)
theorem nm_split {z : Str} (h : NmOk z) : ∃ c r, cl z = c :: r ∧ letterC c = true ∧ (∀ d ∈ r, letterC d = true ∨ digitC d = true) ∧ r.length ≤ 11 := by
  have l := cl_len z
  have h1 := h.lo
  have h2 := h.hi
  cases e : cl z with
  | nil => rw [e] at l; simp at l; omega
  | cons c r =>
    rw [e, List.length_cons] at l
    refine ⟨c, r, rfl, h.fst c ?_, fun d hd => h.all d ?_, by omega⟩
    · show (cl z)[0]? = _
      rw [e]
      rfl
    · show d ∈ cl z
      rw [e]
      exact List.mem_cons_of_mem _ hd
theorem sub_len {α : Type} [DecidableEq α] : ∀ {l m : List α}, l.Nodup → (∀ x ∈ l, x ∈ m) → l.length ≤ m.length
  | [], _, _, _ => Nat.zero_le _
  | a :: r, m, nd, h => by
    have ha := h a List.mem_cons_self
    have nd' := List.nodup_cons.mp nd
    have := sub_len (l := r) (m := m.erase a) nd'.2 fun x hx => (List.mem_erase_of_ne (fun e => nd'.1 (by rw [← e]; exact hx))).mpr (h x (List.mem_cons_of_mem _ hx))
    rw [List.length_erase_of_mem ha] at this
    have := List.length_pos_of_mem ha
    rw [List.length_cons]
    omega
/-- behind i turns of the search for a new name; tau: all but the first sign -/
def Sought (turn : Int) (tau : List Nat) (zs : List Str) (i : Nat) (z : Str) : Prop := (∃ c, letterC c = true ∧ cl z = c :: tau) ∧ (z ∈ zs → (∀ s, s + 1 < i → (lett (turn + (s : Nat)) :: tau) ∈ zs.map cl) ∧ (0 < i → cl z = lett (turn + ((i - 1 : Nat) : Int)) :: tau))
theorem Sought.step {turn : Int} {tau : List Nat} {zs : List Str} {i : Nat} {z z' : Str} (h : Sought turn tau zs i z) (hz : z ∈ zs) (e : cl z' = lett (turn + (i : Nat)) :: tau) : Sought turn tau zs (i + 1) z' := by
  refine ⟨⟨_, lett_ok _, e⟩, fun _ => ⟨fun s hs => ?_, fun _ => by rw [Nat.add_sub_cancel]; exact e⟩⟩
  obtain ⟨h1, h2⟩ := h.2 hz
  by_cases hsi : s + 1 < i
  · exact h1 s hsi
  · have : s = i - 1 := by omega
    subst this
    rw [← h2 (by omega)]
    exact List.mem_map_of_mem hz
theorem Sought.stay {turn : Int} {tau : List Nat} {zs : List Str} {i : Nat} {z : Str} (h : Sought turn tau zs i z) (hz : z ∉ zs) : Sought turn tau zs (i + 1) z := ⟨h.1, fun q => absurd q hz⟩
theorem Sought.new {turn : Int} {tau : List Nat} {zs : List Str} {z : Str} (h : Sought turn tau zs 26 z) (hl : zs.length ≤ 11) : z ∉ zs := fun hz => by
  obtain ⟨h1, _⟩ := h.2 hz
  have nd : ((List.range 25).map fun s : Nat => lett (turn + (s : Nat)) :: tau).Nodup := by
    rw [List.nodup_iff_pairwise_ne, List.pairwise_map]
    refine (List.nodup_range (n := 25)).imp_of_mem fun {a b} ha hb hab e => ?_
    have := lett_inj (List.cons.inj e).1 (by have := List.mem_range.mp ha; omega) (by have := List.mem_range.mp hb; omega)
    exact hab this
  have := sub_len nd (m := zs.map cl) fun x hx => by
    obtain ⟨s, hs, rfl⟩ := List.mem_map.mp hx
    exact h1 s (by have := List.mem_range.mp hs; omega)
  simp at this
  omega
end BB
namespace BB
open PySem PySem.Spec PyProof.Rows L2 He Evl
section
variable {K : PySem.W.Frag} {mg : Str → Option Value} {w : World} {base : Heap} {H H' : Hp} {a : Addr}
abbrev ABC : Str := "abcdefghijklmnopqrstuvwxyz"
abbrev SGN : Str := ("abcdefghijklmnopqrstuvwxyz" : Str) ++ ("0123456789" : Str)
theorem names_flat (zs : List Str) : (zs.map V.str).all flatV = true := by
  rw [List.all_map]
  exact List.all_eq_true.mpr fun z _ => rfl
theorem names_mem {z : Str} {zs : List Str} (h : (if false = true then !inV (.str z) (zs.map V.str) else inV (.str z) (zs.map V.str)) = true) : z ∈ zs := by
  rw [if_neg Bool.false_ne_true, inV_str] at h
  exact of_decide_eq_true h
theorem names_nmem {z : Str} {zs : List Str} (h : (if false = true then !inV (.str z) (zs.map V.str) else inV (.str z) (zs.map V.str)) = false) : z ∉ zs := by
  rw [if_neg Bool.false_ne_true, inV_str] at h
  exact of_decide_eq_false h
def sp_names (K : PySem.W.Frag) : Sp := S2 fun a b H Q => ∃ (p q : Addr) (ns : List Int) (n : Nat), a = .ref p ∧ b = .int (n : Nat) ∧ PL p q ns H ∧ n ≤ 11 ∧
  ∀ (l : Addr) (zs : List Str) (H' : Hp), PX p q ns H H' → H l = none → H' l = some (.lst (zs.map V.str)) → zs.length = n → zs.Nodup → (∀ z ∈ zs, NmOk z) → Q (.ref l) H'
theorem ok_names (T : TX K mg w) : FnR PP w K mg base CX0 2 (ga K "_law_names") (sp_names K) := by
  refine mkS2 (bn T.f_names (fun _ _ _ _ _ _ us hl => match us, hl with | [_, _], _ => rfl)) sc_names fun cdv A outer s H a b Q E hr h => ?_
  refine ⟨_, (pss_cons (ps_set (i := 2) sc_names.nd rfl (Or.inr rfl) pe_str)
      (pss_cons (ps_set (i := 3) sc_names.nd rfl (Or.inr rfl) (pe_op op_add_str (pv 2) pe_str))
      (pss_cons (ps_set (i := 4) sc_names.nd rfl (Or.inl rfl) (pe_fn (ok_take T) (hr.mono (by decide)) T.kp_take T.g__law_take (pa_cons (pv 0) (pa_cons pe_int pa_nil))))
      (pss_cons (ps_set (i := 5) sc_names.nd rfl (Or.inl rfl) (pe_op op_add pe_int (pe_fn (ok_take T) (hr.mono (by decide)) T.kp_take T.g__law_take (pa_cons (pv 0) (pa_cons pe_int pa_nil)))))
      (pss_cons (ps_set (i := 6) sc_names.nd rfl (Or.inl rfl) (pe_fn (ok_take T) (hr.mono (by decide)) T.kp_take T.g__law_take (pa_cons (pv 0) (pa_cons (pv 5) pa_nil))))
      (pss_cons (ps_set (i := 7) sc_names.nd rfl (Or.inr rfl) (pe_fn (ok_take T) (hr.mono (by decide)) T.kp_take T.g__law_take (pa_cons (pv 0) (pa_cons pe_int pa_nil))))
      (pss_cons (ps_set (i := 8) sc_names.nd rfl (Or.inl rfl) (pe_lst pa_nil))
      (pss_cons (ps_for PassesOwn.never rfl (pi_range1 rfl T.n_range (pa_cons (pv 1) pa_nil)) (pg_name (i := 9) sc_names.nd rfl (Or.inl rfl))
        (pss_cons (ps_set (i := 10) sc_names.nd rfl (Or.inl rfl) (pe_join pe_str (pe_lcD (own := [("_law_j", 13)]) rfl sc_names.nd (pi_range1 rfl T.n_range (pa_cons (pv 5) pa_nil)) (blkOk_by (N := N_names) (sc := defScope s_names) (by decide +kernel)) (fun _ _ _ _ _ => (pg_name (i := 13) sc_names.nd rfl (Or.inl rfl))) (fun _ _ _ _ _ => pts_nil) (fun _ _ _ _ _ => (pe_ix ix_str (pv 2) (pe_op op_modN (pe_callTy call_int1 (by rfl) T.n_int (by decide +kernel) (pa_cons (pe_op op_add (pv 7) (pe_op op_mul pe_int (pv 13))) pa_nil)) pe_int) (fun _ _ => rfl))))))
      (pss_cons (ps_set (i := 10) sc_names.nd rfl (Or.inl rfl) (pe_op op_add_str (pe_op op_add_str (pe_slice sl_str (pv 10) po_none (po_some (pv 6))) (pe_ix ix_str (pv 2) (pe_op op_modN (pe_callTy call_int1 (by rfl) T.n_int (by decide +kernel) (pa_cons (pe_op op_add (pe_op op_add (pv 7) (pe_op op_mul pe_int (pv 9))) pe_int) pa_nil)) pe_int) (fun _ _ => rfl))) (pe_slice sl_str (pv 10) (po_some (pe_op op_add (pv 6) pe_int)) po_none)))
      (pss_cons (ps_if (pt_cmpR op_eq (pv 4) pe_int (nomark _)) (pss_cons (ps_set (i := 11) sc_names.nd rfl (Or.inr rfl) (pe_fn (ok_take T) (hr.mono (by decide)) T.kp_take T.g__law_take (pa_cons (pv 0) (pa_cons pe_int pa_nil))))
      (pss_cons (ps_set (i := 10) sc_names.nd rfl (Or.inl rfl) (pe_ix ix_str (pv 2) (pe_op op_modN (pe_callTy call_int1 (by rfl) T.n_int (by decide +kernel) (pa_cons (pe_op op_add (pv 7) (pv 11)) pa_nil)) pe_int) (fun _ _ => rfl)))
      (pss_one (ps_set (i := 10) sc_names.nd rfl (Or.inl rfl) (pe_op op_add_str (pv 10) (pe_join pe_str (pe_lcD (own := [("_law_j", 13)]) rfl sc_names.nd (pi_range1 rfl T.n_range (pa_cons (pe_op op_modN (pe_callTy call_int1 (by rfl) T.n_int (by decide +kernel) (pa_cons (pv 11) pa_nil)) pe_int) pa_nil)) (blkOk_by (N := N_names) (sc := defScope s_names) (by decide +kernel)) (fun _ _ _ _ _ => (pg_name (i := 13) sc_names.nd rfl (Or.inl rfl))) (fun _ _ _ _ _ => pts_nil) (fun _ _ _ _ _ => (pe_ix ix_str (pv 3) (pe_op op_modN (pe_callTy call_int1 (by rfl) T.n_int (by decide +kernel) (pa_cons (pe_op op_add (pe_op op_mul (pv 11) pe_int) (pe_op op_mul pe_int (pv 13))) pa_nil)) pe_int) (fun _ _ => rfl))))))))))
        pss_nil)
      (pss_cons (ps_for PassesOwn.never rfl (pi_range1 rfl T.n_range (pa_cons pe_int pa_nil)) (pg_name (i := 12) sc_names.nd rfl (Or.inl rfl))
        (pss_one (ps_if (pt_cmpR op_in_seq (pv 10) (pv 8) (by with_unfolding_all rfl)) (pss_one (ps_set (i := 10) sc_names.nd rfl (Or.inl rfl) (pe_op op_add_str (pe_ix ix_str (pv 2) (pe_op op_modN (pe_callTy call_int1 (by rfl) T.n_int (by decide +kernel) (pa_cons (pe_op op_add (pv 7) (pv 12)) pa_nil)) pe_int) (fun _ _ => rfl)) (pe_slice sl_str (pv 10) (po_some pe_int) po_none))))
        pss_nil)))
      (pss_one (ps_expr (pe_bm PySem.F.plainAttrs_list PySem.F.slot_list_append PySem.F.type_list_append mt_append (pv 8) (pa_cons (pv 10) pa_nil)))))))))
      (pss_one (ps_ret (pv 8))))))))))), ?_⟩
  obtain ⟨p, pq, ns, n, rfl, rfl, hP, hn, q⟩ := h
  refine ⟨_, rfl, _, _, rfl, rfl, by decide +kernel, ?_⟩
  refine ⟨_, rfl, _, _, rfl, p, pq, ns, _, rfl, rfl, hP, by decide, by decide, fun alike H1 x1 a0 a1 => ?_⟩
  refine ⟨_, rfl, _, _, rfl, p, pq, ns, _, rfl, rfl, x1.l, by decide, by decide, fun sz H2 x2 s0 s1 => ⟨_, _, rfl, rfl, ?_⟩⟩
  refine ⟨_, rfl, _, rfl, _, _, rfl, p, pq, ns, _, rfl, rfl, x2.l, (show 0 < 1 + sz by omega), by omega, fun at_ H3 x3 t0 t1 => ?_⟩
  refine ⟨_, rfl, _, _, rfl, p, pq, ns, _, rfl, rfl, x3.l, by decide, by decide, fun turn H4 x4 u0 u1 => ?_⟩
  have x14 := ((x1.trans x2).trans x3).trans x4
  refine ⟨by show 0 ≤ sizeLine; decide, fun d hd => ?_⟩
  have hdH : H d = none := x14.back hP hd
  have x15 := x14.new (o := .lst []) hd
  have d5 : (upd H4 d (.lst [])) d = some (.lst []) := upd_same
  generalize upd H4 d (.lst []) = H5 at x15 d5 ⊢
  refine ⟨_, rfl, _, rfl, by omega, by omega, ?_⟩
  obtain ⟨sn, esn⟩ : ∃ k : Nat, 1 + sz = k := ⟨(1 + sz).toNat, by omega⟩
  obtain ⟨an, ean⟩ : ∃ k : Nat, at_ = k := ⟨at_.toNat, by omega⟩
  subst ean
  refine for_it walk_range (fun i σ H' => PX p pq ns H H' ∧ (∃ zs : List Str, H' d = some (.lst (zs.map V.str)) ∧ zs.length = i ∧ zs.Nodup ∧ ∀ z ∈ zs, NmOk z) ∧ ∃ x9 x10 x11 x12, σ = [some (.ref p), some (.int (n : Nat)), some (.str ABC), some (.str SGN), some (.int alike), some (.int (1 + sz)), some (.int (an : Nat)), some (.int turn), some (.ref d), x9, x10, x11, x12, none])
    ⟨x15, ⟨[], d5, rfl, List.nodup_nil, fun z hz => absurd hz List.not_mem_nil⟩, _, _, _, _, rfl⟩ (fun _ _ _ _ _ => trivial) (fun i x σ H6 H7 hi h yy => ?_) (fun σ H6 h => ?_)
  · obtain ⟨x6, ⟨zs, g1, g2, g3, g4⟩, x9, x10, x11, x12, rfl⟩ := h
    obtain ⟨rfl, rfl⟩ := yy
    refine ⟨⟨_, rfl⟩, _, rfl, _, rfl, by omega, by omega, fun D hD => ?_⟩
    refine lc_it walk_range (fun j H' => Ex H7 H' ∧ ∃ cs : List Nat, H' D = some (.lst ((ones cs).map V.str)) ∧ cs.length = j ∧ ∀ c ∈ cs, letterC c = true) ⟨Ex.new hD, [], upd_same, rfl, fun c hc => absurd hc List.not_mem_nil⟩ (fun _ _ _ _ => trivial) (fun j x H8 H9 hj h yy => ?_) (fun H8 h => ?_)
    · obtain ⟨e8, cs, k1, k2, k3⟩ := h
      obtain ⟨rfl, rfl⟩ := yy
      refine ⟨rfl, _, rfl, _, rfl, _, rfl, _, _, rfl, rfl, cm_l ⟨by decide, by decide⟩, _, _, rfl, rfl, .inl ⟨_, rfl, _, _, rfl, rfl, (show (26 : Int) ≠ 0 by decide), ABC, _, _, rfl, rfl, by decide +kernel, lett_at _, ?_⟩⟩
      refine ⟨_, k1, sz_lt (by rw [List.length_map, List.length_map]; omega), e8.mut hD, cs ++ [lett (turn + 7 * (0 + (j : Nat)))], by rw [upd_same]; simp [ones], by simp [k2], fun c hc => ?_⟩
      rcases List.mem_append.mp hc with hc | hc
      · exact k3 c hc
      · rw [List.mem_singleton.mp hc]
        exact lett_ok _
    obtain ⟨e8, cs, k1, k2, k3⟩ := h
    have x8 := x6.ex e8
    have k2 : cs.length = sn := by omega
    refine ⟨"", D, ones cs, rfl, rfl, .inl (SqL.of k1), ?_, ?_⟩
    · rw [sum_ones]
      show cs.length + (ones cs).length * 0 ≤ _
      omega
    have ct1 : cl (Txt.join "" (ones cs)) = cs := by rw [cl_join, cl_ones]
    generalize Txt.join "" (ones cs) = z1 at ct1 ⊢
    have z1l : z1.length = sn := by rw [← cl_len, ct1]; exact k2
    have zline : z1.length ≤ sizeLine := sz_of (by omega)
    have z1m := cutS_length z1 none (some (an : Int))
    have z1n := cutS_length z1 (some ((an : Int) + 1)) none
    refine ⟨_, rfl, _, rfl, _, rfl, z1, rfl, zline, _, rfl, _, rfl, _, rfl, _, _, rfl, rfl, cm_l ⟨by decide, by decide⟩, _, _, rfl, rfl, _, _, rfl, rfl, .inl ⟨_, rfl, _, _, rfl, rfl, (show (26 : Int) ≠ 0 by decide), ABC, _, _, rfl, rfl, by decide +kernel, lett_at _, ?_⟩⟩
    have l1 : (⟨#[lett (turn + 3 * (0 + (i : Nat)) + 1)]⟩ : Str).length = 1 := rfl
    refine ⟨_, _, rfl, rfl, sz_of (by rw [l1]; omega), _, rfl, _, rfl, _, _, rfl, rfl, _, rfl, z1, rfl, zline, _, _, rfl, rfl, sz_of ?_, ?_⟩
    · have : (cutS z1 none (some (an : Int)) ++ (⟨#[lett (turn + 3 * (0 + (i : Nat)) + 1)]⟩ : Str)).length = (cutS z1 none (some (an : Int))).length + 1 := by
        rw [← cl_len, cl_app, List.length_append, cl_len]
        rfl
      rw [this]
      omega
    have ct2 : cl (cutS z1 none (some (an : Int)) ++ (⟨#[lett (turn + 3 * (0 + (i : Nat)) + 1)]⟩ : Str) ++ cutS z1 (some ((an : Int) + 1)) none) = cs.take an ++ lett (turn + 3 * (0 + (i : Nat)) + 1) :: cs.drop (an + 1) := by
      rw [cl_app, cl_app, cl_cut, cl_cut, ct1, HT.sIx_none, HT.sIx_none, HT.sIx_nat, show ((an : Int) + 1) = ((an + 1 : Nat) : Int) by omega, HT.sIx_nat, z1l, Nat.min_eq_left (by omega), Nat.min_eq_left (by omega), List.drop_zero, Nat.sub_zero, List.take_of_length_le (i := sn - (an + 1)) (by rw [List.length_drop]; omega)]
      rw [List.append_assoc]
      rfl
    generalize cutS z1 none (some (an : Int)) ++ (⟨#[lett (turn + 3 * (0 + (i : Nat)) + 1)]⟩ : Str) ++ cutS z1 (some ((an : Int) + 1)) none = z2 at ct2 ⊢
    have nm2 : NmOk z2 := by
      refine nm_letters (fun c hc => ?_) ?_ ?_
      · rw [ct2] at hc
        rcases List.mem_append.mp hc with hc | hc
        · exact k3 c (List.mem_of_mem_take hc)
        · rcases List.mem_cons.mp hc with rfl | hc
          · exact lett_ok _
          · exact k3 c (List.mem_of_mem_drop hc)
      · rw [ct2]
        simp
        omega
      · rw [ct2]
        simp
        omega
    refine ⟨_, rfl, rfl, _, rfl, if2 (fun _ => ?_) (fun _ => ?_)⟩
    · refine ⟨_, rfl, _, _, rfl, p, pq, ns, _, rfl, rfl, x8.l, by decide, by decide, fun wd H9 xw w0 w1 => ?_⟩
      refine ⟨_, rfl, _, rfl, _, rfl, _, _, rfl, rfl, .inl ⟨_, rfl, _, _, rfl, rfl, (show (26 : Int) ≠ 0 by decide), ABC, _, _, rfl, rfl, by decide +kernel, lett_at _, ?_⟩⟩
      have m0 := fm_lo (a := wd) (n := 12) (by decide)
      have m1 := fm_hi (a := wd) (n := 12) (by decide)
      refine ⟨_, rfl, ⟨_, rfl⟩, _, rfl, .inl ⟨_, rfl, _, _, rfl, rfl, (show (12 : Int) ≠ 0 by decide), _, rfl, by omega, by omega, fun D2 hD2 => ?_⟩⟩
      have x9' := x8.trans xw
      have dZ : H9 d = some (.lst (zs.map V.str)) := by
        have a1 : hid p H8 d = some (.lst (zs.map V.str)) := by
          rw [hid_ne (hP.ne_new hdH).1]
          exact e8 _ _ g1
        exact xw.get a1
      refine lc_it walk_range (fun j H' => Ex H9 H' ∧ ∃ cs : List Nat, H' D2 = some (.lst ((ones cs).map V.str)) ∧ cs.length = j ∧ ∀ c ∈ cs, letterC c = true ∨ digitC c = true) ⟨Ex.new hD2, [], upd_same, rfl, fun c hc => absurd hc List.not_mem_nil⟩ (fun _ _ _ _ => trivial) (fun j x Ha Hb hj h yy => ?_) (fun Ha h => ?_)
      · obtain ⟨ea, cs, k1, k2, k3⟩ := h
        obtain ⟨rfl, rfl⟩ := yy
        obtain ⟨c, hc1, hc2⟩ := sign_at (wd * 5 + 11 * (0 + (j : Nat)))
        refine ⟨rfl, _, rfl, _, rfl, _, _, rfl, rfl, cm_r ⟨by decide, by decide⟩, _, rfl, _, _, rfl, rfl, cm_l ⟨by decide, by decide⟩, _, _, rfl, rfl, .inl ⟨_, rfl, _, _, rfl, rfl, (show (36 : Int) ≠ 0 by decide), SGN, _, c, rfl, rfl, by decide +kernel, hc1, ?_⟩⟩
        refine ⟨_, k1, sz_lt (by rw [List.length_map, List.length_map]; omega), ea.mut hD2, cs ++ [c], by rw [upd_same]; simp [ones], by simp [k2], fun d' hd' => ?_⟩
        rcases List.mem_append.mp hd' with hd' | hd'
        · exact k3 d' hd'
        · rw [List.mem_singleton.mp hd']
          exact hc2
      obtain ⟨ea, cs2, k4, k5, k6⟩ := h
      have xz := x9'.ex ea
      have gz := ea _ _ dZ
      have k5 : cs2.length ≤ 11 := by omega
      refine ⟨"", D2, ones cs2, rfl, rfl, .inl (SqL.of k4), ?_, ?_⟩
      · rw [sum_ones]
        show cs2.length + (ones cs2).length * 0 ≤ _
        omega
      have ct3 : cl (Txt.join "" (ones cs2)) = cs2 := by rw [cl_join, cl_ones]
      generalize Txt.join "" (ones cs2) = z3 at ct3 ⊢
      have z3l : z3.length = cs2.length := by rw [← cl_len, ct3]
      have o1 : (⟨#[lett (turn + wd)]⟩ : Str).length = 1 := rfl
      refine ⟨_, _, rfl, rfl, sz_of (by rw [o1]; omega), ?_⟩
      have nmz : NmOk ((⟨#[lett (turn + wd)]⟩ : Str) ++ z3) := nm_of (c := lett (turn + wd)) (r := cs2) (by rw [cl_app, ct3]; rfl) (lett_ok _) k6 k5
      generalize (⟨#[lett (turn + wd)]⟩ : Str) ++ z3 = zz at nmz ⊢
      generalize Ha = HZ at xz gz ⊢
      refine ⟨_, rfl, by decide, by decide, ?_⟩
      obtain ⟨c0, tau, ez, hc0, htau, ltau⟩ := nm_split nmz
      refine for_it walk_range (fun t σ H' => H' = HZ ∧ ∃ (z : Str) (x12 : Option V), Sought turn tau zs t z ∧ σ = [some (.ref p), some (.int (n : Nat)), some (.str ABC), some (.str SGN), some (.int alike), some (.int (1 + sz)), some (.int (an : Nat)), some (.int turn), some (.ref d), some (.int (0 + (i : Nat))), some (.str z), some (.int wd), x12, none])
        ⟨rfl, _, _, ⟨⟨c0, hc0, ez⟩, fun _ => ⟨fun s hs => absurd hs (Nat.not_lt_zero _), fun hs => absurd hs (Nat.lt_irrefl _)⟩⟩, rfl⟩ (fun _ _ _ _ _ => trivial) (fun t x σ Ha Hb ht h yy => ?_) (fun σ Ha h => ?_)
      · obtain ⟨rfl, z, x12', hS, rfl⟩ := h
        obtain ⟨rfl, rfl⟩ := yy
        obtain ⟨⟨c, hc, ecz⟩, _⟩ := id hS
        have lz : z.length = tau.length + 1 := by rw [← cl_len, ecz, List.length_cons]
        refine ⟨_, rfl, _, rfl, d, _, rfl, .inl (SqL.of gz), rfl, names_flat zs, _, rfl, if2 (fun hm => ?_) (fun hm => ?_)⟩
        · have hm : z ∈ zs := names_mem hm
          refine ⟨_, rfl, _, rfl, _, rfl, _, _, rfl, rfl, .inl ⟨_, rfl, _, _, rfl, rfl, (show (26 : Int) ≠ 0 by decide), ABC, _, _, rfl, rfl, by decide +kernel, lett_at _, _, rfl, _, rfl, z, rfl, sz_of (by omega), _, _, rfl, rfl, sz_of ?_, rfl, _, _, hS.step hm ?_, rfl⟩⟩
          · have := cutS_length z (some 1) none
            have e1 : (⟨#[lett (turn + (0 + (t : Nat)))]⟩ : Str).length = 1 := rfl
            rw [e1]
            omega
          · rw [cl_app, cl_cut, ecz, show (1 : Int) = ((1 : Nat) : Int) from rfl, HT.sIx_nat, HT.sIx_none, lz, Nat.min_eq_left (by omega), Nat.add_sub_cancel]
            show [lett (turn + (0 + (t : Nat)))] ++ List.take tau.length tau = _
            rw [List.take_length, Int.zero_add]
            rfl
        · exact ⟨rfl, _, _, hS.stay (names_nmem hm), rfl⟩
      · obtain ⟨rfl, z, x12', hS, rfl⟩ := h
        have hnew : z ∉ zs := Sought.new hS (by omega)
        obtain ⟨⟨c, hc, ecz⟩, _⟩ := id hS
        refine ⟨_, rfl, .inl ⟨rfl, _, SqL.of gz⟩, _, rfl, d, _, _, rfl, rfl, gz, sz_lt (by rw [List.length_map]; omega), xz.mut hP hdH, ⟨zs ++ [z], by rw [upd_same, List.map_append]; rfl, by simp [g2], ?_, fun y hy => ?_⟩, _, _, _, _, rfl⟩
        · exact List.nodup_append.mpr ⟨g3, List.nodup_cons.mpr ⟨List.not_mem_nil, List.nodup_nil⟩, fun a ha b hb e => hnew (by rw [← List.mem_singleton.mp hb, ← e]; exact ha)⟩
        · rcases List.mem_append.mp hy with hy | hy
          · exact g4 y hy
          · rw [List.mem_singleton.mp hy]
            exact nm_of ecz hc htau ltau
    · have xz := x8
      have gz := e8 _ _ g1
      have nmz := nm2
      generalize H8 = HZ at xz gz ⊢
      refine ⟨_, rfl, by decide, by decide, ?_⟩
      obtain ⟨c0, tau, ez, hc0, htau, ltau⟩ := nm_split nmz
      refine for_it walk_range (fun t σ H' => H' = HZ ∧ ∃ (z : Str) (x12 : Option V), Sought turn tau zs t z ∧ σ = [some (.ref p), some (.int (n : Nat)), some (.str ABC), some (.str SGN), some (.int alike), some (.int (1 + sz)), some (.int (an : Nat)), some (.int turn), some (.ref d), some (.int (0 + (i : Nat))), some (.str z), x11, x12, none])
        ⟨rfl, _, _, ⟨⟨c0, hc0, ez⟩, fun _ => ⟨fun s hs => absurd hs (Nat.not_lt_zero _), fun hs => absurd hs (Nat.lt_irrefl _)⟩⟩, rfl⟩ (fun _ _ _ _ _ => trivial) (fun t x σ Ha Hb ht h yy => ?_) (fun σ Ha h => ?_)
      · obtain ⟨rfl, z, x12', hS, rfl⟩ := h
        obtain ⟨rfl, rfl⟩ := yy
        obtain ⟨⟨c, hc, ecz⟩, _⟩ := id hS
        have lz : z.length = tau.length + 1 := by rw [← cl_len, ecz, List.length_cons]
        refine ⟨_, rfl, _, rfl, d, _, rfl, .inl (SqL.of gz), rfl, names_flat zs, _, rfl, if2 (fun hm => ?_) (fun hm => ?_)⟩
        · have hm : z ∈ zs := names_mem hm
          refine ⟨_, rfl, _, rfl, _, rfl, _, _, rfl, rfl, .inl ⟨_, rfl, _, _, rfl, rfl, (show (26 : Int) ≠ 0 by decide), ABC, _, _, rfl, rfl, by decide +kernel, lett_at _, _, rfl, _, rfl, z, rfl, sz_of (by omega), _, _, rfl, rfl, sz_of ?_, rfl, _, _, hS.step hm ?_, rfl⟩⟩
          · have := cutS_length z (some 1) none
            have e1 : (⟨#[lett (turn + (0 + (t : Nat)))]⟩ : Str).length = 1 := rfl
            rw [e1]
            omega
          · rw [cl_app, cl_cut, ecz, show (1 : Int) = ((1 : Nat) : Int) from rfl, HT.sIx_nat, HT.sIx_none, lz, Nat.min_eq_left (by omega), Nat.add_sub_cancel]
            show [lett (turn + (0 + (t : Nat)))] ++ List.take tau.length tau = _
            rw [List.take_length, Int.zero_add]
            rfl
        · exact ⟨rfl, _, _, hS.stay (names_nmem hm), rfl⟩
      · obtain ⟨rfl, z, x12', hS, rfl⟩ := h
        have hnew : z ∉ zs := Sought.new hS (by omega)
        obtain ⟨⟨c, hc, ecz⟩, _⟩ := id hS
        refine ⟨_, rfl, .inl ⟨rfl, _, SqL.of gz⟩, _, rfl, d, _, _, rfl, rfl, gz, sz_lt (by rw [List.length_map]; omega), xz.mut hP hdH, ⟨zs ++ [z], by rw [upd_same, List.map_append]; rfl, by simp [g2], ?_, fun y hy => ?_⟩, _, _, _, _, rfl⟩
        · exact List.nodup_append.mpr ⟨g3, List.nodup_cons.mpr ⟨List.not_mem_nil, List.nodup_nil⟩, fun a ha b hb e => hnew (by rw [← List.mem_singleton.mp hb, ← e]; exact ha)⟩
        · rcases List.mem_append.mp hy with hy | hy
          · exact g4 y hy
          · rw [List.mem_singleton.mp hy]
            exact nm_of ecz hc htau ltau
  · obtain ⟨x6, ⟨zs, g1, g2, g3, g4⟩, x9, x10, x11, x12, rfl⟩ := h
    exact ⟨_, rfl, q d zs _ x6 hdH g1 (by rw [g2]; omega) g3 g4⟩
end
end BB
namespace BB
open PySem PySem.Spec PyProof.Rows L2 He Evl
/-! ### the law's items: tuples -/
def itV (b : Addr) (it : ItD) : List V := if it.pc then [.str "piece", .str it.nm, .ref b, miV it.mi, .int it.dl, .int it.x, .int it.y] else [.str "break", .str it.nm, .ref b, miV it.mi, .int it.dl, .int it.x, .int it.y, .int it.z]
def ItL (G : Hp) (t : Addr) (it : ItD) : Prop := ∃ b, G t = some (.tup (itV b it)) ∧ G b = some (.tup [.int it.st, .int it.sh])
def ItsG (G : Hp) (d : Addr) (ts : List Addr) (its : List ItD) : Prop := G d = some (.lst (ts.map V.ref)) ∧ ts.length = its.length ∧ ∀ (i : Nat) (it : ItD), its[i]? = some it → ∃ t, ts[i]? = some t ∧ ItL G t it
theorem hid_upd {p d : Addr} {H : Hp} {o : HO} (h : d ≠ p) : hid p (upd H d o) = upd (hid p H) d o := by
  funext b
  by_cases e : b = p
  · subst e
    rw [hid_self, upd_ne (Ne.symm h), hid_self]
  · rw [hid_ne e]
    by_cases z : b = d
    · subst z
      rw [upd_same, upd_same]
    · rw [upd_ne z, upd_ne z, hid_ne e]
section
variable {G G' : Hp} {t d : Addr} {it : ItD} {ts : List Addr} {its : List ItD}
theorem ItL.mono (h : ItL G t it) (e : Ex G G') : ItL G' t it := by
  obtain ⟨b, h1, h2⟩ := h
  exact ⟨b, e _ _ h1, e _ _ h2⟩
theorem ItL.upd (h : ItL G t it) {xs : List V} {o : HO} (hd : G d = some (.lst xs)) : ItL (upd G d o) t it := by
  obtain ⟨b, h1, h2⟩ := h
  refine ⟨b, ?_, ?_⟩
  · rw [upd_ne (fun z => by rw [z, hd] at h1; cases h1)]
    exact h1
  · rw [upd_ne (fun z => by rw [z, hd] at h2; cases h2)]
    exact h2
theorem ItsG.mono (h : ItsG G d ts its) (e : Ex G G') : ItsG G' d ts its := by
  obtain ⟨h1, h2, h3⟩ := h
  refine ⟨e _ _ h1, h2, fun i it hi => ?_⟩
  obtain ⟨t, h4, h5⟩ := h3 i it hi
  exact ⟨t, h4, h5.mono e⟩
theorem ItsG.push (h : ItsG G d ts its) (e : Ex G G') (ht : ItL G' t it) : ItsG (upd G' d (.lst (ts.map V.ref ++ [.ref t]))) d (ts ++ [t]) (its ++ [it]) := by
  have hd := e _ _ h.1
  refine ⟨by rw [upd_same, List.map_append]; rfl, by simp [h.2.1], fun i x hi => ?_⟩
  by_cases hlt : i < its.length
  · rw [List.getElem?_append_left hlt] at hi
    obtain ⟨t', h4, h5⟩ := h.2.2 i x hi
    exact ⟨t', by rw [List.getElem?_append_left (by rw [h.2.1]; exact hlt)]; exact h4, (h5.mono e).upd hd⟩
  · rw [List.getElem?_append_right (by omega)] at hi
    have : i = its.length := by
      have := (List.getElem?_eq_some_iff.mp hi).1
      simp at this
      omega
    subst this
    rw [Nat.sub_self] at hi
    cases hi
    exact ⟨t, by rw [List.getElem?_append_right (by rw [h.2.1]; exact Nat.le_refl _), h.2.1, Nat.sub_self]; rfl, ht.upd hd⟩
end
theorem ItsG.pushH {p cl b t d : Addr} {ns : List Int} {H0 Hc H8 : Hp} {it : ItD} {ts : List Addr} {its : List ItD} (hP0 : PL p cl ns H0) (hd0 : H0 d = none) (xc : PX p cl ns H0 Hc) (gc : ItsG (hid p Hc) d ts its) (hb : Hc b = none) (x8 : PX p cl ns (upd Hc b (.tup [.int it.st, .int it.sh])) H8) (ht : H8 t = none) :
    PX p cl ns H0 (upd (upd H8 t (.tup (itV b it))) d (.lst (ts.map V.ref ++ [.ref t]))) ∧ ItsG (hid p (upd (upd H8 t (.tup (itV b it))) d (.lst (ts.map V.ref ++ [.ref t])))) d (ts ++ [t]) (its ++ [it]) ∧ (upd H8 t (.tup (itV b it))) d = some (.lst (ts.map V.ref)) := by
  have dp := (hP0.ne_new hd0).1
  have bp := (xc.l.ne_new hb).1
  have tp := (x8.l.ne_new ht).1
  have e1 : Ex (hid p Hc) (hid p (upd Hc b (.tup [.int it.st, .int it.sh]))) := exHid (Ex.new hb)
  have e2 : Ex (hid p H8) (hid p (upd H8 t (.tup (itV b it)))) := exHid (Ex.new ht)
  have xx : PX p cl ns H0 (upd H8 t (.tup (itV b it))) := (((xc.new hb)).trans x8).new ht
  have hI : ItL (hid p (upd H8 t (.tup (itV b it)))) t it := by
    refine ⟨b, by rw [hid_ne tp, upd_same], e2 _ _ (x8.e _ _ ?_)⟩
    rw [hid_ne bp, upd_same]
  have eE := (e1.trans x8.e).trans e2
  refine ⟨xx.mut hP0 hd0, ?_, hid_ex _ _ (eE _ _ gc.1)⟩
  rw [hid_upd dp]
  exact gc.push eE hI
/-- the places of the breaks -/
def used (its : List ItD) : Int := ((its.filter fun it => !it.pc).map (·.x)).sum
theorem used_push (its : List ItD) (it : ItD) : used (its ++ [it]) = used its + (if it.pc then 0 else it.x) := by
  unfold used
  rw [List.filter_append, List.map_append, List.sum_append]
  cases h : it.pc <;> simp [h]
section
variable {K : PySem.W.Frag} {mg : Str → Option Value} {w : World} {base : Heap} {H H' : Hp} {a : Addr}
theorem set_same {σ : L2.St} {i : Nat} {v : V} (h : σ[i]? = some (some v)) : σ.set i (some v) = σ := by
  apply List.ext_getElem?
  intro j
  rw [List.getElem?_set]
  by_cases e : i = j
  · subst e
    rw [if_pos rfl, if_pos (List.getElem?_eq_some_iff.mp h).1, h]
  · rw [if_neg e]
theorem get_set_ne {σ : L2.St} {i j : Nat} {x : Option V} (h : i ≠ j) : (σ.set i x)[j]? = σ[j]? := List.getElem?_set_ne h
theorem get_set_eq {σ : L2.St} {i : Nat} {v : V} {x : Option V} (h : σ[i]? = some (some v)) : (σ.set i x)[i]? = some x := List.getElem?_set_self (List.getElem?_eq_some_iff.mp h).1
theorem nrm {F : L2.St → Hp → Prop} {σ σ' : L2.St} {H : Hp} (h : σ = σ') (k : F σ' H) : F σ H := h ▸ k
theorem nrmG {i : Nat} {v : V} {W : L2.St → Hp → Prop} {σ σ' : L2.St} {H : Hp} (h : σ.set i (some v) = σ') (k : W σ' H) : gName i v σ H W := by
  subst h
  exact k
section
variable {p pq : Addr} {ns : List Int} {D : Ends} {σ : L2.St} {wide : Bool} {us c sh st0 now0 pieces : Int}
abbrev tTk (K : PySem.W.Frag) (n : Int) : TE := tFn (sp_take K) (tCons (tVar 0) (tCons (tC (V.int n)) tNil))
theorem i_cond {W : Bool → Hp → Prop} (h0 : σ[0]? = some (some (.ref p))) (h6 : σ[6]? = some (some (.int pieces))) (hP : PL p pq ns H) (k : ∀ b H', PX p pq ns H H' → W b H') :
    tAnd (tTest (tOp (rI0 fun i j => V.bl (decide (j < i))) (tVar 6) (tC (V.int 0)))) (tTest (tOp rEq (tTk K 2) (tC (V.int 0)))) σ H W := by
  refine ⟨_, h6, _, _, rfl, rfl, _, rfl, if2 (fun _ => ?_) (fun _ => k _ _ (PX.refl hP))⟩
  exact ⟨_, h0, _, _, rfl, p, pq, ns, _, rfl, rfl, hP, by decide, by decide, fun z H1 x _ _ => ⟨rfl, _, rfl, k _ _ x⟩⟩
theorem i_low {v0 : Int} (h0 : σ[0]? = some (some (.ref p))) (h3 : σ[3]? = some (some (.bl wide))) (hv : σ[15]? = some (some (.int (1 + v0)))) (v00 : 0 ≤ v0) (v01 : v0 < 60) (hP : PL p pq ns H)
    (k : ∀ v H', PX p pq ns H H' → 1 ≤ v → v ≤ 60 → D.nx (σ.set 15 (some (.int v))) H') :
    tIfS (tB (tVar 3)) (tAsg (tOp (rI0 fun i j => V.int (i + j)) (tC (V.int 1)) (tTk K 60)) (gName 15)) tNext D σ H := by
  refine ⟨_, h3, _, rfl, if2 (fun _ => ?_) (fun _ => ?_)⟩
  · exact ⟨_, h0, _, _, rfl, p, pq, ns, _, rfl, rfl, hP, by decide, by decide, fun z H1 x z0 z1 => ⟨_, _, rfl, rfl, k _ _ x (by omega) (by omega)⟩⟩
  · have := k _ _ (PX.refl hP) (show 1 ≤ 1 + v0 by omega) (by omega)
    rw [set_same hv] at this
    exact this
theorem i_clock (h0 : σ[0]? = some (some (.ref p))) (hv : σ[13]? = some (some (.int c))) (hP : PL p pq ns H) (k : ∀ mi H', PX p pq ns H H' → D.nx (σ.set 13 (some (miV mi))) H') :
    tIfS (tTest (tOp (rI0 fun i j => V.bl (decide (j < i))) (tTk K 3) (tC (V.int 0)))) (tAsg (tC V.non) (gName 13)) tNext D σ H := by
  refine ⟨_, h0, _, _, rfl, p, pq, ns, _, rfl, rfl, hP, by decide, by decide, fun z H1 x z0 z1 => ⟨_, _, rfl, rfl, _, rfl, if2 (fun _ => k none _ x) (fun _ => ?_)⟩⟩
  have := k (some c) _ x
  have e : σ.set 13 (some (miV (some c))) = σ := set_same hv
  rw [e] at this
  exact this
theorem i_tail {mi : Option Int} (h2 : σ[2]? = some (some (.int now0))) (h10 : σ[10]? = some (some (.int 1))) (h11 : σ[11]? = some (some (.int sh))) (h13 : σ[13]? = some (some (miV mi))) (h14 : σ[14]? = some (some (.int st0)))
    (k : ∀ now st, D.nx ((σ.set 14 (some (.int st))).set 2 (some (.int now))) H) :
    tSeq (tIfS (tAnd (tTest (tOp (fun x y H Q => y = V.non ∧ Q (V.bl !decide (x = V.non)) H) (tVar 13) (tC V.non))) (tTest (tOp (rI0 fun i j => V.bl (decide (j < i))) (tVar 13) (tVar 14)))) (tAsg (tVar 13) (gName 14)) tNext)
      (tAsg (tOp (rI0 fun i j => V.int (i + j)) (tVar 2) (tFn (sp_first K) (tCons (tVar 10) (tCons (tVar 11) (tCons (tVar 14) tNil))))) (gName 2)) D σ H := by
  have last : ∀ st, (tAsg (tOp (rI0 fun i j => V.int (i + j)) (tVar 2) (tFn (sp_first K) (tCons (tVar 10) (tCons (tVar 11) (tCons (tVar 14) tNil))))) (gName 2)) D (σ.set 14 (some (.int st))) H := fun st =>
    ⟨_, (get_set_ne (by decide)).trans h2, _, (get_set_ne (by decide)).trans h10, _, (get_set_ne (by decide)).trans h11, _, get_set_eq h14, _, _, _, rfl, 1, sh, st, rfl, rfl, rfl, by decide, _, _, rfl, rfl, k _ _⟩
  have l0 := last st0
  rw [set_same h14] at l0
  refine ⟨_, h13, rfl, _, rfl, ?_⟩
  cases mi with
  | none => exact ifF rfl (ifF rfl l0)
  | some c => exact ifT rfl ⟨_, h13, _, h14, _, _, rfl, rfl, _, rfl, if2 (fun _ => ⟨_, h13, last c⟩) (fun _ => l0)⟩
theorem i_brk {i c1 k1 b1 : Int} (h0 : σ[0]? = some (some (.ref p))) (h3 : σ[3]? = some (some (.bl wide))) (h8 : σ[8]? = some (some (.int us))) (h16 : σ[16]? = some (some (.int (1 + c1)))) (h17 : σ[17]? = some (some (.int (1 + k1)))) (h18 : σ[18]? = some (some (.int (1 + b1))))
    (c0 : 0 ≤ c1 ∧ c1 < 3) (k0 : 0 ≤ k1 ∧ k1 < 6) (b0 : 0 ≤ b1 ∧ b1 < 3) (u0 : us ≤ (if wide then 12 else 3) * i) (hw3 : wide = true → i ≤ 2) (hi8 : i ≤ 7) (hP : PL p pq ns H)
    (k : ∀ cl tk br H', PX p pq ns H H' → 1 ≤ cl → cl ≤ 12 → 1 ≤ tk → tk ≤ 60 → 1 ≤ br → br ≤ 64 → us + cl ≤ 30 → us + cl ≤ (if wide then 12 else 3) * (i + 1) → D.nx (((σ.set 16 (some (.int cl))).set 17 (some (.int tk))).set 18 (some (.int br))) H') :
    tIfS (tB (tVar 3)) (tSeq (tAsg (tCB (fun xs H Q => ∃ i j, xs = [.int i, .int j] ∧ Q (.int (if j < i then j else i)) H) (tCons (tOp (rI0 fun i j => V.int (i + j)) (tC (V.int 1)) (tTk K 12)) (tCons (tOp (rI0 fun i j => V.int (i - j)) (tC (V.int 30)) (tVar 8)) tNil))) (gName 16))
      (tSeq (tAsg (tOp (rI0 fun i j => V.int (i + j)) (tC (V.int 1)) (tTk K 60)) (gName 17)) (tAsg (tOp (rI0 fun i j => V.int (i + j)) (tC (V.int 1)) (tTk K 64)) (gName 18)))) tNext D σ H := by
  refine ⟨_, h3, _, rfl, if2 (fun hw => ?_) (fun hw => ?_)⟩
  · subst hw
    have hw3 := hw3 rfl
    rw [if_pos rfl] at u0
    refine ⟨_, h0, _, _, rfl, p, pq, ns, _, rfl, rfl, hP, by decide, by decide, fun z H1 x z0 z1 => ⟨_, _, rfl, rfl, _, h8, _, _, rfl, rfl, ?_⟩⟩
    refine ⟨_, _, rfl, _, (get_set_ne (by decide)).trans h0, _, _, rfl, p, pq, ns, _, rfl, rfl, x.l, by decide, by decide, fun z2 H2 x2 _ _ => ⟨_, _, rfl, rfl, ?_⟩⟩
    refine ⟨_, ((get_set_ne (by decide)).trans (get_set_ne (by decide))).trans h0, _, _, rfl, p, pq, ns, _, rfl, rfl, x2.l, by decide, by decide, fun z3 H3 x3 _ _ => ⟨_, _, rfl, rfl, ?_⟩⟩
    have hc : 1 ≤ (if 30 - us < 1 + z then 30 - us else 1 + z) ∧ (if 30 - us < 1 + z then 30 - us else 1 + z) ≤ 12 ∧ (if 30 - us < 1 + z then 30 - us else 1 + z) ≤ 30 - us := by split <;> omega
    exact k _ _ _ _ ((x.trans x2).trans x3) hc.1 hc.2.1 (by omega) (by omega) (by omega) (by omega) (by omega) (by rw [if_pos rfl]; omega)
  · subst hw
    rw [if_neg Bool.false_ne_true] at u0
    have := k _ _ _ _ (PX.refl hP) (show 1 ≤ 1 + c1 by omega) (by omega) (show 1 ≤ 1 + k1 by omega) (by omega) (show 1 ≤ 1 + b1 by omega) (by omega) (by omega) (by rw [if_neg Bool.false_ne_true]; omega)
    rw [set_same h16, set_same h17, set_same h18] at this
    exact this
end
def sp_items (K : PySem.W.Frag) : Sp := S7 fun a b c d e f g H Q => ∃ (p q nl : Addr) (ns : List Int) (zs : List Str) (now spread pieces : Int) (wide : Bool), a = .ref p ∧ b = .ref nl ∧ c = .int now ∧ d = .bl wide ∧ e = .int spread ∧ f = .bl true ∧ g = .int pieces ∧ PL p q ns H ∧ hid p H nl = some (.lst (zs.map V.str)) ∧ zs.length ≤ 8 ∧ (wide = true → zs.length ≤ 3) ∧ 1 ≤ spread ∧ spread ≤ 9 ∧ (∀ z ∈ zs, NmOk z) ∧
  ∀ (l : Addr) (ts : List Addr) (its : List ItD) (H' : Hp), PX p q ns H H' → H l = none → ItsG (hid p H') l ts its → its.map (·.nm) = zs → (∀ it ∈ its, ItOk it ∧ it.st = 1 ∧ it.sh = 0) → used its ≤ 30 → Q (.ref l) H'
theorem ok_items (T : TX K mg w) : FnR PP w K mg base CX0 3 (ga K "_law_items") (sp_items K) := by
  refine mkS7 (bn T.f_items (fun _ _ _ _ _ _ us hl => match us, hl with | [_, _, _, _, _, _, _], _ => rfl)) sc_items fun cdv A outer s H a b c d e f g Q E hr h => ?_
  refine ⟨_, (pss_cons (ps_set (i := 7) sc_items.nd rfl (Or.inl rfl) (pe_lst pa_nil))
      (pss_cons (ps_set (i := 8) sc_items.nd rfl (Or.inl rfl) pe_int)
      (pss_cons (ps_for PassesOwn.never rfl (pi_range1 rfl T.n_range (pa_cons (pe_callB call_len_seq (by rfl) T.n_len (by decide +kernel) (pa_cons (pv 1) pa_nil)) pa_nil)) (pg_name (i := 9) sc_items.nd rfl (Or.inl rfl))
        (pss_cons (ps_set (i := 10) sc_items.nd rfl (Or.inl rfl) pe_int)
      (pss_cons (ps_if (pt_not (pt_val (pv 5))) (pss_cons (ps_set (i := 10) sc_items.nd rfl (Or.inl rfl) (pe_ix ix_list (pe_lst (pa_cons pe_int (pa_cons pe_int (pa_cons pe_int (pa_cons pe_int (pa_cons pe_int (pa_cons pe_int (pa_cons pe_int (pa_cons pe_int pa_nil))))))))) (pe_fn (ok_take T) (hr.mono (by decide)) T.kp_take T.g__law_take (pa_cons (pv 0) (pa_cons pe_int pa_nil))) (fun _ _ => rfl)))
      (pss_one (ps_if (PW.pt (pw_and (pt_val (pv 3)) (pw_and1 (pt_cmpR op_eq (pv 10) pe_int (nomark _))))) (pss_one (ps_set (i := 10) sc_items.nd rfl (Or.inl rfl) (pe_op op_add pe_int (pe_fn (ok_big T) (hr.mono (by decide)) T.kp_big T.g__law_big (pa_cons (pv 0) pa_nil)))))
        pss_nil)))
        pss_nil)
      (pss_cons (ps_set (i := 11) sc_items.nd rfl (Or.inl rfl) (pe_fn (ok_take T) (hr.mono (by decide)) T.kp_take T.g__law_take (pa_cons (pv 0) (pa_cons (pv 10) pa_nil))))
      (pss_cons (ps_set (i := 12) sc_items.nd rfl (Or.inl rfl) (pe_fn (ok_take T) (hr.mono (by decide)) T.kp_take T.g__law_take (pa_cons (pv 0) (pa_cons (pv 4) pa_nil))))
      (pss_cons (ps_set (i := 13) sc_items.nd rfl (Or.inl rfl) (pe_op op_sub (pe_op op_add (pv 2) (pe_fn (ok_take T) (hr.mono (by decide)) T.kp_take T.g__law_take (pa_cons (pv 0) (pa_cons pe_int pa_nil)))) pe_int))
      (pss_cons (ps_set (i := 14) sc_items.nd rfl (Or.inl rfl) (pv 2))
      (pss_cons (ps_if (PW.pt (pw_and (pt_cmpR op_gt (pv 6) pe_int (nomark _)) (pw_and1 (pt_cmpR op_eq (pe_fn (ok_take T) (hr.mono (by decide)) T.kp_take T.g__law_take (pa_cons (pv 0) (pa_cons pe_int pa_nil))) pe_int (nomark _))))) (pss_cons (ps_set (i := 6) sc_items.nd rfl (Or.inl rfl) (pe_op op_sub (pv 6) pe_int))
      (pss_cons (ps_set (i := 15) sc_items.nd rfl (Or.inl rfl) (pe_op op_add pe_int (pe_fn (ok_take T) (hr.mono (by decide)) T.kp_take T.g__law_take (pa_cons (pv 0) (pa_cons pe_int pa_nil)))))
      (pss_cons (ps_if (pt_val (pv 3)) (pss_one (ps_set (i := 15) sc_items.nd rfl (Or.inl rfl) (pe_op op_add pe_int (pe_fn (ok_take T) (hr.mono (by decide)) T.kp_take T.g__law_take (pa_cons (pv 0) (pa_cons pe_int pa_nil))))))
        pss_nil)
      (pss_cons (ps_if (pt_cmpR op_gt (pe_fn (ok_take T) (hr.mono (by decide)) T.kp_take T.g__law_take (pa_cons (pv 0) (pa_cons pe_int pa_nil))) pe_int (nomark _)) (pss_one (ps_set (i := 13) sc_items.nd rfl (Or.inl rfl) pe_non))
        pss_nil)
      (pss_cons (ps_expr (pe_bm PySem.F.plainAttrs_list PySem.F.slot_list_append PySem.F.type_list_append mt_append (pv 7) (pa_cons (pe_tup (pa_cons pe_str (pa_cons (pe_ix ix_list (pv 1) (pv 9) (fun _ _ => rfl)) (pa_cons (pe_tup (pa_cons (pv 10) (pa_cons (pv 11) pa_nil))) (pa_cons (pv 13) (pa_cons (pv 12) (pa_cons (pv 15) (pa_cons (pe_op op_add (pv 15) (pe_fn (ok_take T) (hr.mono (by decide)) T.kp_take T.g__law_take (pa_cons (pv 0) (pa_cons (pv 4) pa_nil)))) pa_nil)))))))) pa_nil)))
      (pss_one (ps_set (i := 2) sc_items.nd rfl (Or.inl rfl) (pv 15))))))))
        (pss_cons (ps_set (i := 16) sc_items.nd rfl (Or.inl rfl) (pe_op op_add pe_int (pe_fn (ok_take T) (hr.mono (by decide)) T.kp_take T.g__law_take (pa_cons (pv 0) (pa_cons pe_int pa_nil)))))
      (pss_cons (ps_set (i := 17) sc_items.nd rfl (Or.inl rfl) (pe_op op_add pe_int (pe_fn (ok_take T) (hr.mono (by decide)) T.kp_take T.g__law_take (pa_cons (pv 0) (pa_cons pe_int pa_nil)))))
      (pss_cons (ps_set (i := 18) sc_items.nd rfl (Or.inl rfl) (pe_op op_add pe_int (pe_fn (ok_take T) (hr.mono (by decide)) T.kp_take T.g__law_take (pa_cons (pv 0) (pa_cons pe_int pa_nil)))))
      (pss_cons (ps_if (pt_val (pv 3)) (pss_cons (ps_set (i := 16) sc_items.nd rfl (Or.inl rfl) (pe_callB (call_min2 rfl) (by rfl) T.n_min (by decide +kernel) (pa_cons (pe_op op_add pe_int (pe_fn (ok_take T) (hr.mono (by decide)) T.kp_take T.g__law_take (pa_cons (pv 0) (pa_cons pe_int pa_nil)))) (pa_cons (pe_op op_sub pe_int (pv 8)) pa_nil))))
      (pss_cons (ps_set (i := 17) sc_items.nd rfl (Or.inl rfl) (pe_op op_add pe_int (pe_fn (ok_take T) (hr.mono (by decide)) T.kp_take T.g__law_take (pa_cons (pv 0) (pa_cons pe_int pa_nil)))))
      (pss_one (ps_set (i := 18) sc_items.nd rfl (Or.inl rfl) (pe_op op_add pe_int (pe_fn (ok_take T) (hr.mono (by decide)) T.kp_take T.g__law_take (pa_cons (pv 0) (pa_cons pe_int pa_nil))))))))
        pss_nil)
      (pss_cons (ps_set (i := 8) sc_items.nd rfl (Or.inl rfl) (pe_op op_add (pv 8) (pv 16)))
      (pss_cons (ps_expr (pe_bm PySem.F.plainAttrs_list PySem.F.slot_list_append PySem.F.type_list_append mt_append (pv 7) (pa_cons (pe_tup (pa_cons pe_str (pa_cons (pe_ix ix_list (pv 1) (pv 9) (fun _ _ => rfl)) (pa_cons (pe_tup (pa_cons (pv 10) (pa_cons (pv 11) pa_nil))) (pa_cons (pv 13) (pa_cons (pv 12) (pa_cons (pv 16) (pa_cons (pv 17) (pa_cons (pv 18) pa_nil))))))))) pa_nil)))
      (pss_one (ps_set (i := 2) sc_items.nd rfl (Or.inl rfl) (pe_op op_mul (pv 16) (pv 17)))))))))))
      (pss_cons (ps_if (PW.pt (pw_and (pt_cmpR op_notN (pv 13) pe_non (nomark _)) (pw_and1 (pt_cmpR op_gt (pv 13) (pv 14) (nomark _))))) (pss_one (ps_set (i := 14) sc_items.nd rfl (Or.inl rfl) (pv 13)))
        pss_nil)
      (pss_one (ps_set (i := 2) sc_items.nd rfl (Or.inl rfl) (pe_op op_add (pv 2) (pe_fn (ok_first T) (hr.mono (by decide)) T.kp_first T.g__law_first (pa_cons (pv 10) (pa_cons (pv 11) (pa_cons (pv 14) pa_nil))))))))))))))))
      (pss_one (ps_ret (pv 7)))))), ?_⟩
  obtain ⟨p, pq, nl, ns, zs, now0, spread, pieces0, wide, rfl, rfl, rfl, rfl, rfl, rfl, rfl, hP, hnl, z8, z3, sp1, sp9, hnm, q⟩ := h
  have nlp : nl ≠ p := fun z => by rw [z, hid_self] at hnl; cases hnl
  have hnlH : H nl = some (.lst (zs.map V.str)) := by rw [hid_ne nlp] at hnl; exact hnl
  refine ⟨by show 0 ≤ sizeLine; decide, fun d hd => ?_⟩
  have x1 := (PX.refl hP).new (o := .lst []) hd
  have d1 := hid_new (o := .lst []) hP hd
  have dp := (hP.ne_new hd).1
  generalize upd H d (.lst []) = H1 at x1 d1 ⊢
  refine ⟨_, rfl, nl, _, rfl, .inl (SqL.of (x1.get hnl)), _, rfl, by rw [List.length_map]; omega, by rw [List.length_map]; omega, ?_⟩
  refine for_it walk_range (fun i σ H' => PX p pq ns H H' ∧ ∃ (its : List ItD) (ts : List Addr) (now pieces us : Int), ItsG (hid p H') d ts its ∧ its.length = i ∧ its.map (·.nm) = zs.take i ∧ (∀ it ∈ its, ItOk it ∧ it.st = 1 ∧ it.sh = 0) ∧ us = used its ∧ 0 ≤ us ∧ us ≤ (if wide then 12 else 3) * (i : Int) ∧ us ≤ 30 ∧
    ∃ x9 x10 x11 x12 x13 x14 x15 x16 x17 x18, σ = [some (.ref p), some (.ref nl), some (.int now), some (.bl wide), some (.int spread), some (.bl true), some (.int pieces), some (.ref d), some (.int us), x9, x10, x11, x12, x13, x14, x15, x16, x17, x18])
    ⟨x1, [], [], now0, pieces0, 0, ⟨d1, rfl, fun i it hi => by cases hi⟩, rfl, rfl, fun it hi => absurd hi List.not_mem_nil, rfl, by decide, by simp, by decide, _, _, _, _, _, _, _, _, _, _, rfl⟩ (fun _ _ _ _ _ => trivial) (fun i x σ H2 H3 hi h yy => ?_) (fun σ H2 h => ?_)
  · obtain ⟨x2, its, ts, now, pieces, us, g1, g2, g3, g4, g5, g6, g7, g8, x9, x10, x11, x12, x13, x14, x15, x16, x17, x18, rfl⟩ := h
    obtain ⟨rfl, rfl⟩ := yy
    have hi2 : i < zs.length := by rw [List.length_map] at hi; omega
    have hi8 : (i : Int) ≤ 7 := by omega
    have hi3 : wide = true → (i : Int) ≤ 2 := fun h => by have := z3 h; omega
    have ix : atI (zs.map V.str) (0 + (i : Int)) = some (.str zs[i]) := by rw [Int.zero_add]; exact atI_nat (by rw [List.getElem?_map, List.getElem?_eq_getElem hi2]; rfl)
    have nmi : NmOk zs[i] := hnm _ (List.getElem_mem _)
    refine ⟨_, rfl, _, rfl, ifF rfl ?_⟩
    refine ⟨_, rfl, _, rfl, _, _, rfl, p, pq, ns, 1, rfl, rfl, x2.l, by decide, by decide, fun sh H4 x3 s0 s1 => ?_⟩
    have esh : sh = 0 := by omega
    refine ⟨_, rfl, _, rfl, _, _, rfl, p, pq, ns, spread, rfl, rfl, x3.l, by omega, by omega, fun late H5 x4 l0 l1 => ?_⟩
    refine ⟨_, rfl, _, rfl, _, _, rfl, p, pq, ns, 20, rfl, rfl, x4.l, by decide, by decide, fun c20 H6 x5 _ _ => ⟨_, _, rfl, rfl, _, _, rfl, rfl, _, rfl, ?_⟩⟩
    have x6 := x2.trans ((x3.trans x4).trans x5)
    have g6' := g1.mono ((x3.trans x4).trans x5).e
    refine nrmG (σ' := [some (.ref p), some (.ref nl), some (.int now), some (.bl wide), some (.int spread), some (.bl true), some (.int pieces), some (.ref d), some (.int us), some (.int (0 + (i : Int))), some (.int 1), some (.int sh), some (.int late), some (.int (now + c20 - 9)), some (.int now), x15, x16, x17, x18]) rfl ?_
    refine i_cond (p := p) (pq := pq) (ns := ns) rfl rfl x6.l fun br H7 x7 => if2 (fun _ => ?_) (fun _ => ?_)
    · refine ⟨_, rfl, _, _, rfl, rfl, ?_⟩
      refine ⟨_, rfl, _, _, rfl, p, pq, ns, 9, rfl, rfl, x7.l, by decide, by decide, fun low0 H8 x8 lw0 lw1 => ⟨_, _, rfl, rfl, ?_⟩⟩
      refine i_low (p := p) (pq := pq) (ns := ns) rfl rfl rfl lw0 (by omega) x8.l fun low H9 x9' low1 low60 => ?_
      refine nrm (σ' := [some (.ref p), some (.ref nl), some (.int now), some (.bl wide), some (.int spread), some (.bl true), some (.int (pieces - 1)), some (.ref d), some (.int us), some (.int (0 + (i : Int))), some (.int 1), some (.int sh), some (.int late), some (.int (now + c20 - 9)), some (.int now), some (.int low), x16, x17, x18]) rfl ?_
      refine i_clock (p := p) (pq := pq) (ns := ns) rfl rfl x9'.l fun mi Hc xd => ?_
      refine nrm (σ' := [some (.ref p), some (.ref nl), some (.int now), some (.bl wide), some (.int spread), some (.bl true), some (.int (pieces - 1)), some (.ref d), some (.int us), some (.int (0 + (i : Int))), some (.int 1), some (.int sh), some (.int late), some (miV mi), some (.int now), some (.int low), x16, x17, x18]) rfl ?_
      have xc := x6.trans (((x7.trans x8).trans x9').trans xd)
      have gc := g6'.mono (((x7.trans x8).trans x9').trans xd).e
      have hdc : Hc d = some (.lst (ts.map V.ref)) := hid_ex _ _ gc.1
      refine ⟨_, rfl, .inl ⟨rfl, _, SqL.of hdc⟩, _, rfl, _, rfl, nl, _, _, .str zs[i], rfl, rfl, SqL.of (xc.get hnl), ix, _, rfl, _, rfl, by show 2 ≤ sizeLine; decide, fun b hb => ?_⟩
      refine ⟨_, rfl, _, rfl, _, rfl, _, rfl, _, rfl, _, rfl, _, _, rfl, p, pq, ns, spread, rfl, rfl, (xc.new hb).l, by omega, by omega, fun y H8' x8' y0 y1 => ⟨_, _, rfl, rfl, by show 7 ≤ sizeLine; decide, fun t ht => ?_⟩⟩
      obtain ⟨it, eit⟩ : ∃ x : ItD, x = ⟨true, zs[i], 1, sh, mi, late, low, low + y, 0⟩ := ⟨_, rfl⟩
      have iok : ItOk it := by
        subst eit
        exact ⟨nmi, Int.one_pos, by show (1 : Int) ≤ 16; omega, by show low + y ≤ 1000; omega, l0, by show late ≤ 8; omega, fun _ => ⟨low1, by show low ≤ low + y; omega, by show low + y ≤ low + 8; omega⟩, fun h => by cases h⟩
      have x8'' : PX p pq ns (upd Hc b (.tup [.int it.st, .int it.sh])) H8' := by subst eit; exact x8'
      obtain ⟨pn, pg, h8⟩ := ItsG.pushH hP hd xc gc hb x8'' ht
      have eV : itV b it = [.str "piece", .str zs[i], .ref b, miV mi, .int late, .int low, .int (low + y)] := by subst eit; rfl
      rw [eV] at pn pg h8
      refine ⟨d, _, _, rfl, rfl, h8, sz_lt (by rw [List.length_map, g1.2.1]; omega), _, rfl, ?_⟩
      have epc : it.pc = true := by subst eit; rfl
      have est : it.nm = zs[i] ∧ it.st = 1 ∧ it.sh = sh := by subst eit; exact ⟨rfl, rfl, rfl⟩
      have f1 : (its ++ [it]).length = i + 1 := by rw [List.length_append, g2]; rfl
      have f2 : (its ++ [it]).map (·.nm) = zs.take (i + 1) := by
        rw [List.map_append, g3, take_next hi2]
        show _ ++ [it.nm] = _
        rw [est.1]
      have f3 : ∀ x ∈ its ++ [it], ItOk x ∧ x.st = 1 ∧ x.sh = 0 := fun x hx => by
        rcases List.mem_append.mp hx with hx | hx
        · exact g4 x hx
        · rw [List.mem_singleton.mp hx]
          exact ⟨iok, est.2.1, est.2.2.trans esh⟩
      have f4 : us = used (its ++ [it]) := by rw [used_push, epc, g5]; simp
      have f6 : us ≤ (if wide then 12 else 3) * ((i + 1 : Nat) : Int) := by cases wide <;> simp at g7 ⊢ <;> omega
      exact i_tail (mi := mi) rfl rfl rfl rfl rfl fun now st => ⟨pn, its ++ [it], ts ++ [t], _, _, _, pg, f1, f2, f3, f4, g6, f6, g8, _, _, _, _, _, _, _, _, _, _, rfl⟩
    · have xe := x6.trans x7
      have ge := g6'.mono x7.e
      refine ⟨_, rfl, _, _, rfl, p, pq, ns, 3, rfl, rfl, xe.l, by decide, by decide, fun c1 H7 xa c0 c2 => ⟨_, _, rfl, rfl, ?_⟩⟩
      refine ⟨_, rfl, _, _, rfl, p, pq, ns, 6, rfl, rfl, xa.l, by decide, by decide, fun k1 H8 xb k0 k2 => ⟨_, _, rfl, rfl, ?_⟩⟩
      refine ⟨_, rfl, _, _, rfl, p, pq, ns, 3, rfl, rfl, xb.l, by decide, by decide, fun b1 H9 xd b0 b2 => ⟨_, _, rfl, rfl, ?_⟩⟩
      refine i_brk (p := p) (pq := pq) (ns := ns) (i := (i : Int)) rfl rfl rfl rfl rfl rfl ⟨c0, c2⟩ ⟨k0, k2⟩ ⟨b0, b2⟩ g7 hi3 hi8 xd.l fun cells ticks bars Hc xf ce1 ce12 ti1 ti60 ba1 ba64 u30 uw => ?_
      refine nrm (σ' := [some (.ref p), some (.ref nl), some (.int now), some (.bl wide), some (.int spread), some (.bl true), some (.int pieces), some (.ref d), some (.int us), some (.int (0 + (i : Int))), some (.int 1), some (.int sh), some (.int late), some (.int (now + c20 - 9)), some (.int now), x15, some (.int cells), some (.int ticks), some (.int bars)]) rfl ?_
      have xc := xe.trans (((xa.trans xb).trans xd).trans xf)
      have gc := ge.mono (((xa.trans xb).trans xd).trans xf).e
      have hdc : Hc d = some (.lst (ts.map V.ref)) := hid_ex _ _ gc.1
      refine ⟨_, rfl, _, rfl, _, _, rfl, rfl, ?_⟩
      refine ⟨_, rfl, .inl ⟨rfl, _, SqL.of hdc⟩, _, rfl, _, rfl, nl, _, _, .str zs[i], rfl, rfl, SqL.of (xc.get hnl), ix, _, rfl, _, rfl, by show 2 ≤ sizeLine; decide, fun b hb => ?_⟩
      refine ⟨_, rfl, _, rfl, _, rfl, _, rfl, _, rfl, by show 8 ≤ sizeLine; decide, fun t ht => ?_⟩
      obtain ⟨it, eit⟩ : ∃ x : ItD, x = ⟨false, zs[i], 1, sh, some (now + c20 - 9), late, cells, ticks, bars⟩ := ⟨_, rfl⟩
      have iok : ItOk it := by
        subst eit
        exact ⟨nmi, Int.one_pos, by show (1 : Int) ≤ 16; omega, by show ticks ≤ 1000; omega, l0, by show late ≤ 8; omega, fun h => (by cases h), fun _ => ⟨ce1, ce12, ti1, ba1, ba64⟩⟩
      have eS : it.st = 1 ∧ it.sh = sh := by subst eit; exact ⟨rfl, rfl⟩
      have ht' : (upd Hc b (.tup [.int it.st, .int it.sh])) t = none := by rw [eS.1, eS.2]; exact ht
      obtain ⟨pn, pg, h8⟩ := ItsG.pushH hP hd xc gc hb (PX.refl (xc.new hb).l) ht'
      have eV : itV b it = [.str "break", .str zs[i], .ref b, miV (some (now + c20 - 9)), .int late, .int cells, .int ticks, .int bars] := by subst eit; rfl
      rw [eV, eS.1, eS.2] at pn pg h8
      refine ⟨d, _, _, rfl, rfl, h8, sz_lt (by rw [List.length_map, g1.2.1]; omega), _, rfl, _, rfl, _, _, rfl, rfl, cm_l ⟨by omega, by omega⟩, ?_⟩
      have epc : it.pc = false ∧ it.x = cells := by subst eit; exact ⟨rfl, rfl⟩
      have est : it.nm = zs[i] ∧ it.st = 1 ∧ it.sh = sh := by subst eit; exact ⟨rfl, rfl, rfl⟩
      have f1 : (its ++ [it]).length = i + 1 := by rw [List.length_append, g2]; rfl
      have f2 : (its ++ [it]).map (·.nm) = zs.take (i + 1) := by
        rw [List.map_append, g3, take_next hi2]
        show _ ++ [it.nm] = _
        rw [est.1]
      have f3 : ∀ x ∈ its ++ [it], ItOk x ∧ x.st = 1 ∧ x.sh = 0 := fun x hx => by
        rcases List.mem_append.mp hx with hx | hx
        · exact g4 x hx
        · rw [List.mem_singleton.mp hx]
          exact ⟨iok, est.2.1, est.2.2.trans esh⟩
      have f4 : us + cells = used (its ++ [it]) := by rw [used_push, epc.1, epc.2, g5]; simp
      exact i_tail (mi := some (now + c20 - 9)) rfl rfl rfl rfl rfl fun now st => ⟨pn, its ++ [it], ts ++ [t], _, _, _, pg, f1, f2, f3, f4, by omega, uw, u30, _, _, _, _, _, _, _, _, _, _, rfl⟩
  · obtain ⟨x2, its, ts, now, pieces, us, g1, g2, g3, g4, g5, g6, g7, g8, x9, x10, x11, x12, x13, x14, x15, x16, x17, x18, rfl⟩ := h
    refine ⟨_, rfl, q d ts its _ x2 hd g1 ?_ g4 (g5 ▸ g8)⟩
    rw [g3]
    simp
end
end BB
namespace BB
open PySem PySem.Spec PyProof.Rows L2 He Evl
section
variable {its : List ItD} {S : SpD} {R : List (List Int)}
/-! ### the plain law: steps -/
theorem bar_mono {st sh t t' : Int} (h : 0 < st) (hle : t ≤ t') : barOf st sh t ≤ barOf st sh t' := by
  unfold barOf
  rw [Int.fmod_eq_emod_of_nonneg _ (by omega), Int.fmod_eq_emod_of_nonneg _ (by omega)]
  have a1 := Int.emod_nonneg (sh - t) (show st ≠ 0 by omega)
  have a2 := Int.emod_lt_of_pos (sh - t) h
  have b1 := Int.emod_nonneg (sh - t') (show st ≠ 0 by omega)
  have b2 := Int.emod_lt_of_pos (sh - t') h
  have c1 := Int.emod_add_mul_ediv (sh - t) st
  have c2 := Int.emod_add_mul_ediv (sh - t') st
  by_cases hlt : t + (sh - t) % st ≤ t' + (sh - t') % st
  · exact hlt
  · exfalso
    have hq : (sh - t) / st + 1 ≤ (sh - t') / st := by
      by_cases hq : (sh - t) / st + 1 ≤ (sh - t') / st
      · exact hq
      · have := Int.mul_le_mul_of_nonneg_left (c := st) (show (sh - t') / st ≤ (sh - t) / st by omega) (by omega)
        omega
    have := Int.mul_le_mul_of_nonneg_left (c := st) hq (by omega)
    rw [Int.mul_add, Int.mul_one] at this
    omega
theorem stF_mono {i : Nat} {m m' l l' : Int} (ok : ItsOk its) (h : m ≤ m') (hl : l ≤ l') : stF its i m l ≤ stF its i m' l' := by
  unfold stF
  cases hg : its[i / 2]? with
  | none => exact h
  | some it =>
    dsimp only
    split
    · unfold bgn
      have := (rdy_win (it := it) (A := m) (m := m') (n := m' - m) h (by omega) (by omega)).1
      exact bar_mono (ok.ok it (List.mem_of_getElem? hg)).st (by omega)
    · omega
theorem stF_slope {i : Nat} {m m' l : Int} (h1 : ∀ it ∈ its, it.st = 1 ∧ it.sh = 0) (h : m ≤ m') : stF its i m' l - m' ≤ stF its i m l - m := by
  unfold stF
  cases hg : its[i / 2]? with
  | none => dsimp only; omega
  | some it =>
    dsimp only
    split
    · unfold bgn barOf
      obtain ⟨e1, e2⟩ := h1 it (List.mem_of_getElem? hg)
      rw [e1, Int.fmod_one, Int.fmod_one]
      have := (rdy_win (it := it) (A := m) (m := m') (n := m' - m) h (by omega) (by omega)).2
      omega
    · omega
section
variable {f g : Nat → Int → Int} {s n k : Nat} {m m' : Int}
theorem crs_mono (hf : ∀ i m m', m ≤ m' → f i m ≤ f i m') (h : m ≤ m') : ∀ n, crs f s n m ≤ crs f s n m'
  | 0 => h
  | n + 1 => hf _ _ _ (crs_mono hf h n)
theorem crs_le (hf : ∀ i m m', m ≤ m' → f i m ≤ f i m') : ∀ n, (∀ i m, s ≤ i → i < s + n → f i m ≤ g i m) → crs f s n m ≤ crs g s n m
  | 0, _ => Int.le_refl _
  | n + 1, h => Int.le_trans (hf _ _ _ (crs_le hf n fun i m h1 h2 => h i m h1 (by omega))) (h _ _ (by omega) (by omega))
theorem crs_congr : ∀ n, (∀ i m, s ≤ i → i < s + n → f i m = g i m) → crs f s n m = crs g s n m
  | 0, _ => rfl
  | n + 1, h => by
    show f (s + n) (crs f s n m) = g (s + n) (crs g s n m)
    rw [crs_congr n fun i m h1 h2 => h i m h1 (by omega)]
    exact h _ _ (by omega) (by omega)
theorem crs_slope (hf : ∀ i m m', m ≤ m' → f i m ≤ f i m') (hs : ∀ i m m', m ≤ m' → f i m' - m' ≤ f i m - m) (h : m ≤ m') : ∀ n, crs f s n m' - m' ≤ crs f s n m - m
  | 0 => by show m' - m' ≤ m - m; omega
  | n + 1 => by
    have a := crs_slope hf hs h n
    have b := hs (s + n) _ _ (crs_mono (s := s) hf h n)
    show f (s + n) (crs f s n m') - m' ≤ f (s + n) (crs f s n m) - m
    omega
theorem crs_add : ∀ k, crs f s (n + k) m = crs f (s + n) k (crs f s n m)
  | 0 => rfl
  | k + 1 => by
    show f (s + (n + k)) (crs f s (n + k) m) = f (s + n + k) (crs f (s + n) k (crs f s n m))
    rw [crs_add k, Nat.add_assoc]
end
/-! ### rows -/
/-- a row's lag of the i-th step -/
def lagR (its : List ItD) (R : List (List Int)) (i : Nat) : Int := match its[i / 2]? with
  | none => 0
  | some it => if i % 2 = 0 then (R.getD (i / 2) []).getD 0 0 else if it.pc then (R.getD (i / 2) []).getD 1 0 else it.x * it.y
/-- the moments of a row's run -/
def moR (its : List ItD) (R : List (List Int)) (opens : Int) (i : Nat) : Int := crs (fun i m => stF its i m (lagR its R i)) 0 i opens
theorem bent_at {p k : Nat} {late : Bool} {it : ItD} (h : its[k]? = some it) : (bent its S p late)[k]? = some (bentI (S.getD k []) it.pc k p late) := by
  unfold bent
  rw [List.getElem?_map, List.getElem?_zipIdx, h]
  simp
theorem bent_getD {p k : Nat} {late : Bool} {it : ItD} (h : its[k]? = some it) : (bent its S p late).getD k [] = bentI (S.getD k []) it.pc k p late := by
  rw [List.getD_eq_getElem?_getD, bent_at h]
  rfl
theorem ext_same (q : Int) (b : Bool) : ext (q, q) b = q := by
  cases b <;> rfl
theorem lag_bent {p i : Nat} {late : Bool} (hi : i < 2 * its.length) : lagR its (bent its S p late) i = ext (stSp its S i) (decide (i < p) == late) := by
  have hlt : i / 2 < its.length := by omega
  have hg := List.getElem?_eq_getElem hlt
  generalize its[i / 2] = it at hg
  unfold lagR stSp
  rw [hg]
  dsimp only
  rw [bent_getD hg]
  by_cases e : i % 2 = 0
  · rw [if_pos e, if_pos e]
    have : 2 * (i / 2) = i := by omega
    unfold bentI
    rw [this]
    rfl
  · rw [if_neg e, if_neg e]
    have : 2 * (i / 2) + 1 = i := by omega
    cases hp : it.pc with
    | false =>
      rw [if_neg Bool.false_ne_true, if_neg Bool.false_ne_true, ext_same]
    | true =>
      unfold bentI
      rw [this]
      rfl
/-- the step with the lag that the row has -/
def beF (its : List ItD) (S : SpD) (p : Nat) (late : Bool) (i : Nat) (m : Int) : Int := stF its i m (ext (stSp its S i) (decide (i < p) == late))
theorem mo_bent {p i : Nat} {late : Bool} {opens : Int} (hi : i ≤ 2 * its.length) : moR its (bent its S p late) opens i = crs (beF its S p late) 0 i opens :=
  crs_congr i fun j m _ h2 => by
    show stF its j m _ = stF its j m _
    rw [lag_bent (by omega)]
theorem lo_mono (ok : ItsOk its) : ∀ i m m', m ≤ m' → loF its S i m ≤ loF its S i m' := fun i m m' h => stF_mono ok h (Int.le_refl _)
theorem hi_mono (ok : ItsOk its) : ∀ i m m', m ≤ m' → hiF its S i m ≤ hiF its S i m' := fun i m m' h => stF_mono ok h (Int.le_refl _)
theorem be_mono {p : Nat} {late : Bool} (ok : ItsOk its) : ∀ i m m', m ≤ m' → beF its S p late i m ≤ beF its S p late i m' := fun i m m' h => stF_mono ok h (Int.le_refl _)
theorem ext_lo {q : Int × Int} {b : Bool} (h : q.1 ≤ q.2) : q.1 ≤ ext q b := by
  cases b
  · exact Int.le_refl _
  · exact h
theorem ext_hi {q : Int × Int} {b : Bool} (h : q.1 ≤ q.2) : ext q b ≤ q.2 := by
  cases b
  · exact h
  · exact Int.le_refl _
theorem lo_be {p i : Nat} {late : Bool} {m : Int} (ok : ItsOk its) (sok : SOk its S) (hi : i < 2 * its.length) : loF its S i m ≤ beF its S p late i m := stF_mono ok (Int.le_refl _) (ext_lo (stSp_wd sok hi).1)
theorem be_hi {p i : Nat} {late : Bool} {m : Int} (ok : ItsOk its) (sok : SOk its S) (hi : i < 2 * its.length) : beF its S p late i m ≤ hiF its S i m := stF_mono ok (Int.le_refl _) (ext_hi (stSp_wd sok hi).1)
theorem be_is_hi {p i : Nat} {late : Bool} {m : Int} (h : (decide (i < p) == late) = true) : beF its S p late i m = hiF its S i m := by
  unfold beF
  rw [h]
  rfl
theorem be_is_lo {p i : Nat} {late : Bool} {m : Int} (h : (decide (i < p) == late) = false) : beF its S p late i m = loF its S i m := by
  unfold beF
  rw [h]
  rfl
/-! ### the tables -/
section
variable {opens : Int} {tabs : List (List Int)}
theorem tab_some {N i : Nat} (TO : TabsOk its S opens tabs N) (hi : i ≤ N) : ∃ ms, tabs[i]? = some ms := ⟨tabs[i]'(by rw [TO.len]; omega), List.getElem?_eq_getElem _⟩
theorem tab_be {p : Nat} {late : Bool} (sok : SOk its S) (TO : TabsOk its S opens tabs (2 * its.length)) : ∀ i, i ≤ 2 * its.length → ∀ ms, tabs[i]? = some ms → crs (beF its S p late) 0 i opens ∈ ms
  | 0, _, ms, hm => by
    rw [TO.zero] at hm
    cases hm
    exact List.mem_singleton.mpr rfl
  | i + 1, hi, ms', hm => by
    obtain ⟨ms, h0⟩ := tab_some TO (show i ≤ 2 * its.length by omega)
    have ih := tab_be (p := p) (late := late) sok TO i (by omega) ms h0
    have wd := (stSp_wd sok (show i < 2 * its.length by omega)).1
    refine (TO.step i ms ms' h0 hm _).mpr ⟨_, ih, _, ext_lo (b := decide (i < p) == late) wd, ext_hi wd, ?_⟩
    show beF its S p late (0 + i) _ = _
    rw [Nat.zero_add]
    rfl
theorem tab_hi (ok : ItsOk its) (TO : TabsOk its S opens tabs (2 * its.length)) : ∀ i, i ≤ 2 * its.length → ∀ ms, tabs[i]? = some ms → ∀ m ∈ ms, m ≤ crs (hiF its S) 0 i opens
  | 0, _, ms, hm, m, h => by
    rw [TO.zero] at hm
    cases hm
    rw [List.mem_singleton.mp h]
    exact Int.le_refl _
  | i + 1, hi, ms', hm, m, h => by
    obtain ⟨ms, h0⟩ := tab_some TO (show i ≤ 2 * its.length by omega)
    obtain ⟨m0, g1, l, g2, g3, rfl⟩ := (TO.step i ms ms' h0 hm m).mp h
    have ih := tab_hi ok TO i (by omega) ms h0 m0 g1
    show _ ≤ hiF its S (0 + i) _
    rw [Nat.zero_add]
    exact stF_mono ok ih g3
theorem tab_lo (ok : ItsOk its) (TO : TabsOk its S opens tabs (2 * its.length)) : ∀ i, i ≤ 2 * its.length → ∀ ms, tabs[i]? = some ms → ∀ m ∈ ms, crs (loF its S) 0 i opens ≤ m
  | 0, _, ms, hm, m, h => by
    rw [TO.zero] at hm
    cases hm
    rw [List.mem_singleton.mp h]
    exact Int.le_refl _
  | i + 1, hi, ms', hm, m, h => by
    obtain ⟨ms, h0⟩ := tab_some TO (show i ≤ 2 * its.length by omega)
    obtain ⟨m0, g1, l, g2, g3, rfl⟩ := (TO.step i ms ms' h0 hm m).mp h
    have ih := tab_lo ok TO i (by omega) ms h0 m0 g1
    show loF its S (0 + i) _ ≤ _
    rw [Nat.zero_add]
    exact stF_mono ok ih g2
/-- up to its point, a corner's moments are the greatest, a hollow's the least -/
theorem be_low {p i : Nat} (h : i ≤ p) : crs (beF its S p true) 0 i opens = crs (hiF its S) 0 i opens ∧ crs (beF its S p false) 0 i opens = crs (loF its S) 0 i opens :=
  ⟨crs_congr i fun j m _ h2 => be_is_hi (by rw [decide_eq_true (by omega)]; rfl), crs_congr i fun j m _ h2 => be_is_lo (by rw [decide_eq_true (by omega)]; rfl)⟩
/-- .. behind it the steps are the least, the greatest -/
theorem be_up {p n : Nat} {m : Int} : crs (beF its S p true) p n m = crs (loF its S) p n m ∧ crs (beF its S p false) p n m = crs (hiF its S) p n m :=
  ⟨crs_congr n fun j m h1 _ => be_is_lo (by rw [decide_eq_false (by omega)]; rfl), crs_congr n fun j m h1 _ => be_is_hi (by rw [decide_eq_false (by omega)]; rfl)⟩
theorem be_split {p s g : Nat} {late : Bool} (h : s ≤ g) : crs (beF its S p late) 0 g opens = crs (beF its S p late) s (g - s) (crs (beF its S p late) 0 s opens) := by
  have := crs_add (f := beF its S p late) (s := 0) (n := s) (m := opens) (g - s)
  rw [Nat.zero_add, show s + (g - s) = g by omega] at this
  exact this
/-- forward: the least distance is the corner's -/
theorem least_corner {s g : Nat} {ms : List Int} {t : Int} (h1 : ∀ it ∈ its, it.st = 1 ∧ it.sh = 0) (ok : ItsOk its) (sok : SOk its S) (TO : TabsOk its S opens tabs (2 * its.length)) (hsg : s ≤ g) (hg : g ≤ 2 * its.length) (hm : tabs[s]? = some ms)
    (ht : LeastOf (fun m => crs (loF its S) s (g - s) m - m) ms t) : t = moR its (bent its S s true) opens g - moR its (bent its S s true) opens s := by
  obtain ⟨⟨m, hm1, rfl⟩, hle⟩ := ht
  rw [mo_bent hg, mo_bent (by omega), be_split hsg, be_up.1]
  have i1 := tab_be (p := s) (late := true) sok TO s (by omega) ms hm
  have i2 := hle _ i1
  have i3 := tab_hi ok TO s (by omega) ms hm m hm1
  rw [← (be_low (Nat.le_refl s)).1] at i3
  have i4 := crs_slope (f := loF its S) (s := s) (lo_mono ok) (fun i m m' h => stF_slope h1 h) i3 (g - s)
  dsimp only at i2 ⊢
  omega
/-- backward: the hollow's -/
theorem least_hollow {s g : Nat} {ms : List Int} {t : Int} (h1 : ∀ it ∈ its, it.st = 1 ∧ it.sh = 0) (ok : ItsOk its) (sok : SOk its S) (TO : TabsOk its S opens tabs (2 * its.length)) (hsg : g ≤ s) (hg : s ≤ 2 * its.length) (hm : tabs[g]? = some ms)
    (ht : LeastOf (fun m => m - crs (hiF its S) g (s - g) m) ms t) : t = moR its (bent its S g false) opens g - moR its (bent its S g false) opens s := by
  obtain ⟨⟨m, hm1, rfl⟩, hle⟩ := ht
  rw [mo_bent hg, mo_bent (by omega), be_split hsg, be_up.2]
  have i1 := tab_be (p := g) (late := false) sok TO g (by omega) ms hm
  have i2 := hle _ i1
  have i3 := tab_lo ok TO g (by omega) ms hm m hm1
  rw [← (be_low (Nat.le_refl g)).2] at i3
  have i4 := crs_slope (f := hiF its S) (s := g) (hi_mono ok) (fun i m m' h => stF_slope h1 h) i3 (s - g)
  dsimp only at i2 ⊢
  omega
/-- whatever the grids are -/
theorem least_any {p s g : Nat} {late : Bool} {ms : List Int} {t : Int} (ok : ItsOk its) (sok : SOk its S) (TO : TabsOk its S opens tabs (2 * its.length)) (hsg : s ≤ g) (hg : g ≤ 2 * its.length) (hm : tabs[s]? = some ms)
    (ht : LeastOf (fun m => crs (loF its S) s (g - s) m - m) ms t) : t ≤ moR its (bent its S p late) opens g - moR its (bent its S p late) opens s := by
  rw [mo_bent hg, mo_bent (by omega), be_split hsg]
  have i2 := ht.2 _ (tab_be (p := p) (late := late) sok TO s (by omega) ms hm)
  have i3 := crs_le (f := loF its S) (g := beF its S p late) (s := s) (m := crs (beF its S p late) 0 s opens) (lo_mono ok) (g - s) fun i m _ h2 => lo_be ok sok (by omega)
  dsimp only at i2 ⊢
  omega
theorem most_any {p s g : Nat} {late : Bool} {ms : List Int} {t : Int} (ok : ItsOk its) (sok : SOk its S) (TO : TabsOk its S opens tabs (2 * its.length)) (hsg : g ≤ s) (hg : s ≤ 2 * its.length) (hm : tabs[g]? = some ms)
    (ht : LeastOf (fun m => m - crs (hiF its S) g (s - g) m) ms t) : t ≤ moR its (bent its S p late) opens g - moR its (bent its S p late) opens s := by
  rw [mo_bent hg, mo_bent (by omega), be_split hsg]
  have i2 := ht.2 _ (tab_be (p := p) (late := late) sok TO g (by omega) ms hm)
  have i3 := crs_le (f := beF its S p late) (g := hiF its S) (s := g) (m := crs (beF its S p late) 0 g opens) (be_mono ok) (s - g) fun i m _ h2 => be_hi ok sok (by omega)
  dsimp only at i2 ⊢
  omega
end
/-! ### events -/
/-- what an event adds to its point's moment -/
def exR (its : List ItD) (R : List (List Int)) : EvD → Int
  | .op => 0
  | .ev w k => match w with
    | .enter => (R.getD k []).getD 2 0
    | .out => (R.getD k []).getD 3 0
    | _ => 0
  | .pl k n => match its[k]? with
    | some it => n * it.y
    | none => 0
def moE (D : DyD) (R : List (List Int)) (e : EvD) : Int := moR D.its R D.opens (ptOf D e).toNat + exR D.its R e
def apR (D : DyD) (R : List (List Int)) (e f : EvD) : Int := moE D R f - moE D R e
theorem ev_pc {k : Nat} {w : EvW} (h : EvOk its (.ev w k)) (hw : w = .enter ∨ w = .out) : ∃ it, its[k]? = some it ∧ it.pc = true := by
  obtain ⟨it, h1, h2⟩ := h
  refine ⟨it, h1, ?_⟩
  cases hp : it.pc with
  | true => rfl
  | false => rcases hw with rfl | rfl <;> rcases h2 hp with h | h <;> cases h
theorem ex_first {e : EvD} {p : Nat} {late : Bool} (h : EvOk its e) (hne : ∀ k, e ≠ .ev .enter k) : exR its (bent its S p late) e = (evSp its S e).2 := by
  cases e with
  | op => rfl
  | ev w k =>
    cases w with
    | enter => exact absurd rfl (hne k)
    | out =>
      obtain ⟨it, h1, h2⟩ := ev_pc h (.inr rfl)
      show ((bent its S p late).getD k []).getD 3 0 = ((S.getD k []).getD 3 (0, 0)).2
      rw [bent_getD h1, h2]
      rfl
    | _ => rfl
  | pl k n =>
    obtain ⟨it, h1, h2⟩ := h
    show (match its[k]? with | some it => n * it.y | none => 0) = (match its[k]? with | some it => (n * it.y, n * it.y) | none => ((0, 0) : Int × Int)).2
    rw [h1]
theorem ex_second {e : EvD} {p : Nat} {late : Bool} (h : EvOk its e) (hne : ∀ k, e ≠ .ev .out k) : exR its (bent its S p late) e = (evSp its S e).1 := by
  cases e with
  | op => rfl
  | ev w k =>
    cases w with
    | out => exact absurd rfl (hne k)
    | enter =>
      obtain ⟨it, h1, h2⟩ := ev_pc h (.inl rfl)
      show ((bent its S p late).getD k []).getD 2 0 = ((S.getD k []).getD 2 (0, 0)).1
      rw [bent_getD h1, h2]
      rfl
    | _ => rfl
  | pl k n =>
    obtain ⟨it, h1, h2⟩ := h
    show (match its[k]? with | some it => n * it.y | none => 0) = (match its[k]? with | some it => (n * it.y, n * it.y) | none => ((0, 0) : Int × Int)).1
    rw [h1]
theorem ev_k {e : EvD} {k k' : Nat} {it it' : ItD} (nd : (its.map (·.nm)).Nodup) (h1 : its[k]? = some it) (h2 : its[k']? = some it') (h : nmOf its k = nmOf its k') : k = k' := by
  rw [nmOf_eq h1, nmOf_eq h2] at h
  refine nodup_ix nd (x := it.nm) ?_ ?_
  · rw [List.getElem?_map, h1]
    rfl
  · rw [List.getElem?_map, h2, h]
    rfl
theorem ev_inj {e f : EvD} (nd : (its.map (·.nm)).Nodup) (he : EvOk its e) (hf : EvOk its f) (h : evV its e = evV its f) : e = f := by
  cases e with
  | op => cases f with
    | op => rfl
    | ev w k => simp [evV] at h
    | pl k n => simp [evV] at h
  | ev w k => cases f with
    | op => simp [evV] at h
    | pl k n => simp [evV] at h
    | ev w' k' =>
      obtain ⟨it, h1, _⟩ := he
      obtain ⟨it', h2, _⟩ := hf
      simp only [evV, List.cons.injEq, V.str.injEq, and_true] at h
      have := ev_k (e := .op) nd h1 h2 h.2
      subst this
      have hw := h.1
      cases w <;> cases w' <;> first | rfl | (exfalso; revert hw; decide +kernel)
  | pl k n => cases f with
    | op => simp [evV] at h
    | ev w k => simp [evV] at h
    | pl k' n' =>
      obtain ⟨it, h1, _⟩ := he
      obtain ⟨it', h2, _⟩ := hf
      simp only [evV, List.cons.injEq, V.str.injEq, V.int.injEq, and_true, true_and] at h
      have := ev_k (e := .op) nd h1 h2 h.1
      subst this
      rw [h.2]
end
section
variable {D : DyD} {S : SpD} {tabs : List (List Int)} {e f : EvD} {x : Int}
theorem apR_self {R : List (List Int)} : apR D R e e = 0 := by
  unfold apR
  omega
theorem apR_turn {R : List (List Int)} : apR D R f e = -apR D R e f := by
  unfold apR
  omega
/-- with step 1: what nearest finds is in a corner, or in a hollow -/
theorem law_near (h1 : ∀ it ∈ D.its, it.st = 1 ∧ it.sh = 0) (ok : ItsOk D.its) (sok : SOk D.its S) (TO : TabsOk D.its S D.opens tabs (2 * D.its.length)) (hah : 0 ≤ D.ahead) (he : EvOk D.its e) (hf : EvOk D.its f) (hne : ∀ k, e ≠ .ev .enter k) (hnf : ∀ k, f ≠ .ev .out k)
    (hN : Near D S tabs e f x) : x = if ptOf D e ≤ ptOf D f then apR D (bent D.its S (ptOf D e).toNat true) e f else apR D (bent D.its S (ptOf D f).toNat false) e f := by
  rcases hN with ⟨h, rfl⟩ | ⟨s, g, ms, t, hs, hg, hsg, hm, ht, rfl⟩ | ⟨s, g, ms, t, hs, hg, hsg, hm, ht, rfl⟩
  · cases ev_inj ok.nd he hf h
    rw [if_pos (Int.le_refl _), apR_self]
  · obtain ⟨g', hg', gle⟩ := ptOf_nat hf hah
    have hgl : g ≤ 2 * D.its.length := by omega
    rw [if_pos (by omega), least_corner h1 ok sok TO hsg hgl hm ht]
    unfold apR moE
    rw [ex_first he hne, ex_second hf hnf, hs, hg, Int.toNat_natCast, Int.toNat_natCast]
    omega
  · obtain ⟨g', hg', gle⟩ := ptOf_nat he hah
    have hgl : s ≤ 2 * D.its.length := by omega
    rw [if_neg (by omega), least_hollow h1 ok sok TO (by omega) hgl hm ht]
    unfold apR moE
    rw [ex_first he hne, ex_second hf hnf, hs, hg, Int.toNat_natCast, Int.toNat_natCast]
    omega
/-- the begin or the end at a point -/
def evP (p : Nat) : EvD := if p = 0 then .op else if p % 2 = 1 then .ev .begin_ (p / 2) else .ev .end_ (p / 2 - 1)
theorem evP_cases (p : Nat) (Q : EvD → Prop) (h0 : p = 0 → Q .op) (h1 : p % 2 = 1 → Q (.ev .begin_ (p / 2))) (h2 : p ≠ 0 → p % 2 = 0 → Q (.ev .end_ (p / 2 - 1))) : Q (evP p) := by
  unfold evP
  by_cases e : p = 0
  · rw [if_pos e]
    exact h0 e
  · rw [if_neg e]
    by_cases o : p % 2 = 1
    · rw [if_pos o]
      exact h1 o
    · rw [if_neg o]
      exact h2 e (by omega)
theorem evP_pt (p : Nat) : ptOf D (evP p) = p := evP_cases p (fun e => ptOf D e = p) (fun e => by subst e; rfl) (fun o => by show 2 * ((p / 2 : Nat) : Int) + 1 = p; omega) fun e o => by show 2 * ((p / 2 - 1 : Nat) : Int) + 2 = p; omega
theorem evP_ok {its : List ItD} {p : Nat} (hp : p ≤ 2 * its.length) : EvOk its (evP p) := evP_cases p (fun e => EvOk its e) (fun _ => trivial)
  (fun o => ⟨its[p / 2]'(by omega), List.getElem?_eq_getElem _, fun _ => .inl rfl⟩) fun e o => ⟨its[p / 2 - 1]'(by omega), List.getElem?_eq_getElem _, fun _ => .inr rfl⟩
theorem evP_ex {its : List ItD} {R : List (List Int)} {p : Nat} : exR its R (evP p) = 0 := evP_cases p (fun e => exR its R e = 0) (fun _ => rfl) (fun _ => rfl) fun _ _ => rfl
theorem evP_sp {its : List ItD} {p : Nat} : evSp its S (evP p) = (0, 0) := evP_cases p (fun e => evSp its S e = (0, 0)) (fun _ => rfl) (fun _ => rfl) fun _ _ => rfl
theorem evP_ne {p k : Nat} : evP p ≠ .ev .enter k ∧ evP p ≠ .ev .out k := evP_cases p (fun e => e ≠ .ev .enter k ∧ e ≠ .ev .out k) (fun _ => ⟨fun h => (by cases h), fun h => (by cases h)⟩) (fun _ => ⟨fun h => (by cases h), fun h => (by cases h)⟩) fun _ _ => ⟨fun h => (by cases h), fun h => (by cases h)⟩
theorem law_pts {s g : Nat} (h1 : ∀ it ∈ D.its, it.st = 1 ∧ it.sh = 0) (ok : ItsOk D.its) (sok : SOk D.its S) (TO : TabsOk D.its S D.opens tabs (2 * D.its.length)) (hah : 0 ≤ D.ahead) (hsg : s ≤ g) (hg : g ≤ 2 * D.its.length) :
    (Near D S tabs (evP s) (evP g) x → x = apR D (bent D.its S s true) (evP s) (evP g)) ∧ (Near D S tabs (evP g) (evP s) x → -x = apR D (bent D.its S s false) (evP s) (evP g)) := by
  constructor
  · intro h
    have := law_near h1 ok sok TO hah (evP_ok (by omega)) (evP_ok hg) (fun k => evP_ne.1) (fun k => evP_ne.2) h
    rw [evP_pt, evP_pt, if_pos (by omega), Int.toNat_natCast] at this
    exact this
  · intro h
    have := law_near h1 ok sok TO hah (evP_ok hg) (evP_ok (by omega)) (fun k => evP_ne.1) (fun k => evP_ne.2) h
    rw [evP_pt, evP_pt] at this
    by_cases e : g = s
    · subst e
      rw [if_pos (Int.le_refl _), apR_self] at this
      rw [this, apR_self]
      rfl
    · rw [if_neg (by omega), Int.toNat_natCast] at this
      rw [this, apR_turn]
      omega
/-- with any grids: the rows lie between -/
theorem law_between {s g p : Nat} {late : Bool} (ok : ItsOk D.its) (sok : SOk D.its S) (TO : TabsOk D.its S D.opens tabs (2 * D.its.length)) (hsg : s ≤ g) (hg : g ≤ 2 * D.its.length) :
    (Near D S tabs (evP s) (evP g) x → x ≤ apR D (bent D.its S p late) (evP s) (evP g)) ∧ (Near D S tabs (evP g) (evP s) x → apR D (bent D.its S p late) (evP s) (evP g) ≤ -x) := by
  have ap : apR D (bent D.its S p late) (evP s) (evP g) = moR D.its (bent D.its S p late) D.opens g - moR D.its (bent D.its S p late) D.opens s := by
    unfold apR moE
    rw [evP_ex, evP_ex, evP_pt, evP_pt, Int.toNat_natCast, Int.toNat_natCast]
    omega
  constructor
  · intro h
    rcases h with ⟨h, rfl⟩ | ⟨s', g', ms, t, hs, hg', hsg', hm, ht, rfl⟩ | ⟨s', g', ms, t, hs, hg', hsg', hm, ht, rfl⟩
    · rw [ev_inj ok.nd (evP_ok (by omega)) (evP_ok hg) h, apR_self]
      exact Int.le_refl _
    · rw [evP_pt] at hs hg'
      have es : s' = s := by omega
      have eg : g' = g := by omega
      subst es eg
      rw [ap, evP_sp, evP_sp]
      have := least_any (p := p) (late := late) ok sok TO hsg' hg hm ht
      dsimp only
      omega
    · rw [evP_pt] at hs hg'
      omega
  · intro h
    rcases h with ⟨h, rfl⟩ | ⟨s', g', ms, t, hs, hg', hsg', hm, ht, rfl⟩ | ⟨s', g', ms, t, hs, hg', hsg', hm, ht, rfl⟩
    · rw [← ev_inj ok.nd (evP_ok hg) (evP_ok (by omega)) h, apR_self]
      exact Int.le_refl _
    · rw [evP_pt] at hs hg'
      have es : s' = g := by omega
      have eg : g' = s := by omega
      have ee : s = g := by omega
      subst es eg ee
      rw [apR_self, evP_sp]
      obtain ⟨⟨m, _, rfl⟩, _⟩ := ht
      rw [Nat.sub_self]
      show (0 : Int) ≤ -(m - m + 0 - 0)
      omega
    · rw [evP_pt] at hs hg'
      have es : s' = g := by omega
      have eg : g' = s := by omega
      subst es eg
      rw [ap, evP_sp, evP_sp]
      have := most_any (p := p) (late := late) ok sok TO (by omega) hg hm ht
      dsimp only
      omega
end
end BB
namespace BB
open PySem PySem.Spec PyProof.Rows L2 He Evl
section
variable {K : PySem.W.Frag} {mg : Str → Option Value} {w : World} {base : Heap} {H H' : Hp} {a : Addr} {it : ItD} {D : DyD} {S : SpD}
/-! ### the same -/
def sp_is_int (K : PySem.W.Frag) : Sp := S1 fun a H Q => ∃ i : Int, a = .int i ∧ Q (.bl true) H
theorem ok_is_int (T : TX K mg w) : FnR PP w K mg base CX0 1 (ga K "_law_is_int") (sp_is_int K) := by
  refine mkS1 (bn T.f_is_int (fun _ _ _ _ _ _ us hl => match us, hl with | [_], _ => rfl)) sc_is_int fun cdv A outer s H a Q E hr h => ?_
  refine ⟨_, (pss_one (ps_ret (pe_and (pe_callB call_isi (by rfl) T.n_isinstance (by decide +kernel) (pa_cons (pv 0) (pa_cons (pe_bltn (v := .ty "int") (by rfl) T.n_int (by decide +kernel : bootBuiltins "int" = some (.type "int")) rfl) pa_nil))) (pe_one (pe_not (pe_callB call_isi (by rfl) T.n_isinstance (by decide +kernel) (pa_cons (pv 0) (pa_cons (pe_bltn (v := .ty "bool") (by rfl) T.n_bool (by decide +kernel : bootBuiltins "bool" = some (.type "bool")) rfl) pa_nil)))))))), ?_⟩
  obtain ⟨i, rfl, q⟩ := h
  exact ⟨_, rfl, _, _, _, _, _, rfl, .ty _, .base (.int _), kit_ty (K := K) (a := "int") (b := "int") (r := true) (by decide +kernel), _, rfl, _, rfl, _, _, _, _, _, rfl, .ty _, .base (.int _), kit_ty (K := K) (a := "int") (b := "bool") (r := false) (by decide +kernel), _, rfl, q⟩
def leafV : V → Prop
  | .int _ => True
  | .bl _ => True
  | _ => False
def sp_same0 (K : PySem.W.Frag) : Sp := S2 fun a b H Q => leafV a ∧ a = b ∧ Q (.bl true) H
theorem ok_same0 (T : TX K mg w) : FnR PP w K mg base CX0 2 (ga K "_law_same") (sp_same0 K) := by
  refine mkS2 (bn T.f_same (fun _ _ _ _ _ _ us hl => match us, hl with | [_, _], _ => rfl)) sc_same fun cdv A outer s H a b Q E hr h => ?_
  refine ⟨_, pss_cons (ps_if (pt_cmpR op_isN (pv 1) pe_non (nomark _)) (pss_one ps_never) pss_nil)
    (pss_cons (ps_if (pt_val (pe_callB call_isi (by rfl) T.n_isinstance (by decide +kernel) (pa_cons (pv 1) (pa_cons (pe_bltn (v := .ty "bool") (by rfl) T.n_bool (by decide +kernel : bootBuiltins "bool" = some (.type "bool")) rfl) pa_nil))))
      (pss_one (ps_ret (pe_and (pe_callB call_isi (by rfl) T.n_isinstance (by decide +kernel) (pa_cons (pv 0) (pa_cons (pe_bltn (v := .ty "bool") (by rfl) T.n_bool (by decide +kernel : bootBuiltins "bool" = some (.type "bool")) rfl) pa_nil))) (pe_one (pe_cmpR op_eq (pv 0) (pv 1) (nomark _)))))) pss_nil)
    (pss_cons (ps_if (pt_val (pe_callB call_isi (by rfl) T.n_isinstance (by decide +kernel) (pa_cons (pv 1) (pa_cons (pe_bltn (v := .ty "int") (by rfl) T.n_int (by decide +kernel : bootBuiltins "int" = some (.type "int")) rfl) pa_nil))))
      (pss_one (ps_ret (pe_and (pe_fn (ok_is_int T) hr T.kp_is_int T.g__law_is_int (pa_cons (pv 0) pa_nil)) (pe_one (pe_cmpR op_eq (pv 0) (pv 1) (nomark _)))))) pss_nil)
    pss_never)), ?_⟩
  obtain ⟨hl, rfl, q⟩ := h
  have dd : ∀ v : V, decide (v = v) = true := fun v => decide_eq_true rfl
  cases a with
  | int i =>
    refine ⟨_, rfl, rfl, _, rfl, ifF rfl ?_⟩
    refine ⟨_, rfl, _, _, _, _, _, rfl, .ty _, .base (.int _), kit_ty (K := K) (a := "int") (b := "bool") (r := false) (by decide +kernel), _, rfl, ifF rfl ?_⟩
    refine ⟨_, rfl, _, _, _, _, _, rfl, .ty _, .base (.int _), kit_ty (K := K) (a := "int") (b := "int") (r := true) (by decide +kernel), _, rfl, ifT rfl ?_⟩
    exact ⟨_, rfl, _, rfl, i, rfl, _, rfl, _, rfl, _, rfl, rfl, by rw [dd]; exact q⟩
  | bl x =>
    refine ⟨_, rfl, rfl, _, rfl, ifF rfl ?_⟩
    refine ⟨_, rfl, _, _, _, _, _, rfl, .ty _, .base (.bl _), kit_ty (K := K) (a := "bool") (b := "bool") (r := true) (by decide +kernel), _, rfl, ifT rfl ?_⟩
    exact ⟨_, rfl, _, _, _, _, _, rfl, .ty _, .base (.bl _), kit_ty (K := K) (a := "bool") (b := "bool") (r := true) (by decide +kernel), _, rfl, _, rfl, _, rfl, rfl, by rw [dd]; exact q⟩
  | _ => exact hl.elim
theorem kt {a b : String} {r : Bool} (h : kitB a b = some r) : PySem.W.kitOne K (.type a) (.type b) = some r := h
def sp_same1 (K : PySem.W.Frag) : Sp := S2 fun a b H Q => ∃ (p q : Addr) (xs : List V), a = .ref p ∧ b = .ref q ∧ H p = some (.tup xs) ∧ H q = some (.tup xs) ∧ (∀ x ∈ xs, leafV x) ∧ xs.length ≤ 1000 ∧ Q (.bl true) H
theorem ok_same1 (T : TX K mg w) : FnR PP w K mg base CX0 3 (ga K "_law_same") (sp_same1 K) := by
  refine mkS2 (bn T.f_same (fun _ _ _ _ _ _ us hl => match us, hl with | [_, _], _ => rfl)) sc_same fun cdv A outer s H a b Q E hr h => ?_
  refine ⟨_, (pss_cons (ps_if (pt_cmpR op_isN (pv 1) pe_non (nomark _)) (pss_one ps_never)
        pss_nil)
      (pss_cons (ps_if (pt_val (pe_callB call_isi (by rfl) T.n_isinstance (by decide +kernel) (pa_cons (pv 1) (pa_cons (pe_bltn (v := .ty "bool") (by rfl) T.n_bool (by decide +kernel : bootBuiltins "bool" = some (.type "bool")) rfl) pa_nil)))) (pss_one ps_never)
        pss_nil)
      (pss_cons (ps_if (pt_val (pe_callB call_isi (by rfl) T.n_isinstance (by decide +kernel) (pa_cons (pv 1) (pa_cons (pe_bltn (v := .ty "int") (by rfl) T.n_int (by decide +kernel : bootBuiltins "int" = some (.type "int")) rfl) pa_nil)))) (pss_one ps_never)
        pss_nil)
      (pss_cons (ps_if (pt_val (pe_callB call_isi (by rfl) T.n_isinstance (by decide +kernel) (pa_cons (pv 1) (pa_cons (pe_bltn (v := .ty "str") (by rfl) T.n_str (by decide +kernel : bootBuiltins "str" = some (.type "str")) rfl) pa_nil)))) (pss_one ps_never)
        pss_nil)
      (pss_cons (ps_if (pt_val (pe_callB call_isi (by rfl) T.n_isinstance (by decide +kernel) (pa_cons (pv 1) (pa_cons (pe_bltn (v := .ty "dict") (by rfl) T.n_dict (by decide +kernel : bootBuiltins "dict" = some (.type "dict")) rfl) pa_nil)))) (pss_cons ps_never
      (pss_one ps_never))
        pss_nil)
      (pss_cons (ps_if (PW.pt (pw_or (pt_cmpR op_ne (pe_callB call_isi (by rfl) T.n_isinstance (by decide +kernel) (pa_cons (pv 1) (pa_cons (pe_bltn (v := .ty "list") (by rfl) T.n_list (by decide +kernel : bootBuiltins "list" = some (.type "list")) rfl) pa_nil))) (pe_callB call_isi (by rfl) T.n_isinstance (by decide +kernel) (pa_cons (pv 0) (pa_cons (pe_bltn (v := .ty "list") (by rfl) T.n_list (by decide +kernel : bootBuiltins "list" = some (.type "list")) rfl) pa_nil))) (nomark _)) (pw_or1 (pt_cmpR op_ne (pe_callB call_isi (by rfl) T.n_isinstance (by decide +kernel) (pa_cons (pv 1) (pa_cons (pe_bltn (v := .ty "tuple") (by rfl) T.n_tuple (by decide +kernel : bootBuiltins "tuple" = some (.type "tuple")) rfl) pa_nil))) (pe_callB call_isi (by rfl) T.n_isinstance (by decide +kernel) (pa_cons (pv 0) (pa_cons (pe_bltn (v := .ty "tuple") (by rfl) T.n_tuple (by decide +kernel : bootBuiltins "tuple" = some (.type "tuple")) rfl) pa_nil))) (nomark _))))) (pss_one (ps_ret pe_bl))
        pss_nil)
      (pss_cons (ps_if (pt_cmpR op_ne (pe_callB call_len_seq (by rfl) T.n_len (by decide +kernel) (pa_cons (pv 0) pa_nil)) (pe_callB call_len_seq (by rfl) T.n_len (by decide +kernel) (pa_cons (pv 1) pa_nil)) (nomark _)) (pss_one (ps_ret pe_bl))
        pss_nil)
      (pss_cons (ps_for PassesOwn.never rfl (pi_range1 rfl T.n_range (pa_cons (pe_callB call_len_seq (by rfl) T.n_len (by decide +kernel) (pa_cons (pv 1) pa_nil)) pa_nil)) (pg_name (i := 2) sc_same.nd rfl (Or.inl rfl))
        (pss_one (ps_if (pt_not (pt_val (pe_fn (ok_same0 T) (hr.mono (by decide)) T.kp_same T.g__law_same (pa_cons (pe_ix ix_tup (pv 0) (pv 2) (fun _ _ => rfl)) (pa_cons (pe_ix ix_tup (pv 1) (pv 2) (fun _ _ => rfl)) pa_nil))))) (pss_one (ps_ret pe_bl))
        pss_nil)))
      (pss_one (ps_ret pe_bl)))))))))), ?_⟩
  obtain ⟨p, q, xs, rfl, rfl, hp, hq, hl, hn, Qt⟩ := h
  have tq : TyX K H (.ref q) (.type "tuple") := .base (.tup hq)
  have tp : TyX K H (.ref p) (.type "tuple") := .base (.tup hp)
  have k1 : PySem.W.kitOne K (.type "tuple") (.type "bool") = some false := kt (by decide +kernel)
  have k2 : PySem.W.kitOne K (.type "tuple") (.type "int") = some false := kt (by decide +kernel)
  have k3 : PySem.W.kitOne K (.type "tuple") (.type "str") = some false := kt (by decide +kernel)
  have k4 : PySem.W.kitOne K (.type "tuple") (.type "dict") = some false := kt (by decide +kernel)
  have k5 : PySem.W.kitOne K (.type "tuple") (.type "list") = some false := kt (by decide +kernel)
  have k6 : PySem.W.kitOne K (.type "tuple") (.type "tuple") = some true := kt (by decide +kernel)
  refine ⟨_, rfl, rfl, _, rfl, ifF rfl ?_⟩
  refine ⟨_, rfl, _, _, _, _, _, rfl, .ty _, tq, k1, _, rfl, ifF rfl ?_⟩
  refine ⟨_, rfl, _, _, _, _, _, rfl, .ty _, tq, k2, _, rfl, ifF rfl ?_⟩
  refine ⟨_, rfl, _, _, _, _, _, rfl, .ty _, tq, k3, _, rfl, ifF rfl ?_⟩
  refine ⟨_, rfl, _, _, _, _, _, rfl, .ty _, tq, k4, _, rfl, ifF rfl ?_⟩
  refine ⟨_, rfl, _, _, _, _, _, rfl, .ty _, tq, k5, _, rfl, _, _, _, _, _, rfl, .ty _, tp, k5, rfl, _, rfl, ifF rfl ?_⟩
  refine ⟨_, rfl, _, _, _, _, _, rfl, .ty _, tq, k6, _, rfl, _, _, _, _, _, rfl, .ty _, tp, k6, rfl, _, rfl, ifF rfl ?_⟩
  refine ⟨_, rfl, p, _, rfl, .inr (SqT.of hp), _, rfl, q, _, rfl, .inr (SqT.of hq), rfl, _, rfl, ifF (by simp) ?_⟩
  refine ⟨_, rfl, q, _, rfl, .inr (SqT.of hq), _, rfl, by omega, by omega, ?_⟩
  refine for_it walk_range (fun i σ H' => H' = H ∧ ∃ x, σ = [some (.ref p), some (.ref q), x, none]) ⟨rfl, _, rfl⟩ (fun _ _ _ _ _ => trivial) (fun i x σ H1 H2 hi h yy => ?_) (fun σ H1 h => ?_)
  · obtain ⟨rfl, x2, rfl⟩ := h
    obtain ⟨rfl, rfl⟩ := yy
    have hi2 : i < xs.length := by omega
    have ix : atI xs (0 + (i : Int)) = some xs[i] := by rw [Int.zero_add]; exact atI_nat (List.getElem?_eq_getElem _)
    exact ⟨_, rfl, _, rfl, p, _, _, xs[i], rfl, rfl, SqT.of hp, ix, _, rfl, _, rfl, q, _, _, xs[i], rfl, rfl, SqT.of hq, ix, _, _, rfl, hl _ (List.getElem_mem _), rfl, _, rfl, ifF rfl ⟨rfl, _, rfl⟩⟩
  · obtain ⟨rfl, x2, rfl⟩ := h
    exact Qt
def sp_same2 (K : PySem.W.Frag) : Sp := S2 fun a b H Q => ∃ (p q : Addr) (R : List (List Int)), a = .ref p ∧ b = .ref q ∧ RowV H p R ∧ RowV H q R ∧ R.length ≤ 1000 ∧ (∀ r ∈ R, r.length ≤ 1000) ∧ Q (.bl true) H
theorem ok_same2 (T : TX K mg w) : FnR PP w K mg base CX0 4 (ga K "_law_same") (sp_same2 K) := by
  refine mkS2 (bn T.f_same (fun _ _ _ _ _ _ us hl => match us, hl with | [_, _], _ => rfl)) sc_same fun cdv A outer s H a b Q E hr h => ?_
  refine ⟨_, (pss_cons (ps_if (pt_cmpR op_isN (pv 1) pe_non (nomark _)) (pss_one ps_never)
        pss_nil)
      (pss_cons (ps_if (pt_val (pe_callB call_isi (by rfl) T.n_isinstance (by decide +kernel) (pa_cons (pv 1) (pa_cons (pe_bltn (v := .ty "bool") (by rfl) T.n_bool (by decide +kernel : bootBuiltins "bool" = some (.type "bool")) rfl) pa_nil)))) (pss_one ps_never)
        pss_nil)
      (pss_cons (ps_if (pt_val (pe_callB call_isi (by rfl) T.n_isinstance (by decide +kernel) (pa_cons (pv 1) (pa_cons (pe_bltn (v := .ty "int") (by rfl) T.n_int (by decide +kernel : bootBuiltins "int" = some (.type "int")) rfl) pa_nil)))) (pss_one ps_never)
        pss_nil)
      (pss_cons (ps_if (pt_val (pe_callB call_isi (by rfl) T.n_isinstance (by decide +kernel) (pa_cons (pv 1) (pa_cons (pe_bltn (v := .ty "str") (by rfl) T.n_str (by decide +kernel : bootBuiltins "str" = some (.type "str")) rfl) pa_nil)))) (pss_one ps_never)
        pss_nil)
      (pss_cons (ps_if (pt_val (pe_callB call_isi (by rfl) T.n_isinstance (by decide +kernel) (pa_cons (pv 1) (pa_cons (pe_bltn (v := .ty "dict") (by rfl) T.n_dict (by decide +kernel : bootBuiltins "dict" = some (.type "dict")) rfl) pa_nil)))) (pss_cons ps_never
      (pss_one ps_never))
        pss_nil)
      (pss_cons (ps_if (PW.pt (pw_or (pt_cmpR op_ne (pe_callB call_isi (by rfl) T.n_isinstance (by decide +kernel) (pa_cons (pv 1) (pa_cons (pe_bltn (v := .ty "list") (by rfl) T.n_list (by decide +kernel : bootBuiltins "list" = some (.type "list")) rfl) pa_nil))) (pe_callB call_isi (by rfl) T.n_isinstance (by decide +kernel) (pa_cons (pv 0) (pa_cons (pe_bltn (v := .ty "list") (by rfl) T.n_list (by decide +kernel : bootBuiltins "list" = some (.type "list")) rfl) pa_nil))) (nomark _)) (pw_or1 (pt_cmpR op_ne (pe_callB call_isi (by rfl) T.n_isinstance (by decide +kernel) (pa_cons (pv 1) (pa_cons (pe_bltn (v := .ty "tuple") (by rfl) T.n_tuple (by decide +kernel : bootBuiltins "tuple" = some (.type "tuple")) rfl) pa_nil))) (pe_callB call_isi (by rfl) T.n_isinstance (by decide +kernel) (pa_cons (pv 0) (pa_cons (pe_bltn (v := .ty "tuple") (by rfl) T.n_tuple (by decide +kernel : bootBuiltins "tuple" = some (.type "tuple")) rfl) pa_nil))) (nomark _))))) (pss_one (ps_ret pe_bl))
        pss_nil)
      (pss_cons (ps_if (pt_cmpR op_ne (pe_callB call_len_seq (by rfl) T.n_len (by decide +kernel) (pa_cons (pv 0) pa_nil)) (pe_callB call_len_seq (by rfl) T.n_len (by decide +kernel) (pa_cons (pv 1) pa_nil)) (nomark _)) (pss_one (ps_ret pe_bl))
        pss_nil)
      (pss_cons (ps_for PassesOwn.never rfl (pi_range1 rfl T.n_range (pa_cons (pe_callB call_len_seq (by rfl) T.n_len (by decide +kernel) (pa_cons (pv 1) pa_nil)) pa_nil)) (pg_name (i := 2) sc_same.nd rfl (Or.inl rfl))
        (pss_one (ps_if (pt_not (pt_val (pe_fn (ok_same1 T) (hr.mono (by decide)) T.kp_same T.g__law_same (pa_cons (pe_ix ix_list (pv 0) (pv 2) (fun _ _ => rfl)) (pa_cons (pe_ix ix_list (pv 1) (pv 2) (fun _ _ => rfl)) pa_nil))))) (pss_one (ps_ret pe_bl))
        pss_nil)))
      (pss_one (ps_ret pe_bl)))))))))), ?_⟩
  obtain ⟨p, q, R, rfl, rfl, ⟨ts, hp, ht, hpt⟩, ⟨us, hq, hu, hqt⟩, hn, hm, Qt⟩ := h
  have tq : TyX K H (.ref q) (.type "list") := .base (.lst hq)
  have tp : TyX K H (.ref p) (.type "list") := .base (.lst hp)
  have k1 : PySem.W.kitOne K (.type "list") (.type "bool") = some false := kt (by decide +kernel)
  have k2 : PySem.W.kitOne K (.type "list") (.type "int") = some false := kt (by decide +kernel)
  have k3 : PySem.W.kitOne K (.type "list") (.type "str") = some false := kt (by decide +kernel)
  have k4 : PySem.W.kitOne K (.type "list") (.type "dict") = some false := kt (by decide +kernel)
  have k5 : PySem.W.kitOne K (.type "list") (.type "list") = some true := kt (by decide +kernel)
  have k6 : PySem.W.kitOne K (.type "list") (.type "tuple") = some false := kt (by decide +kernel)
  refine ⟨_, rfl, rfl, _, rfl, ifF rfl ?_⟩
  refine ⟨_, rfl, _, _, _, _, _, rfl, .ty _, tq, k1, _, rfl, ifF rfl ?_⟩
  refine ⟨_, rfl, _, _, _, _, _, rfl, .ty _, tq, k2, _, rfl, ifF rfl ?_⟩
  refine ⟨_, rfl, _, _, _, _, _, rfl, .ty _, tq, k3, _, rfl, ifF rfl ?_⟩
  refine ⟨_, rfl, _, _, _, _, _, rfl, .ty _, tq, k4, _, rfl, ifF rfl ?_⟩
  refine ⟨_, rfl, _, _, _, _, _, rfl, .ty _, tq, k5, _, rfl, _, _, _, _, _, rfl, .ty _, tp, k5, rfl, _, rfl, ifF rfl ?_⟩
  refine ⟨_, rfl, _, _, _, _, _, rfl, .ty _, tq, k6, _, rfl, _, _, _, _, _, rfl, .ty _, tp, k6, rfl, _, rfl, ifF rfl ?_⟩
  refine ⟨_, rfl, p, _, rfl, .inl (SqL.of hp), _, rfl, q, _, rfl, .inl (SqL.of hq), rfl, _, rfl, ifF (by simp [ht, hu]) ?_⟩
  refine ⟨_, rfl, q, _, rfl, .inl (SqL.of hq), _, rfl, by rw [List.length_map]; omega, by rw [List.length_map]; omega, ?_⟩
  refine for_it walk_range (fun i σ H' => H' = H ∧ ∃ x, σ = [some (.ref p), some (.ref q), x, none]) ⟨rfl, _, rfl⟩ (fun _ _ _ _ _ => trivial) (fun i x σ H1 H2 hi h yy => ?_) (fun σ H1 h => ?_)
  · obtain ⟨rfl, x2, rfl⟩ := h
    obtain ⟨rfl, rfl⟩ := yy
    have hi2 : i < R.length := by rw [List.length_map] at hi; omega
    obtain ⟨t, t1, t2⟩ := hpt i R[i] (List.getElem?_eq_getElem _)
    obtain ⟨u, u1, u2⟩ := hqt i R[i] (List.getElem?_eq_getElem _)
    have ix : ∀ {ls : List Addr} {z : Addr}, ls[i]? = some z → atI (ls.map V.ref) (0 + (i : Int)) = some (.ref z) := fun h => by rw [Int.zero_add]; exact atI_nat (by rw [List.getElem?_map, h]; rfl)
    have hlf : ∀ x ∈ R[i].map V.int, leafV x := fun x hx => by
      obtain ⟨y, _, rfl⟩ := List.mem_map.mp hx
      trivial
    exact ⟨_, rfl, _, rfl, p, _, _, .ref t, rfl, rfl, SqL.of hp, ix t1, _, rfl, _, rfl, q, _, _, .ref u, rfl, rfl, SqL.of hq, ix u1, _, _, rfl, t, u, _, rfl, rfl, t2, u2, hlf, by rw [List.length_map]; exact hm _ (List.getElem_mem _), _, rfl, ifF rfl ⟨rfl, _, rfl⟩⟩
  · obtain ⟨rfl, x2, rfl⟩ := h
    exact Qt
end
end BB
namespace BB
open PySem PySem.Spec PyProof.Rows L2 He Evl
/-! ### the law's day: a list -/
structure DayOk (D : DyD) (st cr ap : Int) (zs : List Str) : Prop where
  hs : HsOk st cr D.ahead ap D.wl D.wh D.pl D.ph zs
  its : ItsOk D.its
  sh : ∀ it ∈ D.its, 0 ≤ it.sh ∧ it.sh < it.st
  w : D.wh ≤ 1000
  p : D.ph ≤ 1000
structure DayG (G : Hp) (dl : Addr) (D : DyD) (st cr ap : Int) (zs : List Str) (kl wt pt il : Addr) (ts : List Addr) : Prop where
  at_ : G dl = some (.lst [.int st, .int cr, .ref kl, .ref wt, .ref pt, .int D.ahead, .int ap, .int D.opens, .ref il])
  kd : G kl = some (.lst (zs.map V.str))
  wk : G wt = some (.tup [.int D.wl, .int D.wh])
  pk : G pt = some (.tup [.int D.pl, .int D.ph])
  it : ItsG G il ts D.its
def DayL (G : Hp) (dl : Addr) (D : DyD) : Prop := ∃ (st cr ap : Int) (zs : List Str) (kl wt pt il : Addr) (ts : List Addr), DayG G dl D st cr ap zs kl wt pt il ts ∧ DayOk D st cr ap zs
section
variable {G G' : Hp} {dl : Addr} {D : DyD} {st cr ap : Int} {zs : List Str} {kl wt pt il : Addr} {ts : List Addr}
theorem DayG.mono (h : DayG G dl D st cr ap zs kl wt pt il ts) (e : Ex G G') : DayG G' dl D st cr ap zs kl wt pt il ts := ⟨e _ _ h.at_, e _ _ h.kd, e _ _ h.wk, e _ _ h.pk, h.it.mono e⟩
theorem DayL.mono (h : DayL G dl D) (e : Ex G G') : DayL G' dl D := by
  obtain ⟨st, cr, ap, zs, kl, wt, pt, il, ts, h1, h2⟩ := h
  exact ⟨st, cr, ap, zs, kl, wt, pt, il, ts, h1.mono e, h2⟩
/-- the items' list -/
theorem DayG.items (h : DayG G dl D st cr ap zs kl wt pt il ts) : G il = some (.lst (ts.map V.ref)) := h.it.1
theorem DayG.item (h : DayG G dl D st cr ap zs kl wt pt il ts) {i : Nat} {it : ItD} (hi : D.its[i]? = some it) : ∃ t b, ts[i]? = some t ∧ G t = some (.tup (itV b it)) ∧ G b = some (.tup [.int it.st, .int it.sh]) := by
  obtain ⟨t, h1, b, h2, h3⟩ := h.it.2.2 i it hi
  exact ⟨t, b, h1, h2, h3⟩
end
theorem DayOk.sok {D : DyD} {st cr ap : Int} {zs : List Str} (h : DayOk D st cr ap zs) : SOk D.its (spansOf D) := by
  have key : ∀ sp ∈ spansOf D, ∀ q ∈ sp, q.1 ≤ q.2 ∧ 0 ≤ q.1 ∧ q.2 ≤ 1000 ∧ q.2 ≤ q.1 + 8 := fun sp hs q hq => by
    obtain ⟨it, hi, rfl⟩ := List.mem_map.mp hs
    have ok := h.its.ok it hi
    have d0 := ok.dl0
    have d8 := ok.dl8
    have y1 := ok.y1000
    have w1 := h.w
    have p1 := h.p
    obtain ⟨a1, a2, a3⟩ := h.hs.w
    obtain ⟨b1, b2, b3⟩ := h.hs.p
    rcases List.mem_cons.mp hq with rfl | hq
    · exact ⟨d0, Int.le_refl 0, by show it.dl ≤ 1000; omega, by show it.dl ≤ 0 + 8; omega⟩
    · cases hp : it.pc with
      | false => rw [hp] at hq; cases hq
      | true =>
        rw [hp] at hq
        obtain ⟨c1, c2, c3⟩ := ok.pc hp
        rcases List.mem_cons.mp hq with rfl | hq
        · exact ⟨c2, by show 0 ≤ it.x; omega, y1, c3⟩
        · rcases List.mem_cons.mp hq with rfl | hq
          · exact ⟨a2, a1, w1, a3⟩
          · rcases List.mem_cons.mp hq with rfl | hq
            · exact ⟨b2, b1, p1, b3⟩
            · cases hq
  refine ⟨List.length_map _, fun i it sp hi hs => ?_, fun sp hs q hq => (key sp hs q hq).1, fun sp hs q hq => (key sp hs q hq).2⟩
  unfold spansOf at hs
  rw [List.getElem?_map, hi] at hs
  cases hs
  unfold lagsOf
  cases it.pc <;> rfl
/-! ### the law's spans: a list of lists of pairs -/
structure SpW (G : Hp) (sl : Addr) (ls : List Addr) (S : SpD) : Prop where
  at_ : G sl = some (.lst (ls.map V.ref))
  len : ls.length = S.length
  row : ∀ (i : Nat) (sp : List (Int × Int)), S[i]? = some sp → ∃ (b : Addr) (ts : List Addr), ls[i]? = some b ∧ G b = some (.lst (ts.map V.ref)) ∧ ts.length = sp.length ∧ ∀ (j : Nat) (q : Int × Int), sp[j]? = some q → ∃ t, ts[j]? = some t ∧ G t = some (.tup [.int q.1, .int q.2])
theorem SpW.mono {G G' : Hp} {sl : Addr} {ls : List Addr} {S : SpD} (h : SpW G sl ls S) (e : Ex G G') : SpW G' sl ls S := by
  refine ⟨e _ _ h.at_, h.len, fun i sp hs => ?_⟩
  obtain ⟨b, ts, h1, h2, h3, h4⟩ := h.row i sp hs
  refine ⟨b, ts, h1, e _ _ h2, h3, fun j q hq => ?_⟩
  obtain ⟨t, h5, h6⟩ := h4 j q hq
  exact ⟨t, h5, e _ _ h6⟩
/-! ### what is no list -/
def noL (H : Hp) : Hp := fun a => match H a with
  | some (.lst _) => none
  | o => o
theorem noL_ex {H : Hp} : Ex (noL H) H := fun a u h => by
  unfold noL at h
  split at h
  · cases h
  · exact h
theorem noL_of {H : Hp} {a : Addr} {u : HO} (h : H a = some u) (n : ∀ xs, u ≠ .lst xs) : noL H a = some u := by
  unfold noL
  rw [h]
  cases u with
  | lst xs => exact absurd rfl (n xs)
  | _ => rfl
theorem noL_lst {H : Hp} {a : Addr} {xs : List V} (h : H a = some (.lst xs)) : noL H a = none := by
  unfold noL
  rw [h]
theorem noL_not {H : Hp} {a : Addr} {u : HO} (h : noL H a = some u) (xs : List V) : u ≠ .lst xs := fun e => by
  subst e
  have := noL_ex _ _ h
  rw [noL_lst this] at h
  cases h
theorem noL_mono {H H' : Hp} (e : Ex H H') : Ex (noL H) (noL H') := fun a u h => noL_of (e _ _ (noL_ex _ _ h)) (noL_not h)
theorem noL_upd {H : Hp} {a : Addr} {xs : List V} {o : HO} (h : H a = some (.lst xs)) : Ex (noL H) (noL (upd H a o)) := fun b u hb => by
  have n : b ≠ a := fun e => by rw [e, noL_lst h] at hb; cases hb
  exact noL_of (by rw [upd_ne n]; exact noL_ex _ _ hb) (noL_not hb)
theorem noL_px {p cl : Addr} {ns : List Int} {H H' : Hp} (hP : PL p cl ns H) (x : PX p cl ns H H') : Ex (noL H) (noL H') := fun a u h => by
  obtain ⟨_, _, _, _, _, hp⟩ := hP.at_
  have n : a ≠ p := fun e => by rw [e, noL_lst hp] at h; cases h
  exact noL_of (x.get (by rw [hid_ne n]; exact noL_ex _ _ h)) (noL_not h)
theorem noL_hid {p cl : Addr} {ns : List Int} {H : Hp} (hP : PL p cl ns H) : Ex (noL H) (hid p H) := fun a u h => by
  obtain ⟨_, _, _, _, _, hp⟩ := hP.at_
  have n : a ≠ p := fun e => by rw [e, noL_lst hp] at h; cases h
  rw [hid_ne n]
  exact noL_ex _ _ h
section
variable {K : PySem.W.Frag} {H : Hp} {a : Addr} {D : DyD} {S : SpD}
theorem Ins.noL {c : Str} {fs : List (Str × V)} (h : Ins K H a c fs) : Ins K (noL H) a c fs := by
  obtain ⟨dx, h⟩ := h
  exact ⟨dx, noL_of h fun _ e => by cases e⟩
theorem ItemAt.noL {it : ItD} (h : ItemAt K H a it) : ItemAt K (noL H) a it := by
  obtain ⟨g, h1, h2⟩ := h
  exact ⟨g, Ins.noL h1, Ins.noL h2⟩
theorem OrderAt.noL (h : OrderAt K H a D) : OrderAt K (noL H) a D := by
  obtain ⟨ho, tp, nd, is, h1, ⟨v1, v2, v3, v4, wa, pa, g1, g2, g3⟩, h3, ⟨h4, h5⟩, h6⟩ := h
  refine ⟨ho, tp, nd, is, Ins.noL h1, ⟨v1, v2, v3, v4, wa, pa, Ins.noL g1, Ins.noL g2, Ins.noL g3⟩, noL_of h3 fun _ e => (by cases e), ⟨h4, fun i it hi => ?_⟩, noL_of h6 fun _ e => (by cases e)⟩
  obtain ⟨x, k1, k2⟩ := h5 i it hi
  exact ⟨x, k1, k2.noL⟩
theorem OutlookAt.noL (h : OutlookAt K H a D S) : OutlookAt K (noL H) a D S := by
  obtain ⟨o, sd, h1, h2, ds, h3, h4, h5, h6⟩ := h
  refine ⟨o, sd, Ins.noL h1, h2.noL, ds, noL_of h3 fun _ e => (by cases e), h4, h5, fun i sp hs => ?_⟩
  obtain ⟨b, k1, as, k2, k3, k4⟩ := h6 i sp hs
  refine ⟨b, k1, as, noL_of k2 fun _ e => (by cases e), k3, fun j q hq => ?_⟩
  obtain ⟨c, l1, l2⟩ := k4 j q hq
  exact ⟨c, l1, Ins.noL l2⟩
end
end BB
namespace BB
open PySem PySem.Spec PyProof.Rows L2 He Evl
theorem cut_from {xs : List V} {c : Nat} (h : c ≤ xs.length) : cutV xs (some (c : Int)) none = xs.drop c := by
  unfold cutV
  rw [HT.sIx_nat, HT.sIx_none, Nat.min_eq_left h]
  exact List.take_of_length_le (by rw [List.length_drop]; exact Nat.le_refl _)
theorem cut_to {xs : List V} {c : Nat} (h : c ≤ xs.length) : cutV xs none (some (c : Int)) = xs.take c := by
  unfold cutV
  rw [HT.sIx_none, HT.sIx_nat, List.drop_zero, Nat.sub_zero, Nat.min_eq_left h]
theorem ItsG.hide {G : Hp} {d dl : Addr} {ts : List Addr} {its : List ItD} {xs : List V} (h : ItsG G d ts its) (hd : G dl = some (.lst xs)) (n : d ≠ dl) : ItsG (hid dl G) d ts its := by
  obtain ⟨h1, h2, h3⟩ := h
  have tu : ∀ {t : Addr} {vs : List V}, G t = some (.tup vs) → hid dl G t = some (.tup vs) := fun {t vs} ht => by
    rw [hid_ne (fun z => by rw [z, hd] at ht; cases ht)]
    exact ht
  refine ⟨by rw [hid_ne n]; exact h1, h2, fun i it hi => ?_⟩
  obtain ⟨t, h4, b, h5, h6⟩ := h3 i it hi
  exact ⟨t, h4, b, tu h5, tu h6⟩
/-- the day's list in the making: it and the pool may move, all else stands -/
structure DS (p pq : Addr) (ns : List Int) (dl : Addr) (H Hc : Hp) (xs : List V) : Prop where
  n : H dl = none
  l : PL p pq ns H
  x : PX p pq ns H Hc
  d : Hc dl = some (.lst xs)
section
variable {p pq dl t : Addr} {ns : List Int} {H Hc Hn : Hp} {xs ys : List V} {o : HO}
def G2 (p dl : Addr) (H : Hp) : Hp := hid dl (hid p H)
theorem DS.np (h : DS p pq ns dl H Hc xs) : dl ≠ p := (h.l.ne_new h.n).1
theorem DS.take (h : DS p pq ns dl H Hc xs) (x : PX p pq ns Hc Hn) : DS p pq ns dl H Hn xs ∧ Ex (G2 p dl Hc) (G2 p dl Hn) :=
  ⟨⟨h.n, h.l, h.x.trans x, x.get (by rw [hid_ne h.np]; exact h.d)⟩, exHid x.e⟩
theorem DS.new (h : DS p pq ns dl H Hc xs) (ht : Hc t = none) : DS p pq ns dl H (upd Hc t o) xs ∧ Ex (G2 p dl Hc) (G2 p dl (upd Hc t o)) ∧ G2 p dl (upd Hc t o) t = some o := by
  have h1 := h.take (PX.of h.x.l (Ex.new (o := o) ht))
  refine ⟨h1.1, h1.2, ?_⟩
  unfold G2
  rw [hid_ne (fun z => by rw [z, h.d] at ht; cases ht), hid_ne (h.x.l.ne_new ht).1, upd_same]
theorem DS.put (h : DS p pq ns dl H Hc xs) : DS p pq ns dl H (upd Hc dl (.lst ys)) ys ∧ Ex (G2 p dl Hc) (G2 p dl (upd Hc dl (.lst ys))) := by
  refine ⟨⟨h.n, h.l, h.x.mut h.l h.n, upd_same⟩, fun a u ha => ?_⟩
  unfold G2 at ha ⊢
  have n1 : a ≠ dl := fun z => by rw [z, hid_self] at ha; cases ha
  rw [hid_ne n1] at ha ⊢
  have n2 : a ≠ p := fun z => by rw [z, hid_self] at ha; cases ha
  rw [hid_ne n2] at ha ⊢
  rw [upd_ne n1]
  exact ha
theorem G2_ex : Ex (G2 p dl H) (hid p H) := hid_ex
end
section
variable {K : PySem.W.Frag} {mg : Str → Option Value} {w : World} {base : Heap} {H H' : Hp} {a p pq : Addr} {ns : List Int} {D : Ends} {σ : L2.St} {wide : Bool}
theorem d_cntA {n : Nat} (h3 : σ[3]? = some (some (.bl wide))) (h4 : σ[4]? = some (some (.int (n : Nat)))) (h5 : σ[5]? = some (some (.int 3))) (n8 : n ≤ 8)
    (k : ∀ (c : Nat) (sp : Int), c ≤ 8 → (wide = true → c ≤ 3) → 1 ≤ sp → sp ≤ 9 → D.nx ((σ.set 4 (some (.int (c : Nat)))).set 5 (some (.int sp))) H) :
    tIfS (tB (tVar 3)) (tSeq (tAsg (tCB (fun xs H Q => ∃ i j, xs = [.int i, .int j] ∧ Q (.int (if j < i then j else i)) H) (tCons (tVar 4) (tCons (tC (V.int 3)) tNil))) (gName 4)) (tAsg (tC (V.int 9)) (gName 5))) tNext D σ H := by
  refine ⟨_, h3, _, rfl, if2 (fun hw => ?_) (fun hw => ?_)⟩
  · have e : (if (3 : Int) < (n : Int) then (3 : Int) else n) = ((if 3 < n then 3 else n : Nat) : Int) := by split <;> split <;> omega
    refine ⟨_, h4, _, _, rfl, ?_⟩
    rw [e]
    exact k _ 9 (by split <;> omega) (fun _ => by split <;> omega) (by decide) (by decide)
  · have := k n 3 n8 (fun z => absurd (hw.symm.trans z) (by decide)) (by decide) (by decide)
    rw [set_same h4, set_same h5] at this
    exact this
theorem d_cntB {c : Nat} {sp : Int} (h4 : σ[4]? = some (some (.int (c : Nat)))) (h5 : σ[5]? = some (some (.int sp))) (s1 : 1 ≤ sp) (s9 : sp ≤ 9) (k : ∀ sp : Int, 1 ≤ sp → sp ≤ 9 → D.nx (σ.set 5 (some (.int sp))) H) :
    tIfS (tTest (tOp rEq (tVar 4) (tC (V.int 8)))) (tAsg (tC (V.int 2)) (gName 5)) tNext D σ H := by
  refine ⟨_, h4, rfl, _, rfl, if2 (fun _ => k 2 (by decide) (by decide)) (fun _ => ?_)⟩
  have := k sp s1 s9
  rw [set_same h5] at this
  exact this
theorem d_wp {w0 p0 : Int} (h0 : σ[0]? = some (some (.ref p))) (h3 : σ[3]? = some (some (.bl wide))) (h8 : σ[8]? = some (some (.int w0))) (h9 : σ[9]? = some (some (.int p0))) (w1 : 0 ≤ w0 ∧ w0 < 60) (p1 : 0 ≤ p0 ∧ p0 < 60) (hP : PL p pq ns H)
    (k : ∀ (w1 p1 : Int) H', PX p pq ns H H' → 0 ≤ w1 → w1 < 60 → 0 ≤ p1 → p1 < 60 → D.nx ((σ.set 8 (some (.int w1))).set 9 (some (.int p1))) H') :
    tIfS (tB (tVar 3)) (tSeq (tAsg (tTk K 60) (gName 8)) (tAsg (tTk K 60) (gName 9))) tNext D σ H := by
  refine ⟨_, h3, _, rfl, if2 (fun _ => ?_) (fun _ => ?_)⟩
  · refine ⟨_, h0, _, _, rfl, p, pq, ns, _, rfl, rfl, hP, by decide, by decide, fun z H1 x z0 z1 => ?_⟩
    exact ⟨_, (get_set_ne (by decide)).trans h0, _, _, rfl, p, pq, ns, _, rfl, rfl, x.l, by decide, by decide, fun z2 H2 x2 y0 y1 => k _ _ _ (x.trans x2) z0 z1 y0 y1⟩
  · have := k _ _ _ (PX.refl hP) w1.1 w1.2 p1.1 p1.2
    rw [set_same h8, set_same h9] at this
    exact this
theorem d_bigs {H0 : Hp} {dl : Addr} {v0 v1 v5 v6 : Int} {r2 r3 r4 : V} (h0 : σ[0]? = some (some (.ref p))) (h3 : σ[3]? = some (some (.bl wide))) (h10 : σ[10]? = some (some (.ref dl))) (hD : DS p pq ns dl H0 H [.int v0, .int v1, r2, r3, r4, .int v5, .int v6])
    (b0 : 1 ≤ v0 ∧ v0 ≤ 6) (b1 : 1 ≤ v1 ∧ v1 ≤ 6) (b6 : 1 ≤ v6)
    (k : ∀ (u0 u1 u6 : Int) H', DS p pq ns dl H0 H' [.int u0, .int u1, r2, r3, r4, .int v5, .int u6] → Ex (G2 p dl H) (G2 p dl H') → 1 ≤ u0 → u0 ≤ 6 → 1 ≤ u1 → u1 ≤ 6 → 1 ≤ u6 → D.nx σ H') :
    tIfS (tB (tVar 3)) (tSeq (tAsg (tOp (rI0 fun i j => V.int (i + j)) (tC (V.int 1)) (tTk K 6)) (gSub (tVar 10) (tC (V.int 0)) rSetL)) (tSeq (tAsg (tOp (rI0 fun i j => V.int (i + j)) (tC (V.int 1)) (tTk K 6)) (gSub (tVar 10) (tC (V.int 1)) rSetL)) (tAsg (tOp (rI0 fun i j => V.int (i + j)) (tC (V.int 1)) (tTk K 400)) (gSub (tVar 10) (tC (V.int 6)) rSetL)))) tNext D σ H := by
  refine ⟨_, h3, _, rfl, if2 (fun _ => ?_) (fun _ => k v0 v1 v6 H hD (Ex.refl _) b0.1 b0.2 b1.1 b1.2 b6)⟩
  refine ⟨_, h0, _, _, rfl, p, pq, ns, _, rfl, rfl, hD.x.l, by decide, by decide, fun z H1 x z0 z1 => ⟨_, _, rfl, rfl, ?_⟩⟩
  obtain ⟨d1, e1⟩ := hD.take x
  refine ⟨_, h10, dl, _, _, 0, rfl, rfl, d1.d, rfl, ?_⟩
  obtain ⟨d1, e1'⟩ := d1.put (ys := [.int (1 + z), .int v1, r2, r3, r4, .int v5, .int v6])
  refine ⟨_, h0, _, _, rfl, p, pq, ns, _, rfl, rfl, d1.x.l, by decide, by decide, fun z' H2 x2 y0 y1 => ⟨_, _, rfl, rfl, ?_⟩⟩
  obtain ⟨d2, e2⟩ := d1.take x2
  refine ⟨_, h10, dl, _, _, 1, rfl, rfl, d2.d, rfl, ?_⟩
  obtain ⟨d2, e2'⟩ := d2.put (ys := [.int (1 + z), .int (1 + z'), r2, r3, r4, .int v5, .int v6])
  refine ⟨_, h0, _, _, rfl, p, pq, ns, _, rfl, rfl, d2.x.l, by decide, by decide, fun z3 H3 x3 q0 q1 => ⟨_, _, rfl, rfl, ?_⟩⟩
  obtain ⟨d3, e3⟩ := d2.take x3
  refine ⟨_, h10, dl, _, _, 6, rfl, rfl, d3.d, rfl, ?_⟩
  obtain ⟨d3, e3'⟩ := d3.put (ys := [.int (1 + z), .int (1 + z'), r2, r3, r4, .int v5, .int (1 + z3)])
  exact k _ _ _ _ d3 (((((e1.trans e1').trans e2).trans e2').trans e3).trans e3') (by omega) (by omega) (by omega) (by omega) (by omega)
def sp_day (K : PySem.W.Frag) : Sp := S3 fun a b c H Q => ∃ (p q : Addr) (ns : List Int) (pieces : Int), a = .ref p ∧ b = .bl true ∧ c = .int pieces ∧ PL p q ns H ∧ ∀ (dl : Addr) (D : DyD) (H' : Hp), PX p q ns H H' → H dl = none → DayL (hid p H') dl D → (∀ it ∈ D.its, it.st = 1 ∧ it.sh = 0) → Q (.ref dl) H'
theorem ok_day (T : TX K mg w) : FnR PP w K mg base CX0 4 (ga K "_law_day") (sp_day K) := by
  refine mkS3 (bn T.f_day (fun _ _ _ _ _ _ us hl => match us, hl with | [_, _, _], _ => rfl)) sc_day fun cdv A outer s H a b c Q E hr h => ?_
  refine ⟨_, (pss_cons (ps_set (i := 3) sc_day.nd rfl (Or.inl rfl) (pe_cmpR op_eq (pe_fn (ok_take T) (hr.mono (by decide)) T.kp_take T.g__law_take (pa_cons (pv 0) (pa_cons pe_int pa_nil))) pe_int (nomark _)))
      (pss_cons (ps_set (i := 4) sc_day.nd rfl (Or.inl rfl) (pe_ix ix_list (pe_lst (pa_cons pe_int (pa_cons pe_int (pa_cons pe_int (pa_cons pe_int (pa_cons pe_int (pa_cons pe_int (pa_cons pe_int (pa_cons pe_int pa_nil))))))))) (pe_fn (ok_take T) (hr.mono (by decide)) T.kp_take T.g__law_take (pa_cons (pv 0) (pa_cons pe_int pa_nil))) (fun _ _ => rfl)))
      (pss_cons (ps_set (i := 5) sc_day.nd rfl (Or.inl rfl) pe_int)
      (pss_cons (ps_if (pt_val (pv 3)) (pss_cons (ps_set (i := 4) sc_day.nd rfl (Or.inl rfl) (pe_callB (call_min2 rfl) (by rfl) T.n_min (by decide +kernel) (pa_cons (pv 4) (pa_cons pe_int pa_nil))))
      (pss_one (ps_set (i := 5) sc_day.nd rfl (Or.inl rfl) pe_int)))
        pss_nil)
      (pss_cons (ps_if (pt_cmpR op_eq (pv 4) pe_int (nomark _)) (pss_one (ps_set (i := 5) sc_day.nd rfl (Or.inl rfl) pe_int))
        pss_nil)
      (pss_cons (ps_set (i := 6) sc_day.nd rfl (Or.inl rfl) (pe_fn (ok_take T) (hr.mono (by decide)) T.kp_take T.g__law_take (pa_cons (pv 0) (pa_cons pe_int pa_nil))))
      (pss_cons (ps_set (i := 7) sc_day.nd rfl (Or.inl rfl) (pe_fn (ok_names T) (hr.mono (by decide)) T.kp_names T.g__law_names (pa_cons (pv 0) (pa_cons (pe_op op_add (pv 4) (pv 6)) pa_nil))))
      (pss_cons (ps_set (i := 8) sc_day.nd rfl (Or.inl rfl) (pe_fn (ok_take T) (hr.mono (by decide)) T.kp_take T.g__law_take (pa_cons (pv 0) (pa_cons pe_int pa_nil))))
      (pss_cons (ps_set (i := 9) sc_day.nd rfl (Or.inl rfl) (pe_fn (ok_take T) (hr.mono (by decide)) T.kp_take T.g__law_take (pa_cons (pv 0) (pa_cons pe_int pa_nil))))
      (pss_cons (ps_if (pt_val (pv 3)) (pss_cons (ps_set (i := 8) sc_day.nd rfl (Or.inl rfl) (pe_fn (ok_take T) (hr.mono (by decide)) T.kp_take T.g__law_take (pa_cons (pv 0) (pa_cons pe_int pa_nil))))
      (pss_one (ps_set (i := 9) sc_day.nd rfl (Or.inl rfl) (pe_fn (ok_take T) (hr.mono (by decide)) T.kp_take T.g__law_take (pa_cons (pv 0) (pa_cons pe_int pa_nil))))))
        pss_nil)
      (pss_cons (ps_set (i := 10) sc_day.nd rfl (Or.inl rfl) (pe_lst (pa_cons (pe_op op_add pe_int (pe_fn (ok_take T) (hr.mono (by decide)) T.kp_take T.g__law_take (pa_cons (pv 0) (pa_cons pe_int pa_nil)))) (pa_cons (pe_op op_add pe_int (pe_fn (ok_take T) (hr.mono (by decide)) T.kp_take T.g__law_take (pa_cons (pv 0) (pa_cons pe_int pa_nil)))) (pa_cons (pe_slice sl_list (pv 7) (po_some (pv 4)) po_none) pa_nil)))))
      (pss_cons (ps_expr (pe_bm PySem.F.plainAttrs_list PySem.F.slot_list_append PySem.F.type_list_append mt_append (pv 10) (pa_cons (pe_tup (pa_cons (pv 8) (pa_cons (pe_op op_add (pv 8) (pe_fn (ok_take T) (hr.mono (by decide)) T.kp_take T.g__law_take (pa_cons (pv 0) (pa_cons (pv 5) pa_nil)))) pa_nil))) pa_nil)))
      (pss_cons (ps_expr (pe_bm PySem.F.plainAttrs_list PySem.F.slot_list_append PySem.F.type_list_append mt_append (pv 10) (pa_cons (pe_tup (pa_cons (pv 9) (pa_cons (pe_op op_add (pv 9) (pe_fn (ok_take T) (hr.mono (by decide)) T.kp_take T.g__law_take (pa_cons (pv 0) (pa_cons (pv 5) pa_nil)))) pa_nil))) pa_nil)))
      (pss_cons (ps_expr (pe_bm PySem.F.plainAttrs_list PySem.F.slot_list_append PySem.F.type_list_append mt_append (pv 10) (pa_cons (pe_op op_add pe_int (pe_fn (ok_take T) (hr.mono (by decide)) T.kp_take T.g__law_take (pa_cons (pv 0) (pa_cons pe_int pa_nil)))) pa_nil)))
      (pss_cons (ps_expr (pe_bm PySem.F.plainAttrs_list PySem.F.slot_list_append PySem.F.type_list_append mt_append (pv 10) (pa_cons (pe_op op_add pe_int (pe_fn (ok_take T) (hr.mono (by decide)) T.kp_take T.g__law_take (pa_cons (pv 0) (pa_cons pe_int pa_nil)))) pa_nil)))
      (pss_cons (ps_if (pt_val (pv 3)) (pss_cons (ps_asg (pe_op op_add pe_int (pe_fn (ok_take T) (hr.mono (by decide)) T.kp_take T.g__law_take (pa_cons (pv 0) (pa_cons pe_int pa_nil)))) (pg_sub (pv 10) pe_int set_list))
      (pss_cons (ps_asg (pe_op op_add pe_int (pe_fn (ok_take T) (hr.mono (by decide)) T.kp_take T.g__law_take (pa_cons (pv 0) (pa_cons pe_int pa_nil)))) (pg_sub (pv 10) pe_int set_list))
      (pss_one (ps_asg (pe_op op_add pe_int (pe_fn (ok_take T) (hr.mono (by decide)) T.kp_take T.g__law_take (pa_cons (pv 0) (pa_cons pe_int pa_nil)))) (pg_sub (pv 10) pe_int set_list)))))
        pss_nil)
      (pss_cons (ps_expr (pe_bm PySem.F.plainAttrs_list PySem.F.slot_list_append PySem.F.type_list_append mt_append (pv 10) (pa_cons (pe_fn (ok_opens T) (hr.mono (by decide)) T.kp_opens T.g__law_opens (pa_cons (pv 0) pa_nil)) pa_nil)))
      (pss_cons (ps_expr (pe_bm PySem.F.plainAttrs_list PySem.F.slot_list_append PySem.F.type_list_append mt_append (pv 10) (pa_cons (pe_fn (ok_items T) (hr.mono (by decide)) T.kp_items T.g__law_items (pa_cons (pv 0) (pa_cons (pe_slice sl_list (pv 7) po_none (po_some (pv 4))) (pa_cons (pe_ix ix_list (pv 10) pe_int (fun _ _ => rfl)) (pa_cons (pv 3) (pa_cons (pv 5) (pa_cons (pv 1) (pa_cons (pv 2) pa_nil)))))))) pa_nil)))
      (pss_one (ps_ret (pv 10))))))))))))))))))))), ?_⟩
  obtain ⟨p, pq, ns, pieces, rfl, rfl, rfl, hP, q⟩ := h
  refine ⟨_, rfl, _, _, rfl, p, pq, ns, 8, rfl, rfl, hP, by decide, by decide, fun w8 H1 x1 _ _ => ⟨rfl, ?_⟩⟩
  generalize decide (V.int w8 = V.int 5) = wide
  refine ⟨by show 8 ≤ sizeLine; decide, fun l8 hl8 => ?_⟩
  have hl := (upd_same : (upd H1 l8 (.lst [.int 0, .int 1, .int 2, .int 3, .int 3, .int 4, .int 4, .int 8])) l8 = _)
  have nl8 : l8 ≠ p := (x1.l.ne_new hl8).1
  have x1 := x1.new (o := .lst [.int 0, .int 1, .int 2, .int 3, .int 3, .int 4, .int 4, .int 8]) hl8
  generalize upd H1 l8 (.lst [.int 0, .int 1, .int 2, .int 3, .int 3, .int 4, .int 4, .int 8]) = H2 at x1 hl ⊢
  refine ⟨_, rfl, _, _, rfl, p, pq, ns, 8, rfl, rfl, x1.l, by decide, by decide, fun t8 H3 x3 t0 t1 => ?_⟩
  have hl3 := x3.get (a := l8) (by rw [hid_ne nl8]; exact hl)
  obtain ⟨n, n8, hn⟩ : ∃ n : Nat, n ≤ 8 ∧ atI [V.int 0, V.int 1, V.int 2, V.int 3, V.int 3, V.int 4, V.int 4, V.int 8] t8 = some (.int (n : Nat)) := by
    obtain ⟨m, rfl⟩ : ∃ m : Nat, t8 = m := ⟨t8.toNat, by omega⟩
    have : ∀ m : Fin 8, ∃ n : Fin 9, [(0 : Int), 1, 2, 3, 3, 4, 4, 8][m.val]? = some ((n.val : Nat) : Int) := by decide
    obtain ⟨n, hn⟩ := this ⟨m, by omega⟩
    refine ⟨n.val, by omega, atI_nat ?_⟩
    have := congrArg (Option.map V.int) hn
    rw [← List.getElem?_map] at this
    exact this
  refine ⟨l8, _, _, .int (n : Nat), rfl, rfl, SqL.of hl3, hn, ?_⟩
  have xc := x1.trans x3
  refine nrmG (σ' := [some (.ref p), some (.bl true), some (.int pieces), some (.bl wide), some (.int (n : Nat)), none, none, none, none, none, none]) rfl ?_
  refine d_cntA (n := n) rfl rfl rfl n8 fun c sp0 c8 cw s1 s9 => ?_
  refine d_cntB (c := c) (sp := sp0) rfl rfl s1 s9 fun sp sp1 sp9 => ?_
  refine nrm (σ' := [some (.ref p), some (.bl true), some (.int pieces), some (.bl wide), some (.int (c : Nat)), some (.int sp), none, none, none, none, none]) rfl ?_
  refine ⟨_, rfl, _, _, rfl, p, pq, ns, 4, rfl, rfl, xc.l, by decide, by decide, fun m4 H4 x4 m0 m1 => ?_⟩
  obtain ⟨m, rfl⟩ : ∃ m : Nat, m4 = m := ⟨m4.toNat, by omega⟩
  refine ⟨_, rfl, _, rfl, _, rfl, _, _, rfl, rfl, _, _, rfl, p, pq, ns, c + m, rfl, by show V.int ((c : Int) + (m : Int)) = _; rw [Int.natCast_add], x4.l, by omega, fun zl zs H5 x5 nzl hzl zlen znd znm => ?_⟩
  have pzl : zl ≠ p := (x4.l.ne_new nzl).1
  refine nrmG (σ' := [some (.ref p), some (.bl true), some (.int pieces), some (.bl wide), some (.int (c : Nat)), some (.int sp), some (.int (m : Nat)), some (.ref zl), none, none, none]) rfl ?_
  refine ⟨_, rfl, _, _, rfl, p, pq, ns, 5, rfl, rfl, x5.l, by decide, by decide, fun w0 H6 x6 w1 w2 => ?_⟩
  refine ⟨_, rfl, _, _, rfl, p, pq, ns, 5, rfl, rfl, x6.l, by decide, by decide, fun p0 H7 x7 p1 p2 => ?_⟩
  refine d_wp (p := p) (pq := pq) (ns := ns) (w0 := w0) (p0 := p0) rfl rfl rfl rfl ⟨w1, by omega⟩ ⟨p1, by omega⟩ x7.l fun wl pl H8 x8 wl0 wl60 pl0 pl60 => ?_
  refine nrm (σ' := [some (.ref p), some (.bl true), some (.int pieces), some (.bl wide), some (.int (c : Nat)), some (.int sp), some (.int (m : Nat)), some (.ref zl), some (.int wl), some (.int pl), none]) rfl ?_
  have xc := (xc.trans x4).trans (((x5.trans x6).trans x7).trans x8)
  have gz : hid p H8 zl = some (.lst (zs.map V.str)) := (((x6.trans x7).trans x8).e) _ _ (by rw [hid_ne pzl]; exact hzl)
  refine ⟨_, rfl, _, _, rfl, p, pq, ns, 3, rfl, rfl, xc.l, by decide, by decide, fun s3 H9 x9 s30 s31 => ⟨_, _, rfl, rfl, ?_⟩⟩
  refine ⟨_, rfl, _, _, rfl, p, pq, ns, 3, rfl, rfl, x9.l, by decide, by decide, fun c3 Ha xa c30 c31 => ⟨_, _, rfl, rfl, ?_⟩⟩
  have gz := (x9.trans xa).e _ _ gz
  have xc := xc.trans (x9.trans xa)
  refine ⟨_, rfl, _, rfl, _, rfl, zl, _, rfl, SqL.of (hid_ex _ _ gz), fun kl hkl => ?_⟩
  rw [cut_from (by rw [List.length_map]; omega), ← List.map_drop]
  have gk := hid_new (o := .lst ((zs.drop c).map V.str)) xc.l hkl
  have gz := (exHid (Ex.new (o := .lst ((zs.drop c).map V.str)) hkl)) _ _ gz
  have xc := xc.new (o := .lst ((zs.drop c).map V.str)) hkl
  generalize upd Ha kl (.lst ((zs.drop c).map V.str)) = Hb at gk gz xc ⊢
  refine ⟨by show 3 ≤ sizeLine; decide, fun dl hdl => ?_⟩
  have nk : kl ≠ dl := fun z => by rw [z] at gk; rw [hid_ex _ _ gk] at hdl; cases hdl
  have nz : zl ≠ dl := fun z => by rw [z] at gz; rw [hid_ex _ _ gz] at hdl; cases hdl
  have hdH : H dl = none := xc.back hP hdl
  have gk : G2 p dl Hb kl = some (.lst ((zs.drop c).map V.str)) := by unfold G2; rw [hid_ne nk]; exact gk
  have gz : G2 p dl Hb zl = some (.lst (zs.map V.str)) := by unfold G2; rw [hid_ne nz]; exact gz
  have d1 : DS p pq ns dl H (upd Hb dl (.lst [.int (1 + s3), .int (1 + c3), .ref kl])) [.int (1 + s3), .int (1 + c3), .ref kl] := ⟨hdH, hP, xc.new hdl, upd_same⟩
  have e1 : Ex (G2 p dl Hb) (G2 p dl (upd Hb dl (.lst [.int (1 + s3), .int (1 + c3), .ref kl]))) := exHid (exHid (Ex.new hdl))
  generalize upd Hb dl (.lst [.int (1 + s3), .int (1 + c3), .ref kl]) = Hc at d1 e1 ⊢
  have gk := e1 _ _ gk
  have gz := e1 _ _ gz
  refine nrmG (σ' := [some (.ref p), some (.bl true), some (.int pieces), some (.bl wide), some (.int (c : Nat)), some (.int sp), some (.int (m : Nat)), some (.ref zl), some (.int wl), some (.int pl), some (.ref dl)]) rfl ?_
  -- the walks
  refine ⟨_, rfl, .inl ⟨rfl, _, SqL.of d1.d⟩, _, rfl, _, rfl, _, rfl, _, rfl, _, _, rfl, p, pq, ns, sp, rfl, rfl, d1.x.l, by omega, by omega, fun y1 Hn xn y10 y11 => ⟨_, _, rfl, rfl, by show 2 ≤ sizeLine; decide, fun wt hwt => ?_⟩⟩
  obtain ⟨d2, e2⟩ := d1.take xn
  obtain ⟨d2, e2', gw⟩ := d2.new (o := .tup [.int wl, .int (wl + y1)]) hwt
  refine ⟨dl, _, _, rfl, rfl, d2.d, sz_lt (by show 3 < _; omega), ?_⟩
  obtain ⟨d2, e2''⟩ := d2.put (ys := [.int (1 + s3), .int (1 + c3), .ref kl] ++ [.ref wt])
  have gk := ((e2.trans e2').trans e2'') _ _ gk
  have gz := ((e2.trans e2').trans e2'') _ _ gz
  have gw := e2'' _ _ gw
  generalize upd (upd Hn wt (.tup [.int wl, .int (wl + y1)])) dl (.lst ([.int (1 + s3), .int (1 + c3), .ref kl] ++ [.ref wt])) = Hd at d2 gk gz gw ⊢
  have d2 : DS p pq ns dl H Hd [.int (1 + s3), .int (1 + c3), .ref kl, .ref wt] := d2
  -- the packs
  refine ⟨_, rfl, .inl ⟨rfl, _, SqL.of d2.d⟩, _, rfl, _, rfl, _, rfl, _, rfl, _, _, rfl, p, pq, ns, sp, rfl, rfl, d2.x.l, by omega, by omega, fun y2 Hn xn y20 y21 => ⟨_, _, rfl, rfl, by show 2 ≤ sizeLine; decide, fun pt hpt => ?_⟩⟩
  obtain ⟨d3, e3⟩ := d2.take xn
  obtain ⟨d3, e3', gp⟩ := d3.new (o := .tup [.int pl, .int (pl + y2)]) hpt
  refine ⟨dl, _, _, rfl, rfl, d3.d, sz_lt (by show 4 < _; omega), ?_⟩
  obtain ⟨d3, e3''⟩ := d3.put (ys := [.int (1 + s3), .int (1 + c3), .ref kl, .ref wt] ++ [.ref pt])
  have gk := ((e3.trans e3').trans e3'') _ _ gk
  have gz := ((e3.trans e3').trans e3'') _ _ gz
  have gw := ((e3.trans e3').trans e3'') _ _ gw
  have gp := e3'' _ _ gp
  generalize upd (upd Hn pt (.tup [.int pl, .int (pl + y2)])) dl (.lst ([.int (1 + s3), .int (1 + c3), .ref kl, .ref wt] ++ [.ref pt])) = He at d3 gk gz gw gp ⊢
  have d3 : DS p pq ns dl H He [.int (1 + s3), .int (1 + c3), .ref kl, .ref wt, .ref pt] := d3
  -- ahead
  refine ⟨_, rfl, .inl ⟨rfl, _, SqL.of d3.d⟩, _, rfl, _, _, rfl, p, pq, ns, 3, rfl, rfl, d3.x.l, by decide, by decide, fun ah Hn xn ah0 ah1 => ⟨_, _, rfl, rfl, ?_⟩⟩
  obtain ⟨d4, e4⟩ := d3.take xn
  refine ⟨dl, _, _, rfl, rfl, d4.d, sz_lt (by show 5 < _; omega), ?_⟩
  obtain ⟨d4, e4'⟩ := d4.put (ys := [.int (1 + s3), .int (1 + c3), .ref kl, .ref wt, .ref pt] ++ [.int (1 + ah)])
  generalize upd Hn dl (.lst ([.int (1 + s3), .int (1 + c3), .ref kl, .ref wt, .ref pt] ++ [.int (1 + ah)])) = Hf at d4 e4' ⊢
  have d4 : DS p pq ns dl H Hf [.int (1 + s3), .int (1 + c3), .ref kl, .ref wt, .ref pt, .int (1 + ah)] := d4
  -- apart
  refine ⟨_, rfl, .inl ⟨rfl, _, SqL.of d4.d⟩, _, rfl, _, _, rfl, p, pq, ns, 30, rfl, rfl, d4.x.l, by decide, by decide, fun apt Hn' xn' ap0 ap1 => ⟨_, _, rfl, rfl, ?_⟩⟩
  obtain ⟨d5, e5⟩ := d4.take xn'
  refine ⟨dl, _, _, rfl, rfl, d5.d, sz_lt (by show 6 < _; omega), ?_⟩
  obtain ⟨d5, e5'⟩ := d5.put (ys := [.int (1 + s3), .int (1 + c3), .ref kl, .ref wt, .ref pt, .int (1 + ah)] ++ [.int (1 + apt)])
  generalize upd Hn' dl (.lst ([.int (1 + s3), .int (1 + c3), .ref kl, .ref wt, .ref pt, .int (1 + ah)] ++ [.int (1 + apt)])) = Hg at d5 e5' ⊢
  have d5 : DS p pq ns dl H Hg [.int (1 + s3), .int (1 + c3), .ref kl, .ref wt, .ref pt, .int (1 + ah), .int (1 + apt)] := d5
  refine d_bigs (H0 := H) (dl := dl) (v0 := 1 + s3) (v1 := 1 + c3) (v5 := 1 + ah) (v6 := 1 + apt) rfl rfl rfl d5 ⟨by omega, by omega⟩ ⟨by omega, by omega⟩ (by omega) fun st cr ap Hh d6 e6 st1 st6 cr1 cr6 ap1' => ?_
  -- opens
  refine ⟨_, rfl, .inl ⟨rfl, _, SqL.of d6.d⟩, _, rfl, _, rfl, p, pq, ns, rfl, d6.x.l, fun op Hn2 xn2 => ?_⟩
  obtain ⟨d7, e7⟩ := d6.take xn2
  refine ⟨dl, _, _, rfl, rfl, d7.d, sz_lt (by show 7 < _; omega), ?_⟩
  obtain ⟨d7, e7'⟩ := d7.put (ys := [.int st, .int cr, .ref kl, .ref wt, .ref pt, .int (1 + ah), .int ap] ++ [.int op])
  generalize upd Hn2 dl (.lst ([.int st, .int cr, .ref kl, .ref wt, .ref pt, .int (1 + ah), .int ap] ++ [.int op])) = Hi at d7 e7' ⊢
  have d7 : DS p pq ns dl H Hi [.int st, .int cr, .ref kl, .ref wt, .ref pt, .int (1 + ah), .int ap, .int op] := d7
  have eE := ((((((e4.trans e4').trans e5).trans e5').trans e6).trans e7).trans e7')
  have gk := eE _ _ gk
  have gz := eE _ _ gz
  have gw := eE _ _ gw
  have gp := eE _ _ gp
  -- the items
  refine ⟨_, rfl, .inl ⟨rfl, _, SqL.of d7.d⟩, _, rfl, _, rfl, _, rfl, _, rfl, zl, _, rfl, SqL.of (hid_ex _ _ (hid_ex _ _ gz)), fun nl hnl => ?_⟩
  rw [cut_to (by rw [List.length_map]; omega), ← List.map_take]
  obtain ⟨d8, e8, gn⟩ := d7.new (o := .lst ((zs.take c).map V.str)) hnl
  generalize upd Hi nl (.lst ((zs.take c).map V.str)) = Hj at d8 e8 gn ⊢
  refine ⟨_, rfl, dl, _, _, .int op, rfl, rfl, SqL.of d8.d, rfl, _, rfl, _, rfl, _, rfl, _, rfl, _, _, _, _, _, _, _, rfl, p, pq, nl, ns, zs.take c, op, sp, pieces, wide, rfl, rfl, rfl, rfl, rfl, rfl, rfl, d8.x.l, hid_ex _ _ gn, (by rw [List.length_take]; omega), fun hw => (by rw [List.length_take]; have := cw hw; omega), sp1, sp9, fun z hz => znm z (List.mem_of_mem_take hz), fun il ts its Hk xk nil hits hnms hok hus => ?_⟩
  obtain ⟨d9, e9⟩ := d8.take xk
  refine ⟨dl, _, _, rfl, rfl, d9.d, sz_lt (by show 8 < _; omega), ?_⟩
  have nild : il ≠ dl := fun z => by rw [z, d8.d] at nil; cases nil
  obtain ⟨d10, e10⟩ := d9.put (ys := [.int st, .int cr, .ref kl, .ref wt, .ref pt, .int (1 + ah), .int ap, .int op] ++ [.ref il])
  have eF := (e8.trans e9).trans e10
  have gk := G2_ex _ _ (eF _ _ gk)
  have gw := G2_ex _ _ (eF _ _ gw)
  have gp := G2_ex _ _ (eF _ _ gp)
  have hits2 : ItsG (hid p (upd Hk dl (.lst ([.int st, .int cr, .ref kl, .ref wt, .ref pt, .int (1 + ah), .int ap, .int op] ++ [.ref il])))) il ts its := ((hits.hide (by rw [hid_ne d9.np]; exact d9.d) nild).mono e10).mono G2_ex
  have dd : hid p (upd Hk dl (.lst ([.int st, .int cr, .ref kl, .ref wt, .ref pt, .int (1 + ah), .int ap, .int op] ++ [.ref il]))) dl = some (.lst [.int st, .int cr, .ref kl, .ref wt, .ref pt, .int (1 + ah), .int ap, .int op, .ref il]) := by rw [hid_ne d10.np]; exact d10.d
  have lits : its.length ≤ 8 := by
    have := congrArg List.length hnms
    rw [List.length_map, List.length_take] at this
    omega
  refine ⟨_, rfl, q dl ⟨its, op, 1 + ah, wl, wl + y1, pl, pl + y2⟩ _ d10.x hdH ⟨st, cr, ap, zs.drop c, kl, wt, pt, il, ts, ⟨dd, gk, gw, gp, hits2⟩, ?_⟩ fun it hi => (hok it hi).2⟩
  refine ⟨⟨⟨st1, st6⟩, ⟨cr1, cr6⟩, ⟨by show 1 ≤ 1 + ah; omega, by show 1 + ah ≤ 3; omega⟩, ap1', ⟨wl0, by show wl ≤ wl + y1; omega, by show wl + y1 ≤ wl + 8; omega⟩, ⟨pl0, by show pl ≤ pl + y2; omega, by show pl + y2 ≤ pl + 8; omega⟩, by rw [List.length_drop]; omega, fun z hz => znm z (List.mem_of_mem_drop hz), znd.sublist (List.drop_sublist _ _)⟩, ⟨lits, by show (its.map (·.nm)).Nodup; rw [hnms]; exact znd.sublist (List.take_sublist _ _), fun it hi => (hok it hi).1, hus⟩, fun it hi => ?_, by show wl + y1 ≤ 1000; omega, by show pl + y2 ≤ 1000; omega⟩
  obtain ⟨_, h1, h2⟩ := hok it hi
  rw [h1, h2]
  exact ⟨Int.le_refl 0, Int.one_pos⟩
end
end BB
namespace BB
open PySem PySem.Spec PyProof.Rows L2 He Evl
section
variable {K : PySem.W.Frag} {mg : Str → Option Value} {w : World} {base : Heap} {H H' : Hp} {a : Addr}
def sp_item (K : PySem.W.Frag) : Sp := S1 fun a H Q => ∃ (t b : Addr) (it : ItD), a = .ref t ∧ H t = some (.tup (itV b it)) ∧ H b = some (.tup [.int it.st, .int it.sh]) ∧ ItOk it ∧ 0 ≤ it.sh ∧ it.sh < it.st ∧ ∀ p H', H p = none → Ex H H' → ItemAt K H' p it → Q (.ref p) H'
theorem ok_item (T : TX K mg w) : FnR PP w K mg base CX0 6 (ga K "_law_item") (sp_item K) := by
  refine mkS1 (bn T.f_item (fun _ _ _ _ _ _ us hl => match us, hl with | [_], _ => rfl)) sc_item fun cdv A outer s H a Q E hr h => ?_
  refine ⟨_, (pss_cons (ps_if (pt_cmpR op_eq (pe_ix ix_tup (pv 0) pe_int (fun _ _ => rfl)) pe_str (nomark _)) (pss_cons (ps_if (PW.pt (pw_and (pt_cmpR op_eq (pe_ix ix_tup (pv 0) pe_int (fun _ _ => rfl)) pe_int (nomark _)) (pw_and1 (pt_cmpR op_eq (pe_ix ix_tup (pv 0) pe_int (fun _ _ => rfl)) pe_int (nomark _))))) (pss_one (ps_ret (pe_kc (kc_Break4 T) (hr.mono (by decide)) (pa_cons (pe_ix ix_tup (pv 0) pe_int (fun _ _ => rfl)) pa_nil) (pk_cons (pe_ctor (ct_Grid T) (hr.mono (by decide)) (pa_cons (pe_ix ix_tup (pe_ix ix_tup (pv 0) pe_int (fun _ _ => rfl)) pe_int (fun _ _ => rfl)) (pa_cons (pe_ix ix_tup (pe_ix ix_tup (pv 0) pe_int (fun _ _ => rfl)) pe_int (fun _ _ => rfl)) pa_nil))) (pk_cons (pe_ix ix_tup (pv 0) pe_int (fun _ _ => rfl)) (pk_cons (pe_ix ix_tup (pv 0) pe_int (fun _ _ => rfl)) (pk_cons (pe_ix ix_tup (pv 0) pe_int (fun _ _ => rfl)) pk_nil)))))))
        pss_nil)
      (pss_one (ps_ret (pe_kc (kc_Break6 T) (hr.mono (by decide)) (pa_cons (pe_ix ix_tup (pv 0) pe_int (fun _ _ => rfl)) pa_nil) (pk_cons (pe_ctor (ct_Grid T) (hr.mono (by decide)) (pa_cons (pe_ix ix_tup (pe_ix ix_tup (pv 0) pe_int (fun _ _ => rfl)) pe_int (fun _ _ => rfl)) (pa_cons (pe_ix ix_tup (pe_ix ix_tup (pv 0) pe_int (fun _ _ => rfl)) pe_int (fun _ _ => rfl)) pa_nil))) (pk_cons (pe_ix ix_tup (pv 0) pe_int (fun _ _ => rfl)) (pk_cons (pe_ix ix_tup (pv 0) pe_int (fun _ _ => rfl)) (pk_cons (pe_ix ix_tup (pv 0) pe_int (fun _ _ => rfl)) (pk_cons (pe_ix ix_tup (pv 0) pe_int (fun _ _ => rfl)) (pk_cons (pe_ix ix_tup (pv 0) pe_int (fun _ _ => rfl)) pk_nil))))))))))
        pss_nil)
      (pss_cons (ps_if (PW.pt (pw_and (pt_cmpR op_isN (pe_ix ix_tup (pv 0) pe_int (fun _ _ => rfl)) pe_non (nomark _)) (pw_and1 (pt_cmpR op_eq (pe_ix ix_tup (pv 0) pe_int (fun _ _ => rfl)) pe_int (nomark _))))) (pss_one (ps_ret (pe_kc (kc_Piece3 T) (hr.mono (by decide)) (pa_cons (pe_ix ix_tup (pv 0) pe_int (fun _ _ => rfl)) pa_nil) (pk_cons (pe_ctor (ct_Grid T) (hr.mono (by decide)) (pa_cons (pe_ix ix_tup (pe_ix ix_tup (pv 0) pe_int (fun _ _ => rfl)) pe_int (fun _ _ => rfl)) (pa_cons (pe_ix ix_tup (pe_ix ix_tup (pv 0) pe_int (fun _ _ => rfl)) pe_int (fun _ _ => rfl)) pa_nil))) (pk_cons (pe_ix ix_tup (pv 0) pe_int (fun _ _ => rfl)) (pk_cons (pe_ix ix_tup (pv 0) pe_int (fun _ _ => rfl)) pk_nil))))))
        pss_nil)
      (pss_one (ps_ret (pe_kc (kc_Piece5 T) (hr.mono (by decide)) (pa_cons (pe_ix ix_tup (pv 0) pe_int (fun _ _ => rfl)) pa_nil) (pk_cons (pe_ctor (ct_Grid T) (hr.mono (by decide)) (pa_cons (pe_ix ix_tup (pe_ix ix_tup (pv 0) pe_int (fun _ _ => rfl)) pe_int (fun _ _ => rfl)) (pa_cons (pe_ix ix_tup (pe_ix ix_tup (pv 0) pe_int (fun _ _ => rfl)) pe_int (fun _ _ => rfl)) pa_nil))) (pk_cons (pe_ix ix_tup (pv 0) pe_int (fun _ _ => rfl)) (pk_cons (pe_ix ix_tup (pv 0) pe_int (fun _ _ => rfl)) (pk_cons (pe_ix ix_tup (pv 0) pe_int (fun _ _ => rfl)) (pk_cons (pe_ix ix_tup (pv 0) pe_int (fun _ _ => rfl)) pk_nil)))))))))), ?_⟩
  obtain ⟨t, b, it, rfl, ht, hb, ok, sh0, sh1, q⟩ := h
  have st0 := ok.st
  cases hp : it.pc with
  | false =>
    have ht : H t = some (.tup [.str "break", .str it.nm, .ref b, miV it.mi, .int it.dl, .int it.x, .int it.y, .int it.z]) := by rw [ht]; unfold itV; rw [hp]; rfl
    refine ⟨_, rfl, t, _, _, .str "break", rfl, rfl, SqT.of ht, rfl, rfl, _, rfl, ifT rfl ?_⟩
    refine ⟨_, rfl, t, _, _, .int it.dl, rfl, rfl, SqT.of ht, rfl, rfl, _, rfl, if2 (fun e1 => ?_) (fun _ => ifF rfl ?_)⟩
    · refine ⟨_, rfl, t, _, _, .int it.z, rfl, rfl, SqT.of ht, rfl, rfl, _, rfl, if2 (fun e2 => ?_) (fun _ => ?_)⟩
      · have d0 : it.dl = 0 := V.int.inj (of_decide_eq_true e1)
        have z1 : it.z = 1 := V.int.inj (of_decide_eq_true e2)
        refine ⟨_, rfl, t, _, _, .str it.nm, rfl, rfl, SqT.of ht, rfl, _, rfl, t, _, _, .ref b, rfl, rfl, SqT.of ht, rfl, b, _, _, .int it.st, rfl, rfl, SqT.of hb, rfl, _, rfl, t, _, _, .ref b, rfl, rfl, SqT.of ht, rfl, b, _, _, .int it.sh, rfl, rfl, SqT.of hb, rfl, _, _, rfl, it.st, it.sh, rfl, rfl, st0, sh0, sh1, fun g H1 ng e1 hG => ?_⟩
        have ht := e1 _ _ ht
        exact ⟨_, rfl, t, _, _, miV it.mi, rfl, rfl, SqT.of ht, rfl, _, rfl, t, _, _, .int it.x, rfl, rfl, SqT.of ht, rfl, _, rfl, t, _, _, .int it.y, rfl, rfl, SqT.of ht, rfl, rfl, rfl, g, it, rfl, rfl, hp, d0, z1, ok, hG, fun p H' np e2 hI => q p H' (fresh_back e1 np) (e1.trans e2) hI⟩
      · refine ⟨_, rfl, t, _, _, .str it.nm, rfl, rfl, SqT.of ht, rfl, _, rfl, t, _, _, .ref b, rfl, rfl, SqT.of ht, rfl, b, _, _, .int it.st, rfl, rfl, SqT.of hb, rfl, _, rfl, t, _, _, .ref b, rfl, rfl, SqT.of ht, rfl, b, _, _, .int it.sh, rfl, rfl, SqT.of hb, rfl, _, _, rfl, it.st, it.sh, rfl, rfl, st0, sh0, sh1, fun g H1 ng e1 hG => ?_⟩
        have ht := e1 _ _ ht
        exact ⟨_, rfl, t, _, _, miV it.mi, rfl, rfl, SqT.of ht, rfl, _, rfl, t, _, _, .int it.x, rfl, rfl, SqT.of ht, rfl, _, rfl, t, _, _, .int it.y, rfl, rfl, SqT.of ht, rfl, _, rfl, t, _, _, .int it.dl, rfl, rfl, SqT.of ht, rfl, _, rfl, t, _, _, .int it.z, rfl, rfl, SqT.of ht, rfl, rfl, rfl, g, it, rfl, rfl, hp, ok, hG, fun p H' np e2 hI => q p H' (fresh_back e1 np) (e1.trans e2) hI⟩
    · refine ⟨_, rfl, t, _, _, .str it.nm, rfl, rfl, SqT.of ht, rfl, _, rfl, t, _, _, .ref b, rfl, rfl, SqT.of ht, rfl, b, _, _, .int it.st, rfl, rfl, SqT.of hb, rfl, _, rfl, t, _, _, .ref b, rfl, rfl, SqT.of ht, rfl, b, _, _, .int it.sh, rfl, rfl, SqT.of hb, rfl, _, _, rfl, it.st, it.sh, rfl, rfl, st0, sh0, sh1, fun g H1 ng e1 hG => ?_⟩
      have ht := e1 _ _ ht
      exact ⟨_, rfl, t, _, _, miV it.mi, rfl, rfl, SqT.of ht, rfl, _, rfl, t, _, _, .int it.x, rfl, rfl, SqT.of ht, rfl, _, rfl, t, _, _, .int it.y, rfl, rfl, SqT.of ht, rfl, _, rfl, t, _, _, .int it.dl, rfl, rfl, SqT.of ht, rfl, _, rfl, t, _, _, .int it.z, rfl, rfl, SqT.of ht, rfl, rfl, rfl, g, it, rfl, rfl, hp, ok, hG, fun p H' np e2 hI => q p H' (fresh_back e1 np) (e1.trans e2) hI⟩
  | true =>
    have ht : H t = some (.tup [.str "piece", .str it.nm, .ref b, miV it.mi, .int it.dl, .int it.x, .int it.y]) := by rw [ht]; unfold itV; rw [hp]; rfl
    refine ⟨_, rfl, t, _, _, .str "piece", rfl, rfl, SqT.of ht, rfl, rfl, _, rfl, ifF rfl ?_⟩
    refine ⟨_, rfl, t, _, _, miV it.mi, rfl, rfl, SqT.of ht, rfl, rfl, _, rfl, if2 (fun e1 => ?_) (fun _ => ifF rfl ?_)⟩
    · refine ⟨_, rfl, t, _, _, .int it.dl, rfl, rfl, SqT.of ht, rfl, rfl, _, rfl, if2 (fun e2 => ?_) (fun _ => ?_)⟩
      · have d0 : it.dl = 0 := V.int.inj (of_decide_eq_true e2)
        have m0 : it.mi = none := by
          cases hm : it.mi with
          | none => rfl
          | some c => rw [hm] at e1; exact absurd (of_decide_eq_true e1) (fun z => by cases z)
        refine ⟨_, rfl, t, _, _, .str it.nm, rfl, rfl, SqT.of ht, rfl, _, rfl, t, _, _, .ref b, rfl, rfl, SqT.of ht, rfl, b, _, _, .int it.st, rfl, rfl, SqT.of hb, rfl, _, rfl, t, _, _, .ref b, rfl, rfl, SqT.of ht, rfl, b, _, _, .int it.sh, rfl, rfl, SqT.of hb, rfl, _, _, rfl, it.st, it.sh, rfl, rfl, st0, sh0, sh1, fun g H1 ng e1 hG => ?_⟩
        have ht := e1 _ _ ht
        exact ⟨_, rfl, t, _, _, .int it.x, rfl, rfl, SqT.of ht, rfl, _, rfl, t, _, _, .int it.y, rfl, rfl, SqT.of ht, rfl, rfl, rfl, g, it, rfl, rfl, hp, m0, d0, ok, hG, fun p H' np e2 hI => q p H' (fresh_back e1 np) (e1.trans e2) hI⟩
      · refine ⟨_, rfl, t, _, _, .str it.nm, rfl, rfl, SqT.of ht, rfl, _, rfl, t, _, _, .ref b, rfl, rfl, SqT.of ht, rfl, b, _, _, .int it.st, rfl, rfl, SqT.of hb, rfl, _, rfl, t, _, _, .ref b, rfl, rfl, SqT.of ht, rfl, b, _, _, .int it.sh, rfl, rfl, SqT.of hb, rfl, _, _, rfl, it.st, it.sh, rfl, rfl, st0, sh0, sh1, fun g H1 ng e1 hG => ?_⟩
        have ht := e1 _ _ ht
        exact ⟨_, rfl, t, _, _, .int it.x, rfl, rfl, SqT.of ht, rfl, _, rfl, t, _, _, .int it.y, rfl, rfl, SqT.of ht, rfl, _, rfl, t, _, _, miV it.mi, rfl, rfl, SqT.of ht, rfl, _, rfl, t, _, _, .int it.dl, rfl, rfl, SqT.of ht, rfl, rfl, rfl, g, it, rfl, rfl, hp, ok, hG, fun p H' np e2 hI => q p H' (fresh_back e1 np) (e1.trans e2) hI⟩
    · refine ⟨_, rfl, t, _, _, .str it.nm, rfl, rfl, SqT.of ht, rfl, _, rfl, t, _, _, .ref b, rfl, rfl, SqT.of ht, rfl, b, _, _, .int it.st, rfl, rfl, SqT.of hb, rfl, _, rfl, t, _, _, .ref b, rfl, rfl, SqT.of ht, rfl, b, _, _, .int it.sh, rfl, rfl, SqT.of hb, rfl, _, _, rfl, it.st, it.sh, rfl, rfl, st0, sh0, sh1, fun g H1 ng e1 hG => ?_⟩
      have ht := e1 _ _ ht
      exact ⟨_, rfl, t, _, _, .int it.x, rfl, rfl, SqT.of ht, rfl, _, rfl, t, _, _, .int it.y, rfl, rfl, SqT.of ht, rfl, _, rfl, t, _, _, miV it.mi, rfl, rfl, SqT.of ht, rfl, _, rfl, t, _, _, .int it.dl, rfl, rfl, SqT.of ht, rfl, rfl, rfl, g, it, rfl, rfl, hp, ok, hG, fun p H' np e2 hI => q p H' (fresh_back e1 np) (e1.trans e2) hI⟩
def sp_house (K : PySem.W.Frag) : Sp := S1 fun a H Q => ∃ (dl : Addr) (D : DyD), a = .ref dl ∧ DayL H dl D ∧ ∀ p H', H p = none → Ex H H' → HouseAt K H' p D → Q (.ref p) H'
theorem shaped2 (i j : Int) : SeqAt.shaped (.tuple [.int i, .int j]) = true := by
  simp [SeqAt.shaped, PyData.canLay0, PyData.canLayAll0, PyData.depth, PyData.depthAll]
theorem ok_house (T : TX K mg w) : FnR PP w K mg base CX0 6 (ga K "_law_house") (sp_house K) := by
  refine mkS1 (bn T.f_house (fun _ _ _ _ _ _ us hl => match us, hl with | [_], _ => rfl)) sc_house fun cdv A outer s H a Q E hr h => ?_
  refine ⟨_, (pss_cons (ps_if (PW.pt (pw_and (pt_cmpR (op_eqD hr.units) (pe_ix ix_list (pv 0) pe_int (fun _ _ => rfl)) (pe_tup (pa_cons pe_int (pa_cons pe_int pa_nil))) (nomark _)) (pw_and1 (pt_cmpR (op_eqD hr.units) (pe_ix ix_list (pv 0) pe_int (fun _ _ => rfl)) (pe_tup (pa_cons pe_int (pa_cons pe_int pa_nil))) (nomark _))))) (pss_one (ps_ret (pe_kc (kc_House2 T) (hr.mono (by decide)) (pa_cons (pe_ix ix_list (pv 0) pe_int (fun _ _ => rfl)) (pa_cons (pe_ix ix_list (pv 0) pe_int (fun _ _ => rfl)) (pa_cons (pe_callTy call_list_of (by rfl) T.n_list (by decide +kernel) (pa_cons (pe_ix ix_list (pv 0) pe_int (fun _ _ => rfl)) pa_nil)) pa_nil))) (pk_cons (pe_ix ix_list (pv 0) pe_int (fun _ _ => rfl)) (pk_cons (pe_ix ix_list (pv 0) pe_int (fun _ _ => rfl)) pk_nil)))))
        pss_nil)
      (pss_one (ps_ret (pe_kc (kc_House4 T) (hr.mono (by decide)) (pa_cons (pe_ix ix_list (pv 0) pe_int (fun _ _ => rfl)) (pa_cons (pe_ix ix_list (pv 0) pe_int (fun _ _ => rfl)) (pa_cons (pe_callTy call_list_of (by rfl) T.n_list (by decide +kernel) (pa_cons (pe_ix ix_list (pv 0) pe_int (fun _ _ => rfl)) pa_nil)) pa_nil))) (pk_cons (pe_ix ix_list (pv 0) pe_int (fun _ _ => rfl)) (pk_cons (pe_ix ix_list (pv 0) pe_int (fun _ _ => rfl)) (pk_cons (pe_ix ix_list (pv 0) pe_int (fun _ _ => rfl)) (pk_cons (pe_ix ix_list (pv 0) pe_int (fun _ _ => rfl)) pk_nil)))))))), ?_⟩
  obtain ⟨dl, D, rfl, ⟨st, cr, ap, zs, kl, wt, pt, il, ts, hG, ok⟩, q⟩ := h
  have hd := hG.at_
  have hk := hG.kd
  have hw := hG.wk
  have hpk := hG.pk
  refine ⟨_, rfl, dl, _, _, .ref wt, rfl, rfl, SqL.of hd, rfl, by show 2 ≤ sizeLine; decide, fun z0 hz0 => ?_⟩
  have ee : Ex H (upd H z0 (.tup [.int 0, .int 0])) := Ex.new hz0
  have hd := ee _ _ hd
  have hk := ee _ _ hk
  have hw := ee _ _ hw
  have hpk := ee _ _ hpk
  have hz := (upd_same : (upd H z0 (.tup [.int 0, .int 0])) z0 = _)
  generalize upd H z0 (.tup [.int 0, .int 0]) = H1 at ee hd hk hw hpk hz ⊢
  refine ⟨_, _, .tup (SqT.of hw) (.cons (.int _) (.cons (.int _) .nil)), .tup (SqT.of hz) (.cons (.int _) (.cons (.int _) .nil)), shaped2 _ _, shaped2 _ _, _, rfl, if2 (fun e1 => ?_) (fun _ => ifF rfl ?_)⟩
  · refine ⟨_, rfl, dl, _, _, .ref pt, rfl, rfl, SqL.of hd, rfl, by show 2 ≤ sizeLine; decide, fun z1 hz1 => ?_⟩
    have e2 : Ex H1 (upd H1 z1 (.tup [.int 0, .int 0])) := Ex.new hz1
    have ee := ee.trans e2
    have hd := e2 _ _ hd
    have hk := e2 _ _ hk
    have hw := e2 _ _ hw
    have hpk := e2 _ _ hpk
    have hz := (upd_same : (upd H1 z1 (.tup [.int 0, .int 0])) z1 = _)
    generalize upd H1 z1 (.tup [.int 0, .int 0]) = H2 at ee hd hk hw hpk hz ⊢
    refine ⟨_, _, .tup (SqT.of hpk) (.cons (.int _) (.cons (.int _) .nil)), .tup (SqT.of hz) (.cons (.int _) (.cons (.int _) .nil)), shaped2 _ _, shaped2 _ _, _, rfl, if2 (fun e3 => ?_) (fun _ => ?_)⟩
    · simp [PyData.eqv, PyData.eqvAll] at e1 e3
      refine ⟨_, rfl, dl, _, _, .int st, rfl, rfl, SqL.of hd, rfl, _, rfl, dl, _, _, .int cr, rfl, rfl, SqL.of hd, rfl, _, rfl, dl, _, _, .ref kl, rfl, rfl, SqL.of hd, rfl, kl, _, rfl, .inl (SqL.of hk), fun c hc => ?_⟩
      have hd := (Ex.new (o := .lst (zs.map V.str)) hc) _ _ hd
      exact ⟨_, rfl, dl, _, _, .int D.ahead, rfl, rfl, SqL.of hd, rfl, _, rfl, dl, _, _, .int ap, rfl, rfl, SqL.of hd, rfl, rfl, rfl, c, st, cr, ap, zs, D, rfl, SqL.of upd_same, rfl, e1.1, e1.2, e3.1, e3.2, ok.hs, fun p H' np e2 hI => q p H' (fresh_back (ee.trans (Ex.new hc)) np) ((ee.trans (Ex.new hc)).trans e2) hI⟩
    · refine ⟨_, rfl, dl, _, _, .int st, rfl, rfl, SqL.of hd, rfl, _, rfl, dl, _, _, .int cr, rfl, rfl, SqL.of hd, rfl, _, rfl, dl, _, _, .ref kl, rfl, rfl, SqL.of hd, rfl, kl, _, rfl, .inl (SqL.of hk), fun c hc => ?_⟩
      have hd := (Ex.new (o := .lst (zs.map V.str)) hc) _ _ hd
      exact ⟨_, rfl, dl, _, _, .ref wt, rfl, rfl, SqL.of hd, rfl, _, rfl, dl, _, _, .ref pt, rfl, rfl, SqL.of hd, rfl, _, rfl, dl, _, _, .int D.ahead, rfl, rfl, SqL.of hd, rfl, _, rfl, dl, _, _, .int ap, rfl, rfl, SqL.of hd, rfl, rfl, rfl, c, wt, pt, st, cr, ap, zs, D, rfl, SqL.of upd_same, rfl, SqT.of ((Ex.new hc) _ _ hw), SqT.of ((Ex.new hc) _ _ hpk), ok.hs, fun p H' np e2 hI => q p H' (fresh_back (ee.trans (Ex.new hc)) np) ((ee.trans (Ex.new hc)).trans e2) hI⟩
  · refine ⟨_, rfl, dl, _, _, .int st, rfl, rfl, SqL.of hd, rfl, _, rfl, dl, _, _, .int cr, rfl, rfl, SqL.of hd, rfl, _, rfl, dl, _, _, .ref kl, rfl, rfl, SqL.of hd, rfl, kl, _, rfl, .inl (SqL.of hk), fun c hc => ?_⟩
    have hd := (Ex.new (o := .lst (zs.map V.str)) hc) _ _ hd
    exact ⟨_, rfl, dl, _, _, .ref wt, rfl, rfl, SqL.of hd, rfl, _, rfl, dl, _, _, .ref pt, rfl, rfl, SqL.of hd, rfl, _, rfl, dl, _, _, .int D.ahead, rfl, rfl, SqL.of hd, rfl, _, rfl, dl, _, _, .int ap, rfl, rfl, SqL.of hd, rfl, rfl, rfl, c, wt, pt, st, cr, ap, zs, D, rfl, SqL.of upd_same, rfl, SqT.of ((Ex.new hc) _ _ hw), SqT.of ((Ex.new hc) _ _ hpk), ok.hs, fun p H' np e2 hI => q p H' (fresh_back (ee.trans (Ex.new hc)) np) ((ee.trans (Ex.new hc)).trans e2) hI⟩
def sp_order (K : PySem.W.Frag) : Sp := S1 fun a H Q => ∃ (dl : Addr) (D : DyD), a = .ref dl ∧ DayL H dl D ∧ ∀ p H', H p = none → Ex H H' → OrderAt K H' p D → Q (.ref p) H'
theorem ok_order (T : TX K mg w) : FnR PP w K mg base CX0 7 (ga K "_law_order") (sp_order K) := by
  refine mkS1 (bn T.f_order (fun _ _ _ _ _ _ us hl => match us, hl with | [_], _ => rfl)) sc_order fun cdv A outer s H a Q E hr h => ?_
  refine ⟨_, (pss_one (ps_ret (pe_ctor (ct_Order T) (hr.mono (by decide)) (pa_cons (pe_fn (ok_house T) (hr.mono (by decide)) T.kp_house T.g__law_house (pa_cons (pv 0) pa_nil)) (pa_cons (pe_ix ix_list (pv 0) pe_int (fun _ _ => rfl)) (pa_cons (pe_lcD (own := [("_law_item_here", 1)]) rfl sc_order.nd (pi_list (pe_ix ix_list (pv 0) pe_int (fun _ _ => rfl))) (blkOk_by (N := N_order) (sc := defScope s_order) (by decide +kernel)) (fun _ _ _ _ _ => (pg_name (i := 1) sc_order.nd rfl (Or.inl rfl))) (fun _ _ _ _ _ => pts_nil) (fun _ _ _ _ _ => (pe_fn (ok_item T) (hr.mono (by decide)) T.kp_item T.g__law_item (pa_cons (pv 1) pa_nil)))) pa_nil)))))), ?_⟩
  obtain ⟨dl, D, rfl, hDL, q⟩ := h
  obtain ⟨st, cr, ap, zs, kl, wt, pt, il, ts, hG, ok⟩ := id hDL
  have l8 := ok.its.len
  refine ⟨_, rfl, _, rfl, dl, D, rfl, hDL, fun ho H1 nho e1 hho => ?_⟩
  have hG1 := hG.mono e1
  refine ⟨_, rfl, dl, _, _, .int D.opens, rfl, rfl, SqL.of hG1.at_, rfl, _, rfl, dl, _, _, .ref il, rfl, rfl, SqL.of hG1.at_, rfl, il, rfl, ⟨_, SqL.of hG1.items⟩, fun d hd => ?_⟩
  refine lc_it (walk_list (xs := ts.map V.ref)) (fun i H' => Ex H1 H' ∧ ∃ is : List Addr, H' d = some (.lst (is.map V.ref)) ∧ is.length = i ∧ ∀ (j : Nat) (it : ItD), j < i → D.its[j]? = some it → ∃ x, is[j]? = some x ∧ ItemAt K (noL H') x it)
    ⟨Ex.new hd, [], upd_same, rfl, fun j it hj => absurd hj (Nat.not_lt_zero _)⟩ (fun i H' _ h => SqL.of (h.1 _ _ hG1.items)) (fun i x H2 H3 hi h yy => ?_) (fun H2 h => ?_)
  · obtain ⟨e2, is, k1, k2, k3⟩ := h
    obtain ⟨rfl, ex2⟩ := yy
    obtain ⟨t, ht, rfl⟩ := Option.map_eq_some_iff.mp ((List.getElem?_map ..).symm.trans ex2)
    have hi2 : i < D.its.length := by rw [List.length_map, hG1.it.2.1] at hi; exact hi
    have hgi := List.getElem?_eq_getElem hi2
    obtain ⟨t', b, g1, g2, g3⟩ := hG1.item hgi
    rw [ht] at g1
    cases g1
    have oki := ok.its.ok _ (List.getElem_mem hi2)
    have shi := ok.sh _ (List.getElem_mem hi2)
    refine ⟨rfl, _, rfl, _, rfl, t, b, D.its[i], rfl, e2 _ _ g2, e2 _ _ g3, oki, shi.1, shi.2, fun x H4 nx e4 hx => ?_⟩
    have d4 := e4 _ _ k1
    refine ⟨_, d4, sz_lt (by rw [List.length_map]; omega), (e2.trans e4).mut hd, is ++ [x], by rw [upd_same, List.map_append]; rfl, by simp [k2], fun j it hj hit => ?_⟩
    have en := noL_upd (o := .lst (is.map V.ref ++ [.ref x])) d4
    by_cases hji : j = i
    · subst hji
      rw [hgi] at hit
      cases hit
      exact ⟨x, by rw [List.getElem?_append_right (by omega), k2, Nat.sub_self]; rfl, hx.noL.mono en⟩
    · obtain ⟨y, y1, y2⟩ := k3 j it (by omega) hit
      exact ⟨y, by rw [List.getElem?_append_left (by omega)]; exact y1, y2.mono ((noL_mono e4).trans en)⟩
  · obtain ⟨e2, is, k1, k2, k3⟩ := h
    rw [List.length_map, hG1.it.2.1] at k2 k3
    refine ⟨_, _, _, rfl, ho, d, is, D, rfl, rfl, rfl, hho.mono e2, SqL.of k1, ⟨k2, fun i it hi => ?_⟩, ok.its, fun p H' np e3 hO => q p H' (fresh_back (e1.trans e2) np) ((e1.trans e2).trans e3) hO⟩
    obtain ⟨x, x1, x2⟩ := k3 i it (List.getElem?_eq_some_iff.mp hi).1 hi
    exact ⟨x, x1, x2.mono noL_ex⟩
end
end BB
namespace BB
open PySem PySem.Spec PyProof.Rows L2 He Evl
theorem itV_0 (b : Addr) (it : ItD) : atI (itV b it) 0 = some (.str (if it.pc then "piece" else "break")) := by unfold itV; cases it.pc <;> rfl
theorem itV_1 (b : Addr) (it : ItD) : atI (itV b it) 1 = some (.str it.nm) := by unfold itV; cases it.pc <;> rfl
theorem itV_2 (b : Addr) (it : ItD) : atI (itV b it) 2 = some (.ref b) := by unfold itV; cases it.pc <;> rfl
theorem itV_3 (b : Addr) (it : ItD) : atI (itV b it) 3 = some (miV it.mi) := by unfold itV; cases it.pc <;> rfl
theorem itV_4 (b : Addr) (it : ItD) : atI (itV b it) 4 = some (.int it.dl) := by unfold itV; cases it.pc <;> rfl
theorem itV_5 (b : Addr) (it : ItD) : atI (itV b it) 5 = some (.int it.x) := by unfold itV; cases it.pc <;> rfl
theorem itV_6 (b : Addr) (it : ItD) : atI (itV b it) 6 = some (.int it.y) := by unfold itV; cases it.pc <;> rfl
theorem pc_eq {it : ItD} : decide (V.str (if it.pc then "piece" else "break") = V.str "piece") = it.pc := by cases it.pc <;> rfl
theorem refs_at {ts : List Addr} {k : Nat} {t : Addr} (h : ts[k]? = some t) : atI (ts.map V.ref) (k : Int) = some (.ref t) := atI_nat (by rw [List.getElem?_map, h]; rfl)
theorem refs_at0 {ts : List Addr} {k : Nat} {t : Addr} (h : ts[k]? = some t) : atI (ts.map V.ref) (0 + (k : Int)) = some (.ref t) := by rw [Int.zero_add]; exact refs_at h
/-- what is asked of a row -/
structure RowOk (its : List ItD) (R : List (List Int)) : Prop where
  len : R.length = its.length
  row : ∀ (i : Nat) (it : ItD) (r : List Int), its[i]? = some it → R[i]? = some r → r.length = if it.pc then 4 else 1
theorem RowOk.get {its : List ItD} {R : List (List Int)} (h : RowOk its R) {i : Nat} {it : ItD} (hi : its[i]? = some it) : ∃ r, R[i]? = some r ∧ r.length = if it.pc then 4 else 1 := by
  have hlt : i < R.length := by rw [h.len]; exact (List.getElem?_eq_some_iff.mp hi).1
  exact ⟨R[i], List.getElem?_eq_getElem hlt, h.row i it _ hi (List.getElem?_eq_getElem hlt)⟩
theorem bent_ok {its : List ItD} {S : SpD} {p : Nat} {late : Bool} : RowOk its (bent its S p late) := by
  refine ⟨by unfold bent; rw [List.length_map, List.length_zipIdx], fun i it r hi hr => ?_⟩
  rw [bent_at hi] at hr
  cases hr
  unfold bentI
  cases it.pc <;> rfl
theorem ints_at {r : List Int} {j : Nat} {d : Int} (h : j < r.length) : atI (r.map V.int) (j : Int) = some (.int (r.getD j d)) := atI_nat (by
  rw [List.getElem?_map, List.getElem?_eq_getElem h, List.getD_eq_getElem?_getD, List.getElem?_eq_getElem h]
  rfl)
section
variable {K : PySem.W.Frag} {mg : Str → Option Value} {w : World} {base : Heap} {H H' : Hp} {a : Addr}
def sp_at (K : PySem.W.Frag) : Sp := S2 fun a b H Q => ∃ (dl : Addr) (D : DyD) (k : Nat) (it : ItD), a = .ref dl ∧ DayL H dl D ∧ D.its[k]? = some it ∧ b = .str it.nm ∧ Q (.int (k : Nat)) H
theorem ok_at (T : TX K mg w) : FnR PP w K mg base CX0 1 (ga K "_law_at") (sp_at K) := by
  refine mkS2 (bn T.f_at (fun _ _ _ _ _ _ us hl => match us, hl with | [_, _], _ => rfl)) sc_at fun cdv A outer s H a b Q E hr h => ?_
  refine ⟨_, (pss_cons (ps_for PassesOwn.never rfl (pi_range1 rfl T.n_range (pa_cons (pe_callB call_len_seq (by rfl) T.n_len (by decide +kernel) (pa_cons (pe_ix ix_list (pv 0) pe_int (fun _ _ => rfl)) pa_nil)) pa_nil)) (pg_name (i := 2) sc_at.nd rfl (Or.inl rfl))
        (pss_one (ps_if (pt_cmpR op_eq (pe_ix ix_tup (pe_ix ix_list (pe_ix ix_list (pv 0) pe_int (fun _ _ => rfl)) (pv 2) (fun _ _ => rfl)) pe_int (fun _ _ => rfl)) (pv 1) (nomark _)) (pss_one (ps_ret (pv 2)))
        pss_nil)))
      (pss_one (ps_ret pe_int))), ?_⟩
  obtain ⟨dl, D, k, it, rfl, ⟨st, cr, ap, zs, kl, wt, pt, il, ts, hG, ok⟩, hk, rfl, q⟩ := h
  have l8 := ok.its.len
  have tl := hG.it.2.1
  have hd := hG.at_
  have hil := hG.items
  refine ⟨_, rfl, dl, _, _, .ref il, rfl, rfl, SqL.of hd, rfl, il, _, rfl, .inl (SqL.of hil), _, rfl, by rw [List.length_map]; omega, by rw [List.length_map]; omega, ?_⟩
  refine for_it walk_range (fun i σ H' => H' = H ∧ i ≤ k ∧ ∃ x, σ = [some (.ref dl), some (.str it.nm), x]) ⟨rfl, Nat.zero_le _, _, rfl⟩ (fun _ _ _ _ _ => trivial) (fun i x σ H1 H2 hi h yy => ?_) (fun σ H1 h => ?_)
  · obtain ⟨rfl, hik, x2, rfl⟩ := h
    obtain ⟨rfl, rfl⟩ := yy
    have hi2 : i < D.its.length := by rw [List.length_map] at hi; omega
    have hgi := List.getElem?_eq_getElem hi2
    obtain ⟨t, b, g1, g2, g3⟩ := hG.item hgi
    refine ⟨_, rfl, dl, _, _, .ref il, rfl, rfl, SqL.of hd, rfl, _, rfl, il, _, _, .ref t, rfl, rfl, SqL.of hil, refs_at0 g1, t, _, _, .str D.its[i].nm, rfl, rfl, SqT.of g2, itV_1 _ _, _, rfl, rfl, _, rfl, if2 (fun e => ?_) (fun e => ?_)⟩
    · have e := V.str.inj (of_decide_eq_true e)
      have : i = k := nodup_ix ok.its.nd (x := it.nm) (by rw [List.getElem?_map, hgi]; exact congrArg some e) (by rw [List.getElem?_map, hk]; rfl)
      subst this
      rw [← Int.zero_add (i : Int)] at q
      exact ⟨_, rfl, q⟩
    · refine ⟨rfl, Nat.lt_of_le_of_ne hik fun z => ?_, _, rfl⟩
      subst z
      rw [hgi] at hk
      cases hk
      exact absurd rfl (of_decide_eq_false e)
  · obtain ⟨rfl, hik, x2, rfl⟩ := h
    exfalso
    have := (List.getElem?_eq_some_iff.mp hk).1
    rw [List.length_map] at hik
    omega
def sp_call (K : PySem.W.Frag) : Sp := S2 fun a b H Q => ∃ (dl : Addr) (D : DyD) (k : Nat), a = .ref dl ∧ DayL H dl D ∧ b = .int (k : Nat) ∧ Q (.int (callPt D k)) H
theorem ok_call (T : TX K mg w) : FnR PP w K mg base CX0 1 (ga K "_law_call") (sp_call K) := by
  refine mkS2 (bn T.f_call (fun _ _ _ _ _ _ us hl => match us, hl with | [_, _], _ => rfl)) sc_call fun cdv A outer s H a b Q E hr h => ?_
  refine ⟨_, (pss_cons (ps_if (pt_cmpR op_lt (pv 1) (pe_ix ix_list (pv 0) pe_int (fun _ _ => rfl)) (nomark _)) (pss_one (ps_ret pe_int))
        pss_nil)
      (pss_one (ps_ret (pe_op op_add (pe_op op_mul pe_int (pe_op op_sub (pv 1) (pe_ix ix_list (pv 0) pe_int (fun _ _ => rfl)))) pe_int)))), ?_⟩
  obtain ⟨dl, D, k, rfl, ⟨st, cr, ap, zs, kl, wt, pt, il, ts, hG, ok⟩, rfl, q⟩ := h
  have hd := hG.at_
  unfold callPt at q
  refine ⟨_, rfl, _, rfl, dl, _, _, .int D.ahead, rfl, rfl, SqL.of hd, rfl, _, _, rfl, rfl, _, rfl, if2 (fun e => ?_) (fun e => ?_)⟩
  · rw [if_pos (of_decide_eq_true e)] at q
    exact q
  · rw [if_neg (of_decide_eq_false e)] at q
    exact ⟨_, rfl, _, rfl, dl, _, _, .int D.ahead, rfl, rfl, SqL.of hd, rfl, _, _, rfl, rfl, _, _, rfl, rfl, .inl ⟨by decide, by decide⟩, _, _, rfl, rfl, q⟩
def sp_point (K : PySem.W.Frag) : Sp := S2 fun a b H Q => ∃ (dl t : Addr) (D : DyD) (e : EvD), a = .ref dl ∧ b = .ref t ∧ DayL H dl D ∧ EvOk D.its e ∧ H t = some (.tup (evV D.its e)) ∧ Q (.int (ptOf D e)) H
theorem ok_point (T : TX K mg w) : FnR PP w K mg base CX0 2 (ga K "_law_point") (sp_point K) := by
  refine mkS2 (bn T.f_point (fun _ _ _ _ _ _ us hl => match us, hl with | [_, _], _ => rfl)) sc_point fun cdv A outer s H a b Q E hr h => ?_
  refine ⟨_, (pss_cons (ps_if (pt_cmpR op_eq (pe_ix ix_tup (pv 1) pe_int (fun _ _ => rfl)) pe_str (nomark _)) (pss_one (ps_ret pe_int))
        pss_nil)
      (pss_cons (ps_set (i := 2) sc_point.nd rfl (Or.inl rfl) (pe_fn (ok_at T) (hr.mono (by decide)) T.kp_at T.g__law_at (pa_cons (pv 0) (pa_cons (pe_ix ix_tup (pv 1) pe_int (fun _ _ => rfl)) pa_nil))))
      (pss_cons (ps_if (PW.pt (pw_or (pt_cmpR op_eq (pe_ix ix_tup (pv 1) pe_int (fun _ _ => rfl)) pe_str (nomark _)) (pw_or1 (pt_cmpR op_eq (pe_ix ix_tup (pv 1) pe_int (fun _ _ => rfl)) pe_str (nomark _))))) (pss_one (ps_ret (pe_op op_add (pe_op op_mul pe_int (pv 2)) pe_int)))
        pss_nil)
      (pss_cons (ps_if (PW.pt (pw_or (pt_cmpR op_eq (pe_ix ix_tup (pv 1) pe_int (fun _ _ => rfl)) pe_str (nomark _)) (pw_or1 (pt_cmpR op_eq (pe_ix ix_tup (pv 1) pe_int (fun _ _ => rfl)) pe_str (nomark _))))) (pss_one (ps_ret (pe_fn (ok_call T) (hr.mono (by decide)) T.kp_call T.g__law_call (pa_cons (pv 0) (pa_cons (pv 2) pa_nil)))))
        pss_nil)
      (pss_one (ps_ret (pe_op op_add (pe_op op_mul pe_int (pv 2)) pe_int))))))), ?_⟩
  obtain ⟨dl, t, D, e, rfl, rfl, hD, hE, ht, q⟩ := h
  cases e with
  | op => exact ⟨_, rfl, t, _, _, .str "opens", rfl, rfl, SqT.of ht, rfl, rfl, _, rfl, ifT rfl q⟩
  | pl k n =>
    obtain ⟨it, hk, hp, h0, h1⟩ := hE
    have hnm := nmOf_eq hk
    have ht : H t = some (.tup [.str "place", .str it.nm, .int n]) := by rw [← hnm]; exact ht
    refine ⟨_, rfl, t, _, _, .str "place", rfl, rfl, SqT.of ht, rfl, rfl, _, rfl, ifF rfl ?_⟩
    refine ⟨_, rfl, _, rfl, t, _, _, .str it.nm, rfl, rfl, SqT.of ht, rfl, _, _, rfl, dl, D, k, it, rfl, hD, hk, rfl, ?_⟩
    refine ⟨_, rfl, t, _, _, .str "place", rfl, rfl, SqT.of ht, rfl, rfl, _, rfl, ifF rfl ⟨_, rfl, t, _, _, .str "place", rfl, rfl, SqT.of ht, rfl, rfl, _, rfl, ifF rfl ?_⟩⟩
    refine ⟨_, rfl, t, _, _, .str "place", rfl, rfl, SqT.of ht, rfl, rfl, _, rfl, ifF rfl ⟨_, rfl, t, _, _, .str "place", rfl, rfl, SqT.of ht, rfl, rfl, _, rfl, ifF rfl ?_⟩⟩
    exact ⟨_, rfl, _, _, rfl, rfl, .inl ⟨by decide, by decide⟩, _, _, rfl, rfl, q⟩
  | ev wd k =>
    obtain ⟨it, hk, hw⟩ := hE
    have hnm := nmOf_eq hk
    have ht : H t = some (.tup [.str wd.s, .str it.nm]) := by rw [← hnm]; exact ht
    refine ⟨_, rfl, t, _, _, .str wd.s, rfl, rfl, SqT.of ht, rfl, rfl, _, rfl, ifF (by cases wd <;> rfl) ?_⟩
    refine ⟨_, rfl, _, rfl, t, _, _, .str it.nm, rfl, rfl, SqT.of ht, rfl, _, _, rfl, dl, D, k, it, rfl, hD, hk, rfl, ?_⟩
    cases wd with
    | end_ => exact ⟨_, rfl, t, _, _, .str "end", rfl, rfl, SqT.of ht, rfl, rfl, _, rfl, ifT rfl (ifT rfl ⟨_, rfl, _, _, rfl, rfl, .inl ⟨by decide, by decide⟩, _, _, rfl, rfl, q⟩)⟩
    | out =>
      refine ⟨_, rfl, t, _, _, .str "out", rfl, rfl, SqT.of ht, rfl, rfl, _, rfl, ifF rfl ⟨_, rfl, t, _, _, .str "out", rfl, rfl, SqT.of ht, rfl, rfl, _, rfl, ifT rfl ?_⟩⟩
      exact ⟨_, rfl, _, _, rfl, rfl, .inl ⟨by decide, by decide⟩, _, _, rfl, rfl, q⟩
    | call =>
      refine ⟨_, rfl, t, _, _, .str "call", rfl, rfl, SqT.of ht, rfl, rfl, _, rfl, ifF rfl ⟨_, rfl, t, _, _, .str "call", rfl, rfl, SqT.of ht, rfl, rfl, _, rfl, ifF rfl ?_⟩⟩
      exact ⟨_, rfl, t, _, _, .str "call", rfl, rfl, SqT.of ht, rfl, rfl, _, rfl, ifT rfl (ifT rfl ⟨_, rfl, _, rfl, _, _, rfl, dl, D, k, rfl, hD, rfl, q⟩)⟩
    | enter =>
      refine ⟨_, rfl, t, _, _, .str "enter", rfl, rfl, SqT.of ht, rfl, rfl, _, rfl, ifF rfl ⟨_, rfl, t, _, _, .str "enter", rfl, rfl, SqT.of ht, rfl, rfl, _, rfl, ifF rfl ?_⟩⟩
      refine ⟨_, rfl, t, _, _, .str "enter", rfl, rfl, SqT.of ht, rfl, rfl, _, rfl, ifF rfl ⟨_, rfl, t, _, _, .str "enter", rfl, rfl, SqT.of ht, rfl, rfl, _, rfl, ifT rfl ?_⟩⟩
      exact ⟨_, rfl, _, rfl, _, _, rfl, dl, D, k, rfl, hD, rfl, q⟩
    | begin_ =>
      refine ⟨_, rfl, t, _, _, .str "begin", rfl, rfl, SqT.of ht, rfl, rfl, _, rfl, ifF rfl ⟨_, rfl, t, _, _, .str "begin", rfl, rfl, SqT.of ht, rfl, rfl, _, rfl, ifF rfl ?_⟩⟩
      refine ⟨_, rfl, t, _, _, .str "begin", rfl, rfl, SqT.of ht, rfl, rfl, _, rfl, ifF rfl ⟨_, rfl, t, _, _, .str "begin", rfl, rfl, SqT.of ht, rfl, rfl, _, rfl, ifF rfl ?_⟩⟩
      exact ⟨_, rfl, _, _, rfl, rfl, .inl ⟨by decide, by decide⟩, _, _, rfl, rfl, q⟩
/-! ### the moments -/
def momL (D : DyD) (R : List (List Int)) (n : Nat) : List V := (List.range n).map fun j => V.int (moR D.its R D.opens j)
theorem momL_add {D : DyD} {R : List (List Int)} {n : Nat} : momL D R (n + 1) = momL D R n ++ [.int (moR D.its R D.opens n)] := by
  unfold momL
  rw [List.range_succ, List.map_append]
  rfl
theorem momL_at {D : DyD} {R : List (List Int)} {n j : Nat} (h : j < n) : atI (momL D R n) (j : Int) = some (.int (moR D.its R D.opens j)) := atI_nat (by
  unfold momL
  rw [List.getElem?_map, List.getElem?_range h]
  rfl)
theorem momL_len {D : DyD} {R : List (List Int)} {n : Nat} : (momL D R n).length = n := by
  unfold momL
  rw [List.length_map, List.length_range]
theorem momL_last {D : DyD} {R : List (List Int)} {n : Nat} : atI (momL D R (n + 1)) (-1) = some (.int (moR D.its R D.opens n)) := by
  unfold atI ixN
  rw [momL_len, if_neg (by omega), if_pos (by omega)]
  show (momL D R (n + 1))[_]? = _
  have : ((-1 : Int) + ((n + 1 : Nat) : Int)).toNat = n := by omega
  first | rw [this] | skip
  unfold momL
  rw [List.getElem?_map, List.getElem?_range (by omega)]
  rfl
theorem moR_begin {D : DyD} {R : List (List Int)} {i : Nat} {it : ItD} {r : List Int} (hi : D.its[i]? = some it) (hr : R[i]? = some r) : moR D.its R D.opens (2 * i + 1) = bgn it (moR D.its R D.opens (2 * i)) (r.getD 0 0) := by
  show stF D.its (0 + 2 * i) (moR D.its R D.opens (2 * i)) (lagR D.its R (0 + 2 * i)) = _
  have h2 : (0 + 2 * i) / 2 = i := by omega
  unfold stF lagR
  rw [h2, hi]
  dsimp only
  rw [if_pos (by omega), if_pos (by omega), show R.getD i [] = r by rw [List.getD_eq_getElem?_getD, hr]; rfl]
theorem moR_end {D : DyD} {R : List (List Int)} {i : Nat} {it : ItD} {r : List Int} (hi : D.its[i]? = some it) (hr : R[i]? = some r) : moR D.its R D.opens (2 * i + 2) = moR D.its R D.opens (2 * i + 1) + (if it.pc then r.getD 1 0 else it.x * it.y) := by
  show stF D.its (0 + (2 * i + 1)) (moR D.its R D.opens (2 * i + 1)) (lagR D.its R (0 + (2 * i + 1))) = _
  have h2 : (0 + (2 * i + 1)) / 2 = i := by omega
  unfold stF lagR
  rw [h2, hi]
  dsimp only
  rw [if_neg (by omega), if_neg (by omega), show R.getD i [] = r by rw [List.getD_eq_getElem?_getD, hr]; rfl]
def sp_moments (K : PySem.W.Frag) : Sp := S2 fun a b H Q => ∃ (dl r : Addr) (D : DyD) (R : List (List Int)), a = .ref dl ∧ b = .ref r ∧ DayL H dl D ∧ RowV H r R ∧ RowOk D.its R ∧ ∀ l H', H l = none → Ex H H' → H' l = some (.lst (momL D R (2 * D.its.length + 1))) → Q (.ref l) H'
theorem ok_moments (T : TX K mg w) : FnR PP w K mg base CX0 2 (ga K "_law_moments") (sp_moments K) := by
  refine mkS2 (bn T.f_moments (fun _ _ _ _ _ _ us hl => match us, hl with | [_, _], _ => rfl)) sc_moments fun cdv A outer s H a b Q E hr h => ?_
  refine ⟨_, (pss_cons (ps_set (i := 2) sc_moments.nd rfl (Or.inl rfl) (pe_lst (pa_cons (pe_ix ix_list (pv 0) pe_int (fun _ _ => rfl)) pa_nil)))
      (pss_cons (ps_for PassesOwn.never rfl (pi_range1 rfl T.n_range (pa_cons (pe_callB call_len_seq (by rfl) T.n_len (by decide +kernel) (pa_cons (pe_ix ix_list (pv 0) pe_int (fun _ _ => rfl)) pa_nil)) pa_nil)) (pg_name (i := 3) sc_moments.nd rfl (Or.inl rfl))
        (pss_cons (ps_set (i := 4) sc_moments.nd rfl (Or.inl rfl) (pe_ix ix_list (pe_ix ix_list (pv 0) pe_int (fun _ _ => rfl)) (pv 3) (fun _ _ => rfl)))
      (pss_cons (ps_set (i := 5) sc_moments.nd rfl (Or.inl rfl) (pe_ix ix_list (pv 2) (pe_un un_neg pe_int) (fun _ _ => rfl)))
      (pss_cons (ps_if (PW.pt (pw_and (pt_cmpR op_notN (pe_ix ix_tup (pv 4) pe_int (fun _ _ => rfl)) pe_non (nomark _)) (pw_and1 (pt_cmpR op_gt (pe_ix ix_tup (pv 4) pe_int (fun _ _ => rfl)) (pv 5) (nomark _))))) (pss_one (ps_set (i := 5) sc_moments.nd rfl (Or.inl rfl) (pe_ix ix_tup (pv 4) pe_int (fun _ _ => rfl))))
        pss_nil)
      (pss_cons (ps_set (i := 6) sc_moments.nd rfl (Or.inl rfl) (pe_fn (ok_first T) (hr.mono (by decide)) T.kp_first T.g__law_first (pa_cons (pe_ix ix_tup (pe_ix ix_tup (pv 4) pe_int (fun _ _ => rfl)) pe_int (fun _ _ => rfl)) (pa_cons (pe_ix ix_tup (pe_ix ix_tup (pv 4) pe_int (fun _ _ => rfl)) pe_int (fun _ _ => rfl)) (pa_cons (pe_op op_add (pv 5) (pe_ix ix_tup (pe_ix ix_list (pv 1) (pv 3) (fun _ _ => rfl)) pe_int (fun _ _ => rfl))) pa_nil)))))
      (pss_cons (ps_expr (pe_bm PySem.F.plainAttrs_list PySem.F.slot_list_append PySem.F.type_list_append mt_append (pv 2) (pa_cons (pv 6) pa_nil)))
      (pss_one (ps_if (pt_cmpR op_eq (pe_ix ix_tup (pv 4) pe_int (fun _ _ => rfl)) pe_str (nomark _)) (pss_one (ps_expr (pe_bm PySem.F.plainAttrs_list PySem.F.slot_list_append PySem.F.type_list_append mt_append (pv 2) (pa_cons (pe_op op_add (pv 6) (pe_ix ix_tup (pe_ix ix_list (pv 1) (pv 3) (fun _ _ => rfl)) pe_int (fun _ _ => rfl))) pa_nil))))
        (pss_one (ps_expr (pe_bm PySem.F.plainAttrs_list PySem.F.slot_list_append PySem.F.type_list_append mt_append (pv 2) (pa_cons (pe_op op_add (pv 6) (pe_op op_mul (pe_ix ix_tup (pv 4) pe_int (fun _ _ => rfl)) (pe_ix ix_tup (pv 4) pe_int (fun _ _ => rfl)))) pa_nil))))))))))))
      (pss_one (ps_ret (pv 2))))), ?_⟩
  obtain ⟨dl, r, D, R, rfl, rfl, ⟨st, cr, ap, zs, kl, wt, pt, il, ts, hG, ok⟩, ⟨us, hr1, hr2, hr3⟩, rok, q⟩ := h
  have l8 := ok.its.len
  have tl := hG.it.2.1
  have hd := hG.at_
  have hil := hG.items
  refine ⟨_, rfl, dl, _, _, .int D.opens, rfl, rfl, SqL.of hd, rfl, by show 1 ≤ sizeLine; decide, fun d hdn => ?_⟩
  have e0 : Ex H (upd H d (.lst [.int D.opens])) := Ex.new hdn
  refine ⟨_, rfl, dl, _, _, .ref il, rfl, rfl, SqL.of (e0 _ _ hd), rfl, il, _, rfl, .inl (SqL.of (e0 _ _ hil)), _, rfl, by rw [List.length_map]; omega, by rw [List.length_map]; omega, ?_⟩
  refine for_it walk_range (fun i σ H' => Ex H H' ∧ H' d = some (.lst (momL D R (2 * i + 1))) ∧ ∃ x3 x4 x5 x6, σ = [some (.ref dl), some (.ref r), some (.ref d), x3, x4, x5, x6]) ⟨e0, upd_same, _, _, _, _, rfl⟩ (fun _ _ _ _ _ => trivial) (fun i x σ H1 H2 hi h yy => ?_) (fun σ H1 h => ?_)
  · obtain ⟨e1, d1, x3, x4, x5, x6, rfl⟩ := h
    obtain ⟨rfl, rfl⟩ := yy
    have hi2 : i < D.its.length := by rw [List.length_map] at hi; omega
    have hgi := List.getElem?_eq_getElem hi2
    generalize D.its[i] = it at hgi
    obtain ⟨t, b, g1, g2, g3⟩ := hG.item hgi
    obtain ⟨row, w1, w2⟩ := rok.get hgi
    obtain ⟨u, u1, u2⟩ := hr3 i row w1
    have oki := ok.its.ok it (List.mem_of_getElem? hgi)
    have st0 := oki.st
    have r0 : 0 < row.length := by rw [w2]; split <;> omega
    have hd := e1 _ _ hd
    have hil := e1 _ _ hil
    have g2 := e1 _ _ g2
    have g3 := e1 _ _ g3
    have hr10 := hr1
    have hr1 := e1 _ _ hr1
    have u2 := e1 _ _ u2
    refine ⟨_, rfl, dl, _, _, .ref il, rfl, rfl, SqL.of hd, rfl, _, rfl, il, _, _, .ref t, rfl, rfl, SqL.of hil, refs_at0 g1, _, rfl, _, rfl, d, _, _, .int (moR D.its R D.opens (2 * i)), rfl, rfl, SqL.of d1, momL_last, ?_⟩
    refine nrmG (σ' := [some (.ref dl), some (.ref r), some (.ref d), some (.int (0 + (i : Int))), some (.ref t), some (.int (moR D.its R D.opens (2 * i))), x6]) rfl ?_
    refine ⟨_, rfl, t, _, _, miV it.mi, rfl, rfl, SqT.of g2, itV_3 _ _, rfl, _, rfl, ?_⟩
    have hb := moR_begin hgi w1
    have he := moR_end hgi w1
    have ix0 : atI (row.map V.int) 0 = some (.int (row.getD 0 0)) := ints_at (j := 0) r0
    cases hm : it.mi with
    | none =>
      have er : rdy it (moR D.its R D.opens (2 * i)) = moR D.its R D.opens (2 * i) := by unfold rdy; rw [hm]
      refine ifF rfl (ifF rfl ?_)
      have hv : ((moR D.its R D.opens (2 * i)) + row.getD 0 0) + (it.sh - ((moR D.its R D.opens (2 * i)) + row.getD 0 0)).fmod it.st = moR D.its R D.opens (2 * i + 1) := by rw [hb]; unfold bgn barOf; rw [er]
      refine ⟨_, rfl, t, _, _, .ref b, rfl, rfl, SqT.of g2, itV_2 _ _, b, _, _, .int it.st, rfl, rfl, SqT.of g3, rfl, _, rfl, t, _, _, .ref b, rfl, rfl, SqT.of g2, itV_2 _ _, b, _, _, .int it.sh, rfl, rfl, SqT.of g3, rfl, _, rfl, _, rfl, _, rfl, r, _, _, .ref u, rfl, rfl, SqL.of hr1, refs_at0 u1, u, _, _, .int (row.getD 0 0), rfl, rfl, SqT.of u2, ix0, _, _, rfl, rfl, _, _, _, rfl, it.st, it.sh, (moR D.its R D.opens (2 * i)) + row.getD 0 0, rfl, rfl, rfl, st0, ?_⟩
      rw [hv]
      refine ⟨_, rfl, .inl ⟨rfl, _, SqL.of d1⟩, _, rfl, d, _, _, rfl, rfl, d1, sz_lt (by rw [momL_len]; omega), ?_⟩
      have d2 : (upd H2 d (.lst (momL D R (2 * i + 1) ++ [.int (moR D.its R D.opens (2 * i + 1))]))) d = some (.lst (momL D R (2 * i + 2))) := by rw [upd_same, show momL D R (2 * i + 2) = _ from momL_add (n := 2 * i + 1)]
      have e2 : Ex H (upd H2 d (.lst (momL D R (2 * i + 1) ++ [.int (moR D.its R D.opens (2 * i + 1))]))) := e1.mut hdn
      have td : t ≠ d := fun z => by rw [z, d1] at g2; cases g2
      have g2 : (upd H2 d (.lst (momL D R (2 * i + 1) ++ [.int (moR D.its R D.opens (2 * i + 1))]))) t = some (.tup (itV b it)) := (upd_ne td).trans g2
      have ud : u ≠ d := fun z => by rw [z, d1] at u2; cases u2
      have u2 : (upd H2 d (.lst (momL D R (2 * i + 1) ++ [.int (moR D.its R D.opens (2 * i + 1))]))) u = some (.tup (row.map V.int)) := (upd_ne ud).trans u2
      have rd : r ≠ d := fun z => by rw [z] at hr10; rw [hr10] at hdn; cases hdn
      have hr1 : (upd H2 d (.lst (momL D R (2 * i + 1) ++ [.int (moR D.its R D.opens (2 * i + 1))]))) r = some (.lst (us.map V.ref)) := (upd_ne rd).trans hr1
      generalize upd H2 d (.lst (momL D R (2 * i + 1) ++ [.int (moR D.its R D.opens (2 * i + 1))])) = H3 at d2 e2 g2 u2 hr1 ⊢
      refine ⟨_, rfl, t, _, _, .str (if it.pc then "piece" else "break"), rfl, rfl, SqT.of g2, itV_0 _ _, rfl, _, rfl, if2 (fun ep => ?_) (fun ep => ?_)⟩
      · have ep : it.pc = true := by rw [← ep]; exact pc_eq.symm
        rw [if_pos ep] at he
        have r1 : 1 < row.length := by rw [w2, ep]; decide
        refine ⟨_, rfl, .inl ⟨rfl, _, SqL.of d2⟩, _, rfl, _, rfl, _, rfl, r, _, _, .ref u, rfl, rfl, SqL.of hr1, refs_at0 u1, u, _, _, .int (row.getD 1 0), rfl, rfl, SqT.of u2, ints_at (j := 1) r1, _, _, rfl, rfl, d, _, _, rfl, rfl, d2, sz_lt (by rw [momL_len]; omega), e2.mut hdn, ?_, _, _, _, _, rfl⟩
        rw [upd_same, show 2 * (i + 1) + 1 = 2 * i + 2 + 1 by omega, momL_add (n := 2 * i + 2), he]
      · have ep : it.pc = false := by rw [← ep]; exact pc_eq.symm
        rw [if_neg (by rw [ep]; exact Bool.false_ne_true)] at he
        obtain ⟨o1, o2, o3, o4, o5⟩ := oki.br ep
        refine ⟨_, rfl, .inl ⟨rfl, _, SqL.of d2⟩, _, rfl, _, rfl, t, _, _, .int it.x, rfl, rfl, SqT.of g2, itV_5 _ _, _, rfl, t, _, _, .int it.y, rfl, rfl, SqT.of g2, itV_6 _ _, _, _, rfl, rfl, cm_l ⟨by omega, by omega⟩, _, _, rfl, rfl, d, _, _, rfl, rfl, d2, sz_lt (by rw [momL_len]; omega), e2.mut hdn, ?_, _, _, _, _, rfl⟩
        rw [upd_same, show 2 * (i + 1) + 1 = 2 * i + 2 + 1 by omega, momL_add (n := 2 * i + 2), he]
    | some c =>
      refine ifT rfl ⟨_, rfl, t, _, _, .int c, rfl, rfl, SqT.of g2, (by rw [itV_3, hm]; rfl), _, rfl, _, _, rfl, rfl, _, rfl, if2 (fun ec => ⟨_, rfl, t, _, _, .int c, rfl, rfl, SqT.of g2, (by rw [itV_3, hm]; rfl), ?_⟩) (fun ec => ?_)⟩
      · have er : rdy it (moR D.its R D.opens (2 * i)) = c := by unfold rdy; rw [hm]; exact if_pos (of_decide_eq_true ec)
        have hv : (c + row.getD 0 0) + (it.sh - (c + row.getD 0 0)).fmod it.st = moR D.its R D.opens (2 * i + 1) := by rw [hb]; unfold bgn barOf; rw [er]
        refine ⟨_, rfl, t, _, _, .ref b, rfl, rfl, SqT.of g2, itV_2 _ _, b, _, _, .int it.st, rfl, rfl, SqT.of g3, rfl, _, rfl, t, _, _, .ref b, rfl, rfl, SqT.of g2, itV_2 _ _, b, _, _, .int it.sh, rfl, rfl, SqT.of g3, rfl, _, rfl, _, rfl, _, rfl, r, _, _, .ref u, rfl, rfl, SqL.of hr1, refs_at0 u1, u, _, _, .int (row.getD 0 0), rfl, rfl, SqT.of u2, ix0, _, _, rfl, rfl, _, _, _, rfl, it.st, it.sh, c + row.getD 0 0, rfl, rfl, rfl, st0, ?_⟩
        rw [hv]
        refine ⟨_, rfl, .inl ⟨rfl, _, SqL.of d1⟩, _, rfl, d, _, _, rfl, rfl, d1, sz_lt (by rw [momL_len]; omega), ?_⟩
        have d2 : (upd H2 d (.lst (momL D R (2 * i + 1) ++ [.int (moR D.its R D.opens (2 * i + 1))]))) d = some (.lst (momL D R (2 * i + 2))) := by rw [upd_same, show momL D R (2 * i + 2) = _ from momL_add (n := 2 * i + 1)]
        have e2 : Ex H (upd H2 d (.lst (momL D R (2 * i + 1) ++ [.int (moR D.its R D.opens (2 * i + 1))]))) := e1.mut hdn
        have td : t ≠ d := fun z => by rw [z, d1] at g2; cases g2
        have g2 : (upd H2 d (.lst (momL D R (2 * i + 1) ++ [.int (moR D.its R D.opens (2 * i + 1))]))) t = some (.tup (itV b it)) := (upd_ne td).trans g2
        have ud : u ≠ d := fun z => by rw [z, d1] at u2; cases u2
        have u2 : (upd H2 d (.lst (momL D R (2 * i + 1) ++ [.int (moR D.its R D.opens (2 * i + 1))]))) u = some (.tup (row.map V.int)) := (upd_ne ud).trans u2
        have rd : r ≠ d := fun z => by rw [z] at hr10; rw [hr10] at hdn; cases hdn
        have hr1 : (upd H2 d (.lst (momL D R (2 * i + 1) ++ [.int (moR D.its R D.opens (2 * i + 1))]))) r = some (.lst (us.map V.ref)) := (upd_ne rd).trans hr1
        generalize upd H2 d (.lst (momL D R (2 * i + 1) ++ [.int (moR D.its R D.opens (2 * i + 1))])) = H3 at d2 e2 g2 u2 hr1 ⊢
        refine ⟨_, rfl, t, _, _, .str (if it.pc then "piece" else "break"), rfl, rfl, SqT.of g2, itV_0 _ _, rfl, _, rfl, if2 (fun ep => ?_) (fun ep => ?_)⟩
        · have ep : it.pc = true := by rw [← ep]; exact pc_eq.symm
          rw [if_pos ep] at he
          have r1 : 1 < row.length := by rw [w2, ep]; decide
          refine ⟨_, rfl, .inl ⟨rfl, _, SqL.of d2⟩, _, rfl, _, rfl, _, rfl, r, _, _, .ref u, rfl, rfl, SqL.of hr1, refs_at0 u1, u, _, _, .int (row.getD 1 0), rfl, rfl, SqT.of u2, ints_at (j := 1) r1, _, _, rfl, rfl, d, _, _, rfl, rfl, d2, sz_lt (by rw [momL_len]; omega), e2.mut hdn, ?_, _, _, _, _, rfl⟩
          rw [upd_same, show 2 * (i + 1) + 1 = 2 * i + 2 + 1 by omega, momL_add (n := 2 * i + 2), he]
        · have ep : it.pc = false := by rw [← ep]; exact pc_eq.symm
          rw [if_neg (by rw [ep]; exact Bool.false_ne_true)] at he
          obtain ⟨o1, o2, o3, o4, o5⟩ := oki.br ep
          refine ⟨_, rfl, .inl ⟨rfl, _, SqL.of d2⟩, _, rfl, _, rfl, t, _, _, .int it.x, rfl, rfl, SqT.of g2, itV_5 _ _, _, rfl, t, _, _, .int it.y, rfl, rfl, SqT.of g2, itV_6 _ _, _, _, rfl, rfl, cm_l ⟨by omega, by omega⟩, _, _, rfl, rfl, d, _, _, rfl, rfl, d2, sz_lt (by rw [momL_len]; omega), e2.mut hdn, ?_, _, _, _, _, rfl⟩
          rw [upd_same, show 2 * (i + 1) + 1 = 2 * i + 2 + 1 by omega, momL_add (n := 2 * i + 2), he]
      · have er : rdy it (moR D.its R D.opens (2 * i)) = moR D.its R D.opens (2 * i) := by unfold rdy; rw [hm]; exact if_neg (of_decide_eq_false ec)
        have hv : ((moR D.its R D.opens (2 * i)) + row.getD 0 0) + (it.sh - ((moR D.its R D.opens (2 * i)) + row.getD 0 0)).fmod it.st = moR D.its R D.opens (2 * i + 1) := by rw [hb]; unfold bgn barOf; rw [er]
        refine ⟨_, rfl, t, _, _, .ref b, rfl, rfl, SqT.of g2, itV_2 _ _, b, _, _, .int it.st, rfl, rfl, SqT.of g3, rfl, _, rfl, t, _, _, .ref b, rfl, rfl, SqT.of g2, itV_2 _ _, b, _, _, .int it.sh, rfl, rfl, SqT.of g3, rfl, _, rfl, _, rfl, _, rfl, r, _, _, .ref u, rfl, rfl, SqL.of hr1, refs_at0 u1, u, _, _, .int (row.getD 0 0), rfl, rfl, SqT.of u2, ix0, _, _, rfl, rfl, _, _, _, rfl, it.st, it.sh, (moR D.its R D.opens (2 * i)) + row.getD 0 0, rfl, rfl, rfl, st0, ?_⟩
        rw [hv]
        refine ⟨_, rfl, .inl ⟨rfl, _, SqL.of d1⟩, _, rfl, d, _, _, rfl, rfl, d1, sz_lt (by rw [momL_len]; omega), ?_⟩
        have d2 : (upd H2 d (.lst (momL D R (2 * i + 1) ++ [.int (moR D.its R D.opens (2 * i + 1))]))) d = some (.lst (momL D R (2 * i + 2))) := by rw [upd_same, show momL D R (2 * i + 2) = _ from momL_add (n := 2 * i + 1)]
        have e2 : Ex H (upd H2 d (.lst (momL D R (2 * i + 1) ++ [.int (moR D.its R D.opens (2 * i + 1))]))) := e1.mut hdn
        have td : t ≠ d := fun z => by rw [z, d1] at g2; cases g2
        have g2 : (upd H2 d (.lst (momL D R (2 * i + 1) ++ [.int (moR D.its R D.opens (2 * i + 1))]))) t = some (.tup (itV b it)) := (upd_ne td).trans g2
        have ud : u ≠ d := fun z => by rw [z, d1] at u2; cases u2
        have u2 : (upd H2 d (.lst (momL D R (2 * i + 1) ++ [.int (moR D.its R D.opens (2 * i + 1))]))) u = some (.tup (row.map V.int)) := (upd_ne ud).trans u2
        have rd : r ≠ d := fun z => by rw [z] at hr10; rw [hr10] at hdn; cases hdn
        have hr1 : (upd H2 d (.lst (momL D R (2 * i + 1) ++ [.int (moR D.its R D.opens (2 * i + 1))]))) r = some (.lst (us.map V.ref)) := (upd_ne rd).trans hr1
        generalize upd H2 d (.lst (momL D R (2 * i + 1) ++ [.int (moR D.its R D.opens (2 * i + 1))])) = H3 at d2 e2 g2 u2 hr1 ⊢
        refine ⟨_, rfl, t, _, _, .str (if it.pc then "piece" else "break"), rfl, rfl, SqT.of g2, itV_0 _ _, rfl, _, rfl, if2 (fun ep => ?_) (fun ep => ?_)⟩
        · have ep : it.pc = true := by rw [← ep]; exact pc_eq.symm
          rw [if_pos ep] at he
          have r1 : 1 < row.length := by rw [w2, ep]; decide
          refine ⟨_, rfl, .inl ⟨rfl, _, SqL.of d2⟩, _, rfl, _, rfl, _, rfl, r, _, _, .ref u, rfl, rfl, SqL.of hr1, refs_at0 u1, u, _, _, .int (row.getD 1 0), rfl, rfl, SqT.of u2, ints_at (j := 1) r1, _, _, rfl, rfl, d, _, _, rfl, rfl, d2, sz_lt (by rw [momL_len]; omega), e2.mut hdn, ?_, _, _, _, _, rfl⟩
          rw [upd_same, show 2 * (i + 1) + 1 = 2 * i + 2 + 1 by omega, momL_add (n := 2 * i + 2), he]
        · have ep : it.pc = false := by rw [← ep]; exact pc_eq.symm
          rw [if_neg (by rw [ep]; exact Bool.false_ne_true)] at he
          obtain ⟨o1, o2, o3, o4, o5⟩ := oki.br ep
          refine ⟨_, rfl, .inl ⟨rfl, _, SqL.of d2⟩, _, rfl, _, rfl, t, _, _, .int it.x, rfl, rfl, SqT.of g2, itV_5 _ _, _, rfl, t, _, _, .int it.y, rfl, rfl, SqT.of g2, itV_6 _ _, _, _, rfl, rfl, cm_l ⟨by omega, by omega⟩, _, _, rfl, rfl, d, _, _, rfl, rfl, d2, sz_lt (by rw [momL_len]; omega), e2.mut hdn, ?_, _, _, _, _, rfl⟩
          rw [upd_same, show 2 * (i + 1) + 1 = 2 * i + 2 + 1 by omega, momL_add (n := 2 * i + 2), he]
  · obtain ⟨e1, d1, x3, x4, x5, x6, rfl⟩ := h
    have : (((ts.map V.ref).length : Int).toNat) = D.its.length := by rw [List.length_map]; omega
    rw [this] at d1
    exact ⟨_, rfl, q d _ hdn e1 d1⟩
end
end BB
namespace BB
open PySem PySem.Spec PyProof.Rows L2 He Evl
section
variable {K : PySem.W.Frag} {mg : Str → Option Value} {w : World} {base : Heap} {H H' : Hp} {a : Addr}
def sp_moment (K : PySem.W.Frag) : Sp := S4 fun a b c d H Q => ∃ (dl r ml t : Addr) (D : DyD) (R : List (List Int)) (e : EvD), a = .ref dl ∧ b = .ref r ∧ c = .ref ml ∧ d = .ref t ∧ DayL H dl D ∧ RowV H r R ∧ RowOk D.its R ∧ H ml = some (.lst (momL D R (2 * D.its.length + 1))) ∧ EvOk D.its e ∧ H t = some (.tup (evV D.its e)) ∧ Q (.int (moE D R e)) H
theorem ok_moment (T : TX K mg w) : FnR PP w K mg base CX0 3 (ga K "_law_moment") (sp_moment K) := by
  refine mkS4 (bn T.f_moment (fun _ _ _ _ _ _ us hl => match us, hl with | [_, _, _, _], _ => rfl)) sc_moment fun cdv A outer s H a b c d Q E hr h => ?_
  refine ⟨_, (pss_cons (ps_set (i := 4) sc_moment.nd rfl (Or.inl rfl) (pe_ix ix_list (pv 2) (pe_fn (ok_point T) (hr.mono (by decide)) T.kp_point T.g__law_point (pa_cons (pv 0) (pa_cons (pv 3) pa_nil))) (fun _ _ => rfl)))
      (pss_cons (ps_if (pt_cmpR op_eq (pe_ix ix_tup (pv 3) pe_int (fun _ _ => rfl)) pe_str (nomark _)) (pss_one (ps_ret (pe_op op_add (pv 4) (pe_ix ix_tup (pe_ix ix_list (pv 1) (pe_fn (ok_at T) (hr.mono (by decide)) T.kp_at T.g__law_at (pa_cons (pv 0) (pa_cons (pe_ix ix_tup (pv 3) pe_int (fun _ _ => rfl)) pa_nil))) (fun _ _ => rfl)) pe_int (fun _ _ => rfl)))))
        pss_nil)
      (pss_cons (ps_if (pt_cmpR op_eq (pe_ix ix_tup (pv 3) pe_int (fun _ _ => rfl)) pe_str (nomark _)) (pss_one (ps_ret (pe_op op_add (pv 4) (pe_ix ix_tup (pe_ix ix_list (pv 1) (pe_fn (ok_at T) (hr.mono (by decide)) T.kp_at T.g__law_at (pa_cons (pv 0) (pa_cons (pe_ix ix_tup (pv 3) pe_int (fun _ _ => rfl)) pa_nil))) (fun _ _ => rfl)) pe_int (fun _ _ => rfl)))))
        pss_nil)
      (pss_cons (ps_if (pt_cmpR op_eq (pe_ix ix_tup (pv 3) pe_int (fun _ _ => rfl)) pe_str (nomark _)) (pss_one (ps_ret (pe_op op_add (pv 4) (pe_op op_mul (pe_ix ix_tup (pv 3) pe_int (fun _ _ => rfl)) (pe_ix ix_tup (pe_ix ix_list (pe_ix ix_list (pv 0) pe_int (fun _ _ => rfl)) (pe_fn (ok_at T) (hr.mono (by decide)) T.kp_at T.g__law_at (pa_cons (pv 0) (pa_cons (pe_ix ix_tup (pv 3) pe_int (fun _ _ => rfl)) pa_nil))) (fun _ _ => rfl)) pe_int (fun _ _ => rfl))))))
        pss_nil)
      (pss_one (ps_ret (pv 4))))))), ?_⟩
  obtain ⟨dl, r, ml, t, D, R, e, rfl, rfl, rfl, rfl, hD, hR, rok, hm, hE, ht, q⟩ := h
  obtain ⟨st, cr, ap, zs, kl, wt, pt, il, ts, hG, ok⟩ := id hD
  obtain ⟨us, hr1, hr2, hr3⟩ := id hR
  have hah := ok.hs.ah
  obtain ⟨p, hp, hle⟩ := ptOf_nat hE (by omega)
  have ixm : atI (momL D R (2 * D.its.length + 1)) (ptOf D e) = some (.int (moR D.its R D.opens p)) := by rw [hp]; exact momL_at (by omega)
  have em : moE D R e = moR D.its R D.opens p + exR D.its R e := by unfold moE; rw [hp, Int.toNat_natCast]
  rw [em] at q
  refine ⟨_, rfl, _, rfl, _, rfl, _, _, rfl, dl, t, D, e, rfl, rfl, hD, hE, ht, ml, _, _, _, rfl, rfl, SqL.of hm, ixm, ?_⟩
  cases e with
  | op =>
    have q : Q (.int (moR D.its R D.opens p)) H := by rw [show exR D.its R .op = 0 from rfl, Int.add_zero] at q; exact q
    exact ⟨_, rfl, t, _, _, .str "opens", rfl, rfl, SqT.of ht, rfl, rfl, _, rfl, ifF rfl ⟨_, rfl, t, _, _, .str "opens", rfl, rfl, SqT.of ht, rfl, rfl, _, rfl, ifF rfl ⟨_, rfl, t, _, _, .str "opens", rfl, rfl, SqT.of ht, rfl, rfl, _, rfl, ifF rfl ⟨_, rfl, q⟩⟩⟩⟩
  | pl k n =>
    obtain ⟨it, hk, hpc, h0, h1⟩ := hE
    have hnm := nmOf_eq hk
    have ht : H t = some (.tup [.str "place", .str it.nm, .int n]) := by rw [← hnm]; exact ht
    obtain ⟨o1, o2, o3, o4, o5⟩ := (ok.its.ok it (List.mem_of_getElem? hk)).br hpc
    obtain ⟨tt, b, g1, g2, g3⟩ := hG.item hk
    have ee : exR D.its R (.pl k n) = n * it.y := by
      show (match D.its[k]? with | some it => n * it.y | none => 0) = _
      rw [hk]
    rw [ee] at q
    refine ⟨_, rfl, t, _, _, .str "place", rfl, rfl, SqT.of ht, rfl, rfl, _, rfl, ifF rfl ⟨_, rfl, t, _, _, .str "place", rfl, rfl, SqT.of ht, rfl, rfl, _, rfl, ifF rfl ⟨_, rfl, t, _, _, .str "place", rfl, rfl, SqT.of ht, rfl, rfl, _, rfl, ifT rfl ?_⟩⟩⟩
    exact ⟨_, rfl, _, rfl, t, _, _, .int n, rfl, rfl, SqT.of ht, rfl, _, rfl, dl, _, _, .ref il, rfl, rfl, SqL.of hG.at_, rfl, _, rfl, _, rfl, t, _, _, .str it.nm, rfl, rfl, SqT.of ht, rfl, _, _, rfl, dl, D, k, it, rfl, hD, hk, rfl, il, _, _, .ref tt, rfl, rfl, SqL.of hG.items, refs_at g1, tt, _, _, .int it.y, rfl, rfl, SqT.of g2, itV_6 _ _, _, _, rfl, rfl, cm_l ⟨by omega, by omega⟩, _, _, rfl, rfl, q⟩
  | ev wd k =>
    obtain ⟨it, hk, hw⟩ := id hE
    have hnm := nmOf_eq hk
    have ht : H t = some (.tup [.str wd.s, .str it.nm]) := by rw [← hnm]; exact ht
    obtain ⟨row, w1, w2⟩ := rok.get hk
    obtain ⟨u, u1, u2⟩ := hr3 k row w1
    have hRk : R.getD k [] = row := by rw [List.getD_eq_getElem?_getD, w1]; rfl
    cases wd with
    | enter =>
      obtain ⟨it', hk', hpc⟩ := ev_pc hE (.inl rfl)
      rw [hk] at hk'
      cases hk'
      have l4 : 2 < row.length := by rw [w2, hpc]; decide
      have ee : exR D.its R (.ev .enter k) = row.getD 2 0 := by show (R.getD k []).getD 2 0 = _; rw [hRk]
      rw [ee] at q
      refine ⟨_, rfl, t, _, _, .str "enter", rfl, rfl, SqT.of ht, rfl, rfl, _, rfl, ifT rfl ?_⟩
      exact ⟨_, rfl, _, rfl, _, rfl, _, rfl, t, _, _, .str it.nm, rfl, rfl, SqT.of ht, rfl, _, _, rfl, dl, D, k, it, rfl, hD, hk, rfl, r, _, _, .ref u, rfl, rfl, SqL.of hr1, refs_at u1, u, _, _, .int (row.getD 2 0), rfl, rfl, SqT.of u2, ints_at (j := 2) l4, _, _, rfl, rfl, q⟩
    | out =>
      obtain ⟨it', hk', hpc⟩ := ev_pc hE (.inr rfl)
      rw [hk] at hk'
      cases hk'
      have l4 : 3 < row.length := by rw [w2, hpc]; decide
      have ee : exR D.its R (.ev .out k) = row.getD 3 0 := by show (R.getD k []).getD 3 0 = _; rw [hRk]
      rw [ee] at q
      refine ⟨_, rfl, t, _, _, .str "out", rfl, rfl, SqT.of ht, rfl, rfl, _, rfl, ifF rfl ⟨_, rfl, t, _, _, .str "out", rfl, rfl, SqT.of ht, rfl, rfl, _, rfl, ifT rfl ?_⟩⟩
      exact ⟨_, rfl, _, rfl, _, rfl, _, rfl, t, _, _, .str it.nm, rfl, rfl, SqT.of ht, rfl, _, _, rfl, dl, D, k, it, rfl, hD, hk, rfl, r, _, _, .ref u, rfl, rfl, SqL.of hr1, refs_at u1, u, _, _, .int (row.getD 3 0), rfl, rfl, SqT.of u2, ints_at (j := 3) l4, _, _, rfl, rfl, q⟩
    | begin_ =>
      have q : Q (.int (moR D.its R D.opens p)) H := by rw [show exR D.its R (.ev .begin_ k) = 0 from rfl, Int.add_zero] at q; exact q
      exact ⟨_, rfl, t, _, _, .str "begin", rfl, rfl, SqT.of ht, rfl, rfl, _, rfl, ifF rfl ⟨_, rfl, t, _, _, .str "begin", rfl, rfl, SqT.of ht, rfl, rfl, _, rfl, ifF rfl ⟨_, rfl, t, _, _, .str "begin", rfl, rfl, SqT.of ht, rfl, rfl, _, rfl, ifF rfl ⟨_, rfl, q⟩⟩⟩⟩
    | end_ =>
      have q : Q (.int (moR D.its R D.opens p)) H := by rw [show exR D.its R (.ev .end_ k) = 0 from rfl, Int.add_zero] at q; exact q
      exact ⟨_, rfl, t, _, _, .str "end", rfl, rfl, SqT.of ht, rfl, rfl, _, rfl, ifF rfl ⟨_, rfl, t, _, _, .str "end", rfl, rfl, SqT.of ht, rfl, rfl, _, rfl, ifF rfl ⟨_, rfl, t, _, _, .str "end", rfl, rfl, SqT.of ht, rfl, rfl, _, rfl, ifF rfl ⟨_, rfl, q⟩⟩⟩⟩
    | call =>
      have q : Q (.int (moR D.its R D.opens p)) H := by rw [show exR D.its R (.ev .call k) = 0 from rfl, Int.add_zero] at q; exact q
      exact ⟨_, rfl, t, _, _, .str "call", rfl, rfl, SqT.of ht, rfl, rfl, _, rfl, ifF rfl ⟨_, rfl, t, _, _, .str "call", rfl, rfl, SqT.of ht, rfl, rfl, _, rfl, ifF rfl ⟨_, rfl, t, _, _, .str "call", rfl, rfl, SqT.of ht, rfl, rfl, _, rfl, ifF rfl ⟨_, rfl, q⟩⟩⟩⟩
def sp_apart (K : PySem.W.Frag) : Sp := S4 fun a b c d H Q => ∃ (dl r t1 t2 : Addr) (D : DyD) (R : List (List Int)) (e f : EvD), a = .ref dl ∧ b = .ref r ∧ c = .ref t1 ∧ d = .ref t2 ∧ DayL H dl D ∧ RowV H r R ∧ RowOk D.its R ∧ EvOk D.its e ∧ EvOk D.its f ∧ H t1 = some (.tup (evV D.its e)) ∧ H t2 = some (.tup (evV D.its f)) ∧ ∀ H', Ex H H' → Q (.int (apR D R e f)) H'
theorem ok_apart (T : TX K mg w) : FnR PP w K mg base CX0 4 (ga K "_law_apart") (sp_apart K) := by
  refine mkS4 (bn T.f_apart (fun _ _ _ _ _ _ us hl => match us, hl with | [_, _, _, _], _ => rfl)) sc_apart fun cdv A outer s H a b c d Q E hr h => ?_
  refine ⟨_, (pss_cons (ps_set (i := 4) sc_apart.nd rfl (Or.inl rfl) (pe_fn (ok_moments T) (hr.mono (by decide)) T.kp_moments T.g__law_moments (pa_cons (pv 0) (pa_cons (pv 1) pa_nil))))
      (pss_one (ps_ret (pe_op op_sub (pe_fn (ok_moment T) (hr.mono (by decide)) T.kp_moment T.g__law_moment (pa_cons (pv 0) (pa_cons (pv 1) (pa_cons (pv 4) (pa_cons (pv 3) pa_nil))))) (pe_fn (ok_moment T) (hr.mono (by decide)) T.kp_moment T.g__law_moment (pa_cons (pv 0) (pa_cons (pv 1) (pa_cons (pv 4) (pa_cons (pv 2) pa_nil))))))))), ?_⟩
  obtain ⟨dl, r, t1, t2, D, R, e, f, rfl, rfl, rfl, rfl, hD, hR, rok, he, hf, h1, h2, q⟩ := h
  refine ⟨_, rfl, _, rfl, _, _, rfl, dl, r, D, R, rfl, rfl, hD, hR, rok, fun ml H1 nml e1 hml => ?_⟩
  exact ⟨_, rfl, _, rfl, _, rfl, _, rfl, _, _, _, _, rfl, dl, r, ml, t2, D, R, f, rfl, rfl, rfl, rfl, hD.mono e1, hR.mono e1, rok, hml, hf, e1 _ _ h2, _, rfl, _, rfl, _, rfl, _, rfl, _, _, _, _, rfl, dl, r, ml, t1, D, R, e, rfl, rfl, rfl, rfl, hD.mono e1, hR.mono e1, rok, hml, he, e1 _ _ h1, _, _, rfl, rfl, q _ e1⟩
def sp_event (K : PySem.W.Frag) : Sp := S2 fun a b H Q => ∃ (dl : Addr) (D : DyD) (p : Nat), a = .ref dl ∧ b = .int (p : Nat) ∧ DayL H dl D ∧ p ≤ 2 * D.its.length ∧ ∀ t H', Ex H H' → H' t = some (.tup (evV D.its (evP p))) → Q (.ref t) H'
theorem ok_event (T : TX K mg w) : FnR PP w K mg base CX0 1 (ga K "_law_event") (sp_event K) := by
  refine mkS2 (bn T.f_event (fun _ _ _ _ _ _ us hl => match us, hl with | [_, _], _ => rfl)) sc_event fun cdv A outer s H a b Q E hr h => ?_
  refine ⟨_, (pss_cons (ps_if (pt_cmpR op_eq (pv 1) pe_int (nomark _)) (pss_one (ps_ret (pe_tup (pa_cons pe_str pa_nil))))
        pss_nil)
      (pss_cons (ps_if (pt_cmpR op_eq (pe_op op_modN (pe_callTy call_int1 (by rfl) T.n_int (by decide +kernel) (pa_cons (pv 1) pa_nil)) pe_int) pe_int (nomark _)) (pss_one (ps_ret (pe_tup (pa_cons pe_str (pa_cons (pe_ix ix_tup (pe_ix ix_list (pe_ix ix_list (pv 0) pe_int (fun _ _ => rfl)) (pe_op op_fdivN (pv 1) pe_int) (fun _ _ => rfl)) pe_int (fun _ _ => rfl)) pa_nil)))))
        pss_nil)
      (pss_one (ps_ret (pe_tup (pa_cons pe_str (pa_cons (pe_ix ix_tup (pe_ix ix_list (pe_ix ix_list (pv 0) pe_int (fun _ _ => rfl)) (pe_op op_sub (pe_op op_fdivN (pv 1) pe_int) pe_int) (fun _ _ => rfl)) pe_int (fun _ _ => rfl)) pa_nil))))))), ?_⟩
  obtain ⟨dl, D, p, rfl, rfl, ⟨st, cr, ap, zs, kl, wt, pt, il, ts, hG, ok⟩, hp, q⟩ := h
  unfold evP at q
  refine ⟨_, rfl, rfl, _, rfl, if2 (fun e0 => ?_) (fun e0 => ?_)⟩
  · have e0 : p = 0 := by have := V.int.inj (of_decide_eq_true e0); omega
    rw [if_pos e0] at q
    exact ⟨by show 1 ≤ sizeLine; decide, fun t ht => q t _ (Ex.new ht) upd_same⟩
  · have e0 : p ≠ 0 := fun z => of_decide_eq_false e0 (by rw [z]; rfl)
    rw [if_neg e0] at q
    refine ⟨_, rfl, .inl ⟨_, rfl, _, _, rfl, rfl, (show (2 : Int) ≠ 0 by decide), rfl, _, rfl, if2 (fun e1 => ?_) (fun e1 => ?_)⟩⟩
    · have e1 : p % 2 = 1 := by have := V.int.inj (of_decide_eq_true e1); rw [mod2] at this; omega
      rw [if_pos e1] at q
      have hk := List.getElem?_eq_getElem (show p / 2 < D.its.length by omega)
      obtain ⟨t, b, g1, g2, g3⟩ := hG.item hk
      have hn : evV D.its (.ev .begin_ (p / 2)) = [.str "begin", .str D.its[p / 2].nm] := by show [V.str EvW.begin_.s, V.str (nmOf D.its (p / 2))] = _; rw [nmOf_eq hk]; rfl
      rw [hn] at q
      exact ⟨_, rfl, dl, _, _, .ref il, rfl, rfl, SqL.of hG.at_, rfl, _, rfl, _, _, rfl, rfl, cd2 _, il, _, _, .ref t, rfl, rfl, SqL.of hG.items, (by rw [div2]; exact refs_at g1), t, _, _, .str D.its[p / 2].nm, rfl, rfl, SqT.of g2, itV_1 _ _, by show 2 ≤ sizeLine; decide, fun u hu => q u _ (Ex.new hu) upd_same⟩
    · have e1 : ¬ p % 2 = 1 := fun z => of_decide_eq_false e1 (by show V.int ((p : Int).fmod 2) = V.int 1; rw [mod2, z]; rfl)
      rw [if_neg e1] at q
      have hk := List.getElem?_eq_getElem (show p / 2 - 1 < D.its.length by omega)
      obtain ⟨t, b, g1, g2, g3⟩ := hG.item hk
      have hn : evV D.its (.ev .end_ (p / 2 - 1)) = [.str "end", .str D.its[p / 2 - 1].nm] := by show [V.str EvW.end_.s, V.str (nmOf D.its (p / 2 - 1))] = _; rw [nmOf_eq hk]; rfl
      rw [hn] at q
      exact ⟨_, rfl, dl, _, _, .ref il, rfl, rfl, SqL.of hG.at_, rfl, _, rfl, _, _, rfl, rfl, cd2 _, _, _, rfl, rfl, il, _, _, .ref t, rfl, rfl, SqL.of hG.items, (by rw [div2, show ((p / 2 : Nat) : Int) - 1 = ((p / 2 - 1 : Nat) : Int) by omega]; exact refs_at g1), t, _, _, .str D.its[p / 2 - 1].nm, rfl, rfl, SqT.of g2, itV_1 _ _, by show 2 ≤ sizeLine; decide, fun u hu => q u _ (Ex.new hu) upd_same⟩
/-! ### all events -/
structure EvL (H : Hp) (d : Addr) (its : List ItD) (es : List EvD) : Prop where
  ex : ∃ ts : List Addr, H d = some (.lst (ts.map V.ref)) ∧ ts.length = es.length ∧ ∀ (i : Nat) (e : EvD), es[i]? = some e → ∃ t, ts[i]? = some t ∧ H t = some (.tup (evV its e))
theorem EvL.mono {d : Addr} {its : List ItD} {es : List EvD} (h : EvL H d its es) (e : Ex H H') : EvL H' d its es := by
  obtain ⟨ts, h1, h2, h3⟩ := h.ex
  refine ⟨ts, e _ _ h1, h2, fun i x hi => ?_⟩
  obtain ⟨t, h4, h5⟩ := h3 i x hi
  exact ⟨t, h4, e _ _ h5⟩
theorem EvL.push {d t : Addr} {its : List ItD} {es : List EvD} {e : EvD} {xs : List V} (h : EvL H d its es) (hd : H d = some (.lst xs)) (ht : H t = some (.tup (evV its e))) : EvL (upd H d (.lst (xs ++ [.ref t]))) d its (es ++ [e]) := by
  obtain ⟨ts, h1, h2, h3⟩ := h.ex
  rw [hd] at h1
  cases h1
  have ne : ∀ {b : Addr} {vs : List V}, H b = some (.tup vs) → (upd H d (.lst (ts.map V.ref ++ [.ref t]))) b = some (.tup vs) := fun {b vs} hb => by
    rw [upd_ne (fun z => by rw [z, hd] at hb; cases hb)]
    exact hb
  refine ⟨ts ++ [t], by rw [upd_same, List.map_append]; rfl, by simp [h2], fun i x hi => ?_⟩
  by_cases hlt : i < es.length
  · rw [List.getElem?_append_left hlt] at hi
    obtain ⟨t', h4, h5⟩ := h3 i x hi
    exact ⟨t', by rw [List.getElem?_append_left (by rw [h2]; exact hlt)]; exact h4, ne h5⟩
  · rw [List.getElem?_append_right (by omega)] at hi
    have : i = es.length := by
      have := (List.getElem?_eq_some_iff.mp hi).1
      simp at this
      omega
    subst this
    rw [Nat.sub_self] at hi
    cases hi
    exact ⟨t, by rw [List.getElem?_append_right (by rw [h2]; exact Nat.le_refl _), h2, Nat.sub_self]; rfl, ne ht⟩
end
end BB
namespace BB
open PySem PySem.Spec PyProof.Rows L2 He Evl
section
variable {K : PySem.W.Frag} {mg : Str → Option Value} {w : World} {base : Heap} {H H' : Hp} {a : Addr}
/-- the events so far -/
structure EvS (H0 H : Hp) (d : Addr) (its : List ItD) (es : List EvD) : Prop where
  e : Ex H0 H
  l : EvL H d its es
  ok : ∀ e ∈ es, EvOk its e
  z : es[0]? = some .op
theorem EvS.push {H0 : Hp} {d t : Addr} {its : List ItD} {es : List EvD} {e : EvD} {vs : List V} {xs : List V} (h : EvS H0 H d its es) (hd0 : H0 d = none) (ht : H t = none) (ev : vs = evV its e) (hd : H d = some (.lst xs)) (he : EvOk its e) : EvS H0 (upd (upd H t (.tup vs)) d (.lst (xs ++ [.ref t]))) d its (es ++ [e]) := by
  subst ev
  have e1 : Ex H (upd H t (.tup (evV its e))) := Ex.new ht
  refine ⟨(h.e.trans e1).mut hd0, (h.l.mono e1).push (e1 _ _ hd) upd_same, fun x hx => ?_, ?_⟩
  · rcases List.mem_append.mp hx with hx | hx
    · exact h.ok x hx
    · rw [List.mem_singleton.mp hx]
      exact he
  · have := h.z
    rw [List.getElem?_append_left (by have := (List.getElem?_eq_some_iff.mp this).1; exact this)]
    exact this
def sp_events (K : PySem.W.Frag) : Sp := S1 fun a H Q => ∃ (dl : Addr) (D : DyD), a = .ref dl ∧ DayL H dl D ∧ ∀ (d : Addr) (es : List EvD) (H' : Hp), H d = none → EvS H H' d D.its es → es.length ≤ 1000 → Q (.ref d) H'
theorem ok_events (T : TX K mg w) : FnR PP w K mg base CX0 1 (ga K "_law_events") (sp_events K) := by
  refine mkS1 (bn T.f_events (fun _ _ _ _ _ _ us hl => match us, hl with | [_], _ => rfl)) sc_events fun cdv A outer s H a Q E hr h => ?_
  refine ⟨_, (pss_cons (ps_set (i := 1) sc_events.nd rfl (Or.inl rfl) (pe_lst (pa_cons (pe_tup (pa_cons pe_str pa_nil)) pa_nil)))
      (pss_cons (ps_for PassesOwn.never rfl (pi_list (pe_ix ix_list (pv 0) pe_int (fun _ _ => rfl))) (pg_name (i := 2) sc_events.nd rfl (Or.inl rfl))
        (pss_cons (ps_expr (pe_bm PySem.F.plainAttrs_list PySem.F.slot_list_append PySem.F.type_list_append mt_append (pv 1) (pa_cons (pe_tup (pa_cons pe_str (pa_cons (pe_ix ix_tup (pv 2) pe_int (fun _ _ => rfl)) pa_nil))) pa_nil)))
      (pss_cons (ps_expr (pe_bm PySem.F.plainAttrs_list PySem.F.slot_list_append PySem.F.type_list_append mt_append (pv 1) (pa_cons (pe_tup (pa_cons pe_str (pa_cons (pe_ix ix_tup (pv 2) pe_int (fun _ _ => rfl)) pa_nil))) pa_nil)))
      (pss_one (ps_if (pt_cmpR op_eq (pe_ix ix_tup (pv 2) pe_int (fun _ _ => rfl)) pe_str (nomark _)) (pss_one (ps_for PassesOwn.never rfl (pi_list (pe_lst (pa_cons pe_str (pa_cons pe_str (pa_cons pe_str pa_nil))))) (pg_name (i := 3) sc_events.nd rfl (Or.inl rfl))
        (pss_one (ps_expr (pe_bm PySem.F.plainAttrs_list PySem.F.slot_list_append PySem.F.type_list_append mt_append (pv 1) (pa_cons (pe_tup (pa_cons (pv 3) (pa_cons (pe_ix ix_tup (pv 2) pe_int (fun _ _ => rfl)) pa_nil))) pa_nil))))))
        (pss_one (ps_for PassesOwn.never rfl (pi_range1 rfl T.n_range (pa_cons (pe_ix ix_tup (pv 2) pe_int (fun _ _ => rfl)) pa_nil)) (pg_name (i := 4) sc_events.nd rfl (Or.inl rfl))
        (pss_one (ps_expr (pe_bm PySem.F.plainAttrs_list PySem.F.slot_list_append PySem.F.type_list_append mt_append (pv 1) (pa_cons (pe_tup (pa_cons pe_str (pa_cons (pe_ix ix_tup (pv 2) pe_int (fun _ _ => rfl)) (pa_cons (pv 4) pa_nil)))) pa_nil)))))))))))
      (pss_one (ps_ret (pv 1))))), ?_⟩
  obtain ⟨dl, D, rfl, ⟨st, cr, ap, zs, kl, wt, pt, il, ts, hG, ok⟩, q⟩ := h
  have l8 := ok.its.len
  have tl := hG.it.2.1
  refine ⟨by show 1 ≤ sizeLine; decide, fun t0 ht0 => ⟨by show 1 ≤ sizeLine; decide, fun d hd => ?_⟩⟩
  have hdn : H d = none := fresh_back (Ex.new ht0) hd
  have s0 : EvS H (upd (upd H t0 (.tup [.str "opens"])) d (.lst [.ref t0])) d D.its [.op] := by
    refine ⟨(Ex.new ht0).trans (Ex.new hd), ⟨[t0], upd_same, rfl, fun i e hi => ?_⟩, fun e he => ?_, rfl⟩
    · cases i with
      | zero =>
        cases hi
        exact ⟨t0, rfl, (Ex.new hd) _ _ upd_same⟩
      | succ j => cases hi
    · rw [List.mem_singleton.mp he]
      trivial
  generalize upd (upd H t0 (.tup [.str "opens"])) d (.lst [.ref t0]) = H0 at s0 ⊢
  refine ⟨_, rfl, dl, _, _, .ref il, rfl, rfl, SqL.of (s0.e _ _ hG.at_), rfl, il, rfl, ⟨_, SqL.of (s0.e _ _ hG.items)⟩, ?_⟩
  refine for_it (walk_list (xs := ts.map V.ref)) (fun i σ H' => (∃ es, EvS H H' d D.its es ∧ es.length ≤ 1 + 14 * i) ∧ ∃ x2 x3 x4, σ = [some (.ref dl), some (.ref d), x2, x3, x4]) ⟨⟨_, s0, Nat.le_refl _⟩, _, _, _, rfl⟩ (fun i σ H' _ h => ?_) (fun i x σ H1 H2 hi h yy => ?_) (fun σ H1 h => ?_)
  · obtain ⟨⟨es, hs, _⟩, _⟩ := h
    exact SqL.of (hs.e _ _ hG.items)
  · obtain ⟨⟨es, h1, hl⟩, x2, x3, x4, rfl⟩ := h
    obtain ⟨rfl, ex⟩ := yy
    obtain ⟨t, ht, rfl⟩ := Option.map_eq_some_iff.mp ((List.getElem?_map ..).symm.trans ex)
    have hi2 : i < D.its.length := by rw [List.length_map] at hi; omega
    have hgi := List.getElem?_eq_getElem hi2
    generalize D.its[i] = it at hgi
    obtain ⟨t', b, g1, g2, g3⟩ := hG.item hgi
    rw [ht] at g1
    cases g1
    have hnm := nmOf_eq hgi
    have i8 : i ≤ 7 := by omega
    obtain ⟨ts1, l1, n1, _⟩ := h1.l.ex
    refine ⟨_, rfl, .inl ⟨rfl, _, SqL.of l1⟩, _, rfl, t, _, _, .str it.nm, rfl, rfl, SqT.of (h1.e _ _ g2), itV_1 _ _, by show 2 ≤ sizeLine; decide, fun t1 ht1 => ⟨d, _, _, rfl, rfl, (Ex.new ht1) _ _ l1, sz_lt (by rw [List.length_map, n1]; omega), ?_⟩⟩
    have h2 := h1.push (e := .ev .begin_ i) hdn ht1 (by show _ = [V.str "begin", V.str (nmOf D.its i)]; rw [hnm]) l1 ⟨it, hgi, fun _ => .inl rfl⟩
    generalize upd (upd H2 t1 (HO.tup [V.str "begin", V.str it.nm])) d (HO.lst (List.map V.ref ts1 ++ [V.ref t1])) = H3 at h2 ⊢
    obtain ⟨ts2, l2, n2, _⟩ := h2.l.ex
    refine ⟨_, rfl, .inl ⟨rfl, _, SqL.of l2⟩, _, rfl, t, _, _, .str it.nm, rfl, rfl, SqT.of (h2.e _ _ g2), itV_1 _ _, by show 2 ≤ sizeLine; decide, fun t2 ht2 => ⟨d, _, _, rfl, rfl, (Ex.new ht2) _ _ l2, sz_lt (by rw [List.length_map, n2]; simp; omega), ?_⟩⟩
    have h3 := h2.push (e := .ev .end_ i) hdn ht2 (by show _ = [V.str "end", V.str (nmOf D.its i)]; rw [hnm]) l2 ⟨it, hgi, fun _ => .inr rfl⟩
    generalize upd (upd H3 t2 (HO.tup [V.str "end", V.str it.nm])) d (HO.lst (List.map V.ref ts2 ++ [V.ref t2])) = H4 at h3 ⊢
    have hl3 : (es ++ [EvD.ev .begin_ i] ++ [EvD.ev .end_ i]).length ≤ 1 + 14 * i + 2 := by simp; omega
    generalize es ++ [EvD.ev .begin_ i] ++ [EvD.ev .end_ i] = es3 at h3 hl3
    refine ⟨_, rfl, t, _, _, .str (if it.pc then "piece" else "break"), rfl, rfl, SqT.of (h3.e _ _ g2), itV_0 _ _, rfl, _, rfl, if2 (fun ep => ?_) (fun ep => ?_)⟩
    · have ep : it.pc = true := by rw [← ep]; exact pc_eq.symm
      refine ⟨by show 3 ≤ sizeLine; decide, fun wl hwl => ?_⟩
      have eW : Ex H4 (upd H4 wl (.lst [.str "call", .str "enter", .str "out"])) := Ex.new hwl
      obtain ⟨ts3, l3, n3, _⟩ := h3.l.ex
      have nwd : wl ≠ d := fun z => by rw [z, l3] at hwl; cases hwl
      refine ⟨wl, rfl, ⟨_, SqL.of upd_same⟩, ?_⟩
      refine for_it (walk_list (xs := [.str "call", .str "enter", .str "out"])) (fun j σ H' => (∃ es, EvS H H' d D.its es ∧ es.length ≤ 1 + 14 * i + 2 + j) ∧ H' wl = some (.lst [.str "call", .str "enter", .str "out"]) ∧ ∃ x3 x4, σ = [some (.ref dl), some (.ref d), some (.ref t), x3, x4]) ⟨⟨_, ⟨h3.e.trans eW, h3.l.mono eW, h3.ok, h3.z⟩, hl3⟩, upd_same, _, _, rfl⟩ (fun j σ H' _ h => SqL.of h.2.1) (fun j x σ H5 H6 hj h yy => ?_) (fun σ H5 h => ?_)
      · obtain ⟨⟨es5, h5, hl5⟩, w5, y3, y4, rfl⟩ := h
        obtain ⟨rfl, ex5⟩ := yy
        obtain ⟨wd, rfl⟩ : ∃ wd : EvW, x = .str wd.s := by
          match j, ex5 with
          | 0, e => cases e; exact ⟨.call, rfl⟩
          | 1, e => cases e; exact ⟨.enter, rfl⟩
          | 2, e => cases e; exact ⟨.out, rfl⟩
          | j + 3, e => cases e
        have j3 : j < 3 := hj
        obtain ⟨ts5, l5, n5, _⟩ := h5.l.ex
        refine ⟨_, rfl, .inl ⟨rfl, _, SqL.of l5⟩, _, rfl, _, rfl, t, _, _, .str it.nm, rfl, rfl, SqT.of (h5.e _ _ g2), itV_1 _ _, by show 2 ≤ sizeLine; decide, fun t5 ht5 => ⟨d, _, _, rfl, rfl, (Ex.new ht5) _ _ l5, sz_lt (by rw [List.length_map, n5]; omega), ?_⟩⟩
        have h6 := h5.push (e := .ev wd i) hdn ht5 (by show _ = [V.str wd.s, V.str (nmOf D.its i)]; rw [hnm]) l5 ⟨it, hgi, fun z => absurd (ep.symm.trans z) (by decide)⟩
        have nt : wl ≠ t5 := fun z => by rw [z, ht5] at w5; cases w5
        exact ⟨⟨_, h6, by simp; omega⟩, (upd_ne nwd).trans ((upd_ne nt).trans w5), _, _, rfl⟩
      · obtain ⟨⟨es5, h5, hl5⟩, w5, y3, y4, rfl⟩ := h
        exact ⟨⟨_, h5, by simp at hl5; omega⟩, _, _, _, rfl⟩
    · have ep : it.pc = false := by rw [← ep]; exact pc_eq.symm
      obtain ⟨o1, o2, o3, o4, o5⟩ := (ok.its.ok it (List.mem_of_getElem? hgi)).br ep
      refine ⟨_, rfl, t, _, _, .int it.x, rfl, rfl, SqT.of (h3.e _ _ g2), itV_5 _ _, _, rfl, by omega, by omega, ?_⟩
      refine for_it walk_range (fun j σ H' => (∃ es, EvS H H' d D.its es ∧ es.length ≤ 1 + 14 * i + 2 + j) ∧ ∃ x3 x4, σ = [some (.ref dl), some (.ref d), some (.ref t), x3, x4]) ⟨⟨_, h3, hl3⟩, _, _, rfl⟩ (fun _ _ _ _ _ => trivial) (fun j x σ H5 H6 hj h yy => ?_) (fun σ H5 h => ?_)
      · obtain ⟨⟨es5, h5, hl5⟩, y3, y4, rfl⟩ := h
        obtain ⟨rfl, rfl⟩ := yy
        have j12 : j < 12 := by omega
        obtain ⟨ts5, l5, n5, _⟩ := h5.l.ex
        refine ⟨_, rfl, .inl ⟨rfl, _, SqL.of l5⟩, _, rfl, t, _, _, .str it.nm, rfl, rfl, SqT.of (h5.e _ _ g2), itV_1 _ _, _, rfl, by show 3 ≤ sizeLine; decide, fun t5 ht5 => ⟨d, _, _, rfl, rfl, (Ex.new ht5) _ _ l5, sz_lt (by rw [List.length_map, n5]; omega), ?_⟩⟩
        have h6 := h5.push (e := .pl i (0 + (j : Int))) hdn ht5 (by show _ = [V.str "place", V.str (nmOf D.its i), V.int (0 + (j : Int))]; rw [hnm]) l5 ⟨it, hgi, ep, by omega, by omega⟩
        exact ⟨⟨_, h6, by simp; omega⟩, _, _, rfl⟩
      · obtain ⟨⟨es5, h5, hl5⟩, y3, y4, rfl⟩ := h
        exact ⟨⟨_, h5, by omega⟩, _, _, _, rfl⟩
  · obtain ⟨⟨es, h1, hl⟩, x2, x3, x4, rfl⟩ := h
    exact ⟨_, rfl, q d es _ hdn h1 (by rw [List.length_map] at hl; omega)⟩
end
end BB
namespace BB
open PySem PySem.Spec PyProof.Rows L2 He Evl
theorem SpW.push {H : Hp} {d b : Addr} {ls ts : List Addr} {S : SpD} {sp : List (Int × Int)} (h : SpW H d ls S) (nd : d ∉ ls) (nb : b ≠ d) (hb : H b = some (.lst (ts.map V.ref))) (hl : ts.length = sp.length) (hq : ∀ (j : Nat) (q : Int × Int), sp[j]? = some q → ∃ t, ts[j]? = some t ∧ H t = some (.tup [.int q.1, .int q.2])) :
    SpW (upd H d (.lst (ls.map V.ref ++ [.ref b]))) d (ls ++ [b]) (S ++ [sp]) := by
  have tu : ∀ {t : Addr} {vs : List V}, H t = some (.tup vs) → (upd H d (.lst (ls.map V.ref ++ [.ref b]))) t = some (.tup vs) := fun {t vs} ht => by
    rw [upd_ne (fun z => by rw [z, h.at_] at ht; cases ht)]
    exact ht
  refine ⟨by rw [upd_same, List.map_append]; rfl, by simp [h.len], fun i x hi => ?_⟩
  by_cases hlt : i < S.length
  · rw [List.getElem?_append_left hlt] at hi
    obtain ⟨b', us, h1, h2, h3, h4⟩ := h.row i x hi
    have nb' : b' ≠ d := fun z => nd (z ▸ List.mem_of_getElem? h1)
    refine ⟨b', us, by rw [List.getElem?_append_left (by rw [h.len]; exact hlt)]; exact h1, by rw [upd_ne nb']; exact h2, h3, fun j q hj => ?_⟩
    obtain ⟨t, h5, h6⟩ := h4 j q hj
    exact ⟨t, h5, tu h6⟩
  · rw [List.getElem?_append_right (by omega)] at hi
    have : i = S.length := by
      have := (List.getElem?_eq_some_iff.mp hi).1
      simp at this
      omega
    subst this
    rw [Nat.sub_self] at hi
    cases hi
    refine ⟨b, ts, by rw [List.getElem?_append_right (by rw [h.len]; exact Nat.le_refl _), h.len, Nat.sub_self]; rfl, by rw [upd_ne nb]; exact hb, hl, fun j q hj => ?_⟩
    obtain ⟨t, h5, h6⟩ := hq j q hj
    exact ⟨t, h5, tu h6⟩
theorem spansOf_take {D : DyD} {i : Nat} {it : ItD} (h : D.its[i]? = some it) : (spansOf D).take (i + 1) = (spansOf D).take i ++ [lagsOf D it] := by
  have hl : i < (spansOf D).length := by unfold spansOf; rw [List.length_map]; exact (List.getElem?_eq_some_iff.mp h).1
  rw [take_next hl]
  congr 2
  have : (spansOf D)[i]? = some (lagsOf D it) := by unfold spansOf; rw [List.getElem?_map, h]; rfl
  rw [List.getElem?_eq_getElem hl] at this
  exact Option.some.inj this
section
variable {K : PySem.W.Frag} {mg : Str → Option Value} {w : World} {base : Heap} {H H' : Hp} {a : Addr}
def sp_spans (K : PySem.W.Frag) : Sp := S1 fun a H Q => ∃ (dl : Addr) (D : DyD), a = .ref dl ∧ DayL H dl D ∧ ∀ (sl : Addr) (ls : List Addr) (H' : Hp), H sl = none → (∀ b ∈ ls, H b = none) → ls.Nodup → sl ∉ ls → Ex H H' → SpW H' sl ls (spansOf D) → Q (.ref sl) H'
theorem ok_spans (T : TX K mg w) : FnR PP w K mg base CX0 1 (ga K "_law_spans") (sp_spans K) := by
  refine mkS1 (bn T.f_spans (fun _ _ _ _ _ _ us hl => match us, hl with | [_], _ => rfl)) sc_spans fun cdv A outer s H a Q E hr h => ?_
  refine ⟨_, (pss_cons (ps_set (i := 1) sc_spans.nd rfl (Or.inl rfl) (pe_lst pa_nil))
      (pss_cons (ps_for PassesOwn.never rfl (pi_list (pe_ix ix_list (pv 0) pe_int (fun _ _ => rfl))) (pg_name (i := 2) sc_spans.nd rfl (Or.inl rfl))
        (pss_one (ps_if (pt_cmpR op_eq (pe_ix ix_tup (pv 2) pe_int (fun _ _ => rfl)) pe_str (nomark _)) (pss_one (ps_expr (pe_bm PySem.F.plainAttrs_list PySem.F.slot_list_append PySem.F.type_list_append mt_append (pv 1) (pa_cons (pe_lst (pa_cons (pe_tup (pa_cons pe_int (pa_cons (pe_ix ix_tup (pv 2) pe_int (fun _ _ => rfl)) pa_nil))) (pa_cons (pe_tup (pa_cons (pe_ix ix_tup (pv 2) pe_int (fun _ _ => rfl)) (pa_cons (pe_ix ix_tup (pv 2) pe_int (fun _ _ => rfl)) pa_nil))) (pa_cons (pe_ix ix_list (pv 0) pe_int (fun _ _ => rfl)) (pa_cons (pe_ix ix_list (pv 0) pe_int (fun _ _ => rfl)) pa_nil))))) pa_nil))))
        (pss_one (ps_expr (pe_bm PySem.F.plainAttrs_list PySem.F.slot_list_append PySem.F.type_list_append mt_append (pv 1) (pa_cons (pe_lst (pa_cons (pe_tup (pa_cons pe_int (pa_cons (pe_ix ix_tup (pv 2) pe_int (fun _ _ => rfl)) pa_nil))) pa_nil)) pa_nil)))))))
      (pss_one (ps_ret (pv 1))))), ?_⟩
  obtain ⟨dl, D, rfl, ⟨st, cr, ap, zs, kl, wt, pt, il, ts, hG, ok⟩, q⟩ := h
  have l8 := ok.its.len
  have tl := hG.it.2.1
  refine ⟨by show 0 ≤ sizeLine; decide, fun d hdn => ?_⟩
  have e0 : Ex H (upd H d (.lst [])) := Ex.new hdn
  refine ⟨_, rfl, dl, _, _, .ref il, rfl, rfl, SqL.of (e0 _ _ hG.at_), rfl, il, rfl, ⟨_, SqL.of (e0 _ _ hG.items)⟩, ?_⟩
  refine for_it (walk_list (xs := ts.map V.ref)) (fun i σ H' => Ex H H' ∧ (∃ ls, SpW H' d ls ((spansOf D).take i) ∧ (∀ b ∈ ls, H b = none) ∧ ls.Nodup ∧ d ∉ ls) ∧ ∃ x2, σ = [some (.ref dl), some (.ref d), x2]) ⟨e0, ⟨[], ⟨upd_same, rfl, fun i sp hi => (by simp at hi)⟩, fun b hb => absurd hb List.not_mem_nil, List.nodup_nil, List.not_mem_nil⟩, _, rfl⟩ (fun i σ H' _ h => SqL.of (h.1 _ _ hG.items)) (fun i x σ H1 H2 hi h yy => ?_) (fun σ H1 h => ?_)
  · obtain ⟨e1, ⟨ls, h1, h2, h3, h4⟩, x2, rfl⟩ := h
    obtain ⟨rfl, ex⟩ := yy
    obtain ⟨t, ht, rfl⟩ := Option.map_eq_some_iff.mp ((List.getElem?_map ..).symm.trans ex)
    have hi2 : i < D.its.length := by rw [List.length_map] at hi; omega
    have hgi := List.getElem?_eq_getElem hi2
    generalize D.its[i] = it at hgi
    obtain ⟨t', b, g1, g2, g3⟩ := hG.item hgi
    rw [ht] at g1
    cases g1
    have g2 := e1 _ _ g2
    have hd := e1 _ _ hG.at_
    have d1 := h1.at_
    refine ⟨_, rfl, t, _, _, .str (if it.pc then "piece" else "break"), rfl, rfl, SqT.of g2, itV_0 _ _, rfl, _, rfl, if2 (fun ep => ?_) (fun ep => ?_)⟩
    · have ep : it.pc = true := by rw [← ep]; exact pc_eq.symm
      have eL : lagsOf D it = [(0, it.dl), (it.x, it.y), (D.wl, D.wh), (D.pl, D.ph)] := by unfold lagsOf; rw [ep]; rfl
      refine ⟨_, rfl, .inl ⟨rfl, _, SqL.of d1⟩, _, rfl, t, _, _, .int it.dl, rfl, rfl, SqT.of g2, itV_4 _ _, by show 2 ≤ sizeLine; decide, fun t1 ht1 => ?_⟩
      have f1 : Ex H2 (upd H2 t1 (.tup [.int 0, .int it.dl])) := Ex.new ht1
      have k1 : (upd H2 t1 (.tup [.int 0, .int it.dl])) t1 = some (.tup [.int 0, .int it.dl]) := upd_same
      generalize upd H2 t1 (.tup [.int 0, .int it.dl]) = H3 at f1 k1 ⊢
      refine ⟨_, rfl, t, _, _, .int it.x, rfl, rfl, SqT.of (f1 _ _ g2), itV_5 _ _, _, rfl, t, _, _, .int it.y, rfl, rfl, SqT.of (f1 _ _ g2), itV_6 _ _, by show 2 ≤ sizeLine; decide, fun t2 ht2 => ?_⟩
      have e3 : Ex H2 (upd H3 t2 (.tup [.int it.x, .int it.y])) := f1.trans (Ex.new ht2)
      have k1 := (Ex.new (o := .tup [.int it.x, .int it.y]) ht2) _ _ k1
      have k2 : (upd H3 t2 (.tup [.int it.x, .int it.y])) t2 = some (.tup [.int it.x, .int it.y]) := upd_same
      generalize upd H3 t2 (.tup [.int it.x, .int it.y]) = H4 at e3 k1 k2 ⊢
      have d3 := e3 _ _ d1
      have k3 := (e1.trans e3) _ _ hG.wk
      have k4 := (e1.trans e3) _ _ hG.pk
      refine ⟨_, rfl, dl, _, _, .ref wt, rfl, rfl, SqL.of (e3 _ _ hd), rfl, _, rfl, dl, _, _, .ref pt, rfl, rfl, SqL.of (e3 _ _ hd), rfl, by show 4 ≤ sizeLine; decide, fun b hb => ?_⟩
      have nn : ∀ {x : Addr} {vs : List V}, H4 x = some (.tup vs) → (upd H4 b (.lst [.ref t1, .ref t2, .ref wt, .ref pt])) x = some (.tup vs) := fun h => (Ex.new hb) _ _ h
      have bd : b ≠ d := fun z => by rw [z, d3] at hb; cases hb
      have bl : b ∉ ls := fun z => by
        obtain ⟨j, hj, ej⟩ := List.mem_iff_getElem.mp z
        have hj2 : j < ((spansOf D).take i).length := by rw [← h1.len]; exact hj
        obtain ⟨b', us, k1, k2, _⟩ := h1.row j _ (List.getElem?_eq_getElem hj2)
        rw [List.getElem?_eq_getElem hj, ej] at k1
        cases k1
        rw [e3 _ _ k2] at hb
        cases hb
      refine ⟨d, _, _, rfl, rfl, (Ex.new hb) _ _ d3, sz_lt (by rw [List.length_map, h1.len, List.length_take]; omega), ((e1.trans e3).trans (Ex.new hb)).mut hdn, ⟨ls ++ [b], ?_, fun x hx => ?_, ?_, fun z => ?_⟩, _, rfl⟩
      · rw [spansOf_take hgi]
        exact ((h1.mono e3).mono (Ex.new hb)).push h4 bd (ts := [t1, t2, wt, pt]) upd_same (by rw [eL]; rfl) (fun j q hj => by rw [eL] at hj; exact match j, hj with | 0, e => by cases e; exact ⟨t1, rfl, nn k1⟩ | 1, e => by cases e; exact ⟨t2, rfl, nn k2⟩ | 2, e => by cases e; exact ⟨wt, rfl, nn k3⟩ | 3, e => by cases e; exact ⟨pt, rfl, nn k4⟩)
      · rcases List.mem_append.mp hx with hx | hx
        · exact h2 x hx
        · rw [List.mem_singleton.mp hx]
          exact fresh_back (e1.trans e3) hb
      · exact List.nodup_append.mpr ⟨h3, List.nodup_cons.mpr ⟨List.not_mem_nil, List.nodup_nil⟩, fun x hx y hy e => bl (by rw [← List.mem_singleton.mp hy, ← e]; exact hx)⟩
      · rcases List.mem_append.mp z with z | z
        · exact h4 z
        · exact bd (List.mem_singleton.mp z).symm
    · have ep : it.pc = false := by rw [← ep]; exact pc_eq.symm
      have eL : lagsOf D it = [(0, it.dl)] := by unfold lagsOf; rw [ep]; rfl
      refine ⟨_, rfl, .inl ⟨rfl, _, SqL.of d1⟩, _, rfl, t, _, _, .int it.dl, rfl, rfl, SqT.of g2, itV_4 _ _, by show 2 ≤ sizeLine; decide, fun t1 ht1 => ?_⟩
      have e3 : Ex H2 (upd H2 t1 (.tup [.int 0, .int it.dl])) := Ex.new ht1
      have k1 : (upd H2 t1 (.tup [.int 0, .int it.dl])) t1 = some (.tup [.int 0, .int it.dl]) := upd_same
      generalize upd H2 t1 (.tup [.int 0, .int it.dl]) = H4 at e3 k1 ⊢
      have d3 := e3 _ _ d1
      refine ⟨by show 1 ≤ sizeLine; decide, fun b hb => ?_⟩
      have nn : ∀ {x : Addr} {vs : List V}, H4 x = some (.tup vs) → (upd H4 b (.lst [.ref t1])) x = some (.tup vs) := fun h => (Ex.new hb) _ _ h
      have bd : b ≠ d := fun z => by rw [z, d3] at hb; cases hb
      have bl : b ∉ ls := fun z => by
        obtain ⟨j, hj, ej⟩ := List.mem_iff_getElem.mp z
        have hj2 : j < ((spansOf D).take i).length := by rw [← h1.len]; exact hj
        obtain ⟨b', us, k1, k2, _⟩ := h1.row j _ (List.getElem?_eq_getElem hj2)
        rw [List.getElem?_eq_getElem hj, ej] at k1
        cases k1
        rw [e3 _ _ k2] at hb
        cases hb
      refine ⟨d, _, _, rfl, rfl, (Ex.new hb) _ _ d3, sz_lt (by rw [List.length_map, h1.len, List.length_take]; omega), ((e1.trans e3).trans (Ex.new hb)).mut hdn, ⟨ls ++ [b], ?_, fun x hx => ?_, ?_, fun z => ?_⟩, _, rfl⟩
      · rw [spansOf_take hgi]
        exact ((h1.mono e3).mono (Ex.new hb)).push h4 bd (ts := [t1]) upd_same (by rw [eL]; rfl) (fun j q hj => by rw [eL] at hj; exact match j, hj with | 0, e => by cases e; exact ⟨t1, rfl, nn k1⟩)
      · rcases List.mem_append.mp hx with hx | hx
        · exact h2 x hx
        · rw [List.mem_singleton.mp hx]
          exact fresh_back (e1.trans e3) hb
      · exact List.nodup_append.mpr ⟨h3, List.nodup_cons.mpr ⟨List.not_mem_nil, List.nodup_nil⟩, fun x hx y hy e => bl (by rw [← List.mem_singleton.mp hy, ← e]; exact hx)⟩
      · rcases List.mem_append.mp z with z | z
        · exact h4 z
        · exact bd (List.mem_singleton.mp z).symm
  · obtain ⟨e1, ⟨ls, h1, h2, h3, h4⟩, x2, rfl⟩ := h
    refine ⟨_, rfl, q d ls _ hdn h2 h3 h4 e1 ?_⟩
    rw [List.take_of_length_le (by unfold spansOf; rw [List.length_map, List.length_map, tl]; exact Nat.le_refl _)] at h1
    exact h1
theorem sides_at (c late : Bool) : atI [V.int (if late then 0 else 1), V.int (if late then 1 else 0)] (if c then 1 else 0) = some (.int (if (c == late) then 1 else 0)) := by cases c <;> cases late <;> rfl
theorem pair_at (q : Int × Int) (b : Bool) : atI [V.int q.1, V.int q.2] (if b then 1 else 0) = some (.int (ext q b)) := by cases b <;> rfl
theorem refs_z {ts : List Addr} {t : Addr} (j : Nat) (h : ts[j]? = some t) : atI (ts.map V.ref) (j : Int) = some (.ref t) := refs_at h
def sp_bent (K : PySem.W.Frag) : Sp := S4 fun a b c d H Q => ∃ (dl sl sd : Addr) (ls : List Addr) (D : DyD) (S : SpD) (p : Nat) (late : Bool), a = .ref dl ∧ b = .ref sl ∧ c = .int (p : Nat) ∧ d = .ref sd ∧ DayL H dl D ∧ SpW H sl ls S ∧ SOk D.its S ∧ H sd = some (.lst [.int (if late then 0 else 1), .int (if late then 1 else 0)]) ∧
  ∀ r H', H r = none → Ex H H' → RowV H' r (bent D.its S p late) → Q (.ref r) H'
theorem ok_bent (T : TX K mg w) : FnR PP w K mg base CX0 1 (ga K "_law_bent") (sp_bent K) := by
  refine mkS4 (bn T.f_bent (fun _ _ _ _ _ _ us hl => match us, hl with | [_, _, _, _], _ => rfl)) sc_bent fun cdv A outer s H a b c d Q E hr h => ?_
  refine ⟨_, (pss_cons (ps_set (i := 4) sc_bent.nd rfl (Or.inl rfl) (pe_lst pa_nil))
      (pss_cons (ps_for PassesOwn.never rfl (pi_range1 rfl T.n_range (pa_cons (pe_callB call_len_seq (by rfl) T.n_len (by decide +kernel) (pa_cons (pv 1) pa_nil)) pa_nil)) (pg_name (i := 5) sc_bent.nd rfl (Or.inl rfl))
        (pss_cons (ps_set (i := 6) sc_bent.nd rfl (Or.inl rfl) (pe_lst (pa_cons (pe_ix ix_tup (pe_ix ix_list (pe_ix ix_list (pv 1) (pv 5) (fun _ _ => rfl)) pe_int (fun _ _ => rfl)) (pe_ix ix_list (pv 3) (pe_callTy call_int1 (by rfl) T.n_int (by decide +kernel) (pa_cons (pe_cmpR op_lt (pe_op op_mul pe_int (pv 5)) (pv 2) (nomark _)) pa_nil)) (fun _ _ => rfl)) (fun _ _ => rfl)) pa_nil)))
      (pss_cons (ps_if (pt_cmpR op_eq (pe_ix ix_tup (pe_ix ix_list (pe_ix ix_list (pv 0) pe_int (fun _ _ => rfl)) (pv 5) (fun _ _ => rfl)) pe_int (fun _ _ => rfl)) pe_str (nomark _)) (pss_cons (ps_expr (pe_bm PySem.F.plainAttrs_list PySem.F.slot_list_append PySem.F.type_list_append mt_append (pv 6) (pa_cons (pe_ix ix_tup (pe_ix ix_list (pe_ix ix_list (pv 1) (pv 5) (fun _ _ => rfl)) pe_int (fun _ _ => rfl)) (pe_ix ix_list (pv 3) (pe_callTy call_int1 (by rfl) T.n_int (by decide +kernel) (pa_cons (pe_cmpR op_lt (pe_op op_add (pe_op op_mul pe_int (pv 5)) pe_int) (pv 2) (nomark _)) pa_nil)) (fun _ _ => rfl)) (fun _ _ => rfl)) pa_nil)))
      (pss_cons (ps_expr (pe_bm PySem.F.plainAttrs_list PySem.F.slot_list_append PySem.F.type_list_append mt_append (pv 6) (pa_cons (pe_ix ix_tup (pe_ix ix_list (pe_ix ix_list (pv 1) (pv 5) (fun _ _ => rfl)) pe_int (fun _ _ => rfl)) pe_int (fun _ _ => rfl)) pa_nil)))
      (pss_one (ps_expr (pe_bm PySem.F.plainAttrs_list PySem.F.slot_list_append PySem.F.type_list_append mt_append (pv 6) (pa_cons (pe_ix ix_tup (pe_ix ix_list (pe_ix ix_list (pv 1) (pv 5) (fun _ _ => rfl)) pe_int (fun _ _ => rfl)) pe_int (fun _ _ => rfl)) pa_nil))))))
        pss_nil)
      (pss_one (ps_expr (pe_bm PySem.F.plainAttrs_list PySem.F.slot_list_append PySem.F.type_list_append mt_append (pv 4) (pa_cons (pe_callTy call_tuple_of (by rfl) T.n_tuple (by decide +kernel) (pa_cons (pv 6) pa_nil)) pa_nil)))))))
      (pss_one (ps_ret (pv 4))))), ?_⟩
  obtain ⟨dl, sl, sd, ls, D, S, p, late, rfl, rfl, rfl, rfl, ⟨st, cr, ap, zs, kl, wt, pt, il, its', hG, ok⟩, hS, sok, hsd, q⟩ := h
  have l8 := ok.its.len
  have lS := sok.len
  have lls := hS.len
  refine ⟨by show 0 ≤ sizeLine; decide, fun d hdn => ?_⟩
  have e0 : Ex H (upd H d (.lst [])) := Ex.new hdn
  refine ⟨_, rfl, sl, _, rfl, .inl (SqL.of (e0 _ _ hS.at_)), _, rfl, by rw [List.length_map]; omega, by rw [List.length_map]; omega, ?_⟩
  refine for_it walk_range (fun i σ H' => Ex H H' ∧ (∃ ts : List Addr, H' d = some (.lst (ts.map V.ref)) ∧ ts.length = i ∧ ∀ (j : Nat) (row : List Int), j < i → (bent D.its S p late)[j]? = some row → ∃ t, ts[j]? = some t ∧ H' t = some (.tup (row.map V.int))) ∧ ∃ x5 x6, σ = [some (.ref dl), some (.ref sl), some (.int (p : Nat)), some (.ref sd), some (.ref d), x5, x6])
    ⟨e0, ⟨[], upd_same, rfl, fun j row hj => absurd hj (Nat.not_lt_zero _)⟩, _, _, rfl⟩ (fun _ _ _ _ _ => trivial) (fun i x σ H1 H2 hi h yy => ?_) (fun σ H1 h => ?_)
  · obtain ⟨e1, ⟨ts, k1, k2, k3⟩, x5, x6, rfl⟩ := h
    obtain ⟨rfl, rfl⟩ := yy
    have hi2 : i < D.its.length := by rw [List.length_map] at hi; omega
    have hgi := List.getElem?_eq_getElem hi2
    generalize D.its[i] = it at hgi
    have hsi : S[i]? = some (S[i]'(by omega)) := List.getElem?_eq_getElem _
    generalize S[i]'(by omega) = sp at hsi
    have hrow := sok.row _ _ _ hgi hsi
    obtain ⟨t, bb, g1, g2, g3⟩ := hG.item hgi
    obtain ⟨b, us, m1, m2, m3, m4⟩ := hS.row i sp hsi
    have h0 : sp[0]? = some (sp.getD 0 (0, 0)) := by
      have : 0 < sp.length := by rw [hrow]; split <;> omega
      rw [List.getD_eq_getElem?_getD, List.getElem?_eq_getElem this]; rfl
    obtain ⟨t0, u1, u2⟩ := m4 0 _ h0
    have hsl := e1 _ _ hS.at_
    have m2' := e1 _ _ m2
    have hsd1 := e1 _ _ hsd
    have ec0 : decide (2 * (0 + (i : Int)) < (p : Int)) = decide (2 * i < p) := decide_eq_decide.mpr (by omega)
    have ec1 : decide (2 * (0 + (i : Int)) + 1 < (p : Int)) = decide (2 * i + 1 < p) := decide_eq_decide.mpr (by omega)
    refine ⟨_, rfl, _, rfl, sl, _, _, .ref b, rfl, rfl, SqL.of hsl, refs_at0 m1, b, _, _, .ref t0, rfl, rfl, SqL.of m2', refs_z 0 u1, _, rfl, _, rfl, _, _, rfl, rfl, cm_r ⟨by omega, by omega⟩, _, rfl, _, _, rfl, rfl, .inr ⟨_, rfl, sd, _, _, .int _, rfl, rfl, SqL.of hsd1, sides_at _ _, t0, _, _, .int _, rfl, rfl, SqT.of (e1 _ _ u2), pair_at _ _, by show 1 ≤ sizeLine; decide, fun lg hlg => ?_⟩⟩
    have hSi : S.getD i [] = sp := by rw [List.getD_eq_getElem?_getD, hsi]; rfl
    have fin : ∀ (Hk : Hp) (t' : Addr), Ex H2 Hk → Hk t' = none → (upd Hk t' (.tup ((bentI sp it.pc i p late).map V.int))) d = some (.lst (ts.map V.ref)) ∧ Ex H (upd (upd Hk t' (.tup ((bentI sp it.pc i p late).map V.int))) d (.lst (ts.map V.ref ++ [.ref t']))) ∧
        ∃ ts' : List Addr, (upd (upd Hk t' (.tup ((bentI sp it.pc i p late).map V.int))) d (.lst (ts.map V.ref ++ [.ref t']))) d = some (.lst (ts'.map V.ref)) ∧ ts'.length = i + 1 ∧ ∀ (j : Nat) (row : List Int), j < i + 1 → (bent D.its S p late)[j]? = some row → ∃ t, ts'[j]? = some t ∧ (upd (upd Hk t' (.tup ((bentI sp it.pc i p late).map V.int))) d (.lst (ts.map V.ref ++ [.ref t']))) t = some (.tup (row.map V.int)) := fun Hk t' e4 ht' => by
      have e5 : Ex H2 (upd Hk t' (.tup ((bentI sp it.pc i p late).map V.int))) := e4.trans (Ex.new ht')
      have d5 := e5 _ _ k1
      have tu : ∀ {x : Addr} {vs : List V}, (upd Hk t' (.tup ((bentI sp it.pc i p late).map V.int))) x = some (.tup vs) → (upd (upd Hk t' (.tup ((bentI sp it.pc i p late).map V.int))) d (.lst (ts.map V.ref ++ [.ref t']))) x = some (.tup vs) := fun {x vs} h => by
        rw [upd_ne (fun z => by rw [z, d5] at h; cases h)]
        exact h
      refine ⟨d5, (e1.trans e5).mut hdn, ts ++ [t'], by rw [upd_same, List.map_append]; rfl, by simp [k2], fun j row hj hr => ?_⟩
      by_cases hji : j = i
      · subst hji
        rw [bent_at hgi, hSi] at hr
        cases hr
        exact ⟨t', by rw [List.getElem?_append_right (by omega), k2, Nat.sub_self]; rfl, tu upd_same⟩
      · obtain ⟨x, x1, x2⟩ := k3 j row (by omega) hr
        exact ⟨x, by rw [List.getElem?_append_left (by omega)]; exact x1, tu (e5 _ _ x2)⟩
    have sz : (ts.map V.ref).length + 1 ≤ 100 := by rw [List.length_map]; omega
    have e3 : Ex H2 (upd H2 lg (.lst [.int (ext (sp.getD 0 (0, 0)) (decide (2 * (0 + (i : Int)) < (p : Int)) == late))])) := Ex.new hlg
    have l3 : (upd H2 lg (.lst [.int (ext (sp.getD 0 (0, 0)) (decide (2 * (0 + (i : Int)) < (p : Int)) == late))])) lg = some (.lst [.int (ext (sp.getD 0 (0, 0)) (decide (2 * (0 + (i : Int)) < (p : Int)) == late))]) := upd_same
    generalize upd H2 lg (.lst [.int (ext (sp.getD 0 (0, 0)) (decide (2 * (0 + (i : Int)) < (p : Int)) == late))]) = H3 at e3 l3 ⊢
    refine nrmG (σ' := [some (.ref dl), some (.ref sl), some (.int (p : Nat)), some (.ref sd), some (.ref d), some (.int (0 + (i : Int))), some (.ref lg)]) rfl ?_
    refine ⟨_, rfl, dl, _, _, .ref il, rfl, rfl, SqL.of ((e1.trans e3) _ _ hG.at_), rfl, _, rfl, il, _, _, .ref t, rfl, rfl, SqL.of ((e1.trans e3) _ _ hG.items), refs_at0 g1, t, _, _, .str (if it.pc then "piece" else "break"), rfl, rfl, SqT.of ((e1.trans e3) _ _ g2), itV_0 _ _, rfl, _, rfl, if2 (fun ep => ?_) (fun ep => ?_)⟩
    · have ep : it.pc = true := by rw [← ep]; exact pc_eq.symm
      rw [ep] at hrow fin
      have hrow : sp.length = 4 := hrow
      have hq : ∀ j, j < 4 → sp[j]? = some (sp.getD j (0, 0)) := fun j hj => by
        rw [List.getD_eq_getElem?_getD, List.getElem?_eq_getElem (by omega)]; rfl
      obtain ⟨t1, u3, u4⟩ := m4 1 _ (hq 1 (by omega))
      obtain ⟨t2, u5, u6⟩ := m4 2 _ (hq 2 (by omega))
      obtain ⟨t3, u7, u8⟩ := m4 3 _ (hq 3 (by omega))
      refine ⟨_, rfl, .inl ⟨rfl, _, SqL.of l3⟩, _, rfl, _, rfl, sl, _, _, .ref b, rfl, rfl, SqL.of (e3 _ _ hsl), refs_at0 m1, b, _, _, .ref t1, rfl, rfl, SqL.of (e3 _ _ m2'), refs_z 1 u3, _, rfl, _, rfl, _, _, rfl, rfl, cm_r ⟨by omega, by omega⟩, _, _, rfl, rfl, _, rfl, _, _, rfl, rfl, .inr ⟨_, rfl, sd, _, _, .int _, rfl, rfl, SqL.of (e3 _ _ hsd1), sides_at _ _, t1, _, _, .int _, rfl, rfl, SqT.of ((e1.trans e3) _ _ u4), pair_at _ _, lg, _, _, rfl, rfl, l3, sz_lt (by show 1 < _; omega), ?_⟩⟩
      have e4 : Ex H2 (upd H3 lg (.lst ([.int (ext (sp.getD 0 (0, 0)) (decide (2 * (0 + (i : Int)) < (p : Int)) == late))] ++ [.int (ext (sp.getD 1 (0, 0)) (decide (2 * (0 + (i : Int)) + 1 < (p : Int)) == late))]))) := e3.mut hlg
      have l4 : (upd H3 lg (.lst ([.int (ext (sp.getD 0 (0, 0)) (decide (2 * (0 + (i : Int)) < (p : Int)) == late))] ++ [.int (ext (sp.getD 1 (0, 0)) (decide (2 * (0 + (i : Int)) + 1 < (p : Int)) == late))]))) lg = some (.lst [.int (ext (sp.getD 0 (0, 0)) (decide (2 * (0 + (i : Int)) < (p : Int)) == late)), .int (ext (sp.getD 1 (0, 0)) (decide (2 * (0 + (i : Int)) + 1 < (p : Int)) == late))]) := upd_same
      generalize upd H3 lg (.lst ([.int (ext (sp.getD 0 (0, 0)) (decide (2 * (0 + (i : Int)) < (p : Int)) == late))] ++ [.int (ext (sp.getD 1 (0, 0)) (decide (2 * (0 + (i : Int)) + 1 < (p : Int)) == late))])) = H4 at e4 l4 ⊢
      rw [ec0, ec1] at l4
      refine ⟨_, rfl, .inl ⟨rfl, _, SqL.of l4⟩, _, rfl, _, rfl, sl, _, _, .ref b, rfl, rfl, SqL.of (e4 _ _ hsl), refs_at0 m1, b, _, _, .ref t2, rfl, rfl, SqL.of (e4 _ _ m2'), refs_z 2 u5, t2, _, _, .int _, rfl, rfl, SqT.of ((e1.trans e4) _ _ u6), rfl, lg, _, _, rfl, rfl, l4, sz_lt (by show 2 < _; omega), ?_⟩
      have e5 : Ex H2 (upd H4 lg (.lst ([.int (ext (sp.getD 0 (0, 0)) (decide (2 * i < p) == late)), .int (ext (sp.getD 1 (0, 0)) (decide (2 * i + 1 < p) == late))] ++ [.int (sp.getD 2 (0, 0)).1]))) := e4.mut hlg
      have l5 : (upd H4 lg (.lst ([.int (ext (sp.getD 0 (0, 0)) (decide (2 * i < p) == late)), .int (ext (sp.getD 1 (0, 0)) (decide (2 * i + 1 < p) == late))] ++ [.int (sp.getD 2 (0, 0)).1]))) lg = some (.lst [.int (ext (sp.getD 0 (0, 0)) (decide (2 * i < p) == late)), .int (ext (sp.getD 1 (0, 0)) (decide (2 * i + 1 < p) == late)), .int (sp.getD 2 (0, 0)).1]) := upd_same
      generalize upd H4 lg (.lst ([.int (ext (sp.getD 0 (0, 0)) (decide (2 * i < p) == late)), .int (ext (sp.getD 1 (0, 0)) (decide (2 * i + 1 < p) == late))] ++ [.int (sp.getD 2 (0, 0)).1])) = H5 at e5 l5 ⊢
      refine ⟨_, rfl, .inl ⟨rfl, _, SqL.of l5⟩, _, rfl, _, rfl, sl, _, _, .ref b, rfl, rfl, SqL.of (e5 _ _ hsl), refs_at0 m1, b, _, _, .ref t3, rfl, rfl, SqL.of (e5 _ _ m2'), refs_z 3 u7, t3, _, _, .int _, rfl, rfl, SqT.of ((e1.trans e5) _ _ u8), rfl, lg, _, _, rfl, rfl, l5, sz_lt (by show 3 < _; omega), ?_⟩
      have e6 : Ex H2 (upd H5 lg (.lst ([.int (ext (sp.getD 0 (0, 0)) (decide (2 * i < p) == late)), .int (ext (sp.getD 1 (0, 0)) (decide (2 * i + 1 < p) == late)), .int (sp.getD 2 (0, 0)).1] ++ [.int (sp.getD 3 (0, 0)).2]))) := e5.mut hlg
      have l6 : (upd H5 lg (.lst ([.int (ext (sp.getD 0 (0, 0)) (decide (2 * i < p) == late)), .int (ext (sp.getD 1 (0, 0)) (decide (2 * i + 1 < p) == late)), .int (sp.getD 2 (0, 0)).1] ++ [.int (sp.getD 3 (0, 0)).2]))) lg = some (.lst ((bentI sp true i p late).map V.int)) := upd_same
      generalize upd H5 lg (.lst ([.int (ext (sp.getD 0 (0, 0)) (decide (2 * i < p) == late)), .int (ext (sp.getD 1 (0, 0)) (decide (2 * i + 1 < p) == late)), .int (sp.getD 2 (0, 0)).1] ++ [.int (sp.getD 3 (0, 0)).2])) = H6 at e6 l6 ⊢
      refine ⟨_, rfl, .inl ⟨rfl, _, SqL.of (e6 _ _ k1)⟩, _, rfl, lg, _, rfl, .inl ⟨SqL.of l6, fun t' ht' => ?_⟩⟩
      obtain ⟨f1, f2, f3⟩ := fin H6 t' e6 ht'
      exact ⟨d, _, _, rfl, rfl, f1, sz_lt (by omega), f2, f3, _, _, rfl⟩
    · have ep : it.pc = false := by rw [← ep]; exact pc_eq.symm
      rw [ep] at fin
      rw [ec0] at l3
      have l3 : H3 lg = some (.lst ((bentI sp false i p late).map V.int)) := l3
      refine ⟨_, rfl, .inl ⟨rfl, _, SqL.of (e3 _ _ k1)⟩, _, rfl, lg, _, rfl, .inl ⟨SqL.of l3, fun t' ht' => ?_⟩⟩
      obtain ⟨f1, f2, f3⟩ := fin H3 t' e3 ht'
      exact ⟨d, _, _, rfl, rfl, f1, sz_lt (by omega), f2, f3, _, _, rfl⟩
  · obtain ⟨e1, ⟨ts, k1, k2, k3⟩, x5, x6, rfl⟩ := h
    rw [List.length_map] at k2 k3
    refine ⟨_, rfl, q d _ hdn e1 ⟨ts, k1, by rw [k2, bent_ok.len]; omega, fun j row hj => k3 j row ?_ hj⟩⟩
    have := (List.getElem?_eq_some_iff.mp hj).1
    rw [bent_ok.len] at this
    omega
end
end BB
namespace BB
open PySem PySem.Spec PyProof.Rows L2 He Evl
theorem SOk.set {its : List ItD} {S : SpD} {i j : Nat} {sp : List (Int × Int)} {q0 q : Int × Int} (h : SOk its S) (hs : S[i]? = some sp) (hj : sp[j]? = some q0) (h1 : q0.1 ≤ q.1) (h2 : q.1 ≤ q.2) (h3 : q.2 ≤ q0.2) : SOk its (setS S i j q) := by
  have mem : ∀ x ∈ setS S i j q, x ∈ S ∨ x = sp.set j q := fun x hx => by
    obtain ⟨m, hm⟩ := List.mem_iff_getElem?.mp hx
    rw [setS_get] at hm
    by_cases e : i = m
    · subst e
      rw [if_pos rfl, hs] at hm
      cases hm
      exact .inr rfl
    · rw [if_neg e] at hm
      exact .inl (List.mem_of_getElem? hm)
  have hsp := List.mem_of_getElem? hs
  have hq0 := h.bd sp hsp q0 (List.mem_of_getElem? hj)
  have key : ∀ x ∈ setS S i j q, ∀ y ∈ x, y.1 ≤ y.2 ∧ 0 ≤ y.1 ∧ y.2 ≤ 1000 ∧ y.2 ≤ y.1 + 8 := fun x hx y hy => by
    rcases mem x hx with hx | rfl
    · exact ⟨h.le x hx y hy, h.bd x hx y hy⟩
    · rcases List.mem_or_eq_of_mem_set hy with hy | rfl
      · exact ⟨h.le sp hsp y hy, h.bd sp hsp y hy⟩
      · exact ⟨h2, by omega, by omega, by omega⟩
  refine ⟨?_, fun m it x hi hx => ?_, fun x hx y hy => (key x hx y hy).1, fun x hx y hy => (key x hx y hy).2⟩
  · unfold setS
    rw [List.length_modify]
    exact h.len
  · rw [setS_get] at hx
    by_cases e : i = m
    · subst e
      rw [if_pos rfl, hs] at hx
      cases hx
      rw [List.length_set]
      exact h.row i it sp hi hs
    · rw [if_neg e] at hx
      exact h.row m it x hi hx
theorem refs_inj : ∀ {ts us : List Addr}, ts.map V.ref = us.map V.ref → ts = us
  | [], [], _ => rfl
  | [], _ :: _, h => by cases h
  | _ :: _, [], h => by cases h
  | t :: ts, u :: us, h => by
    have h1 := (List.cons.inj h).1
    have h2 := refs_inj (List.cons.inj h).2
    rw [V.ref.inj h1, h2]
theorem nodup_ixA {l : List Addr} (h : l.Nodup) {i j : Nat} {x : Addr} (h1 : l[i]? = some x) (h2 : l[j]? = some x) : i = j := by
  obtain ⟨a1, a2⟩ := List.getElem?_eq_some_iff.mp h1
  obtain ⟨b1, b2⟩ := List.getElem?_eq_some_iff.mp h2
  exact (List.getElem_inj h).mp (a2.trans b2.symm)
theorem SpW.set {G : Hp} {sl b t : Addr} {ls ts : List Addr} {S : SpD} {i j : Nat} {q : Int × Int} (h : SpW G sl ls S) (nd : ls.Nodup) (ns : sl ∉ ls) (hi : ls[i]? = some b) (hb : G b = some (.lst (ts.map V.ref))) (hj : j < ts.length) (ht : G t = some (.tup [.int q.1, .int q.2])) :
    SpW (upd G b (.lst ((ts.map V.ref).set j (.ref t)))) sl ls (setS S i j q) := by
  have nsb : sl ≠ b := fun z => ns (z ▸ List.mem_of_getElem? hi)
  have tu : ∀ {x : Addr} {vs : List V}, G x = some (.tup vs) → (upd G b (.lst ((ts.map V.ref).set j (.ref t)))) x = some (.tup vs) := fun {x vs} hx => by
    rw [upd_ne (fun z => by rw [z, hb] at hx; cases hx)]
    exact hx
  refine ⟨by rw [upd_ne nsb]; exact h.at_, by unfold setS; rw [List.length_modify]; exact h.len, fun m x hx => ?_⟩
  rw [setS_get] at hx
  by_cases e : i = m
  · subst e
    rw [if_pos rfl] at hx
    obtain ⟨sp, hs, rfl⟩ := Option.map_eq_some_iff.mp hx
    obtain ⟨b', us, k1, k2, k3, k4⟩ := h.row i sp hs
    rw [hi] at k1
    cases k1
    rw [hb] at k2
    have eu : ts.map V.ref = us.map V.ref := by injection k2 with z; injection z
    have eu : ts = us := by
      exact refs_inj eu
    subst eu
    refine ⟨b, ts.set j t, hi, by rw [upd_same, List.map_set], by rw [List.length_set, List.length_set]; exact k3, fun m y hy => ?_⟩
    by_cases em : j = m
    · subst em
      rw [List.getElem?_set_self (by rw [← k3]; exact hj)] at hy
      cases hy
      exact ⟨t, List.getElem?_set_self hj, tu ht⟩
    · rw [List.getElem?_set_ne em] at hy
      obtain ⟨x, x1, x2⟩ := k4 m y hy
      exact ⟨x, by rw [List.getElem?_set_ne em]; exact x1, tu x2⟩
  · rw [if_neg e] at hx
    obtain ⟨b', us, k1, k2, k3, k4⟩ := h.row m x hx
    have nb : b' ≠ b := fun z => e (nodup_ixA nd hi (by rw [k1, z]))
    refine ⟨b', us, k1, by rw [upd_ne nb]; exact k2, k3, fun j' y hy => ?_⟩
    obtain ⟨x', x1, x2⟩ := k4 j' y hy
    exact ⟨x', x1, tu x2⟩
theorem exB {B H : Hp} {p : Addr} (e : Ex B H) (h : B p = none) : Ex B (hid p H) := fun a u ha => by
  rw [hid_ne (fun z => by rw [z, h] at ha; cases ha)]
  exact e _ _ ha
section
variable {K : PySem.W.Frag} {mg : Str → Option Value} {w : World} {base : Heap} {H H' : Hp} {a : Addr}
def sp_rows (K : PySem.W.Frag) : Sp := S4 fun a b c d H Q => ∃ (dl sl ol : Addr) (ls : List Addr) (D : DyD) (S : SpD) (p : Nat), a = .ref dl ∧ b = .ref sl ∧ c = .ref ol ∧ d = .int (p : Nat) ∧ DayL H dl D ∧ SpW H sl ls S ∧ SOk D.its S ∧ OutlookAt K H ol D S ∧ p ≤ 2 * D.its.length ∧ ∀ H', Ex H H' → Q (.bl true) H'
theorem bent_small {its : List ItD} {S : SpD} {p : Nat} {late : Bool} (h : its.length ≤ 8) : (bent its S p late).length ≤ 1000 ∧ ∀ r ∈ bent its S p late, r.length ≤ 1000 := by
  have ok : RowOk its (bent its S p late) := bent_ok
  refine ⟨by rw [ok.len]; omega, fun r hr => ?_⟩
  obtain ⟨i, hi⟩ := List.mem_iff_getElem?.mp hr
  have hlt : i < its.length := by rw [← ok.len]; exact (List.getElem?_eq_some_iff.mp hi).1
  rw [ok.row i _ r (List.getElem?_eq_getElem hlt) hi]
  split <;> omega
theorem ok_rows (T : TX K mg w) : FnR PP w K mg base CX0 5 (ga K "_law_rows") (sp_rows K) := by
  refine mkS4 (bn T.f_rows (fun _ _ _ _ _ _ us hl => match us, hl with | [_, _, _, _], _ => rfl)) sc_rows fun cdv A outer s H a b c d Q E hr h => ?_
  refine ⟨_, (pss_cons (ps_set (i := 4) sc_rows.nd rfl (Or.inl rfl) (pe_fn (ok_corner T) (hr.mono (by decide)) T.kp_corner T.g_corner (pa_cons (pv 2) (pa_cons (pv 3) pa_nil))))
      (pss_cons (ps_set (i := 5) sc_rows.nd rfl (Or.inl rfl) (pe_fn (ok_hollow T) (hr.mono (by decide)) T.kp_hollow T.g_hollow (pa_cons (pv 2) (pa_cons (pv 3) pa_nil))))
      (pss_cons (ps_if (pt_not (pt_val (pe_fn (ok_same2 T) (hr.mono (by decide)) T.kp_same T.g__law_same (pa_cons (pv 4) (pa_cons (pe_fn (ok_bent T) (hr.mono (by decide)) T.kp_bent T.g__law_bent (pa_cons (pv 0) (pa_cons (pv 1) (pa_cons (pv 3) (pa_cons (pe_lst (pa_cons pe_int (pa_cons pe_int pa_nil))) pa_nil))))) pa_nil))))) (pss_one (ps_ret pe_bl))
        pss_nil)
      (pss_cons (ps_if (pt_not (pt_val (pe_fn (ok_same2 T) (hr.mono (by decide)) T.kp_same T.g__law_same (pa_cons (pv 5) (pa_cons (pe_fn (ok_bent T) (hr.mono (by decide)) T.kp_bent T.g__law_bent (pa_cons (pv 0) (pa_cons (pv 1) (pa_cons (pv 3) (pa_cons (pe_lst (pa_cons pe_int (pa_cons pe_int pa_nil))) pa_nil))))) pa_nil))))) (pss_one (ps_ret pe_bl))
        pss_nil)
      (pss_cons (ps_expr (pe_bm PySem.F.plainAttrs_list PySem.F.slot_list_append PySem.F.type_list_append mt_append (pv 4) (pa_cons (pe_tup (pa_cons pe_int pa_nil)) pa_nil)))
      (pss_cons (ps_expr (pe_bm0 PySem.F.plainAttrs_list PySem.F.slot_list_clear PySem.F.type_list_clear mt_clear (pv 5)))
      (pss_cons (ps_if (pt_not (pt_val (pe_fn (ok_same2 T) (hr.mono (by decide)) T.kp_same T.g__law_same (pa_cons (pe_fn (ok_hollow T) (hr.mono (by decide)) T.kp_hollow T.g_hollow (pa_cons (pv 2) (pa_cons (pv 3) pa_nil))) (pa_cons (pe_fn (ok_bent T) (hr.mono (by decide)) T.kp_bent T.g__law_bent (pa_cons (pv 0) (pa_cons (pv 1) (pa_cons (pv 3) (pa_cons (pe_lst (pa_cons pe_int (pa_cons pe_int pa_nil))) pa_nil))))) pa_nil))))) (pss_one (ps_ret pe_bl))
        pss_nil)
      (pss_one (ps_ret (pe_fn (ok_same2 T) (hr.mono (by decide)) T.kp_same T.g__law_same (pa_cons (pe_fn (ok_corner T) (hr.mono (by decide)) T.kp_corner T.g_corner (pa_cons (pv 2) (pa_cons (pv 3) pa_nil))) (pa_cons (pe_fn (ok_bent T) (hr.mono (by decide)) T.kp_bent T.g__law_bent (pa_cons (pv 0) (pa_cons (pv 1) (pa_cons (pv 3) (pa_cons (pe_lst (pa_cons pe_int (pa_cons pe_int pa_nil))) pa_nil))))) pa_nil)))))))))))), ?_⟩
  obtain ⟨dl, sl, ol, ls, D, S, p, rfl, rfl, rfl, rfl, hD, hS, sok, hL, hp, q⟩ := h
  obtain ⟨st, cr, ap, zs, kl, wt, pt, il, its', hG, dok⟩ := id hD
  have ok := dok.its
  have sm : ∀ late, (bent D.its S p late).length ≤ 1000 ∧ ∀ r ∈ bent D.its S p late, r.length ≤ 1000 := fun late => bent_small ok.len
  refine ⟨_, rfl, _, rfl, _, _, rfl, ol, D, S, p, rfl, rfl, hL, ok, sok, hp, fun la H1 nla e1 hla => ?_⟩
  refine ⟨_, rfl, _, rfl, _, _, rfl, ol, D, S, p, rfl, rfl, hL.mono e1, ok, sok, hp, fun er H2 ner e2 her => ?_⟩
  have E2 := e1.trans e2
  have hla := hla.mono e2
  refine ⟨_, rfl, ?_⟩
  refine ⟨_, rfl, _, rfl, _, rfl, by show 2 ≤ sizeLine; decide, fun sd hsd => ?_⟩
  have es : Ex H2 (upd H2 sd (.lst [.int (if true then 0 else 1), .int (if true then 1 else 0)])) := Ex.new hsd
  refine ⟨_, _, _, _, rfl, dl, sl, sd, ls, D, S, p, true, rfl, rfl, rfl, rfl, hD.mono (E2.trans es), hS.mono (E2.trans es), sok, upd_same, fun b1 H3 nb eb hb => ?_⟩
  have E2 := E2.trans (es.trans eb)
  refine ⟨_, _, rfl, la, b1, _, rfl, rfl, hla.mono (es.trans eb), hb, (sm _).1, (sm _).2, _, rfl, ifF rfl ?_⟩
  have hla := hla.mono (es.trans eb)
  have her := her.mono (es.trans eb)
  refine ⟨_, rfl, ?_⟩
  refine ⟨_, rfl, _, rfl, _, rfl, by show 2 ≤ sizeLine; decide, fun sd hsd => ?_⟩
  have es : Ex H3 (upd H3 sd (.lst [.int (if false then 0 else 1), .int (if false then 1 else 0)])) := Ex.new hsd
  refine ⟨_, _, _, _, rfl, dl, sl, sd, ls, D, S, p, false, rfl, rfl, rfl, rfl, hD.mono (E2.trans es), hS.mono (E2.trans es), sok, upd_same, fun b2 H4 nb eb hb => ?_⟩
  have E2 := E2.trans (es.trans eb)
  refine ⟨_, _, rfl, er, b2, _, rfl, rfl, her.mono (es.trans eb), hb, (sm _).1, (sm _).2, _, rfl, ifF rfl ?_⟩
  have hla := hla.mono (es.trans eb)
  have her := her.mono (es.trans eb)
  obtain ⟨lts, hl1, hl2, hl3⟩ := hla
  obtain ⟨ets, he1, he2, he3⟩ := her
  refine ⟨_, rfl, .inl ⟨rfl, _, SqL.of hl1⟩, by show 1 ≤ sizeLine; decide, fun tt htt => ?_⟩
  have nla' : H la = none := nla
  have ner' : H er = none := fresh_back e1 ner
  have E3 := E2.trans (Ex.new (o := .tup [.int 0]) htt)
  refine ⟨la, _, _, rfl, rfl, (Ex.new htt) _ _ hl1, sz_lt (by rw [List.length_map, hl2]; have := (sm true).1; omega), ?_⟩
  have E4 := E3.mut (o := .lst (lts.map V.ref ++ [.ref tt])) nla'
  have nle : er ≠ la := fun z => by
    obtain ⟨_, h, _⟩ := (show RowV H1 la _ from by assumption)
    rw [z, h] at ner
    cases ner
  have he1 : (upd (upd H4 tt (.tup [.int 0])) la (.lst (lts.map V.ref ++ [.ref tt]))) er = some (.lst (ets.map V.ref)) := (upd_ne nle).trans ((Ex.new htt) _ _ he1)
  generalize upd (upd H4 tt (.tup [.int 0])) la (.lst (lts.map V.ref ++ [.ref tt])) = H5 at E4 he1 ⊢
  refine ⟨_, rfl, .inl ⟨rfl, _, SqL.of he1⟩, er, _, rfl, rfl, he1, ?_⟩
  have E5 := E4.mut (o := .lst []) ner'
  generalize upd H5 er (.lst []) = H6 at E5 ⊢
  refine ⟨_, rfl, _, rfl, _, _, rfl, ol, D, S, p, rfl, rfl, hL.mono E5, ok, sok, hp, fun r3 H7 n3 e7 h3 => ?_⟩
  have E5 := E5.trans e7
  refine ⟨_, rfl, _, rfl, _, rfl, by show 2 ≤ sizeLine; decide, fun sd hsd => ?_⟩
  have es : Ex H7 (upd H7 sd (.lst [.int (if false then 0 else 1), .int (if false then 1 else 0)])) := Ex.new hsd
  refine ⟨_, _, _, _, rfl, dl, sl, sd, ls, D, S, p, false, rfl, rfl, rfl, rfl, hD.mono (E5.trans es), hS.mono (E5.trans es), sok, upd_same, fun b3 H8 nb eb hb => ?_⟩
  have E5 := E5.trans (es.trans eb)
  refine ⟨_, _, rfl, r3, b3, _, rfl, rfl, h3.mono (es.trans eb), hb, (sm _).1, (sm _).2, _, rfl, ifF rfl ?_⟩
  refine ⟨_, rfl, _, rfl, _, _, rfl, ol, D, S, p, rfl, rfl, hL.mono E5, ok, sok, hp, fun r4 H9 n4 e9 h4 => ?_⟩
  have E5 := E5.trans e9
  refine ⟨_, rfl, _, rfl, _, rfl, by show 2 ≤ sizeLine; decide, fun sd hsd => ?_⟩
  have es : Ex H9 (upd H9 sd (.lst [.int (if true then 0 else 1), .int (if true then 1 else 0)])) := Ex.new hsd
  refine ⟨_, _, _, _, rfl, dl, sl, sd, ls, D, S, p, true, rfl, rfl, rfl, rfl, hD.mono (E5.trans es), hS.mono (E5.trans es), sok, upd_same, fun b4 Ha nb eb hb => ?_⟩
  have E5 := E5.trans (es.trans eb)
  exact ⟨_, _, rfl, r4, b4, _, rfl, rfl, h4.mono (es.trans eb), hb, (sm _).1, (sm _).2, q _ E5⟩
end
end BB
namespace BB
open PySem PySem.Spec PyProof.Rows L2 He Evl
section
variable {K : PySem.W.Frag} {mg : Str → Option Value} {w : World} {base : Heap} {H H' : Hp} {a : Addr}
/-- the narrowing so far -/
structure NS (K : PySem.W.Frag) (p cl : Addr) (ns : List Int) (B H : Hp) (sl wl : Addr) (ls : List Addr) (ol : Addr) (D : DyD) (S : SpD) : Prop where
  l : PL p cl ns H
  b : Ex B (hid p H)
  s : SpW (hid p H) sl ls S
  ok : SOk D.its S
  o : OutlookAt K (noL H) ol D S
  w : hid p H wl = some (.lst [.str "delay", .str "length", .str "walk", .str "pack"])
def sp_narrow (K : PySem.W.Frag) : Sp := S5 fun a b c d e H Q => ∃ (p cl dl sl ol : Addr) (ns : List Int) (ls : List Addr) (D : DyD) (S : SpD) (B : Hp) (n : Int), a = .ref p ∧ b = .ref dl ∧ c = .ref sl ∧ d = .ref ol ∧ e = .int n ∧ 0 ≤ n ∧ n ≤ 3 ∧ PL p cl ns H ∧ Ex B H ∧ B p = none ∧ B cl = some (.lst (ns.map V.int)) ∧ (∀ x ∈ ls, B x = none) ∧ ls.Nodup ∧ sl ∉ ls ∧ DayL B dl D ∧ SpW (hid p H) sl ls S ∧ SOk D.its S ∧ OutlookAt K H ol D S ∧
  ∀ ol' S' H', PL p cl ns H' → Ex B (hid p H') → SpW (hid p H') sl ls S' → SOk D.its S' → OutlookAt K (hid p H') ol' D S' → Q (.ref ol') H'
theorem ok_narrow (T : TX K mg w) : FnR PP w K mg base CX0 9 (ga K "_law_narrow") (sp_narrow K) := by
  refine mkS5 (bn T.f_narrow (fun _ _ _ _ _ _ us hl => match us, hl with | [_, _, _, _, _], _ => rfl)) sc_narrow fun cdv A outer s H a b c d e Q E hr h => ?_
  refine ⟨_, (pss_cons (ps_set (i := 5) sc_narrow.nd rfl (Or.inl rfl) (pe_lst (pa_cons pe_str (pa_cons pe_str (pa_cons pe_str (pa_cons pe_str pa_nil))))))
      (pss_cons (ps_for PassesOwn.never rfl (pi_range1 rfl T.n_range (pa_cons (pv 4) pa_nil)) (pg_name (i := 6) sc_narrow.nd rfl (Or.inl rfl))
        (pss_one (ps_if (pt_cmpR op_gt (pe_callB call_len_seq (by rfl) T.n_len (by decide +kernel) (pa_cons (pv 2) pa_nil)) pe_int (nomark _)) (pss_cons (ps_set (i := 7) sc_narrow.nd rfl (Or.inl rfl) (pe_fn (ok_take T) (hr.mono (by decide)) T.kp_take T.g__law_take (pa_cons (pv 0) (pa_cons (pe_callB call_len_seq (by rfl) T.n_len (by decide +kernel) (pa_cons (pv 2) pa_nil)) pa_nil))))
      (pss_cons (ps_set (i := 8) sc_narrow.nd rfl (Or.inl rfl) (pe_fn (ok_take T) (hr.mono (by decide)) T.kp_take T.g__law_take (pa_cons (pv 0) (pa_cons (pe_callB call_len_seq (by rfl) T.n_len (by decide +kernel) (pa_cons (pe_ix ix_list (pv 2) (pv 7) (fun _ _ => rfl)) pa_nil)) pa_nil))))
      (pss_cons (ps_set (i := 9) sc_narrow.nd rfl (Or.inl rfl) (pe_op op_add (pe_ix ix_tup (pe_ix ix_list (pe_ix ix_list (pv 2) (pv 7) (fun _ _ => rfl)) (pv 8) (fun _ _ => rfl)) pe_int (fun _ _ => rfl)) (pe_fn (ok_take T) (hr.mono (by decide)) T.kp_take T.g__law_take (pa_cons (pv 0) (pa_cons (pe_op op_add (pe_op op_sub (pe_ix ix_tup (pe_ix ix_list (pe_ix ix_list (pv 2) (pv 7) (fun _ _ => rfl)) (pv 8) (fun _ _ => rfl)) pe_int (fun _ _ => rfl)) (pe_ix ix_tup (pe_ix ix_list (pe_ix ix_list (pv 2) (pv 7) (fun _ _ => rfl)) (pv 8) (fun _ _ => rfl)) pe_int (fun _ _ => rfl))) pe_int) pa_nil)))))
      (pss_cons (ps_set (i := 10) sc_narrow.nd rfl (Or.inl rfl) (pe_op op_add (pv 9) (pe_fn (ok_take T) (hr.mono (by decide)) T.kp_take T.g__law_take (pa_cons (pv 0) (pa_cons (pe_op op_add (pe_op op_sub (pe_ix ix_tup (pe_ix ix_list (pe_ix ix_list (pv 2) (pv 7) (fun _ _ => rfl)) (pv 8) (fun _ _ => rfl)) pe_int (fun _ _ => rfl)) (pv 9)) pe_int) pa_nil)))))
      (pss_cons (ps_set (i := 3) sc_narrow.nd rfl (Or.inl rfl) (pe_mt (pv 3) (ok_Outlook_narrowed T) (hr.mono (by decide)) T.kp_Outlook_narrowed (pa_cons (pe_ix ix_tup (pe_ix ix_list (pe_ix ix_list (pv 1) pe_int (fun _ _ => rfl)) (pv 7) (fun _ _ => rfl)) pe_int (fun _ _ => rfl)) (pa_cons (pe_ix ix_list (pv 5) (pv 8) (fun _ _ => rfl)) (pa_cons (pv 9) (pa_cons (pv 10) pa_nil))))))
      (pss_one (ps_asg (pe_tup (pa_cons (pv 9) (pa_cons (pv 10) pa_nil))) (pg_sub (pe_ix ix_list (pv 2) (pv 7) (fun _ _ => rfl)) (pv 8) set_list))))))))
        pss_nil)))
      (pss_one (ps_ret (pv 3))))), ?_⟩
  obtain ⟨p, pq, dl, sl, ol, ns, ls, D, S, B, n, rfl, rfl, rfl, rfl, rfl, n0, n3, hP, hB, bp, bc, bl, nd, nsl, ⟨st, cr, ap, zs, kl, wt, pt, il, its', hG, dok⟩, hS, sok, hL, q⟩ := h
  have ok := dok.its
  have l8 := ok.len
  refine ⟨by show 4 ≤ sizeLine; decide, fun wl hwl => ?_⟩
  have pw := (hP.ne_new hwl).1
  have N0 : NS K p pq ns B (upd H wl (.lst [.str "delay", .str "length", .str "walk", .str "pack"])) sl wl ls ol D S := by
    have e : Ex H (upd H wl (.lst [.str "delay", .str "length", .str "walk", .str "pack"])) := Ex.new hwl
    exact ⟨hP.ex e, exB (hB.trans e) bp, hS.mono (exHid e), sok, (hL.mono e).noL, by rw [hid_ne pw, upd_same]⟩
  have wls : wl ∉ ls := fun z => by
    obtain ⟨j, hj⟩ := List.mem_iff_getElem?.mp z
    have hj2 : j < S.length := by rw [← hS.len]; exact (List.getElem?_eq_some_iff.mp hj).1
    obtain ⟨b', us, k1, k2, _⟩ := hS.row j _ (List.getElem?_eq_getElem hj2)
    rw [hj] at k1
    cases k1
    rw [hid_ex _ _ k2] at hwl
    cases hwl
  generalize upd H wl (.lst [.str "delay", .str "length", .str "walk", .str "pack"]) = H0 at N0 ⊢
  refine ⟨_, rfl, _, rfl, by omega, by omega, ?_⟩
  refine for_it walk_range (fun i σ H' => ∃ ol S, NS K p pq ns B H' sl wl ls ol D S ∧ ∃ x6 x7 x8 x9 x10, σ = [some (.ref p), some (.ref dl), some (.ref sl), some (.ref ol), some (.int n), some (.ref wl), x6, x7, x8, x9, x10]) ⟨ol, S, N0, _, _, _, _, _, rfl⟩ (fun _ _ _ _ _ => trivial) (fun i x σ H1 H2 hi h yy => ?_) (fun σ H1 h => ?_)
  · obtain ⟨ol, S, N, x6, x7, x8, x9, x10, rfl⟩ := h
    obtain ⟨rfl, rfl⟩ := yy
    have lS := N.ok.len
    have lls := N.s.len
    refine ⟨_, rfl, sl, _, rfl, .inl (SqL.of (hid_ex _ _ N.s.at_)), _, _, rfl, rfl, _, rfl, if2 (fun e => ?_) (fun e => ⟨ol, S, N, _, _, _, _, _, rfl⟩)⟩
    have pos : 0 < S.length := by
      have := of_decide_eq_true e
      rw [List.length_map] at this
      omega
    refine ⟨_, rfl, _, rfl, sl, _, rfl, .inl (SqL.of (hid_ex _ _ N.s.at_)), _, _, rfl, p, pq, ns, _, rfl, rfl, N.l, by rw [List.length_map]; omega, by rw [List.length_map]; omega, fun at_ H3 x3 a0 a1 => ?_⟩
    rw [List.length_map] at a1
    obtain ⟨m, rfl⟩ : ∃ m : Nat, at_ = m := ⟨at_.toNat, by omega⟩
    have hm : m < S.length := by omega
    have hsm := List.getElem?_eq_getElem hm
    generalize S[m] = sp at hsm
    have hgi := List.getElem?_eq_getElem (show m < D.its.length by omega)
    generalize D.its[m] = it at hgi
    have hrow := N.ok.row m it sp hgi hsm
    obtain ⟨b, us, m1, m2, m3, m4⟩ := N.s.row m sp hsm
    have s3 := N.s.mono x3.e
    have m2 := x3.e _ _ m2
    refine ⟨_, rfl, _, rfl, _, rfl, sl, _, _, .ref b, rfl, rfl, SqL.of (hid_ex _ _ s3.at_), refs_at m1, b, _, rfl, .inl (SqL.of (hid_ex _ _ m2)), _, _, rfl, p, pq, ns, _, rfl, rfl, x3.l, by rw [List.length_map, m3, hrow]; split <;> omega, by rw [List.length_map, m3, hrow]; split <;> omega, fun lag H4 x4 b0 b1 => ?_⟩
    rw [List.length_map, m3] at b1
    obtain ⟨j, rfl⟩ : ∃ j : Nat, lag = j := ⟨lag.toNat, by omega⟩
    have hj : j < sp.length := by omega
    have hsj := List.getElem?_eq_getElem hj
    generalize sp[j] = q0 at hsj
    obtain ⟨t, u1, u2⟩ := m4 j q0 hsj
    have le0 := N.ok.le sp (List.mem_of_getElem? hsm) q0 (List.mem_of_getElem? hsj)
    have bd0 := N.ok.bd sp (List.mem_of_getElem? hsm) q0 (List.mem_of_getElem? hsj)
    have s4 := s3.mono x4.e
    have m2 := x4.e _ _ m2
    have u2 := (x3.e.trans x4.e) _ _ u2
    refine nrmG (σ' := [some (.ref p), some (.ref dl), some (.ref sl), some (.ref ol), some (.int n), some (.ref wl), some (.int (0 + (i : Int))), some (.int (m : Nat)), some (.int (j : Nat)), x9, x10]) rfl ?_
    refine ⟨_, rfl, _, rfl, sl, _, _, .ref b, rfl, rfl, SqL.of (hid_ex _ _ s4.at_), refs_at m1, _, rfl, b, _, _, .ref t, rfl, rfl, SqL.of (hid_ex _ _ m2), refs_at u1, t, _, _, .int q0.1, rfl, rfl, SqT.of (hid_ex _ _ u2), rfl, _, rfl, _, rfl, _, rfl, sl, _, _, .ref b, rfl, rfl, SqL.of (hid_ex _ _ s4.at_), refs_at m1, _, rfl, b, _, _, .ref t, rfl, rfl, SqL.of (hid_ex _ _ m2), refs_at u1, t, _, _, .int q0.2, rfl, rfl, SqT.of (hid_ex _ _ u2), rfl, _, rfl, _, rfl, sl, _, _, .ref b, rfl, rfl, SqL.of (hid_ex _ _ s4.at_), refs_at m1, _, rfl, b, _, _, .ref t, rfl, rfl, SqL.of (hid_ex _ _ m2), refs_at u1, t, _, _, .int q0.1, rfl, rfl, SqT.of (hid_ex _ _ u2), rfl, _, _, rfl, rfl, _, _, rfl, rfl, _, _, rfl, p, pq, ns, _, rfl, rfl, x4.l, by omega, by omega, fun z1 H5 x5 c0 c1 => ⟨_, _, rfl, rfl, ?_⟩⟩
    have s5 := s4.mono x5.e
    have m2 := x5.e _ _ m2
    have u2 := x5.e _ _ u2
    refine nrmG (σ' := [some (.ref p), some (.ref dl), some (.ref sl), some (.ref ol), some (.int n), some (.ref wl), some (.int (0 + (i : Int))), some (.int (m : Nat)), some (.int (j : Nat)), some (.int (q0.1 + z1)), x10]) rfl ?_
    refine ⟨_, rfl, _, rfl, _, rfl, _, rfl, sl, _, _, .ref b, rfl, rfl, SqL.of (hid_ex _ _ s5.at_), refs_at m1, _, rfl, b, _, _, .ref t, rfl, rfl, SqL.of (hid_ex _ _ m2), refs_at u1, t, _, _, .int q0.2, rfl, rfl, SqT.of (hid_ex _ _ u2), rfl, _, rfl, _, _, rfl, rfl, _, _, rfl, rfl, _, _, rfl, p, pq, ns, _, rfl, rfl, x5.l, by omega, by omega, fun z2 H6 x6' d0 d1 => ⟨_, _, rfl, rfl, ?_⟩⟩
    have s6 := s5.mono x6'.e
    have m2 := x6'.e _ _ m2
    have xx := ((x3.trans x4).trans x5).trans x6'
    have xx := (PX.refl N.l).trans xx
    have o6 := N.o.mono (noL_px N.l xx)
    have b6 := N.b.trans xx.e
    have w6 := xx.e _ _ N.w
    refine nrmG (σ' := [some (.ref p), some (.ref dl), some (.ref sl), some (.ref ol), some (.int n), some (.ref wl), some (.int (0 + (i : Int))), some (.int (m : Nat)), some (.int (j : Nat)), some (.int (q0.1 + z1)), some (.int (q0.1 + z1 + z2))]) rfl ?_
    obtain ⟨dxo, o', sd, hins⟩ := (o6.mono noL_ex).ins
    have hG6 := (hG.mono b6).mono hid_ex
    obtain ⟨ti, bi, g1, g2, g3⟩ := hG6.item hgi
    obtain ⟨z, hz⟩ : ∃ z, wordsL[j]? = some z := by
      have : j < wordsL.length := by show j < 4; rw [hrow] at hj; split at hj <;> omega
      exact ⟨_, List.getElem?_eq_getElem this⟩
    have ixw : atI [V.str "delay", V.str "length", V.str "walk", V.str "pack"] (j : Int) = some (.str z) := atI_nat (by
      have := congrArg (Option.map V.str) hz
      rw [← List.getElem?_map] at this
      exact this)
    refine ⟨_, rfl, ol, _, dxo, _, rfl, hins, T.c_Outlook, T.m_Outlook_narrowed, rfl, _, rfl, dl, _, _, .ref il, rfl, rfl, SqL.of hG6.at_, rfl, _, rfl, il, _, _, .ref ti, rfl, rfl, SqL.of hG6.items, refs_at g1, ti, _, _, .str it.nm, rfl, rfl, SqT.of g2, itV_1 _ _, _, rfl, _, rfl, wl, _, _, .str z, rfl, rfl, SqL.of (hid_ex _ _ w6), ixw, _, rfl, _, rfl, _, _, _, _, _, rfl, ol, D, S, m, j, it, sp, q0, q0.1 + z1, q0.1 + z1 + z2, z, rfl, o6.mono noL_ex, ok, hgi, hsm, N.ok, hsj, hz, rfl, rfl, rfl, rfl, by omega, by omega, by omega, fun ol2 H7 nol e7 hL7 => ?_⟩
    have P7 := x6'.l.ex e7
    have s7 := s6.mono (exHid e7)
    have m2 := (exHid (p := p) e7) _ _ m2
    have b7 := b6.trans (exHid e7)
    have w7 := (exHid (p := p) e7) _ _ w6
    have o7 := hL7.noL
    refine ⟨_, rfl, _, rfl, by show 2 ≤ sizeLine; decide, fun tn htn => ?_⟩
    have e8 : Ex H7 (upd H7 tn (.tup [.int (q0.1 + z1), .int (q0.1 + z1 + z2)])) := Ex.new htn
    have P8 := P7.ex e8
    have s8 := s7.mono (exHid e8)
    have m2 := (exHid (p := p) e8) _ _ m2
    have b8 := b7.trans (exHid e8)
    have w8 := (exHid (p := p) e8) _ _ w7
    have o8 := o7.mono (noL_mono e8)
    have t8 : hid p (upd H7 tn (.tup [.int (q0.1 + z1), .int (q0.1 + z1 + z2)])) tn = some (.tup [.int (q0.1 + z1), .int (q0.1 + z1 + z2)]) := by rw [hid_ne (P7.ne_new htn).1, upd_same]
    generalize upd H7 tn (.tup [.int (q0.1 + z1), .int (q0.1 + z1 + z2)]) = H8 at P8 s8 m2 b8 w8 o8 t8 ⊢
    have bp8 : b ≠ p := fun z => by rw [z, hid_self] at m2; cases m2
    have m2' := hid_ex _ _ m2
    have bls : b ∈ ls := List.mem_of_getElem? m1
    refine ⟨_, rfl, _, rfl, sl, _, _, .ref b, rfl, rfl, SqL.of (hid_ex _ _ s8.at_), refs_at m1, _, rfl, b, _, _, j, rfl, rfl, m2', ixN_ok (by rw [List.length_map, m3]; exact hj), ol2, setS S m j (q0.1 + z1, q0.1 + z1 + z2), ?_, _, _, _, _, _, rfl⟩
    have bcl : b ≠ pq := fun z => by have := bl b bls; rw [z, bc] at this; cases this
    have hu : hid p (upd H8 b (.lst ((us.map V.ref).set j (.ref tn)))) = upd (hid p H8) b (.lst ((us.map V.ref).set j (.ref tn))) := hid_upd bp8
    refine ⟨⟨P8.ne, by rw [upd_ne (Ne.symm bcl)]; exact P8.cs, ?_⟩, ?_, ?_, N.ok.set hsm hsj (by show q0.1 ≤ q0.1 + z1; omega) (by show q0.1 + z1 ≤ q0.1 + z1 + z2; omega) (by show q0.1 + z1 + z2 ≤ q0.2; omega), o8.mono (noL_upd m2'), ?_⟩
    · obtain ⟨a0, a1, a2, a3, h0, h1⟩ := P8.at_
      exact ⟨a0, a1, a2, a3, h0, by rw [upd_ne (Ne.symm bp8)]; exact h1⟩
    · rw [hu]
      intro x u hx
      rw [upd_ne (fun z => by rw [z, bl b bls] at hx; cases hx)]
      exact b8 _ _ hx
    · rw [hu]
      exact s8.set nd nsl m1 m2 (by rw [m3]; exact hj) t8
    · rw [hu, upd_ne (fun z : wl = b => wls (by rw [z]; exact bls))]
      exact w8
  · obtain ⟨ol, S, N, x6, x7, x8, x9, x10, rfl⟩ := h
    exact ⟨_, rfl, q ol S _ N.l N.b N.s N.ok (N.o.mono (noL_hid N.l))⟩
end
end BB
namespace BB
open PySem PySem.Spec PyProof.Rows L2 He Evl
/-! ### the same day, coarser -/
def csI (step shift : Int) (it : ItD) : ItD := { it with st := step, sh := shift }
def csD (step shift : Int) (D : DyD) : DyD := { D with its := D.its.map (csI step shift) }
section
variable {D : DyD} {step shift : Int} {st cr ap : Int} {zs : List Str}
theorem cs_nm : ((csD step shift D).its.map (·.nm)) = D.its.map (·.nm) := by
  show (D.its.map (csI step shift)).map (·.nm) = _
  rw [List.map_map]
  rfl
theorem cs_spans : spansOf (csD step shift D) = spansOf D := by
  show (D.its.map (csI step shift)).map _ = D.its.map _
  rw [List.map_map]
  rfl
theorem cs_sum : (((csD step shift D).its.filter fun it => !it.pc).map (·.x)) = ((D.its.filter fun it => !it.pc).map (·.x)) := by
  show ((D.its.map (csI step shift)).filter fun it => !it.pc).map (·.x) = _
  induction D.its with
  | nil => rfl
  | cons a r ih =>
    rw [List.map_cons, List.filter_cons, List.filter_cons]
    show (if (!a.pc) = true then _ else _ : List ItD).map (·.x) = (if (!a.pc) = true then _ else _ : List ItD).map (·.x)
    by_cases h : (!a.pc) = true
    · rw [if_pos h, if_pos h, List.map_cons, List.map_cons, ih]
      rfl
    · rw [if_neg h, if_neg h, ih]
theorem cs_ok (h : DayOk D st cr ap zs) (h2 : 2 ≤ step) (h10 : step ≤ 10) (s0 : 0 ≤ shift) (s1 : shift < step) : DayOk (csD step shift D) st cr ap zs := by
  refine ⟨h.hs, ⟨?_, by rw [cs_nm]; exact h.its.nd, fun it hi => ?_, by rw [cs_sum]; exact h.its.sum⟩, fun it hi => ?_, h.w, h.p⟩
  · show (D.its.map (csI step shift)).length ≤ 8
    rw [List.length_map]
    exact h.its.len
  · obtain ⟨it0, h0, rfl⟩ := List.mem_map.mp hi
    have ok := h.its.ok it0 h0
    exact ⟨ok.nm, by show 0 < step; omega, by show step ≤ 16; omega, ok.y1000, ok.dl0, ok.dl8, ok.pc, ok.br⟩
  · obtain ⟨it0, h0, rfl⟩ := List.mem_map.mp hi
    exact ⟨s0, s1⟩
theorem cs_get {i : Nat} {it : ItD} (h : D.its[i]? = some it) : (csD step shift D).its[i]? = some (csI step shift it) := by
  show (D.its.map (csI step shift))[i]? = _
  rw [List.getElem?_map, h]
  rfl
theorem cs_len : (csD step shift D).its.length = D.its.length := List.length_map _
theorem cs_nmOf (k : Nat) : nmOf (csD step shift D).its k = nmOf D.its k := by
  unfold nmOf
  cases h : D.its[k]? with
  | some it => rw [cs_get h]; rfl
  | none =>
    have : (csD step shift D).its[k]? = none := by
      show (D.its.map (csI step shift))[k]? = _
      rw [List.getElem?_map, h]
      rfl
    rw [this]
theorem cs_evV (e : EvD) : evV (csD step shift D).its e = evV D.its e := by
  cases e with
  | op => rfl
  | ev w k => show [V.str w.s, V.str (nmOf _ k)] = [V.str w.s, V.str (nmOf _ k)]; rw [cs_nmOf]
  | pl k n => show [V.str "place", V.str (nmOf _ k), V.int n] = [V.str "place", V.str (nmOf _ k), V.int n]; rw [cs_nmOf]
end
theorem itV_cut (b b' : Addr) (it : ItD) (step shift : Int) : (itV b it).take 2 ++ [V.ref b'] ++ (itV b it).drop 3 = itV b' (csI step shift it) := by
  unfold itV csI
  cases it.pc <;> rfl
theorem itV_len (b : Addr) (it : ItD) : 3 ≤ (itV b it).length ∧ (itV b it).length ≤ 8 := by
  unfold itV
  cases it.pc
  · exact ⟨by show 3 ≤ 8; decide, by show 8 ≤ 8; decide⟩
  · exact ⟨by show 3 ≤ 7; decide, by show 7 ≤ 8; decide⟩
theorem itV_pos (b : Addr) (it : ItD) : 7 ≤ (itV b it).length := by
  unfold itV
  cases it.pc
  · show 7 ≤ 8; decide
  · show 7 ≤ 7; decide
theorem ItL.noL {H : Hp} {t : Addr} {it : ItD} (h : ItL H t it) : ItL (noL H) t it := by
  obtain ⟨b, h1, h2⟩ := h
  exact ⟨b, noL_of h1 fun _ e => (by cases e), noL_of h2 fun _ e => (by cases e)⟩
section
variable {K : PySem.W.Frag} {mg : Str → Option Value} {w : World} {base : Heap}
abbrev XL (K : PySem.W.Frag) (mg : Str → Option Value) (w : World) (base : Heap) (cdv : Value) (A : Around) (outer : List Env) (s : Shared) (H : Hp) (E : XK) : Cx := (cxOf CX0 PP w K mg base N_law "law" (defScope s_law) (ga K "law") cdv A outer s H E).nox
/-- where the last part begins -/
structure CC (K : PySem.W.Frag) (σ : L2.St) (H : Hp) (p pq dl wsl ol t1 t2 : Addr) (ns : List Int) (lsw : List Addr) (D : DyD) (S : SpD) (s g : Nat) : Prop where
  l : PL p pq ns H
  d : DayL (hid p H) dl D
  w : SpW (hid p H) wsl lsw (spansOf D)
  o : OutlookAt K (hid p H) ol D S
  ok : SOk D.its S
  sg : s ≤ g
  gn : g ≤ 2 * D.its.length
  e1 : hid p H t1 = some (.tup (evV D.its (evP s)))
  e2 : hid p H t2 = some (.tup (evV D.its (evP g)))
  st : ∃ v0 v4 v9 v10 v11 v12 v13 v16 v17 v18 v19 v20 v21 v22 v23 v24 v25, σ = [v0, some (.ref p), some (.ref dl), some (.ref wsl), v4, some (.ref ol), some (.int (2 * (D.its.length : Int) + 1)), some (.int (s : Nat)), some (.int (g : Nat)), v9, v10, v11, v12, v13, some (.ref t1), some (.ref t2), v16, v17, v18, v19, v20, v21, v22, v23, v24, v25, none, none]
theorem law_C (T : TX K mg w) (cdv : Value) (A : Around) (outer : List Env) (s0 : Shared) (H0 : Hp) (E : XK) (hr : Room 9 (A.deeper (envOfC "law" (defScope s_law) s0.heap.objs.size (ga K "law") cdv))) :
    ∃ t, PSs (XL K mg w base cdv A outer s0 H0 E) ((defBody s_law).drop 24) t ∧ ∀ (D' : Ends) (σ : L2.St) (H : Hp) (p pq dl wsl ol t1 t2 : Addr) (ns : List Int) (lsw : List Addr) (D : DyD) (S : SpD) (s g : Nat), CC K σ H p pq dl wsl ol t1 t2 ns lsw D S s g → (∀ H', D'.rt (.bl true) H') → t D' σ H := by
  refine ⟨_, (pss_cons (ps_for PassesOwn.never rfl (pi_list (pe_lst (pa_cons (pe_op op_sub (pe_un un_neg pe_int) (pe_fn (ok_take T) (hr.mono (by decide)) T.kp_take T.g__law_take (pa_cons (pv 1) (pa_cons pe_int pa_nil)))) (pa_cons (pe_op op_add (pv 6) (pe_fn (ok_take T) (hr.mono (by decide)) T.kp_take T.g__law_take (pa_cons (pv 1) (pa_cons pe_int pa_nil)))) pa_nil)))) (pg_name (i := 19) sc_law.nd rfl (Or.inl rfl))
        (pss_one (ps_for PassesOwn.never rfl (pi_range1 rfl T.n_range (pa_cons pe_int pa_nil)) (pg_name (i := 20) sc_law.nd rfl (Or.inl rfl))
        (pss_one (ps_if (pt_not (pt_val (pe_fn (ok_same1 T) (hr.mono (by decide)) T.kp_same T.g__law_same (pa_cons (pe_fn (ok_refused T) (hr.mono (by decide)) T.kp_refused T.g__law_refused (pa_cons (pv 5) (pa_cons (pv 20) (pa_cons (pv 19) pa_nil)))) (pa_cons (pe_tup (pa_cons (pv 19) (pa_cons pe_bl (pa_cons pe_bl (pa_cons pe_bl pa_nil))))) pa_nil))))) (pss_one (ps_ret pe_bl))
        pss_nil)))))
      (pss_cons (ps_set (i := 21) sc_law.nd rfl (Or.inr rfl) (pe_op op_add pe_int (pe_fn (ok_take T) (hr.mono (by decide)) T.kp_take T.g__law_take (pa_cons (pv 1) (pa_cons pe_int pa_nil)))))
      (pss_cons (ps_set (i := 22) sc_law.nd rfl (Or.inr rfl) (pe_fn (ok_take T) (hr.mono (by decide)) T.kp_take T.g__law_take (pa_cons (pv 1) (pa_cons (pv 21) pa_nil))))
      (pss_cons (ps_set (i := 23) sc_law.nd rfl (Or.inl rfl) (pe_op op_cat (pe_slice sl_list (pv 2) po_none (po_some pe_int)) (pe_lst (pa_cons (pe_lcD (own := [("_law_item_here", 27)]) rfl sc_law.nd (pi_list (pe_ix ix_list (pv 2) pe_int (fun _ _ => rfl))) (blkOk_by (N := N_law) (sc := defScope s_law) (by decide +kernel)) (fun _ _ _ _ _ => (pg_name (i := 27) sc_law.nd rfl (Or.inl rfl))) (fun _ _ _ _ _ => pts_nil) (fun _ _ _ _ _ => (pe_op op_catA (pe_op op_catA (pe_slice sl_tupA (pv 27) po_none (po_some pe_int)) (pe_tup (pa_cons (pe_tup (pa_cons (pv 21) (pa_cons (pv 22) pa_nil))) pa_nil))) (pe_slice sl_tupA (pv 27) (po_some pe_int) po_none)))) pa_nil))))
      (pss_cons (ps_set (i := 24) sc_law.nd rfl (Or.inl rfl) (pe_ctor (ct_Outlook T) (hr.mono (by decide)) (pa_cons (pe_fn (ok_order T) (hr.mono (by decide)) T.kp_order T.g__law_order (pa_cons (pv 23) pa_nil)) pa_nil)))
      (pss_cons (ps_if (pt_not (pt_val (pe_fn (ok_rows T) (hr.mono (by decide)) T.kp_rows T.g__law_rows (pa_cons (pv 23) (pa_cons (pv 3) (pa_cons (pv 24) (pa_cons (pv 7) pa_nil))))))) (pss_one (ps_ret pe_bl))
        pss_nil)
      (pss_cons (ps_set (i := 13) sc_law.nd rfl (Or.inl rfl) (pe_ctor (ct_Reach T) (hr.mono (by decide)) (pa_cons (pv 24) pa_nil)))
      (pss_cons (ps_for PassesOwn.never rfl (pi_list (pe_lst (pa_cons (pe_fn (ok_bent T) (hr.mono (by decide)) T.kp_bent T.g__law_bent (pa_cons (pv 23) (pa_cons (pv 3) (pa_cons (pv 7) (pa_cons (pe_lst (pa_cons pe_int (pa_cons pe_int pa_nil))) pa_nil))))) (pa_cons (pe_fn (ok_bent T) (hr.mono (by decide)) T.kp_bent T.g__law_bent (pa_cons (pv 23) (pa_cons (pv 3) (pa_cons (pv 7) (pa_cons (pe_lst (pa_cons pe_int (pa_cons pe_int pa_nil))) pa_nil))))) pa_nil)))) (pg_name (i := 25) sc_law.nd rfl (Or.inl rfl))
        (pss_one (ps_if (pt_not (pt_chain op_le op_le (pe_f (pe_fn (ok_nearest T) (hr.mono (by decide)) T.kp_nearest T.g_nearest (pa_cons (pv 13) (pa_cons (pv 14) (pa_cons (pv 15) pa_nil))))) (pe_fn (ok_apart T) (hr.mono (by decide)) T.kp_apart T.g__law_apart (pa_cons (pv 23) (pa_cons (pv 25) (pa_cons (pv 14) (pa_cons (pv 15) pa_nil))))) (pe_f (pe_fn (ok_farthest T) (hr.mono (by decide)) T.kp_farthest T.g_farthest (pa_cons (pv 13) (pa_cons (pv 14) (pa_cons (pv 15) pa_nil))))))) (pss_one (ps_ret pe_bl))
        pss_nil)))
      (pss_one (ps_ret pe_bl)))))))))), ?_⟩
  intro D' σ H p pq dl wsl ol t1 t2 ns lsw D S s g hC hq
  obtain ⟨v0, v4, v9, v10, v11, v12, v13, v16, v17, v18, v19, v20, v21, v22, v23, v24, v25, rfl⟩ := hC.st
  obtain ⟨st, cr, ap, zs, kl, wt, pt, il, ts, hG, dok⟩ := id hC.d
  have ok := dok.its
  have l8 := ok.len
  refine ⟨_, rfl, _, rfl, _, _, rfl, p, pq, ns, 3, rfl, rfl, hC.l, by decide, by decide, fun a1 H1 x1 b1 b2 => ⟨_, _, rfl, rfl, _, rfl, _, rfl, _, _, rfl, p, pq, ns, 3, rfl, rfl, x1.l, by decide, by decide, fun a2 H2 x2 b3 b4 => ⟨_, _, rfl, rfl, by show 2 ≤ sizeLine; decide, fun ll hll => ?_⟩⟩⟩
  have x3 := (x1.trans x2).new (o := .lst [.int (-1 - a1), .int (2 * (D.its.length : Int) + 1 + a2)]) hll
  refine ⟨ll, rfl, ⟨_, SqL.of upd_same⟩, ?_⟩
  have l3 : (upd H2 ll (.lst [.int (-1 - a1), .int (2 * (D.its.length : Int) + 1 + a2)])) ll = some (.lst [.int (-1 - a1), .int (2 * (D.its.length : Int) + 1 + a2)]) := upd_same
  generalize upd H2 ll (.lst [.int (-1 - a1), .int (2 * (D.its.length : Int) + 1 + a2)]) = H3 at x3 l3 ⊢
  refine for_it (walk_list (xs := [.int (-1 - a1), .int (2 * (D.its.length : Int) + 1 + a2)])) (fun i σ H' => Ex H3 H' ∧ ∃ v19 v20, σ = [v0, some (.ref p), some (.ref dl), some (.ref wsl), v4, some (.ref ol), some (.int (2 * (D.its.length : Int) + 1)), some (.int (s : Nat)), some (.int (g : Nat)), v9, v10, v11, v12, v13, some (.ref t1), some (.ref t2), v16, v17, v18, v19, v20, v21, v22, v23, v24, v25, none, none])
    ⟨Ex.refl _, _, _, rfl⟩ (fun i σ H' _ h => SqL.of (h.1 _ _ l3)) (fun i x σ H4 H5 hi h yy => ?_) (fun σ H4 h => ?_)
  · obtain ⟨e4, v19, v20, rfl⟩ := h
    obtain ⟨rfl, ex⟩ := yy
    obtain ⟨pi, rfl, hpi⟩ : ∃ pi : Int, x = .int pi ∧ (pi < 0 ∨ 2 * (D.its.length : Int) < pi) := by
      match i, ex with
      | 0, e => cases e; exact ⟨_, rfl, .inl (by omega)⟩
      | 1, e => cases e; exact ⟨_, rfl, .inr (by omega)⟩
      | j + 2, e => cases e
    refine ⟨_, rfl, by decide, by decide, ?_⟩
    refine for_it walk_range (fun j σ H' => Ex H3 H' ∧ ∃ v20, σ = [v0, some (.ref p), some (.ref dl), some (.ref wsl), v4, some (.ref ol), some (.int (2 * (D.its.length : Int) + 1)), some (.int (s : Nat)), some (.int (g : Nat)), v9, v10, v11, v12, v13, some (.ref t1), some (.ref t2), v16, v17, v18, some (.int pi), v20, v21, v22, v23, v24, v25, none, none])
      ⟨e4, _, rfl⟩ (fun _ _ _ _ _ => trivial) (fun j x σ H6 H7 hj h yy => ?_) (fun σ H6 h => ?_)
    · obtain ⟨e6, v20, rfl⟩ := h
      obtain ⟨rfl, rfl⟩ := yy
      have o6 := ((hC.o.mono x3.e).mono hid_ex).mono e6
      refine ⟨_, rfl, _, rfl, _, rfl, _, _, _, rfl, ol, D, S, _, pi, rfl, rfl, rfl, o6, ok, hC.ok, hpi, fun tt H8 e8 htt => ?_⟩
      refine ⟨_, rfl, by show 4 ≤ sizeLine; decide, fun tu htu => ?_⟩
      have e9 : Ex H8 (upd H8 tu (.tup [.int pi, .bl true, .bl true, .bl false])) := Ex.new htu
      refine ⟨_, _, rfl, tt, tu, _, rfl, rfl, e9 _ _ htt, upd_same, fun x hx => ?_, by show 4 ≤ 1000; decide, _, rfl, ifF rfl ⟨(e6.trans e8).trans e9, _, rfl⟩⟩
      rcases List.mem_cons.mp hx with rfl | hx
      · trivial
      · rcases List.mem_cons.mp hx with rfl | hx
        · trivial
        · rcases List.mem_cons.mp hx with rfl | hx
          · trivial
          · rw [List.mem_singleton.mp hx]
            trivial
    · obtain ⟨e6, v20, rfl⟩ := h
      exact ⟨e6, _, _, rfl⟩
  obtain ⟨e4, v19', v20', rfl⟩ := h
  have x4 := x3.ex e4
  refine ⟨_, rfl, _, _, rfl, p, pq, ns, 9, rfl, rfl, x4.l, by decide, by decide, fun z1 H5 x5 c1 c2 => ⟨_, _, rfl, rfl, ?_⟩⟩
  refine ⟨_, rfl, _, rfl, _, _, rfl, p, pq, ns, 2 + z1, rfl, rfl, x5.l, by omega, by omega, fun shift H6 x6 c3 c4 => ?_⟩
  obtain ⟨step, est⟩ : ∃ x, x = 2 + z1 := ⟨_, rfl⟩
  refine nrmG (σ' := [v0, some (.ref p), some (.ref dl), some (.ref wsl), v4, some (.ref ol), some (.int (2 * (D.its.length : Int) + 1)), some (.int (s : Nat)), some (.int (g : Nat)), v9, v10, v11, v12, v13, some (.ref t1), some (.ref t2), v16, v17, v18, v19', v20', some (.int step), some (.int shift), v23, v24, v25, none, none]) (by rw [est]; rfl) ?_
  have x6 := x4.trans (x5.trans x6)
  have hG := (hG.mono x6.e).mono hid_ex
  have hW := (hC.w.mono x6.e).mono hid_ex
  have he1 := hid_ex _ _ (x6.e _ _ hC.e1)
  have he2 := hid_ex _ _ (x6.e _ _ hC.e2)
  have dok' : DayOk (csD step shift D) st cr ap zs := cs_ok dok (by omega) (by omega) c3 (by omega)
  -- the day's first eight
  refine ⟨_, rfl, _, rfl, dl, _, rfl, SqL.of hG.at_, fun c8 hc8 => ?_⟩
  have e7 : Ex H6 (upd H6 c8 (.lst (cutV [V.int st, .int cr, .ref kl, .ref wt, .ref pt, .int D.ahead, .int ap, .int D.opens, .ref il] none (some 8)))) := Ex.new hc8
  have k8 : (upd H6 c8 (.lst (cutV [V.int st, .int cr, .ref kl, .ref wt, .ref pt, .int D.ahead, .int ap, .int D.opens, .ref il] none (some 8)))) c8 = some (.lst [V.int st, .int cr, .ref kl, .ref wt, .ref pt, .int D.ahead, .int ap, .int D.opens]) := upd_same
  generalize upd H6 c8 (.lst (cutV [V.int st, .int cr, .ref kl, .ref wt, .ref pt, .int D.ahead, .int ap, .int D.opens, .ref il] none (some 8))) = H7 at e7 k8 ⊢
  have hG7 := hG.mono e7
  refine ⟨_, rfl, dl, _, _, .ref il, rfl, rfl, SqL.of hG7.at_, rfl, il, rfl, ⟨_, SqL.of hG7.items⟩, fun d hd => ?_⟩
  refine lc_it (walk_list (xs := ts.map V.ref)) (fun i H' => Ex H7 H' ∧ ∃ us : List Addr, H' d = some (.lst (us.map V.ref)) ∧ us.length = i ∧ ∀ (j : Nat) (it : ItD), j < i → D.its[j]? = some it → ∃ t, us[j]? = some t ∧ ItL (noL H') t (csI step shift it))
    ⟨Ex.new hd, [], upd_same, rfl, fun j it hj => absurd hj (Nat.not_lt_zero _)⟩ (fun i H' _ h => SqL.of (h.1 _ _ hG7.items)) (fun i x H8 H9 hi h yy => ?_) (fun H8 h => ?_)
  · obtain ⟨e8, us, k1, k2, k3⟩ := h
    obtain ⟨rfl, ex2⟩ := yy
    obtain ⟨t, ht, rfl⟩ := Option.map_eq_some_iff.mp ((List.getElem?_map ..).symm.trans ex2)
    have hi2 : i < D.its.length := by rw [List.length_map, hG7.it.2.1] at hi; exact hi
    have hgi := List.getElem?_eq_getElem hi2
    generalize D.its[i] = it at hgi
    obtain ⟨t', b, g1, g2, g3⟩ := hG7.item hgi
    rw [ht] at g1
    cases g1
    have len7 := itV_pos b it
    have len8 := (itV_len b it).2
    have c2 : cutV (itV b it) none (some 2) = (itV b it).take 2 := cut_to (c := 2) (by omega)
    have c3' : cutV (itV b it) (some 3) none = (itV b it).drop 3 := cut_from (c := 3) (by omega)
    have nw2 : ¬ (HT.sIx (itV b it).length 0 none = 0 ∧ HT.sIx (itV b it).length (itV b it).length (some 2) = (itV b it).length) := fun z => by
      have := z.2
      rw [show (some (2 : Int)) = some ((2 : Nat) : Int) from rfl, HT.sIx_nat] at this
      omega
    have nw3 : ¬ (HT.sIx (itV b it).length 0 (some 3) = 0 ∧ HT.sIx (itV b it).length (itV b it).length none = (itV b it).length) := fun z => by
      have := z.1
      rw [show (some (3 : Int)) = some ((3 : Nat) : Int) from rfl, HT.sIx_nat] at this
      omega
    have g2 := e8 _ _ g2
    refine ⟨rfl, _, rfl, _, rfl, t, _, rfl, SqT.of g2, fun z => absurd z nw2, fun _ p1 hp1 => ?_⟩
    rw [c2]
    have f1 : Ex H9 (upd H9 p1 (.tup ((itV b it).take 2))) := Ex.new hp1
    have q1 : (upd H9 p1 (.tup ((itV b it).take 2))) p1 = some (.tup ((itV b it).take 2)) := upd_same
    generalize upd H9 p1 (.tup ((itV b it).take 2)) = Ha at f1 q1 ⊢
    refine ⟨_, rfl, _, rfl, by show 2 ≤ sizeLine; decide, fun bb hbb => ?_⟩
    have f2 := f1.trans (Ex.new (o := .tup [.int step, .int shift]) hbb)
    have q1 := (Ex.new (o := .tup [.int step, .int shift]) hbb) _ _ q1
    have qb : (upd Ha bb (.tup [.int step, .int shift])) bb = some (.tup [.int step, .int shift]) := upd_same
    generalize upd Ha bb (.tup [.int step, .int shift]) = Hb at f2 q1 qb ⊢
    refine ⟨by show 1 ≤ sizeLine; decide, fun b2 hb2 => ?_⟩
    have f3 := f2.trans (Ex.new (o := .tup [.ref bb]) hb2)
    have q1 := (Ex.new (o := .tup [.ref bb]) hb2) _ _ q1
    have qb := (Ex.new (o := .tup [.ref bb]) hb2) _ _ qb
    have q2 : (upd Hb b2 (.tup [.ref bb])) b2 = some (.tup [.ref bb]) := upd_same
    generalize upd Hb b2 (.tup [.ref bb]) = Hc at f3 q1 qb q2 ⊢
    have nt2 : (itV b it).take 2 ≠ [] := fun z => by have := congrArg List.length z; rw [List.length_take, List.length_nil] at this; omega
    have nd3 : (itV b it).drop 3 ≠ [] := fun z => by have := congrArg List.length z; rw [List.length_drop, List.length_nil] at this; omega
    refine ⟨p1, b2, _, _, rfl, rfl, SqT.of q1, SqT.of q2, sz_of (by rw [List.length_take, List.length_singleton]; omega), fun z => absurd z nt2, fun _ z => (by cases z), fun _ _ p2 hp2 => ?_⟩
    have f4 := f3.trans (Ex.new (o := .tup ((itV b it).take 2 ++ [.ref bb])) hp2)
    have qb := (Ex.new (o := .tup ((itV b it).take 2 ++ [.ref bb])) hp2) _ _ qb
    have q3 : (upd Hc p2 (.tup ((itV b it).take 2 ++ [.ref bb]))) p2 = some (.tup ((itV b it).take 2 ++ [.ref bb])) := upd_same
    generalize upd Hc p2 (.tup ((itV b it).take 2 ++ [.ref bb])) = Hd at f4 qb q3 ⊢
    refine ⟨_, rfl, _, rfl, t, _, rfl, SqT.of (f4 _ _ g2), fun z => absurd z nw3, fun _ p3 hp3 => ?_⟩
    rw [c3']
    have f5 := f4.trans (Ex.new (o := .tup ((itV b it).drop 3)) hp3)
    have qb := (Ex.new (o := .tup ((itV b it).drop 3)) hp3) _ _ qb
    have q3 := (Ex.new (o := .tup ((itV b it).drop 3)) hp3) _ _ q3
    have q4 : (upd Hd p3 (.tup ((itV b it).drop 3))) p3 = some (.tup ((itV b it).drop 3)) := upd_same
    generalize upd Hd p3 (.tup ((itV b it).drop 3)) = He at f5 qb q3 q4 ⊢
    refine ⟨p2, p3, _, _, rfl, rfl, SqT.of q3, SqT.of q4, sz_of (by rw [List.length_append, List.length_take, List.length_drop, List.length_singleton]; omega), fun z => absurd z (List.append_ne_nil_of_right_ne_nil _ (List.cons_ne_nil _ _)), fun _ z => absurd z nd3, fun _ _ p4 hp4 => ?_⟩
    rw [itV_cut b bb it step shift]
    have f6 := f5.trans (Ex.new (o := .tup (itV bb (csI step shift it))) hp4)
    have qb := (Ex.new (o := .tup (itV bb (csI step shift it))) hp4) _ _ qb
    have q5 : (upd He p4 (.tup (itV bb (csI step shift it)))) p4 = some (.tup (itV bb (csI step shift it))) := upd_same
    generalize upd He p4 (.tup (itV bb (csI step shift it))) = Hf at f6 qb q5 ⊢
    have hI : ItL Hf p4 (csI step shift it) := ⟨bb, q5, qb⟩
    have d6 := f6 _ _ k1
    refine ⟨_, d6, sz_lt (by rw [List.length_map]; omega), (e8.trans f6).mut hd, us ++ [p4], by rw [upd_same, List.map_append]; rfl, by simp [k2], fun j it' hj hit => ?_⟩
    have en := noL_upd (o := .lst (us.map V.ref ++ [.ref p4])) d6
    by_cases hji : j = i
    · subst hji
      rw [hgi] at hit
      cases hit
      exact ⟨p4, by rw [List.getElem?_append_right (by omega), k2, Nat.sub_self]; rfl, hI.noL.mono en⟩
    · obtain ⟨y, y1, y2⟩ := k3 j it' (by omega) hit
      exact ⟨y, by rw [List.getElem?_append_left (by omega)]; exact y1, y2.mono ((noL_mono f6).trans en)⟩
  obtain ⟨e8, us, k1, k2, k3⟩ := h
  rw [List.length_map, hG7.it.2.1] at k2 k3
  have hits : ItsG H8 d us (csD step shift D).its := by
    refine ⟨k1, by rw [cs_len]; exact k2, fun i it hi => ?_⟩
    have hi' : (D.its.map (csI step shift))[i]? = some it := hi
    rw [List.getElem?_map] at hi'
    obtain ⟨it0, h0, rfl⟩ := Option.map_eq_some_iff.mp hi'
    obtain ⟨t, h1, h2⟩ := k3 i it0 (List.getElem?_eq_some_iff.mp h0).1 h0
    exact ⟨t, h1, h2.mono noL_ex⟩
  refine ⟨by show 1 ≤ sizeLine; decide, fun l1 hl1 => ?_⟩
  have g1 : Ex H8 (upd H8 l1 (.lst [.ref d])) := Ex.new hl1
  have q1 : (upd H8 l1 (.lst [.ref d])) l1 = some (.lst [.ref d]) := upd_same
  generalize upd H8 l1 (.lst [.ref d]) = H9 at g1 q1 ⊢
  refine ⟨c8, l1, _, _, rfl, rfl, (e8.trans g1) _ _ k8, q1, by show 8 + 1 ≤ sizeLine; decide, fun nd hnd => ?_⟩
  have g2 := g1.trans (Ex.new (o := .lst ([V.int st, .int cr, .ref kl, .ref wt, .ref pt, .int D.ahead, .int ap, .int D.opens] ++ [.ref d])) hnd)
  have q2 : (upd H9 nd (.lst ([V.int st, .int cr, .ref kl, .ref wt, .ref pt, .int D.ahead, .int ap, .int D.opens] ++ [.ref d]))) nd = some (.lst [.int st, .int cr, .ref kl, .ref wt, .ref pt, .int D.ahead, .int ap, .int D.opens, .ref d]) := upd_same
  generalize upd H9 nd (.lst ([V.int st, .int cr, .ref kl, .ref wt, .ref pt, .int D.ahead, .int ap, .int D.opens] ++ [.ref d])) = Ha at g2 q2 ⊢
  have E1 := e7.trans (e8.trans g2)
  have hGa := hG.mono E1
  have dayN : DayL Ha nd (csD step shift D) := ⟨st, cr, ap, zs, kl, wt, pt, d, us, ⟨q2, hGa.kd, hGa.wk, hGa.pk, hits.mono g2⟩, dok'⟩
  refine nrmG (σ' := [v0, some (.ref p), some (.ref dl), some (.ref wsl), v4, some (.ref ol), some (.int (2 * (D.its.length : Int) + 1)), some (.int (s : Nat)), some (.int (g : Nat)), v9, v10, v11, v12, v13, some (.ref t1), some (.ref t2), v16, v17, v18, v19', v20', some (.int step), some (.int shift), some (.ref nd), v24, v25, none, none]) rfl ?_
  have ok' := dok'.its
  have sok' := dok'.sok
  have hWa : SpW Ha wsl lsw (spansOf (csD step shift D)) := by rw [cs_spans]; exact hW.mono E1
  have he1 := E1 _ _ he1
  have he2 := E1 _ _ he2
  rw [← cs_evV (step := step) (shift := shift)] at he1 he2
  have hgn : g ≤ 2 * (csD step shift D).its.length := by rw [cs_len]; exact hC.gn
  have hsg := hC.sg
  generalize csD step shift D = D2 at dayN ok' sok' hWa he1 he2 hgn dok'
  -- the outlook
  refine ⟨_, rfl, _, rfl, nd, D2, rfl, dayN, fun o Hb no eb hO => ⟨_, rfl, o, D2, rfl, hO, ok', fun ol2 sd Hc nol ec hIns hSp => ?_⟩⟩
  have hL : OutlookAt K Hc ol2 D2 (spansOf D2) := ⟨o, sd, hIns, hO.mono ec, hSp⟩
  have E2 := eb.trans ec
  refine ⟨_, rfl, _, rfl, _, rfl, _, rfl, _, _, _, _, rfl, nd, wsl, ol2, lsw, D2, spansOf D2, s, rfl, rfl, rfl, rfl, dayN.mono E2, hWa.mono E2, sok', hL, by omega, fun Hd ed => ⟨_, rfl, ifF rfl ?_⟩⟩
  refine ⟨_, rfl, _, rfl, ol2, D2, spansOf D2, rfl, hL.mono ed, ok', sok', fun rr He tabs nrr ee hR => ?_⟩
  have E3 := (E2.trans ed).trans ee
  have hL := hL.mono (ed.trans ee)
  refine nrmG (σ' := [v0, some (.ref p), some (.ref dl), some (.ref wsl), v4, some (.ref ol), some (.int (2 * (D.its.length : Int) + 1)), some (.int (s : Nat)), some (.int (g : Nat)), v9, v10, v11, v12, some (.ref rr), some (.ref t1), some (.ref t2), v16, v17, v18, v19', v20', some (.int step), some (.int shift), some (.ref nd), some (.ref ol2), v25, none, none]) rfl ?_
  -- the two rows
  refine ⟨_, rfl, _, rfl, _, rfl, by show 2 ≤ sizeLine; decide, fun sd1 hsd1 => ?_⟩
  have es1 : Ex He (upd He sd1 (.lst [.int (if true then 0 else 1), .int (if true then 1 else 0)])) := Ex.new hsd1
  refine ⟨_, _, _, _, rfl, nd, wsl, sd1, lsw, D2, spansOf D2, s, true, rfl, rfl, rfl, rfl, dayN.mono (E3.trans es1), hWa.mono (E3.trans es1), sok', upd_same, fun r1 Hf nr1 ef hr1 => ?_⟩
  have E4 := es1.trans ef
  refine ⟨_, rfl, _, rfl, _, rfl, by show 2 ≤ sizeLine; decide, fun sd2 hsd2 => ?_⟩
  have es2 : Ex Hf (upd Hf sd2 (.lst [.int (if false then 0 else 1), .int (if false then 1 else 0)])) := Ex.new hsd2
  refine ⟨_, _, _, _, rfl, nd, wsl, sd2, lsw, D2, spansOf D2, s, false, rfl, rfl, rfl, rfl, dayN.mono ((E3.trans E4).trans es2), hWa.mono ((E3.trans E4).trans es2), sok', upd_same, fun r2 Hg nr2 eg hr2 => ?_⟩
  refine ⟨by show 2 ≤ sizeLine; decide, fun rl hrl => ⟨rl, rfl, ⟨_, SqL.of upd_same⟩, ?_⟩⟩
  have el : Ex Hg (upd Hg rl (.lst [.ref r1, .ref r2])) := Ex.new hrl
  have krl : (upd Hg rl (.lst [.ref r1, .ref r2])) rl = some (.lst [.ref r1, .ref r2]) := upd_same
  have hr1 := hr1.mono ((es2.trans eg).trans el)
  have hr2 := hr2.mono el
  have E5 := (E4.trans (es2.trans eg)).trans el
  generalize upd Hg rl (.lst [.ref r1, .ref r2]) = Hh at el krl hr1 hr2 E5 ⊢
  refine for_it (walk_list (xs := [.ref r1, .ref r2])) (fun i σ H' => Ex Hh H' ∧ ∃ v25, σ = [v0, some (.ref p), some (.ref dl), some (.ref wsl), v4, some (.ref ol), some (.int (2 * (D.its.length : Int) + 1)), some (.int (s : Nat)), some (.int (g : Nat)), v9, v10, v11, v12, some (.ref rr), some (.ref t1), some (.ref t2), v16, v17, v18, v19', v20', some (.int step), some (.int shift), some (.ref nd), some (.ref ol2), v25, none, none])
    ⟨Ex.refl _, _, rfl⟩ (fun i σ H' _ h => SqL.of (h.1 _ _ krl)) (fun i x σ Hi Hj hi h yy => ?_) (fun σ Hi h => ?_)
  · obtain ⟨ei, v25, rfl⟩ := h
    obtain ⟨rfl, ex⟩ := yy
    obtain ⟨r, late, rfl, hr⟩ : ∃ (r : Addr) (late : Bool), x = .ref r ∧ RowV Hh r (bent D2.its (spansOf D2) s late) := by
      match i, ex with
      | 0, e => cases e; exact ⟨r1, true, rfl, hr1⟩
      | 1, e => cases e; exact ⟨r2, false, rfl, hr2⟩
      | j + 2, e => cases e
    have E6 := E5.trans ei
    have bt := law_between (x := 0) (p := s) (late := late) ok' sok' hR.1 hsg hgn
    refine ⟨_, rfl, _, rfl, _, rfl, _, _, _, rfl, rr, ol2, t1, t2, D2, spansOf D2, tabs, evP s, evP g, rfl, rfl, rfl, hR.mono E6, hL.mono E6, ok', sok', by have := dok'.hs.ah; omega, evP_ok (by omega), evP_ok hgn, (E3.trans E6) _ _ he1, (E3.trans E6) _ _ he2, fun pd Hk xn ek hD hN => ⟨_, _, rfl, hD.ticks T, ?_⟩⟩
    have E7 := E6.trans ek
    refine ⟨_, rfl, _, rfl, _, rfl, _, rfl, _, _, _, _, rfl, nd, r, t1, t2, D2, _, evP s, evP g, rfl, rfl, rfl, rfl, dayN.mono (E3.trans E7), hr.mono (ei.trans ek), bent_ok, evP_ok (by omega), evP_ok hgn, (E3.trans E7) _ _ he1, (E3.trans E7) _ _ he2, fun Hm em => ?_⟩
    have E8 := E7.trans em
    have b1 := (law_between (x := xn) (p := s) (late := late) ok' sok' hR.1 hsg hgn).1 hN
    refine ⟨_, _, rfl, rfl, _, rfl, ifT (decide_eq_true b1) ?_⟩
    refine ⟨_, rfl, _, rfl, _, rfl, _, _, _, rfl, rr, ol2, t1, t2, D2, spansOf D2, tabs, evP s, evP g, rfl, rfl, rfl, hR.mono E8, hL.mono E8, ok', sok', by have := dok'.hs.ah; omega, evP_ok (by omega), evP_ok hgn, (E3.trans E8) _ _ he1, (E3.trans E8) _ _ he2, fun pf Hn xf en hDf hNf => ⟨_, _, rfl, hDf.ticks T, ?_⟩⟩
    have b2 := (law_between (x := xf) (p := s) (late := late) ok' sok' hR.1 hsg hgn).2 hNf
    refine ⟨_, _, rfl, rfl, _, rfl, ifF ?_ ⟨((ei.trans ek).trans em).trans en, _, rfl⟩⟩
    rw [decide_eq_true b2]
    rfl
  · exact hq _
end
end BB
namespace BB
open PySem PySem.Spec PyProof.Rows L2 He Evl
theorem pl_hidT {p pq t : Addr} {ns : List Int} {H : Hp} {vs : List V} (h : PL p pq ns H) (ht : H t = some (.tup vs)) : hid p H t = some (.tup vs) := by
  obtain ⟨_, _, _, _, _, hp⟩ := h.at_
  rw [hid_ne (fun z => by rw [z, hp] at ht; cases ht)]
  exact ht
section
variable {K : PySem.W.Frag} {mg : Str → Option Value} {w : World} {base : Heap}
/-- where the middle part begins -/
structure CB (K : PySem.W.Frag) (σ : L2.St) (H : Hp) (p pq dl wsl sl ol t3 t4 rr : Addr) (ns : List Int) (lsw ls : List Addr) (D : DyD) (S : SpD) (tabs : List (List Int)) (s g : Nat) (e f : EvD) : Prop where
  l : PL p pq ns H
  d : DayL (hid p H) dl D
  w : SpW (hid p H) wsl lsw (spansOf D)
  sp : SpW (hid p H) sl ls S
  o : OutlookAt K (hid p H) ol D S
  ok : SOk D.its S
  one : ∀ it ∈ D.its, it.st = 1 ∧ it.sh = 0
  r : ReachAt K H rr ol D S tabs
  sg : s ≤ g
  gn : g ≤ 2 * D.its.length
  he : EvOk D.its e
  hf : EvOk D.its f
  ne : ∀ k, e ≠ .ev .enter k
  nf : ∀ k, f ≠ .ev .out k
  e3 : hid p H t3 = some (.tup (evV D.its e))
  e4 : hid p H t4 = some (.tup (evV D.its f))
  st : ∃ v0 v9 v10, σ = [v0, some (.ref p), some (.ref dl), some (.ref wsl), some (.ref sl), some (.ref ol), some (.int (2 * (D.its.length : Int) + 1)), some (.int (s : Nat)), some (.int (g : Nat)), v9, v10, some (.ref t3), some (.ref t4), some (.ref rr), none, none, none, none, none, none, none, none, none, none, none, none, none, none]
theorem law_B (T : TX K mg w) (cdv : Value) (A : Around) (outer : List Env) (s0 : Shared) (H0 : Hp) (E : XK) (hr : Room 9 (A.deeper (envOfC "law" (defScope s_law) s0.heap.objs.size (ga K "law") cdv))) :
    ∃ t, PSs (XL K mg w base cdv A outer s0 H0 E) ((defBody s_law).drop 13) t ∧ ∀ (D' : Ends) (σ : L2.St) (H : Hp) (p pq dl wsl sl ol t3 t4 rr : Addr) (ns : List Int) (lsw ls : List Addr) (D : DyD) (S : SpD) (tabs : List (List Int)) (s g : Nat) (e f : EvD), CB K σ H p pq dl wsl sl ol t3 t4 rr ns lsw ls D S tabs s g e f → (∀ H', D'.rt (.bl true) H') → t D' σ H := by
  obtain ⟨tC, hCC, k2⟩ := law_C (base := base) T cdv A outer s0 H0 E hr
  refine ⟨_, (pss_cons (ps_if (PW.pt (pw_or (pt_not (pt_val (pe_fn (ok_rows T) (hr.mono (by decide)) T.kp_rows T.g__law_rows (pa_cons (pv 2) (pa_cons (pv 4) (pa_cons (pv 5) (pa_cons (pv 7) pa_nil))))))) (pw_or1 (pt_not (pt_val (pe_fn (ok_rows T) (hr.mono (by decide)) T.kp_rows T.g__law_rows (pa_cons (pv 2) (pa_cons (pv 4) (pa_cons (pv 5) (pa_cons (pv 8) pa_nil)))))))))) (pss_one (ps_ret pe_bl))
        pss_nil)
      (pss_cons (ps_set (i := 14) sc_law.nd rfl (Or.inl rfl) (pe_fn (ok_event T) (hr.mono (by decide)) T.kp_event T.g__law_event (pa_cons (pv 2) (pa_cons (pv 7) pa_nil))))
      (pss_cons (ps_set (i := 15) sc_law.nd rfl (Or.inl rfl) (pe_fn (ok_event T) (hr.mono (by decide)) T.kp_event T.g__law_event (pa_cons (pv 2) (pa_cons (pv 8) pa_nil))))
      (pss_cons (ps_set (i := 16) sc_law.nd rfl (Or.inl rfl) (pe_fn (ok_bent T) (hr.mono (by decide)) T.kp_bent T.g__law_bent (pa_cons (pv 2) (pa_cons (pv 4) (pa_cons (pv 7) (pa_cons (pe_lst (pa_cons pe_int (pa_cons pe_int pa_nil))) pa_nil))))))
      (pss_cons (ps_set (i := 17) sc_law.nd rfl (Or.inl rfl) (pe_fn (ok_bent T) (hr.mono (by decide)) T.kp_bent T.g__law_bent (pa_cons (pv 2) (pa_cons (pv 4) (pa_cons (pv 7) (pa_cons (pe_lst (pa_cons pe_int (pa_cons pe_int pa_nil))) pa_nil))))))
      (pss_cons (ps_if (pt_not (pt_val (pe_fn (ok_same0 T) (hr.mono (by decide)) T.kp_same T.g__law_same (pa_cons (pe_f (pe_fn (ok_nearest T) (hr.mono (by decide)) T.kp_nearest T.g_nearest (pa_cons (pv 13) (pa_cons (pv 14) (pa_cons (pv 15) pa_nil))))) (pa_cons (pe_fn (ok_apart T) (hr.mono (by decide)) T.kp_apart T.g__law_apart (pa_cons (pv 2) (pa_cons (pv 16) (pa_cons (pv 14) (pa_cons (pv 15) pa_nil))))) pa_nil))))) (pss_one (ps_ret pe_bl))
        pss_nil)
      (pss_cons (ps_if (pt_not (pt_val (pe_fn (ok_same0 T) (hr.mono (by decide)) T.kp_same T.g__law_same (pa_cons (pe_f (pe_fn (ok_farthest T) (hr.mono (by decide)) T.kp_farthest T.g_farthest (pa_cons (pv 13) (pa_cons (pv 14) (pa_cons (pv 15) pa_nil))))) (pa_cons (pe_fn (ok_apart T) (hr.mono (by decide)) T.kp_apart T.g__law_apart (pa_cons (pv 2) (pa_cons (pv 17) (pa_cons (pv 14) (pa_cons (pv 15) pa_nil))))) pa_nil))))) (pss_one (ps_ret pe_bl))
        pss_nil)
      (pss_cons (ps_set (i := 18) sc_law.nd rfl (Or.inl rfl) (pe_fn (ok_apart T) (hr.mono (by decide)) T.kp_apart T.g__law_apart (pa_cons (pv 2) (pa_cons (pe_fn (ok_bent T) (hr.mono (by decide)) T.kp_bent T.g__law_bent (pa_cons (pv 2) (pa_cons (pv 4) (pa_cons (pe_fn (ok_point T) (hr.mono (by decide)) T.kp_point T.g__law_point (pa_cons (pv 2) (pa_cons (pv 12) pa_nil))) (pa_cons (pe_lst (pa_cons pe_int (pa_cons pe_int pa_nil))) pa_nil))))) (pa_cons (pv 11) (pa_cons (pv 12) pa_nil))))))
      (pss_cons (ps_if (pt_cmpR op_le (pe_fn (ok_point T) (hr.mono (by decide)) T.kp_point T.g__law_point (pa_cons (pv 2) (pa_cons (pv 11) pa_nil))) (pe_fn (ok_point T) (hr.mono (by decide)) T.kp_point T.g__law_point (pa_cons (pv 2) (pa_cons (pv 12) pa_nil))) (nomark _)) (pss_one (ps_set (i := 18) sc_law.nd rfl (Or.inl rfl) (pe_fn (ok_apart T) (hr.mono (by decide)) T.kp_apart T.g__law_apart (pa_cons (pv 2) (pa_cons (pe_fn (ok_bent T) (hr.mono (by decide)) T.kp_bent T.g__law_bent (pa_cons (pv 2) (pa_cons (pv 4) (pa_cons (pe_fn (ok_point T) (hr.mono (by decide)) T.kp_point T.g__law_point (pa_cons (pv 2) (pa_cons (pv 11) pa_nil))) (pa_cons (pe_lst (pa_cons pe_int (pa_cons pe_int pa_nil))) pa_nil))))) (pa_cons (pv 11) (pa_cons (pv 12) pa_nil)))))))
        pss_nil)
      (pss_cons (ps_if (pt_not (pt_val (pe_fn (ok_same0 T) (hr.mono (by decide)) T.kp_same T.g__law_same (pa_cons (pe_f (pe_fn (ok_nearest T) (hr.mono (by decide)) T.kp_nearest T.g_nearest (pa_cons (pv 13) (pa_cons (pv 11) (pa_cons (pv 12) pa_nil))))) (pa_cons (pv 18) pa_nil))))) (pss_one (ps_ret pe_bl))
        pss_nil)
      (pss_cons (ps_if (pt_not (pt_val (pe_fn (ok_same0 T) (hr.mono (by decide)) T.kp_same T.g__law_same (pa_cons (pe_f (pe_fn (ok_farthest T) (hr.mono (by decide)) T.kp_farthest T.g_farthest (pa_cons (pv 13) (pa_cons (pv 12) (pa_cons (pv 11) pa_nil))))) (pa_cons (pe_op op_sub pe_int (pv 18)) pa_nil))))) (pss_one (ps_ret pe_bl))
        pss_nil)
      hCC))))))))))), ?_⟩
  intro D' σ H p pq dl wsl sl ol t3 t4 rr ns lsw ls D S tabs s g e f hC hq
  obtain ⟨v0, v9, v10, rfl⟩ := hC.st
  have hD := hC.d.mono hid_ex
  have hS := hC.sp.mono hid_ex
  have hL := hC.o.mono hid_ex
  have hR := hC.r
  have ht3 := hid_ex _ _ hC.e3
  have ht4 := hid_ex _ _ hC.e4
  obtain ⟨st, cr, ap, zs, kl, wt, pt, il, ts, hG, dok⟩ := id hD
  have ok := dok.its
  have hah : 0 ≤ D.ahead := by have := dok.hs.ah; omega
  have hsn : s ≤ 2 * D.its.length := by have := hC.sg; have := hC.gn; omega
  have hgn := hC.gn
  obtain ⟨pe, hpe, lpe⟩ := ptOf_nat hC.he hah
  obtain ⟨pf, hpf, lpf⟩ := ptOf_nat hC.hf hah
  refine ⟨_, rfl, _, rfl, _, rfl, _, rfl, _, _, _, _, rfl, dl, sl, ol, ls, D, S, s, rfl, rfl, rfl, rfl, hD, hS, hC.ok, hL, hsn, fun H1 e1 => ⟨_, rfl, ifF rfl ⟨_, rfl, _, rfl, _, rfl, _, rfl, _, _, _, _, rfl, dl, sl, ol, ls, D, S, g, rfl, rfl, rfl, rfl, hD.mono e1, hS.mono e1, hC.ok, hL.mono e1, hgn, fun H2 e2 => ⟨_, rfl, ifF rfl ?_⟩⟩⟩⟩
  have E2 := e1.trans e2
  refine ⟨_, rfl, _, rfl, _, _, rfl, dl, D, s, rfl, rfl, hD.mono E2, hsn, fun t1 H3 e3 ht1 => ?_⟩
  have E3 := E2.trans e3
  refine ⟨_, rfl, _, rfl, _, _, rfl, dl, D, g, rfl, rfl, hD.mono E3, hgn, fun t2 H4 e4 ht2 => ?_⟩
  have E4 := E3.trans e4
  have ht1 := e4 _ _ ht1
  refine ⟨_, rfl, _, rfl, _, rfl, by show 2 ≤ sizeLine; decide, fun sd1 hsd1 => ?_⟩
  have es1 : Ex H4 (upd H4 sd1 (.lst [.int (if true then 0 else 1), .int (if true then 1 else 0)])) := Ex.new hsd1
  refine ⟨_, _, _, _, rfl, dl, sl, sd1, ls, D, S, s, true, rfl, rfl, rfl, rfl, hD.mono (E4.trans es1), hS.mono (E4.trans es1), hC.ok, upd_same, fun la H5 nla e5 hla => ?_⟩
  have F5 := es1.trans e5
  refine ⟨_, rfl, _, rfl, _, rfl, by show 2 ≤ sizeLine; decide, fun sd2 hsd2 => ?_⟩
  have es2 : Ex H5 (upd H5 sd2 (.lst [.int (if false then 0 else 1), .int (if false then 1 else 0)])) := Ex.new hsd2
  refine ⟨_, _, _, _, rfl, dl, sl, sd2, ls, D, S, s, false, rfl, rfl, rfl, rfl, hD.mono ((E4.trans F5).trans es2), hS.mono ((E4.trans F5).trans es2), hC.ok, upd_same, fun er H6 ner e6 her => ?_⟩
  have F6 := F5.trans (es2.trans e6)
  have E6 := E4.trans F6
  have hla := hla.mono (es2.trans e6)
  refine nrmG (σ' := [v0, some (.ref p), some (.ref dl), some (.ref wsl), some (.ref sl), some (.ref ol), some (.int (2 * (D.its.length : Int) + 1)), some (.int (s : Nat)), some (.int (g : Nat)), v9, v10, some (.ref t3), some (.ref t4), some (.ref rr), some (.ref t1), some (.ref t2), some (.ref la), some (.ref er), none, none, none, none, none, none, none, none, none, none]) rfl ?_
  have ht1 := F6 _ _ ht1
  have ht2 := F6 _ _ ht2
  have okp1 := evP_ok (its := D.its) hsn
  have okp2 := evP_ok (its := D.its) hgn
  -- the points
  refine ⟨_, rfl, _, rfl, _, rfl, _, _, _, rfl, rr, ol, t1, t2, D, S, tabs, evP s, evP g, rfl, rfl, rfl, hR.mono E6, hL.mono E6, ok, hC.ok, hah, okp1, okp2, ht1, ht2, fun pd H7 x1 e7 hD1 hN1 => ⟨_, _, rfl, hD1.ticks T, ?_⟩⟩
  have ht1 := e7 _ _ ht1
  have ht2 := e7 _ _ ht2
  refine ⟨_, rfl, _, rfl, _, rfl, _, rfl, _, _, _, _, rfl, dl, la, t1, t2, D, _, evP s, evP g, rfl, rfl, rfl, rfl, hD.mono (E6.trans e7), hla.mono e7, bent_ok, okp1, okp2, ht1, ht2, fun H8 e8 => ?_⟩
  have hx1 := (law_pts (x := x1) hC.one ok hC.ok hR.1 hah hC.sg hgn).1 hN1
  refine ⟨_, _, rfl, trivial, congrArg V.int hx1, _, rfl, ifF rfl ?_⟩
  have E8 := (E6.trans e7).trans e8
  have ht1 := e8 _ _ ht1
  have ht2 := e8 _ _ ht2
  have her := her.mono (e7.trans e8)
  refine ⟨_, rfl, _, rfl, _, rfl, _, _, _, rfl, rr, ol, t1, t2, D, S, tabs, evP s, evP g, rfl, rfl, rfl, hR.mono E8, hL.mono E8, ok, hC.ok, hah, okp1, okp2, ht1, ht2, fun pd2 H9 x2 e9 hD2 hN2 => ⟨_, _, rfl, hD2.ticks T, ?_⟩⟩
  have ht1 := e9 _ _ ht1
  have ht2 := e9 _ _ ht2
  refine ⟨_, rfl, _, rfl, _, rfl, _, rfl, _, _, _, _, rfl, dl, er, t1, t2, D, _, evP s, evP g, rfl, rfl, rfl, rfl, hD.mono (E8.trans e9), her.mono e9, bent_ok, okp1, okp2, ht1, ht2, fun Ha ea => ?_⟩
  have hx2 := (law_pts (x := x2) hC.one ok hC.ok hR.1 hah hC.sg hgn).2 hN2
  refine ⟨_, _, rfl, trivial, congrArg V.int hx2, _, rfl, ifF rfl ?_⟩
  have Ea := (E8.trans e9).trans ea
  have ht1 := ea _ _ ht1
  have ht2 := ea _ _ ht2
  -- the due distance
  refine ⟨_, rfl, _, rfl, _, rfl, _, rfl, _, rfl, _, _, rfl, dl, t4, D, f, rfl, rfl, hD.mono Ea, hC.hf, Ea _ _ ht4, by show 2 ≤ sizeLine; decide, fun sd3 hsd3 => ?_⟩
  have es3 : Ex Ha (upd Ha sd3 (.lst [.int (if false then 0 else 1), .int (if false then 1 else 0)])) := Ex.new hsd3
  refine ⟨_, _, _, _, rfl, dl, sl, sd3, ls, D, S, (ptOf D f).toNat, false, rfl, rfl, by rw [hpf, Int.toNat_natCast], rfl, hD.mono (Ea.trans es3), hS.mono (Ea.trans es3), hC.ok, upd_same, fun r3 Hb nr3 eb hr3 => ?_⟩
  have Fb := es3.trans eb
  have Eb := Ea.trans Fb
  refine ⟨_, rfl, _, rfl, _, _, _, _, rfl, dl, r3, t3, t4, D, _, e, f, rfl, rfl, rfl, rfl, hD.mono Eb, hr3, bent_ok, hC.he, hC.hf, Eb _ _ ht3, Eb _ _ ht4, fun Hc ec => ?_⟩
  have Fc := Fb.trans ec
  have Ec := Ea.trans Fc
  refine ⟨_, rfl, _, rfl, _, _, rfl, dl, t3, D, e, rfl, rfl, hD.mono Ec, hC.he, Ec _ _ ht3, _, rfl, _, rfl, _, _, rfl, dl, t4, D, f, rfl, rfl, hD.mono Ec, hC.hf, Ec _ _ ht4, _, _, rfl, rfl, _, rfl, if2 (fun ele => ?_) (fun ele => ?_)⟩
  · have ele := of_decide_eq_true ele
    refine ⟨_, rfl, _, rfl, _, rfl, _, rfl, _, rfl, _, _, rfl, dl, t3, D, e, rfl, rfl, hD.mono Ec, hC.he, Ec _ _ ht3, by show 2 ≤ sizeLine; decide, fun sd4 hsd4 => ?_⟩
    have es4 : Ex Hc (upd Hc sd4 (.lst [.int (if true then 0 else 1), .int (if true then 1 else 0)])) := Ex.new hsd4
    refine ⟨_, _, _, _, rfl, dl, sl, sd4, ls, D, S, (ptOf D e).toNat, true, rfl, rfl, by rw [hpe, Int.toNat_natCast], rfl, hD.mono (Ec.trans es4), hS.mono (Ec.trans es4), hC.ok, upd_same, fun r4 Hd nr4 ed hr4 => ?_⟩
    have Fd := Fc.trans (es4.trans ed)
    have Ed := Ea.trans Fd
    refine ⟨_, rfl, _, rfl, _, _, _, _, rfl, dl, r4, t3, t4, D, _, e, f, rfl, rfl, rfl, rfl, hD.mono Ed, hr4, bent_ok, hC.he, hC.hf, Ed _ _ ht3, Ed _ _ ht4, fun He ee => ?_⟩
    have Fe := Fd.trans ee
    have Ee := Ea.trans Fe
    refine nrmG (σ' := [v0, some (.ref p), some (.ref dl), some (.ref wsl), some (.ref sl), some (.ref ol), some (.int (2 * (D.its.length : Int) + 1)), some (.int (s : Nat)), some (.int (g : Nat)), v9, v10, some (.ref t3), some (.ref t4), some (.ref rr), some (.ref t1), some (.ref t2), some (.ref la), some (.ref er), some (.int (apR D (bent D.its S (ptOf D e).toNat true) e f)), none, none, none, none, none, none, none, none, none]) rfl ?_
    refine ⟨_, rfl, _, rfl, _, rfl, _, _, _, rfl, rr, ol, t3, t4, D, S, tabs, e, f, rfl, rfl, rfl, hR.mono Ee, hL.mono Ee, ok, hC.ok, hah, hC.he, hC.hf, Ee _ _ ht3, Ee _ _ ht4, fun pd Hd xn ed hDd hN => ⟨_, _, rfl, hDd.ticks T, ?_⟩⟩
    have q1 : xn = apR D (bent D.its S (ptOf D e).toNat true) e f := by
      have := law_near hC.one ok hC.ok hR.1 hah hC.he hC.hf hC.ne hC.nf hN
      rw [if_pos ele] at this
      exact this
    refine ⟨_, rfl, _, _, rfl, trivial, congrArg V.int q1, _, rfl, ifF rfl ?_⟩
    have Ee := Ee.trans ed
    have Fe := Fe.trans ed
    refine ⟨_, rfl, _, rfl, _, rfl, _, _, _, rfl, rr, ol, t4, t3, D, S, tabs, f, e, rfl, rfl, rfl, hR.mono Ee, hL.mono Ee, ok, hC.ok, hah, hC.hf, hC.he, Ee _ _ ht4, Ee _ _ ht3, fun pf Hf' xf ef' hDf hNf => ⟨_, _, rfl, hDf.ticks T, ?_⟩⟩
    have q2 : xf = apR D (bent D.its S (ptOf D e).toNat true) e f := by
      have := law_near hC.one ok hC.ok hR.1 hah hC.he hC.hf hC.ne hC.nf hNf
      rw [if_pos ele] at this
      exact this
    refine ⟨_, rfl, _, _, rfl, rfl, _, _, rfl, trivial, by rw [q2]; show V.int (-(apR D (bent D.its S (ptOf D e).toNat true) e f)) = V.int (0 - apR D (bent D.its S (ptOf D e).toNat true) e f); rw [Int.zero_sub], _, rfl, ifF rfl ?_⟩
    have Ee := Ee.trans ef'
    have Fe := Fe.trans ef'
    exact k2 _ _ _ p pq dl wsl ol t1 t2 ns lsw D S s g ⟨hC.l.ex Ee, hC.d.mono (exHid Ee), hC.w.mono (exHid Ee), hC.o.mono (exHid Ee), hC.ok, hC.sg, hC.gn, pl_hidT (hC.l.ex Ee) (Fe _ _ ht1), pl_hidT (hC.l.ex Ee) (Fe _ _ ht2), ⟨_, _, _, _, _, _, _, _, _, _, _, _, _, _, _, _, _, rfl⟩⟩ hq
  · have ele := of_decide_eq_false ele
    refine nrmG (σ' := [v0, some (.ref p), some (.ref dl), some (.ref wsl), some (.ref sl), some (.ref ol), some (.int (2 * (D.its.length : Int) + 1)), some (.int (s : Nat)), some (.int (g : Nat)), v9, v10, some (.ref t3), some (.ref t4), some (.ref rr), some (.ref t1), some (.ref t2), some (.ref la), some (.ref er), some (.int (apR D (bent D.its S (ptOf D f).toNat false) e f)), none, none, none, none, none, none, none, none, none]) rfl ?_
    refine ⟨_, rfl, _, rfl, _, rfl, _, _, _, rfl, rr, ol, t3, t4, D, S, tabs, e, f, rfl, rfl, rfl, hR.mono Ec, hL.mono Ec, ok, hC.ok, hah, hC.he, hC.hf, Ec _ _ ht3, Ec _ _ ht4, fun pd Hd xn ed hDd hN => ⟨_, _, rfl, hDd.ticks T, ?_⟩⟩
    have q1 : xn = apR D (bent D.its S (ptOf D f).toNat false) e f := by
      have := law_near hC.one ok hC.ok hR.1 hah hC.he hC.hf hC.ne hC.nf hN
      rw [if_neg ele] at this
      exact this
    refine ⟨_, rfl, _, _, rfl, trivial, congrArg V.int q1, _, rfl, ifF rfl ?_⟩
    have Ec := Ec.trans ed
    have Fc := Fc.trans ed
    refine ⟨_, rfl, _, rfl, _, rfl, _, _, _, rfl, rr, ol, t4, t3, D, S, tabs, f, e, rfl, rfl, rfl, hR.mono Ec, hL.mono Ec, ok, hC.ok, hah, hC.hf, hC.he, Ec _ _ ht4, Ec _ _ ht3, fun pf Hf' xf ef' hDf hNf => ⟨_, _, rfl, hDf.ticks T, ?_⟩⟩
    have q2 : xf = apR D (bent D.its S (ptOf D f).toNat false) e f := by
      have := law_near hC.one ok hC.ok hR.1 hah hC.he hC.hf hC.ne hC.nf hNf
      rw [if_neg ele] at this
      exact this
    refine ⟨_, rfl, _, _, rfl, rfl, _, _, rfl, trivial, by rw [q2]; show V.int (-(apR D (bent D.its S (ptOf D f).toNat false) e f)) = V.int (0 - apR D (bent D.its S (ptOf D f).toNat false) e f); rw [Int.zero_sub], _, rfl, ifF rfl ?_⟩
    have Ec := Ec.trans ef'
    have Fc := Fc.trans ef'
    exact k2 _ _ _ p pq dl wsl ol t1 t2 ns lsw D S s g ⟨hC.l.ex Ec, hC.d.mono (exHid Ec), hC.w.mono (exHid Ec), hC.o.mono (exHid Ec), hC.ok, hC.sg, hC.gn, pl_hidT (hC.l.ex Ec) (Fc _ _ ht1), pl_hidT (hC.l.ex Ec) (Fc _ _ ht2), ⟨_, _, _, _, _, _, _, _, _, _, _, _, _, _, _, _, _, rfl⟩⟩ hq
end
end BB
namespace BB
open PySem PySem.Spec PyProof.Rows L2 He Evl
theorem lst_ne {p pq x : Addr} {ns : List Int} {H : Hp} {us : List Addr} (h : PL p pq ns H) (hx : H x = some (.lst (us.map V.ref))) : x ≠ p := fun z => by
  obtain ⟨_, _, _, _, _, hp⟩ := h.at_
  rw [z, hp] at hx
  cases us with
  | nil => cases hx
  | cons u us =>
    injection hx with hx
    injection hx with hx
    cases (List.cons.inj hx).1
theorem spw_hid {p pq sl : Addr} {ns : List Int} {ls : List Addr} {S : SpD} {H : Hp} (hP : PL p pq ns H) (h : SpW H sl ls S) : SpW (hid p H) sl ls S := by
  refine ⟨by rw [hid_ne (lst_ne hP h.at_)]; exact h.at_, h.len, fun i sp hs => ?_⟩
  obtain ⟨b, ts, h1, h2, h3, h4⟩ := h.row i sp hs
  refine ⟨b, ts, h1, by rw [hid_ne (lst_ne hP h2)]; exact h2, h3, fun j q hq => ?_⟩
  obtain ⟨t, h5, h6⟩ := h4 j q hq
  exact ⟨t, h5, pl_hidT hP h6⟩
theorem evl_hid {p pq d : Addr} {ns : List Int} {H : Hp} {its : List ItD} {es : List EvD} (hP : PL p pq ns H) (h : EvL H d its es) : EvL (hid p H) d its es := by
  obtain ⟨ts, h1, h2, h3⟩ := h.ex
  refine ⟨ts, by rw [hid_ne (lst_ne hP h1)]; exact h1, h2, fun i e hi => ?_⟩
  obtain ⟨t, h4, h5⟩ := h3 i e hi
  exact ⟨t, h4, pl_hidT hP h5⟩
theorem hid_none {p x : Addr} {H : Hp} (h : H x = none) : hid p H x = none := by
  unfold hid
  split
  · rfl
  · exact h
def evWd : EvD → Str
  | .op => "opens"
  | .ev w _ => w.s
  | .pl _ _ => "place"
theorem evV_0 (its : List ItD) (e : EvD) : atI (evV its e) 0 = some (.str (evWd e)) := by cases e <;> rfl
theorem wd_enter {e : EvD} (h : (!decide (V.str (evWd e) = V.str "enter")) = true) : ∀ k, e ≠ .ev .enter k := fun k z => by
  subst z
  have h2 : (!decide (V.str "enter" = V.str "enter")) = true := h
  rw [decide_eq_true rfl] at h2
  cases h2
theorem wd_out {e : EvD} (h : (!decide (V.str (evWd e) = V.str "out")) = true) : ∀ k, e ≠ .ev .out k := fun k z => by
  subst z
  have h2 : (!decide (V.str "out" = V.str "out")) = true := h
  rw [decide_eq_true rfl] at h2
  cases h2
section
variable {K : PySem.W.Frag} {mg : Str → Option Value} {w : World} {base : Heap}
def sp_law (K : PySem.W.Frag) : Sp := S1 fun a H Q => ∃ (l : Addr) (ns : List Int), a = .ref l ∧ SqL K H l (ns.map V.int) ∧ ns.length ≤ 63 ∧ ∀ H', Q (.bl true) H'
theorem ok_law (T : TX K mg w) : ∃ fd : FuncData, (∀ base : Heap, FnOk PP w K mg base CX0 10 (ga K "law") fd ["_law_script"] (sp_law K)) ∧ ∀ (s : Shared) (v : Value), BindsTo s fd ⟨[v], []⟩ [("_law_script", v)] := by
  obtain ⟨fd, F⟩ := T.f_law
  have b := FunD.bindsA (ps := ["_law_script"]) F fun _ _ _ _ _ _ us hl => match us, hl with | [_], _ => rfl
  refine ⟨fd, fun base => F.ok sc_law (fun vs H Q E h => ?_) (fun cdv A outer s H vs Q E hr h => ?_), fun s v => b s [v] rfl⟩
  · obtain ⟨a, rfl, _⟩ := h
    rfl
  obtain ⟨a, rfl, l, ns, rfl, hl, h63, q⟩ := h
  suffices hs : ∃ t, PSs (cxOf CX0 PP w K mg base N_law "law" (defScope s_law) (ga K "law") cdv A outer s H E).nox (defBody s_law) t ∧ t { nx := fun _ H' => Q .non H', rt := Q } (L2.start N_law [.ref l]) H by
    obtain ⟨t, h1, h2⟩ := hs
    exact ⟨t, PSs.nox h1, h2⟩
  obtain ⟨tB, hBB, k2⟩ := law_B (base := base) T cdv A outer s H E hr
  refine ⟨_, (pss_cons (ps_set (i := 1) sc_law.nd rfl (Or.inl rfl) (pe_fn (ok_pool T) (hr.mono (by decide)) T.kp_pool T.g__law_pool (pa_cons (pv 0) pa_nil)))
      (pss_cons (ps_set (i := 2) sc_law.nd rfl (Or.inl rfl) (pe_fn (ok_day T) (hr.mono (by decide)) T.kp_day T.g__law_day (pa_cons (pv 1) (pa_cons pe_bl (pa_cons pe_int pa_nil)))))
      (pss_cons (ps_set (i := 3) sc_law.nd rfl (Or.inl rfl) (pe_fn (ok_spans T) (hr.mono (by decide)) T.kp_spans T.g__law_spans (pa_cons (pv 2) pa_nil)))
      (pss_cons (ps_set (i := 4) sc_law.nd rfl (Or.inl rfl) (pe_fn (ok_spans T) (hr.mono (by decide)) T.kp_spans T.g__law_spans (pa_cons (pv 2) pa_nil)))
      (pss_cons (ps_set (i := 5) sc_law.nd rfl (Or.inl rfl) (pe_fn (ok_narrow T) (hr.mono (by decide)) T.kp_narrow T.g__law_narrow (pa_cons (pv 1) (pa_cons (pv 2) (pa_cons (pv 4) (pa_cons (pe_ctor (ct_Outlook T) (hr.mono (by decide)) (pa_cons (pe_fn (ok_order T) (hr.mono (by decide)) T.kp_order T.g__law_order (pa_cons (pv 2) pa_nil)) pa_nil)) (pa_cons (pe_fn (ok_take T) (hr.mono (by decide)) T.kp_take T.g__law_take (pa_cons (pv 1) (pa_cons pe_int pa_nil))) pa_nil)))))))
      (pss_cons (ps_set (i := 6) sc_law.nd rfl (Or.inl rfl) (pe_op op_add (pe_op op_mul pe_int (pe_callB call_len_seq (by rfl) T.n_len (by decide +kernel) (pa_cons (pe_ix ix_list (pv 2) pe_int (fun _ _ => rfl)) pa_nil))) pe_int))
      (pss_cons (ps_set (i := 7) sc_law.nd rfl (Or.inl rfl) (pe_fn (ok_take T) (hr.mono (by decide)) T.kp_take T.g__law_take (pa_cons (pv 1) (pa_cons (pv 6) pa_nil))))
      (pss_cons (ps_set (i := 8) sc_law.nd rfl (Or.inl rfl) (pe_op op_add (pv 7) (pe_fn (ok_take T) (hr.mono (by decide)) T.kp_take T.g__law_take (pa_cons (pv 1) (pa_cons (pe_op op_sub (pv 6) (pv 7)) pa_nil)))))
      (pss_cons (ps_setLcD (i := 9) (own := [("_law_event_here", 26)]) rfl sc_law.nd rfl rfl (sw_true rfl rfl rfl (by decide +kernel)) (pi_list (pe_fn (ok_events T) (hr.mono (by decide)) T.kp_events T.g__law_events (pa_cons (pv 2) pa_nil))) (blkOk_by (N := N_law) (sc := defScope s_law) (by decide +kernel)) (fun _ _ _ _ _ => (pg_name (i := 26) sc_law.nd rfl (Or.inl rfl))) (fun _ _ _ _ _ => (pts_one (pt_cmpR op_ne (pe_ix ix_tup (pv 26) pe_int (fun _ _ => rfl)) pe_str (nomark _)))) (fun _ _ _ _ _ => (pv 26)))
      (pss_cons (ps_setLcD (i := 10) (own := [("_law_event_here", 26)]) rfl sc_law.nd rfl rfl (sw_true rfl rfl rfl (by decide +kernel)) (pi_list (pe_fn (ok_events T) (hr.mono (by decide)) T.kp_events T.g__law_events (pa_cons (pv 2) pa_nil))) (blkOk_by (N := N_law) (sc := defScope s_law) (by decide +kernel)) (fun _ _ _ _ _ => (pg_name (i := 26) sc_law.nd rfl (Or.inl rfl))) (fun _ _ _ _ _ => (pts_one (pt_cmpR op_ne (pe_ix ix_tup (pv 26) pe_int (fun _ _ => rfl)) pe_str (nomark _)))) (fun _ _ _ _ _ => (pv 26)))
      (pss_cons (ps_set (i := 11) sc_law.nd rfl (Or.inl rfl) (pe_ix ix_list (pv 9) (pe_fn (ok_take T) (hr.mono (by decide)) T.kp_take T.g__law_take (pa_cons (pv 1) (pa_cons (pe_callB call_len_seq (by rfl) T.n_len (by decide +kernel) (pa_cons (pv 9) pa_nil)) pa_nil))) (fun _ _ => rfl)))
      (pss_cons (ps_set (i := 12) sc_law.nd rfl (Or.inl rfl) (pe_ix ix_list (pv 10) (pe_fn (ok_take T) (hr.mono (by decide)) T.kp_take T.g__law_take (pa_cons (pv 1) (pa_cons (pe_callB call_len_seq (by rfl) T.n_len (by decide +kernel) (pa_cons (pv 10) pa_nil)) pa_nil))) (fun _ _ => rfl)))
      (pss_cons (ps_set (i := 13) sc_law.nd rfl (Or.inl rfl) (pe_ctor (ct_Reach T) (hr.mono (by decide)) (pa_cons (pv 5) pa_nil)))
      hBB))))))))))))), ?_⟩
  refine ⟨_, rfl, _, rfl, l, ns, rfl, hl, h63, fun p pq H1 e1 hP1 np => ?_⟩
  refine ⟨_, rfl, _, _, _, rfl, p, pq, ns, 4, rfl, rfl, rfl, hP1, fun dl D H2 x2 ndl hD hone => ?_⟩
  obtain ⟨st, cr, ap, zs, kl, wt, pt, il, ts, hG, dok⟩ := id hD
  have ok := dok.its
  have l8 := ok.len
  have tl := hG.it.2.1
  have P2 := x2.l
  refine ⟨_, rfl, _, rfl, dl, D, rfl, hD.mono hid_ex, fun wsl lsw H3 nw1 nw2 nw3 nw4 e3 hW => ?_⟩
  have P3 := P2.ex e3
  have hD3 := hD.mono (exHid e3)
  have hW3 := spw_hid P3 hW
  refine ⟨_, rfl, _, rfl, dl, D, rfl, hD3.mono hid_ex, fun sl ls H4 ns1 ns2 ns3 ns4 e4 hS => ?_⟩
  have P4 := P3.ex e4
  have hS4 := spw_hid P4 hS
  refine ⟨_, rfl, _, rfl, _, rfl, _, rfl, _, rfl, dl, D, rfl, (hD3.mono (exHid e4)).mono hid_ex, fun o H5 no e5 hO => ⟨_, rfl, o, D, rfl, hO, ok, fun ol0 sd H6 nol e6 hIns hSp => ?_⟩⟩
  have P6 := (P4.ex e5).ex e6
  have hL6 : OutlookAt K H6 ol0 D (spansOf D) := ⟨o, sd, hIns, hO.mono e6, hSp⟩
  refine ⟨_, rfl, _, _, rfl, p, pq, ns, 4, rfl, rfl, P6, by decide, by decide, fun n H7 x7 n0 n3 => ?_⟩
  have eB : Ex (hid p H3) (hid p H7) := ((exHid e4).trans ((exHid e5).trans (exHid e6))).trans x7.e
  have hL7 : OutlookAt K H7 ol0 D (spansOf D) := (hL6.noL.mono (noL_px P6 x7)).mono noL_ex
  refine ⟨_, _, _, _, _, rfl, p, pq, dl, sl, ol0, ns, ls, D, spansOf D, hid p H3, n, rfl, rfl, rfl, rfl, rfl, n0, by omega, x7.l, eB.trans hid_ex, hid_self, by rw [hid_ne P3.ne]; exact P3.cs, fun x hx => hid_none (ns2 x hx), ns3, ns4, hD3, ((hS4.mono (exHid e5)).mono (exHid e6)).mono x7.e, dok.sok, hL7, fun ol S H8 P8 eB8 hS8 sok hL8 => ?_⟩
  have hD8 := hD3.mono eB8
  have hW8 := hW3.mono eB8
  have hG8 := (hG.mono (exHid e3)).mono eB8
  refine ⟨_, rfl, dl, _, _, .ref il, rfl, rfl, SqL.of (hid_ex _ _ hG8.at_), rfl, il, _, rfl, .inl (SqL.of (hid_ex _ _ hG8.items)), _, _, rfl, rfl, .inl ⟨by decide, by decide⟩, _, _, rfl, rfl, ?_⟩
  have em : ((ts.map V.ref).length : Int) = (D.its.length : Int) := by rw [List.length_map, tl]
  refine nrmG (σ' := [some (.ref l), some (.ref p), some (.ref dl), some (.ref wsl), some (.ref sl), some (.ref ol), some (.int (2 * (D.its.length : Int) + 1)), none, none, none, none, none, none, none, none, none, none, none, none, none, none, none, none, none, none, none, none, none]) (by rw [← em]; rfl) ?_
  refine ⟨_, rfl, _, rfl, _, _, rfl, p, pq, ns, _, rfl, rfl, P8, by omega, by omega, fun sI H9 x9 s0 s2 => ?_⟩
  obtain ⟨s1, rfl⟩ : ∃ s1 : Nat, sI = s1 := ⟨sI.toNat, by omega⟩
  refine ⟨_, rfl, _, rfl, _, rfl, _, rfl, _, _, rfl, rfl, _, _, rfl, p, pq, ns, _, rfl, rfl, x9.l, by omega, by omega, fun gI Ha xa g0 g2 => ⟨_, _, rfl, rfl, ?_⟩⟩
  obtain ⟨g1, eg1⟩ : ∃ g1 : Nat, (s1 : Int) + gI = g1 := ⟨((s1 : Int) + gI).toNat, by omega⟩
  refine nrmG (σ' := [some (.ref l), some (.ref p), some (.ref dl), some (.ref wsl), some (.ref sl), some (.ref ol), some (.int (2 * (D.its.length : Int) + 1)), some (.int (s1 : Nat)), some (.int (g1 : Nat)), none, none, none, none, none, none, none, none, none, none, none, none, none, none, none, none, none, none, none]) (by rw [← eg1]; rfl) ?_
  have xA := x9.trans xa
  have PA := xa.l
  have hD1 := hD8.mono xA.e
  have hW1 := hW8.mono xA.e
  have hS1 := hS8.mono xA.e
  have hL1 := hL8.mono xA.e
  refine ⟨_, rfl, _, rfl, dl, D, rfl, hD1.mono hid_ex, fun d1 es1 Hb nd1 hE1 hlen1 => ⟨d1, rfl, (by obtain ⟨_, z, _⟩ := hE1.l.ex; exact ⟨_, SqL.of z⟩), fun fd1 hfd1 => ?_⟩⟩
  obtain ⟨ts1, m11, m21, m31⟩ := hE1.l.ex
  refine lc_it (walk_list (xs := ts1.map V.ref)) (fun i H' => Ex Hb H' ∧ ∃ fs : List EvD, EvL H' fd1 D.its fs ∧ fs.length ≤ i ∧ (∀ e ∈ fs, EvOk D.its e ∧ (∀ k, e ≠ .ev .enter k)) ∧ (0 < i → fs[0]? = some .op))
    ⟨Ex.new hfd1, [], ⟨[], upd_same, rfl, fun i e hi => (by cases hi)⟩, Nat.le_refl _, fun e he => absurd he List.not_mem_nil, fun z => absurd z (Nat.lt_irrefl _)⟩ (fun i H' _ h => SqL.of (h.1 _ _ m11)) (fun i x Hp1 Hp2 hi h yy => ?_) (fun Hc h => ?_)
  · obtain ⟨eq, fs, f1, f2, f3, f4⟩ := h
    obtain ⟨rfl, ex⟩ := yy
    obtain ⟨t, ht, rfl⟩ := Option.map_eq_some_iff.mp ((List.getElem?_map ..).symm.trans ex)
    have hi2 : i < es1.length := by rw [List.length_map, m21] at hi; exact hi
    have hgi := List.getElem?_eq_getElem hi2
    generalize es1[i] = e at hgi
    obtain ⟨t', g1, g2⟩ := m31 i e hgi
    rw [ht] at g1
    cases g1
    have g2 := eq _ _ g2
    refine ⟨rfl, _, rfl, t, _, _, .str (evWd e), rfl, rfl, SqT.of g2, evV_0 _ _, rfl, _, rfl, if2 (fun eb => ?_) (fun eb => ?_)⟩
    · obtain ⟨us, u1, u2, u3⟩ := f1.ex
      refine ⟨_, rfl, _, u1, sz_lt (by rw [List.length_map, u2]; omega), eq.mut hfd1, fs ++ [e], f1.push u1 g2, by simp; omega, fun x hx => ?_, fun _ => ?_⟩
      · rcases List.mem_append.mp hx with hx | hx
        · exact f3 x hx
        · rw [List.mem_singleton.mp hx]
          exact ⟨hE1.ok e (List.mem_of_getElem? hgi), wd_enter eb⟩
      · by_cases i0 : i = 0
        · subst i0
          have := hE1.z
          rw [hgi] at this
          cases this
          have : fs = [] := List.length_eq_zero_iff.mp (by omega)
          rw [this]
          rfl
        · have := f4 (by omega)
          rw [List.getElem?_append_left (List.getElem?_eq_some_iff.mp this).1]
          exact this
    · refine ⟨eq, fs, f1, by omega, f3, fun _ => ?_⟩
      by_cases i0 : i = 0
      · subst i0
        have := hE1.z
        rw [hgi] at this
        cases this
        exact absurd eb (by decide)
      · exact f4 (by omega)
  obtain ⟨eq1, fs1, f11, f21, f31, f41⟩ := h
  have pos1 : 0 < fs1.length := by
    have h0 := hE1.z
    have h1 := (List.getElem?_eq_some_iff.mp h0).1
    have := f41 (by rw [List.length_map, m21]; exact h1)
    exact (List.getElem?_eq_some_iff.mp this).1
  have small1 : fs1.length ≤ 1000 := by rw [List.length_map, m21] at f21; omega
  have Ec := hE1.e.trans eq1
  have Pc := PA.ex Ec
  have hD2 := hD1.mono (exHid Ec)
  have q1 := evl_hid Pc f11
  refine nrmG (σ' := [some (.ref l), some (.ref p), some (.ref dl), some (.ref wsl), some (.ref sl), some (.ref ol), some (.int (2 * (D.its.length : Int) + 1)), some (.int (s1 : Nat)), some (.int (g1 : Nat)), some (.ref fd1), none, none, none, none, none, none, none, none, none, none, none, none, none, none, none, none, none, none]) rfl ?_
  refine ⟨_, rfl, _, rfl, dl, D, rfl, hD2.mono hid_ex, fun d2 es2 Hd nd2 hE2 hlen2 => ⟨d2, rfl, (by obtain ⟨_, z, _⟩ := hE2.l.ex; exact ⟨_, SqL.of z⟩), fun fd2 hfd2 => ?_⟩⟩
  obtain ⟨ts2, m12, m22, m32⟩ := hE2.l.ex
  refine lc_it (walk_list (xs := ts2.map V.ref)) (fun i H' => Ex Hd H' ∧ ∃ fs : List EvD, EvL H' fd2 D.its fs ∧ fs.length ≤ i ∧ (∀ e ∈ fs, EvOk D.its e ∧ (∀ k, e ≠ .ev .out k)) ∧ (0 < i → fs[0]? = some .op))
    ⟨Ex.new hfd2, [], ⟨[], upd_same, rfl, fun i e hi => (by cases hi)⟩, Nat.le_refl _, fun e he => absurd he List.not_mem_nil, fun z => absurd z (Nat.lt_irrefl _)⟩ (fun i H' _ h => SqL.of (h.1 _ _ m12)) (fun i x Hp1 Hp2 hi h yy => ?_) (fun He h => ?_)
  · obtain ⟨eq, fs, f1, f2, f3, f4⟩ := h
    obtain ⟨rfl, ex⟩ := yy
    obtain ⟨t, ht, rfl⟩ := Option.map_eq_some_iff.mp ((List.getElem?_map ..).symm.trans ex)
    have hi2 : i < es2.length := by rw [List.length_map, m22] at hi; exact hi
    have hgi := List.getElem?_eq_getElem hi2
    generalize es2[i] = e at hgi
    obtain ⟨t', g1, g2⟩ := m32 i e hgi
    rw [ht] at g1
    cases g1
    have g2 := eq _ _ g2
    refine ⟨rfl, _, rfl, t, _, _, .str (evWd e), rfl, rfl, SqT.of g2, evV_0 _ _, rfl, _, rfl, if2 (fun eb => ?_) (fun eb => ?_)⟩
    · obtain ⟨us, u1, u2, u3⟩ := f1.ex
      refine ⟨_, rfl, _, u1, sz_lt (by rw [List.length_map, u2]; omega), eq.mut hfd2, fs ++ [e], f1.push u1 g2, by simp; omega, fun x hx => ?_, fun _ => ?_⟩
      · rcases List.mem_append.mp hx with hx | hx
        · exact f3 x hx
        · rw [List.mem_singleton.mp hx]
          exact ⟨hE2.ok e (List.mem_of_getElem? hgi), wd_out eb⟩
      · by_cases i0 : i = 0
        · subst i0
          have := hE2.z
          rw [hgi] at this
          cases this
          have : fs = [] := List.length_eq_zero_iff.mp (by omega)
          rw [this]
          rfl
        · have := f4 (by omega)
          rw [List.getElem?_append_left (List.getElem?_eq_some_iff.mp this).1]
          exact this
    · refine ⟨eq, fs, f1, by omega, f3, fun _ => ?_⟩
      by_cases i0 : i = 0
      · subst i0
        have := hE2.z
        rw [hgi] at this
        cases this
        exact absurd eb (by decide)
      · exact f4 (by omega)
  obtain ⟨eq2, fs2, f12, f22, f32, f42⟩ := h
  have pos2 : 0 < fs2.length := by
    have h0 := hE2.z
    have h1 := (List.getElem?_eq_some_iff.mp h0).1
    have := f42 (by rw [List.length_map, m22]; exact h1)
    exact (List.getElem?_eq_some_iff.mp this).1
  have small2 : fs2.length ≤ 1000 := by rw [List.length_map, m22] at f22; omega
  have Ee := hE2.e.trans eq2
  have Pe := Pc.ex Ee
  have q1 : EvL (hid p He) fd1 D.its fs1 := q1.mono (exHid Ee)
  have q2 := evl_hid Pe f12
  refine nrmG (σ' := [some (.ref l), some (.ref p), some (.ref dl), some (.ref wsl), some (.ref sl), some (.ref ol), some (.int (2 * (D.its.length : Int) + 1)), some (.int (s1 : Nat)), some (.int (g1 : Nat)), some (.ref fd1), some (.ref fd2), none, none, none, none, none, none, none, none, none, none, none, none, none, none, none, none, none]) rfl ?_
  obtain ⟨us1, u11, u12, u13⟩ := q1.ex
  refine ⟨_, rfl, _, rfl, _, rfl, fd1, _, rfl, .inl (SqL.of (hid_ex _ _ u11)), _, _, rfl, p, pq, ns, _, rfl, rfl, Pe, by rw [List.length_map, u12]; omega, by rw [List.length_map, u12]; omega, fun k1 Hf xf k10 k11 => ?_⟩
  rw [List.length_map, u12] at k11
  obtain ⟨n1, rfl⟩ : ∃ n1 : Nat, k1 = n1 := ⟨k1.toNat, by omega⟩
  have hn1 : n1 < fs1.length := by omega
  have hge := List.getElem?_eq_getElem hn1
  have hge2 := f31 _ (List.getElem_mem hn1)
  generalize fs1[n1] = e at hge hge2
  obtain ⟨t3, w11, w12⟩ := u13 n1 e hge
  have w12 := xf.e _ _ w12
  refine ⟨fd1, _, _, .ref t3, rfl, rfl, SqL.of (hid_ex _ _ (xf.e _ _ u11)), refs_at w11, ?_⟩
  refine nrmG (σ' := [some (.ref l), some (.ref p), some (.ref dl), some (.ref wsl), some (.ref sl), some (.ref ol), some (.int (2 * (D.its.length : Int) + 1)), some (.int (s1 : Nat)), some (.int (g1 : Nat)), some (.ref fd1), some (.ref fd2), some (.ref t3), none, none, none, none, none, none, none, none, none, none, none, none, none, none, none, none]) rfl ?_
  have q2 : EvL (hid p Hf) fd2 D.its fs2 := q2.mono xf.e
  obtain ⟨us2, u21, u22, u23⟩ := q2.ex
  refine ⟨_, rfl, _, rfl, _, rfl, fd2, _, rfl, .inl (SqL.of (hid_ex _ _ u21)), _, _, rfl, p, pq, ns, _, rfl, rfl, xf.l, by rw [List.length_map, u22]; omega, by rw [List.length_map, u22]; omega, fun k2' Hg xg k20 k21 => ?_⟩
  rw [List.length_map, u22] at k21
  obtain ⟨n2, rfl⟩ : ∃ n2 : Nat, k2' = n2 := ⟨k2'.toNat, by omega⟩
  have hn2 : n2 < fs2.length := by omega
  have hgf := List.getElem?_eq_getElem hn2
  have hgf2 := f32 _ (List.getElem_mem hn2)
  generalize fs2[n2] = f at hgf hgf2
  obtain ⟨t4, w21, w22⟩ := u23 n2 f hgf
  have w22 := xg.e _ _ w22
  have w12 := xg.e _ _ w12
  refine ⟨fd2, _, _, .ref t4, rfl, rfl, SqL.of (hid_ex _ _ (xg.e _ _ u21)), refs_at w21, ?_⟩
  have eX : Ex (hid p Ha) (hid p Hg) := (((exHid Ec).trans (exHid Ee)).trans xf.e).trans xg.e
  have hL9 := hL1.mono eX
  refine ⟨_, rfl, _, rfl, ol, D, S, rfl, hL9.mono hid_ex, ok, sok, fun rr Hh tabs nrr eh hR => ?_⟩
  have eY := eX.trans (exHid eh)
  refine nrmG (σ' := [some (.ref l), some (.ref p), some (.ref dl), some (.ref wsl), some (.ref sl), some (.ref ol), some (.int (2 * (D.its.length : Int) + 1)), some (.int (s1 : Nat)), some (.int (g1 : Nat)), some (.ref fd1), some (.ref fd2), some (.ref t3), some (.ref t4), some (.ref rr), none, none, none, none, none, none, none, none, none, none, none, none, none, none]) rfl ?_
  exact k2 _ _ _ p pq dl wsl sl ol t3 t4 rr ns lsw ls D S tabs s1 g1 e f ⟨xg.l.ex eh, hD1.mono eY, hW1.mono eY, hS1.mono eY, hL1.mono eY, sok, hone, hR, by omega, by omega, hge2.1, hgf2.1, hge2.2, hgf2.2, (exHid eh) _ _ w12, (exHid eh) _ _ w22, ⟨_, _, _, rfl⟩⟩ q
end
end BB
set_option maxHeartbeats 0
open PySem PySem.W PySem.Calls PyProof.Rows
theorem PySem.Challenge.cw_barbreaks_k34_corners_decide_holds : PySem.Challenge.rw_barbreaks_k34_corners_decide.Holds := by
  w_on; o_law
  refine HandSHeadRun.head_any (r := OpenLaw.row PySem.Challenge.rw_barbreaks_k34_corners_decide) (q := BB.qv) (H := BB.hk) (ob := BB.ob) (M := 13000) (loose := BB.loose) (d := HandSHeadRun.topDef (OpenLaw.row PySem.Challenge.rw_barbreaks_k34_corners_decide).prog 116) (kwd := []) BB.ob_eq
    (by kernel_rfl) (fun s => by kernel_rfl) BB.run (by kernel_rfl) (by kernel_rfl) (by kernel_rfl) (by rfl) (by first | assumption | decide +kernel) (by decide +kernel) ⟨rfl, rfl, rfl, rfl, rfl, by decide +kernel⟩ ?hw ?hc
  case hw => w_witness2
  case hc =>
    refine L2.walk_ofE (l := PySem.Challenge.rw_barbreaks_k34_corners_decide) (n := 63) (k := 10) (x := "_law_script") (CX := L2.CX0) rfl (by decide) (by kernel_rfl) ⟨rfl, by decide, by decide⟩ ?F (fun _ _ _ _ z => z)
    intro w mg fa h Y G hmg0
    have KX : (BB.KL w.params).In h := kIn_of Y
    have hmg : mg ("law" : PySem.Str) = some (.ref fa) := by
      have e : (HandSHeadRun.topDef (OpenLaw.row PySem.Challenge.rw_barbreaks_k34_corners_decide).prog 116).name = ("law" : PySem.Str) := by kernel_rfl
      rw [← e]
      exact hmg0
    have T : BB.TX (BB.KL w.params) mg w := ⟨BB.says w, h, KX, G⟩
    have cL : (He.Fa.glo "law").ok (BB.KL w.params) = true := by kernel_rfl
    have e := hmg.symm.trans (He.glo_ok KX G cL)
    cases e
    obtain ⟨fd, F, hb⟩ := BB.ok_law T
    exact ⟨_, fd, BB.sp_law _, KX, hb, fun H a ns hl _ hS => ⟨_, rfl, a, ns, rfl, hS, hl, fun _ => rfl⟩, fun base _ _ => F base⟩
