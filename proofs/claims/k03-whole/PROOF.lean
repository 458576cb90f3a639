import PyProof.Rows.All
import Wide.All
import OpenK.AllK
import Wide.FinOn
import PyProof.EqAt
import PyProof.EqKinds
import PyProof.TupleCall
import HandS.ForMost
import HandS.More
import HandS.Slots
import HandS.SlotsOwn
import HandS.Star
import HandS.ClsMeth
import HandS.CallLocal
import KE.KOpsOwn
import PyProof.DictCompW
import KE.KDictWalk
import HandS.Walk
import HandS.DictComp
import HandS.DictTup
import HandS.ListItems
import HandS.SetBool
import HandS.SetTxt0
import HandS.Set
import HandS.SetFor
import HandS.Strs
import HandS.Small
import HandS.Conv
import KE.GoesEnum
import KE.KDictZip
import HandS.ListEq
import KE.KTurns
import HandS.TupAny
import HandS.TupLe
import HandS.Codes
import HandS.AnyAll
import HandS.Sort
import HandS.Evl
import HandS.Steps
import HandS.Defaults
import HandS.Head0
import HandS.Head1
import HandS.Head2
import HandS.HeadEnd
import HandS.HeadHook1
import HandS.HeadHook2
import HandS.HeadNt
import PySem.Challenge.RW_everyfield_k03_whole_unknowns_and_matric
import Lean
/-! text B1 -/
set_option Elab.async false
set_option linter.all false
set_option maxRecDepth 100000
set_option maxHeartbeats 2000000
namespace EfB
open PySem PySem.Spec PyProof.Rows L2
open StX (tMakeR run_makeR)
section
variable {X : Cx} {CX : CXT} {pins : List (Addr × Obj)} {σ : L2.St} {H : Hp} {s : Shared} {a C g : Addr} {n k i : Nat} {sp : Sp} {E : XK}
/-- a tracked instance: what the rules of the machine ask -/
theorem ins_at {dx : Addr} {fs : List (Str × V)} (I : Inv X pins σ H s) (h : H a = some (.ins C dx fs)) : ∃ ox od, PySem.W.InstAt s.heap a ox C od := by
  obtain ⟨mA, O, _⟩ := ins_get I.hok h
  obtain ⟨od, J, _⟩ := O.look
  exact ⟨_, _, J⟩
/-- a two-place operator by the left one's def; both instances of the class at C -/
def rOp2 (C : Addr) (sp : Sp) (E : XK) : R2 := fun x y H Q => ∃ a dx fs b dy gs, x = .ref a ∧ y = .ref b ∧ H a = some (.ins C dx fs) ∧ H b = some (.ins C dy gs) ∧ sp [x, y] H Q E
theorem op_bin {op : Operator} (hc : PySem.W.selfFirst X.K C = true) (hs : PySem.W.findIn X.K (.ref C) (PySem.dunder op.info.2) = some (some (.ref g))) (hf : PySem.W.isFn X.K (.ref g) = true)
    (F : FnR X.prog X.w X.K X.mg X.base CX n g sp) (hr : Room n X.A) (hx : Passes CX X E) : OpR X (binaryOp op) (rOp2 C sp E) := by
  intro pins s σ H x y v u Q I rx ry h
  obtain ⟨a, dx, fs, b, dy, gs, rfl, rfl, ha, hb, q⟩ := h
  cases (show v = Value.ref a from rx)
  cases (show u = Value.ref b from ry)
  obtain ⟨ox, od, J⟩ := ins_at I ha
  obtain ⟨ox', od', J'⟩ := ins_at I hb
  obtain ⟨m, hF⟩ := I.fr
  refine PySem.W.binop_K hF I.ok.mod.kin J J'.type hc hs hf ?_
  refine wpAny_mono (wpAny_call (run_fnR (us := [.ref a, .ref b]) (vs := [.ref a, .ref b]) F hr hx I (.cons rfl (.cons rfl .nil)) q)) (fun w s' z => ?_) fun _ _ x => x
  obtain ⟨z', H', I', rz, qz⟩ := z
  exact SlX.cmpback rz ⟨z', H', I', rz, qz⟩
/-- == by an own def, the right one an instance of the same class -/
theorem op_cmp {op : CmpOp} (hop : ∀ a b, compareOp op a b = richCompare op a b) (hs : PySem.W.findIn X.K (.ref C) (cmpInfo op).2.1 = some (some (.ref g))) (hf : PySem.W.isFn X.K (.ref g) = true)
    (F : FnR X.prog X.w X.K X.mg X.base CX n g sp) (hr : Room n X.A) (hx : Passes CX X E) : OpR X (compareOp op) (rOp2 C sp E) := by
  intro pins s σ H x y v u Q I rx ry h
  obtain ⟨a, dx, fs, b, dy, gs, rfl, rfl, ha, hb, q⟩ := h
  cases (show v = Value.ref a from rx)
  cases (show u = Value.ref b from ry)
  obtain ⟨ox, od, J⟩ := ins_at I ha
  obtain ⟨ox', od', J'⟩ := ins_at I hb
  obtain ⟨m, hF⟩ := I.fr
  rw [hop]
  refine PySem.W.cmp_K (op := op) (tb := .ref C) hr.units0 hF I.ok.mod.kin J J'.type (by show (Value.ref C == Value.ref C || _) = true; rw [beq_self_eq_true]; rfl) hs hf ?_
  refine wpAny_mono (wpAny_call (run_fnR (us := [.ref a, .ref b]) (vs := [.ref a, .ref b]) F hr hx I (.cons rfl (.cons rfl .nil)) q)) (fun w s' z => ?_) fun _ _ x => x
  obtain ⟨z', H', I', rz, qz⟩ := z
  exact SlX.cmpback rz ⟨z', H', I', rz, qz⟩
/-- a one-place operator by an own def -/
def rOp1 (C : Addr) (sp : Sp) (E : XK) : V → Hp → VK → Prop := fun x H Q => ∃ a dx fs, x = .ref a ∧ H a = some (.ins C dx fs) ∧ sp [x] H Q E
theorem un_negO (hs : PySem.W.findIn X.K (.ref C) "__neg__" = some (some (.ref g))) (hf : PySem.W.isFn X.K (.ref g) = true)
    (F : FnR X.prog X.w X.K X.mg X.base CX n g sp) (hr : Room n X.A) (hx : Passes CX X E) : UnR X (unaryOp .USub) (rOp1 C sp E) := by
  intro pins s σ H x v Q I rx h
  obtain ⟨a, dx, fs, rfl, ha, q⟩ := h
  cases (show v = Value.ref a from rx)
  obtain ⟨ox, od, J⟩ := ins_at I ha
  obtain ⟨m, hF⟩ := I.fr
  exact PySem.W.ksp_neg hF I.ok.mod.kin J hs hf (wpAny_call (run_fnR (us := [.ref a]) (vs := [.ref a]) F hr hx I (.cons rfl .nil) q))
theorem un_invO (hs : PySem.W.findIn X.K (.ref C) "__invert__" = some (some (.ref g))) (hf : PySem.W.isFn X.K (.ref g) = true)
    (F : FnR X.prog X.w X.K X.mg X.base CX n g sp) (hr : Room n X.A) (hx : Passes CX X E) : UnR X (unaryOp .Invert) (rOp1 C sp E) := by
  intro pins s σ H x v Q I rx h
  obtain ⟨a, dx, fs, rfl, ha, q⟩ := h
  cases (show v = Value.ref a from rx)
  obtain ⟨ox, od, J⟩ := ins_at I ha
  obtain ⟨m, hF⟩ := I.fr
  exact PySem.W.ksp_inv hF I.ok.mod.kin J hs hf (wpAny_call (run_fnR (us := [.ref a]) (vs := [.ref a]) F hr hx I (.cons rfl .nil) q))
/-- x in o, x not in o by o's own def that answers True or False -/
def rIn (C : Addr) (sp : Sp) (E : XK) (f : Bool → Bool) : R2 := fun x y H Q => ∃ a dx fs, y = .ref a ∧ H a = some (.ins C dx fs) ∧ sp [y, x] H (fun v H' => ∃ b, v = .bl b ∧ Q (.bl (f b)) H') E
theorem op_in (hs : PySem.W.findIn X.K (.ref C) "__contains__" = some (some (.ref g))) (hf : PySem.W.isFn X.K (.ref g) = true)
    (F : FnR X.prog X.w X.K X.mg X.base CX n g sp) (hr : Room n X.A) (hx : Passes CX X E) : OpR X (compareOp .In) (rIn C sp E id) := by
  intro pins s σ H x y v u Q I rx ry h
  obtain ⟨a, dx, fs, rfl, ha, q⟩ := h
  cases (show u = Value.ref a from ry)
  obtain ⟨ox, od, J⟩ := ins_at I ha
  obtain ⟨m, hF⟩ := I.fr
  refine PySem.W.in_K hF I.ok.mod.kin J hs hf (wpAny_mono (wpAny_call (run_fnR (us := [.ref a, v]) (vs := [.ref a, x]) F hr hx I (.cons rfl (.cons rx .nil)) q)) (fun w s' z => ?_) fun _ _ x => x)
  obtain ⟨z', H', I', rz, b, rfl, qz⟩ := z
  cases (show w = Value.bool b from rz)
  exact wpAny_truthy_bool ⟨.bl b, H', I', rfl, qz⟩
theorem op_notIn (hs : PySem.W.findIn X.K (.ref C) "__contains__" = some (some (.ref g))) (hf : PySem.W.isFn X.K (.ref g) = true)
    (F : FnR X.prog X.w X.K X.mg X.base CX n g sp) (hr : Room n X.A) (hx : Passes CX X E) : OpR X (compareOp .NotIn) (rIn C sp E not) := by
  intro pins s σ H x y v u Q I rx ry h
  obtain ⟨a, dx, fs, rfl, ha, q⟩ := h
  cases (show u = Value.ref a from ry)
  obtain ⟨ox, od, J⟩ := ins_at I ha
  obtain ⟨m, hF⟩ := I.fr
  refine PySem.W.notIn_K hF I.ok.mod.kin J hs hf (wpAny_mono (wpAny_call (run_fnR (us := [.ref a, v]) (vs := [.ref a, x]) F hr hx I (.cons rfl (.cons rx .nil)) q)) (fun w s' z => ?_) fun _ _ x => x)
  obtain ⟨z', H', I', rz, b, rfl, qz⟩ := z
  cases (show w = Value.bool b from rz)
  exact wpAny_truthy_bool ⟨.bl (!b), H', I', rfl, qz⟩
/-- an instance as a test, by its own __bool__ -/
theorem pt_own {e : Expr} {ta : TE} (he : PE X e ta) (hs : PySem.W.findIn X.K (.ref C) "__bool__" = some (some (.ref g))) (hf : PySem.W.isFn X.K (.ref g) = true)
    (F : FnR X.prog X.w X.K X.mg X.base CX n g sp) (hr : Room n X.A) (hx : Passes CX X E) (ht : ∀ whole, isTrue e X.env whole = (do let v ← whole; standAt e.pos; holding [v] (truthy v)) := by intro _; rfl) :
    PT X e (fun σ H Q => ta σ H fun x H1 => ∃ a dx fs, x = .ref a ∧ H1 a = some (.ins C dx fs) ∧ sp [x] H1 (fun v H2 => ∃ b, v = .bl b ∧ Q b H2) E) := by
  refine ⟨fun pins s σ H Q I h => ?_⟩
  refine isTrue_plain (thn (he.run pins s σ H _ I h) fun v s1 ⟨x, H1, I1, r1, a, dx, fs, ex, ha, q⟩ => ?_) (ht _)
  subst ex
  cases (show v = Value.ref a from r1)
  obtain ⟨ox, od, J⟩ := ins_at I1 ha
  obtain ⟨m, hF⟩ := I1.fr
  refine PySem.W.truthy_K hF I1.ok.mod.kin J hs hf (wpAny_mono (wpAny_call (run_fnR (us := [.ref a]) (vs := [.ref a]) F hr hx I1 (.cons rfl .nil) q)) (fun w s' z => ?_) fun _ _ x => x)
  obtain ⟨z', H', I', rz, b, rfl, qz⟩ := z
  cases (show w = Value.bool b from rz)
  exact ⟨H', I', qz⟩
/-- a class called through a local name that holds it -/
def tMakeL (i : Nat) (C : Addr) (sp : Sp) (E : XK) (t : TA) : TE := fun σ H Q => σ[i]? = some (some (.ref C)) ∧ tMakeR C sp E t σ H Q
theorem pe_makeL {f : Addr} {x : Str} {p pos : Pos} {e : Expr} {es : List Expr} {t : TA} (M : Mk X.K C f) (F : FnR X.prog X.w X.K X.mg X.base CX k f sp) (hr : Room (k + 1) X.A) (hN : X.N[i]? = some x) (hv : Vis X.env.scope x) (hx : Passes CX X E) (ha : PA X (e :: es) t)
    (hdb : (x == ("__debug__" : Str)) = false := by decide) (hcd : (x == ("__classdict__" : Str)) = false := by decide)
    (he : starEach (e :: es) X.env = (false, eval e X.env) :: starEach es X.env := by rfl) (hpl : (backTo pos (starEach es X.env)).any (·.1) = false := by rfl) : PE X (.Call (.Name x p) (e :: es) [] pos) (tMakeL i C sp E t) := by
  refine ⟨fun pins s σ H Q I h => ?_⟩
  obtain ⟨hs, ht⟩ := h
  refine wpAny_Call_Name_kw (thn ((pe_var (pos := p) hN hv hdb hcd).run pins s σ H (fun v H1 => v = .ref C ∧ H1 = H) I ⟨.ref C, hs, rfl, rfl⟩) fun u s1 ⟨v, H1, I1, r1, q1⟩ => ?_)
  obtain ⟨rfl, rfl⟩ := q1
  cases r1
  refine PySem.W.callWith_K (h₀ := X.base) I.ok.mod.kin M.kp (thn (ha.run pos pins s1 σ _ _ I1 ht) fun us s2 ⟨vs, H2, I2, r, q⟩ => ⟨I2.kIn, ?_⟩) he hpl
  exact run_makeR M F hr hx I2 r q
end
/-! ### calls with keyword-only parameters, by a promise of the values in a row -/
def FnRK (P : Program) (w : World) (K : PySem.W.Frag) (mg : Str → Option Value) (base : Heap) (CX : CXT) (k : Nat) (f : Addr) (m : Nat) (ks : List Str) (sp : Sp) : Prop :=
  ∀ (A : Around) (outer : List Env) (s : Shared) (H : Hp) (us ws : List Value) (vs zs : List V) (Q : VK) (E : XK), Room k A → Env0 P w K mg base A outer s H → Vals vs us → Vals zs ws → vs.length = m → zs.length = ks.length → sp (vs ++ zs) H Q E →
    codeAny (model P w) A (.call (.ref f) ⟨us, ks.zip ws⟩) (CR CX outer P w H s Q E) s
theorem FnRK.mono {P : Program} {w : World} {K : PySem.W.Frag} {mg : Str → Option Value} {base : Heap} {CX : CXT} {j k : Nat} {f : Addr} {m : Nat} {ks : List Str} {sp : Sp} (F : FnRK P w K mg base CX j f m ks sp) (h : j ≤ k) : FnRK P w K mg base CX k f m ks sp :=
  fun A outer s H us ws vs zs Q E hr => F A outer s H us ws vs zs Q E (hr.mono h)
theorem fnrk_of {P : Program} {w : World} {K : PySem.W.Frag} {mg : Str → Option Value} {base : Heap} {CX : CXT} {k : Nat} {f : Addr} {fd : FuncData} {ps : List Str} {sp : Sp} {m : Nat} {ks : List Str} (F : FnOk P w K mg base CX k f fd ps sp)
    (hb : ∀ (s : Shared) (us ws : List Value), K.In s.heap → us.length = m → ws.length = ks.length → BindsTo s fd ⟨us, ks.zip ws⟩ (ps.zip (us ++ ws))) : FnRK P w K mg base CX k f m ks sp := by
  intro A outer s H us ws vs zs Q E hr e0 r rz h1 h2 h
  exact F.run A outer s H _ (us ++ ws) (vs ++ zs) Q E hr e0 (hb s us ws (e0.mod.kin.keeps fun b o e => (e0.bs b o e).1) (by rw [← r.length, h1]) (by rw [← rz.length, h2])) (r.append rz) h
section
variable {X : Cx} {CX : CXT} {k m : Nat} {f C : Addr} {ks : List Str} {sp : Sp} {E : XK} {x nm : Str} {p pos apos : Pos} {e o : Expr} {es : List Expr} {kws : List Keyword} {te ta : TE} {t tk : TA}
theorem run_fnRK {pins : List (Addr × Obj)} {σ : L2.St} {H : Hp} {s : Shared} {Q : VK} {us ws : List Value} {vs zs : List V} (F : FnRK X.prog X.w X.K X.mg X.base CX k f m ks sp) (hr : Room k X.A) (hx : Passes CX X E)
    (I : Inv X pins σ H s) (r : Vals vs us) (rz : Vals zs ws) (h1 : vs.length = m) (h2 : zs.length = ks.length) (h : sp (vs ++ zs) H Q E) : wpAny (model X.prog X.w) X.A (call (.ref f) us (ks.zip ws)) (EP X pins σ Q) X.xe s := by
  refine wpAny_call (codeAny_mono (F X.A X.stack s H us ws vs zs Q E hr I.env0 r rz h1 h2 h) fun r s' hq => ?_)
  cases r with
  | error e => exact hx pins σ H s e s' I hq
  | ok fl =>
    cases fl with
    | ret u => exact I.after hq
    | next => exact False.elim hq
    | brk => exact False.elim hq
    | cont => exact False.elim hq
def tCallKR (m n : Nat) (sp : Sp) (E : XK) (t tk : TA) : TE := fun σ H Q => t σ H fun vs H1 => tk σ H1 fun zs H2 => vs.length = m ∧ zs.length = n ∧ sp (vs ++ zs) H2 Q E
theorem pe_callKR (F : FnRK X.prog X.w X.K X.mg X.base CX k f m ks sp) (hr : Room k X.A) (hk : PySem.W.keepIn X.K (.ref f) = true) (hg : Gl X x) (hm : X.mg x = some (.ref f)) (hx : Passes CX X E)
    (ha : PA X (e :: es) t) (hkw : PK X kws tk) (hall : (backToKw pos (keywordEach kws X.env)).all (·.1.isSome) = true := by rfl) (hks : (backToKw pos (keywordEach kws X.env)).filterMap (·.1) = ks := by rfl)
    (hdb : (x == ("__debug__" : Str)) = false := by decide) (he : starEach (e :: es) X.env = (false, eval e X.env) :: starEach es X.env := by rfl)
    (hpl : ((backTo pos (starEach (e :: es) X.env)).any (·.1) || (backToKw pos (keywordEach kws X.env)).any (·.1.isNone)) = false := by rfl) :
    PE X (.Call (.Name x p) (e :: es) kws pos) (tCallKR m ks.length sp E t tk) := by
  refine ⟨fun pins s σ H Q I h => ?_⟩
  refine wpAny_Call_Name_kw (ld_glob I hg hm ?_ hdb)
  refine PySem.W.callWith_KW (h₀ := X.base) I.ok.mod.kin hk hall (thn (ha.run pos pins s σ H _ I h) fun us s1 ⟨vs, H1, I1, r, q⟩ => ?_) hpl he
  refine thn (hkw.run pos pins s1 σ H1 _ I1 q) fun ws s2 ⟨zs, H2, I2, rz, l1, l2, q2⟩ => ⟨I2.kIn, ?_⟩
  rw [hks]
  exact run_fnRK F hr hx I2 r rz l1 l2 q2
/-- o.m(e, .., k = v) -/
def tMethKR (C : Addr) (nm : Str) (m n : Nat) (sp : Sp) (E : XK) (ta : TE) (t tk : TA) : TE := fun σ H Q => ta σ H fun x H0 => ∃ a dx fs, x = .ref a ∧ H0 a = some (.ins C dx fs) ∧ fs.lookup nm = none ∧
  t σ H0 fun vs H1 => tk σ H1 fun zs H2 => vs.length + 1 = m ∧ zs.length = n ∧ sp (x :: vs ++ zs) H2 Q E
theorem pe_methKR {pl : Sem Bool} (he : PE X o ta) (c : Cls X.K C) (hm : Meth X.K C nm f) (F : FnRK X.prog X.w X.K X.mg X.base CX k f m ks sp) (hr : Room k X.A) (hx : Passes CX X E)
    (ha : PA X (e :: es) t) (hkw : PK X kws tk) (hall : (backToKw pos (keywordEach kws X.env)).all (·.1.isSome) = true := by rfl) (hks : (backToKw pos (keywordEach kws X.env)).filterMap (·.1) = ks := by rfl)
    (hst : starEach (e :: es) X.env = (false, eval e X.env) :: starEach es X.env := by rfl)
    (hpl : ((backTo pos (starEach (e :: es) X.env)).any (·.1) || (backToKw pos (keywordEach kws X.env)).any (·.1.isNone)) = false := by rfl)
    (ht : eval (.Call (.Attribute o nm apos) (e :: es) kws pos) X.env = (do
      let ov ← eval o X.env
      standAt apos.atName
      let (f, first) ← holding [ov] (getMethod ov nm pl)
      callWith pos f first (backTo pos (starEach (e :: es) X.env)) (backToKw pos (keywordEach kws X.env))) := by rfl) :
    PE X (.Call (.Attribute o nm apos) (e :: es) kws pos) (tMethKR C nm m ks.length sp E ta t tk) := by
  refine ⟨fun pins s σ H Q I h => ?_⟩
  refine PySem.W.methodCall_KW (pl := pl) (thn (he.run pins s σ H _ I h) fun u s1 ⟨x, H1, I1, rx, a, dx, fs, ex, ea, l, q⟩ => ?_) ht
  subst ex
  obtain rfl : u = Value.ref a := rx
  refine getmeth_ok I1 ea c hm l ?_
  refine PySem.W.callWith_KW (first := [.ref a]) (h₀ := X.base) I.ok.mod.kin hm.kp hall (thn (ha.run pos pins s1 σ H1 _ I1 q) fun us s2 ⟨vs, H2, I2, r, q2⟩ => ?_) hpl hst
  refine thn (hkw.run pos pins s2 σ H2 _ I2 q2) fun ws s3 ⟨zs, H3, I3, rz, l1, l2, q3⟩ => ⟨I3.kIn, ?_⟩
  rw [hks]
  exact run_fnRK (us := .ref a :: us) (vs := .ref a :: vs) F hr hx I3 (.cons rfl r) rz l1 l2 q3
/-- o.m() by a promise of the values in a row -/
theorem pe_methR0 {pl : Sem Bool} (he : PE X o ta) (c : Cls X.K C) (hm : Meth X.K C nm f) (F : FnR X.prog X.w X.K X.mg X.base CX k f sp) (hr : Room k X.A) (hx : Passes CX X E)
    (ht : eval (.Call (.Attribute o nm apos) [] [] pos) X.env = (do
      let ov ← eval o X.env
      standAt apos.atName
      let (f, first) ← holding [ov] (getMethod ov nm pl)
      callWith pos f first (backTo pos (starEach [] X.env)) (backToKw pos (keywordEach [] X.env))) := by rfl) :
    PE X (.Call (.Attribute o nm apos) [] [] pos) (fun σ H Q => ta σ H fun x H1 => ∃ a dx fs, x = .ref a ∧ H1 a = some (.ins C dx fs) ∧ fs.lookup nm = none ∧ sp [x] H1 Q E) := by
  refine ⟨fun pins s σ H Q I h => ?_⟩
  refine PySem.W.methodCall_KW (pl := pl) (thn (he.run pins s σ H _ I h) fun u s1 ⟨x, H1, I1, rx, a, dx, fs, ex, ea, l, q⟩ => ?_) ht
  subst ex
  obtain rfl : u = Value.ref a := rx
  refine getmeth_ok I1 ea c hm l ?_
  exact PySem.W.callWith_K0 (first := [.ref a]) I1.kIn hm.kp (wpAny_call (run_fnR (us := [.ref a]) (vs := [.ref a]) F hr hx I1 (.cons rfl .nil) q))
/-- f(e, ..), f a def of the module, by a promise of the values in a row -/
theorem pe_callR (F : FnR X.prog X.w X.K X.mg X.base CX k f sp) (hr : Room k X.A) (hk : PySem.W.keepIn X.K (.ref f) = true) (hg : Gl X x) (hm : X.mg x = some (.ref f)) (hx : Passes CX X E) (ha : PA X (e :: es) t) (hd : (x == ("__debug__" : Str)) = false := by decide)
    (he : starEach (e :: es) X.env = (false, eval e X.env) :: starEach es X.env := by rfl) (hpl : (backTo pos (starEach es X.env)).any (·.1) = false := by rfl) :
    PE X (.Call (.Name x p) (e :: es) [] pos) (fun σ H Q => t σ H fun vs H1 => sp vs H1 Q E) := by
  refine ⟨fun pins s σ H Q I h => ?_⟩
  refine wpAny_Call_Name_kw (ld_glob I hg hm ?_ hd)
  refine PySem.W.callWith_K (h₀ := X.base) I.ok.mod.kin hk (thn (ha.run pos pins s σ H _ I h) fun us s1 ⟨vs, H1, I1, r, q⟩ => ⟨I1.kIn, ?_⟩) he hpl
  exact wpAny_call (run_fnR F hr hx I1 r q)
/-- C.m(), m a classmethod -/
theorem pe_cmeth0 {q g : Addr} {mc : Value} {pl : Sem Bool} (he : PE X o ta) (r : ClX.CRead X.K C mc) (c : ClX.CMet X.K C mc nm q g) (F : FnR X.prog X.w X.K X.mg X.base CX k g sp) (hr : Room k X.A) (hx : Passes CX X E)
    (ht : eval (.Call (.Attribute o nm apos) [] [] pos) X.env = (do
      let ov ← eval o X.env
      standAt apos.atName
      let (f, first) ← holding [ov] (getMethod ov nm pl)
      callWith pos f first (backTo pos (starEach [] X.env)) (backToKw pos (keywordEach [] X.env))) := by rfl) :
    PE X (.Call (.Attribute o nm apos) [] [] pos) (fun σ H Q => ta σ H fun x H1 => x = .ref C ∧ sp [.ref C] H1 Q E) := by
  refine ⟨fun pins s σ H Q I h => ?_⟩
  refine PySem.W.methodCall_KW (pl := pl) (thn (he.run pins s σ H _ I h) fun u s1 ⟨x, H1, I1, rx, ex, q⟩ => ?_) ht
  subst ex
  obtain rfl : u = Value.ref C := rx
  refine ClX.getmethcm_ok I1 r c fun s2 I2 => ?_
  have hq := ClX.pin_at I2
  have hL : s1.heap.objs.size ≠ X.env.locals := (I2.pin (s1.heap.objs.size, PySem.W.methodObj (.ref g) (.ref C)) (List.mem_append_right _ List.mem_cons_self)).2.2.1
  refine PySem.W.callWith_M0 (K := X.K) (first := []) (self := .ref C) ⟨hq, I2.kIn⟩ c.fi ?_
  exact ClX.run_cm F hr hx I2 .nil q
end
end EfB
/-! text B2 -/
set_option Elab.async false
set_option linter.all false
set_option maxRecDepth 100000
set_option maxHeartbeats 2000000
namespace EfB
open PySem PySem.Spec PyProof.Rows L2
section
variable {X : Cx} {pins : List (Addr × Obj)} {σ : L2.St} {H : Hp} {s : Shared} {d : Addr} {o : Obj}
/-- a locked dict of tuple keys: its entries, values too -/
theorem frzTv {kvs : List (List Key × V)} (I : Inv X pins σ H s) (h : H d = some (.frz o (.dT kvs))) :
    (d == sysModules) = false ∧ ∃ (es : Array DictEntry) (ep : Nat), o.data = .dict es ep ∧ s.heap.DictRaw d es ep ∧ es.size = kvs.length ∧
      ∀ (i : Nat) (hi : i < es.size) (k : List Key) (v : V), kvs[i]? = some (k, v) → ∃ q : Addr, es[i].key = .ref q ∧ H q = some (.tup (k.map kV)) ∧ RelV v es[i].val := by
  obtain ⟨hd, z, hs, xs, pr, o', es, ep, ho, hx, hdt, he, _⟩ := I.hok d _ h
  rw [hd] at ho
  cases ho
  have l1 : es.size = xs.length := size_of_entries he
  have l2 : kvs.length = xs.length := Paired.length pr
  refine ⟨hs, es, ep, hdt, ⟨o, hd, hx, hdt⟩, by omega, fun i hi k v e => ?_⟩
  obtain ⟨b, hb, e1, e2, e3⟩ := paired_get pr e
  have q := entry_at he i
  rw [hb, Array.getElem?_eq_getElem hi] at q
  have q := Option.some.inj q
  exact ⟨b.2.1, by rw [q]; rfl, e2, by rw [q]; exact e3⟩
end
/-- the pairs of a locked dict of tuple keys, each a new tuple of the key's own tuple and the value -/
def ItT (d : Addr) (o : Obj) (kvs : List (List Key × V)) : It :=
  ⟨fun i H => H d = some (.frz o (.dT kvs)) ∧ i < kvs.length, fun i H x H' => ∃ (T : Addr) (k : List Key) (v : V) (q : Addr), kvs[i]? = some (k, v) ∧ x = .ref T ∧ H T = none ∧ H q = some (.tup (k.map kV)) ∧ H' = upd H T (.tup [.ref q, v]),
    fun i H => H d = some (.frz o (.dT kvs)) ∧ kvs.length ≤ i⟩
/-- its values -/
def IvT (d : Addr) (o : Obj) (kvs : List (List Key × V)) : It :=
  ⟨fun i H => H d = some (.frz o (.dT kvs)) ∧ i < kvs.length, fun i H x H' => H' = H ∧ ∃ k, kvs[i]? = some (k, x), fun i H => H d = some (.frz o (.dT kvs)) ∧ kvs.length ≤ i⟩
section
variable {P : Program} {w : World} {K : PySem.W.Frag} {tg : Expr} {d : Addr} {o : Obj} {es : Array DictEntry} {ep : Nat}
theorem turnT {kvs : List (List Key × V)} {elts : List Expr} {kk : Nat} {tpos : Pos} (it : Addr) (hod : o.data = .dict es ep) :
    Turn P w K (.Tuple elts kk tpos) (ItT d o kvs) [it] it (fun i h => ∃ ok ov, IsItemIter h it d i kvs.length ep ok ov) where
  mem := by simp
  obj := fun i h st b hb => by
    obtain rfl : b = it := by simpa using hb
    obtain ⟨ok, ov, e⟩ := st
    exact ⟨_, e, fun v z => nomatch z⟩
  keep := fun i h h' st k => let ⟨ok, ov, e⟩ := st; ⟨ok, ov, k it (by simp) _ e⟩
  item := by
    rintro X rfl rfl rfl hc i pins s σ H E I hf ⟨ok, ov, he⟩ ⟨hd, hi⟩
    obtain ⟨hs, es', ep', hdt, hraw, hsz, ent⟩ := frzTv I hd
    obtain ⟨rfl, rfl⟩ := dict_ep hod hdt
    have hi' : i < es'.size := by omega
    obtain ⟨q, hkey, hq, hv⟩ := ent i hi' _ _ (List.getElem?_eq_getElem hi)
    rw [← hsz] at he
    have hlt : it < s.heap.objs.size := Heap.lt_size he
    refine wpAny_pyNext_items_item_raw he hraw hi' fun h' ho hT hz hk => ?_
    refine ⟨_, rfl, wpAny_letOwnedTupleGo_items (s := { s with heap := h' }) ho fun h'' he' sb => ?_⟩
    have hT2 := (sb.2 _ (Nat.ne_of_gt hlt)).trans hT
    have new : ObjOk X.prog X.w (upd H s.heap.objs.size (.tup [.ref q, kvs[i].2])) h'' s.heap.objs.size (.tup [.ref q, kvs[i].2]) :=
      ⟨by show 2 ≤ sizeLine; decide, [es'[i].key, es'[i].val], .cons hkey (.cons hv .nil), ⟨_, hT2, rfl, _, rfl⟩⟩
    have I1 : Inv X pins σ (upd H s.heap.objs.size (.tup [.ref q, kvs[i].2])) { s with heap := h'' } :=
      I.turnedNew (t' := s.toks) (ch := [it]) (fun b ob hb e => (sb.2 b (by simpa using hb)).trans (hk b ob (by simpa using hb) e)) hf (Nat.le_refl _) new
    refine ⟨.ref s.heap.objs.size, _, I1, rfl, ⟨_, kvs[i].1, kvs[i].2, q, List.getElem?_eq_getElem hi, rfl, I.hok.fresh (Nat.le_refl _), hq, rfl⟩, ⟨_, _, by rw [← hsz]; exact he'⟩, fun b hb => ?_⟩
    obtain rfl : b = it := by simpa using hb
    rw [upd_ne (Nat.ne_of_lt hlt)]
    exact (hf b (by simp)).1
  done := by
    rintro X rfl rfl rfl hc i pins s σ H E I hf ⟨ok, ov, he⟩ ⟨hd, hi⟩
    obtain ⟨f0, f1, f2, f3, f4, f5⟩ := hf it (by simp)
    obtain ⟨hs, es', ep', hdt, hraw, hsz, ent⟩ := frzTv I hd
    obtain ⟨rfl, rfl⟩ := dict_ep hod hdt
    rw [← hsz] at he
    exact wpAny_pyNext_items_end_raw (I.ok.hd hc) he hraw (by omega) fun h' eb => ⟨rfl, I.turned (t' := s.toks) (fun b ob hb e => eb b ob hb e) f0 f1 f3 f4 f5⟩
  self := fun A i s Q E st h => let ⟨_, _, e⟩ := st; wpAny_pyIter_itemiter e h
theorem turnVT {kvs : List (List Key × V)} (it : Addr) (hod : o.data = .dict es ep) : Turn P w K tg (IvT d o kvs) [it] it (fun i h => h.IsValIter it d i kvs.length ep) where
  mem := by simp
  obj := fun i h st b hb => by
    obtain rfl : b = it := by simpa using hb
    obtain ⟨oi, e, c, dd⟩ := st
    exact ⟨oi, e, fun v z => by rw [dd] at z; cases z⟩
  keep := fun i h h' st k => st.at fun oi e => k it (by simp) oi e
  item := by
    rintro X rfl rfl rfl hc i pins s σ H E I hf st ⟨hd, hi⟩
    obtain ⟨f0, f1, f2, f3, f4, f5⟩ := hf it (by simp)
    obtain ⟨hs, es', ep', hdt, hraw, hsz, ent⟩ := frzTv I hd
    obtain ⟨rfl, rfl⟩ := dict_ep hod hdt
    have hi' : i < es'.size := by omega
    obtain ⟨q, hkey, hq, hv⟩ := ent i hi' _ _ (List.getElem?_eq_getElem hi)
    rw [← hsz] at st
    refine wpAny_pyNext_values_item_raw st hraw hi' fun h' st' sb => ?_
    have I1 : Inv X pins σ H { s with heap := h' } := I.turned (t' := s.toks) (fun b ob hb e => (sb.2 b hb).trans e) f0 f1 f3 f4 f5
    obtain ⟨oi, e, c, dd⟩ := id st'
    refine ⟨_, rfl, go_of (s := { s with heap := h' }) e c dd (by decide) ⟨kvs[i].2, H, I1, hv, ⟨rfl, kvs[i].1, List.getElem?_eq_getElem hi⟩, ?_, fun b hb => (hf b hb).1⟩⟩
    show h'.IsValIter it d (i + 1) kvs.length _
    rw [← hsz]
    exact st'
  done := by
    rintro X rfl rfl rfl hc i pins s σ H E I hf st ⟨hd, hi⟩
    obtain ⟨f0, f1, f2, f3, f4, f5⟩ := hf it (by simp)
    obtain ⟨hs, es', ep', hdt, hraw, hsz, ent⟩ := frzTv I hd
    obtain ⟨rfl, rfl⟩ := dict_ep hod hdt
    rw [← hsz] at st
    exact wpAny_pyNext_values_end_raw (I.ok.hd hc) st hraw (by omega) fun h' eb => ⟨rfl, I.turned (t' := s.toks) (fun b ob hb e => eb b ob hb e) f0 f1 f3 f4 f5⟩
  self := fun A i s Q E st h => wpAny_pyIter_valiter st h
end
def iItemsT (td : TE) : TI := fun σ H R => td σ H fun x H1 => ∃ d o kvs, x = .ref d ∧ H1 d = some (.frz o (.dT kvs)) ∧ R (ItT d o kvs) H1
def iValsT (td : TE) : TI := fun σ H R => td σ H fun x H1 => ∃ d o kvs, x = .ref d ∧ H1 d = some (.frz o (.dT kvs)) ∧ R (IvT d o kvs) H1
theorem raw_none {s : Shared} {d : Addr} {es : Array DictEntry} {ep : Nat} (h : s.heap.DictRaw d es ep) : ∀ b, Value.ref d = .ref b → ∃ ob, s.heap.get? b = some ob ∧ ob.dict = none := fun b q => by
  cases q
  obtain ⟨ob, h1, h2, _⟩ := h
  exact ⟨ob, h1, h2.2.1⟩
section
variable {X : Cx} {tg e : Expr} {td : TE} {apos cpos : Pos}
theorem pi_itemsT {elts : List Expr} {kk : Nat} {tpos : Pos} (he : PE X e td) (hbase : attributeBase e "items" X.env (eval e X.env) = eval e X.env := by rfl) (hline : (apos.endLine == cpos.line) = true := by rfl) :
    PI X (.Tuple elts kk tpos) (.Call (.Attribute e "items" apos) [] [] cpos) (iItemsT td) := by
  refine ⟨fun pins s σ H R I h => ?_⟩
  refine wpAny_Call_method (T := "dict") (id := "dict.items") hbase rfl hline F.plainAttrs_dict F.slot_dict_items F.type_dict_items (thn (he.run pins s σ H _ I h) fun u s1 ⟨x, H1, I1, rx, d, o, kvs, ex, hd, q⟩ => ?_)
  subst ex
  obtain rfl : u = Value.ref d := rx
  obtain ⟨hs, es, ep, hdt, hraw, hsz, ent⟩ := frzTv I1 hd
  refine ⟨hraw.typeIs, raw_none hraw, ?_⟩
  have I2 : Inv X pins σ H1 { s1 with heap := s1.heap.push { cls := .type "dict_items", data := .fields #[.ref d] } } := I1.kept (t' := s1.toks) fun b ob q => Heap.get?_push_of_some _ q
  have fin : wpAny (model X.prog X.w) X.A (pyIter (.ref s1.heap.objs.size)) (PIE X pins σ (.Tuple elts kk tpos) R) X.xe { s1 with heap := s1.heap.push { cls := .type "dict_items", data := .fields #[.ref d] } } := by
    refine wpAny_pyIter_items_raw (d := d) ⟨_, Heap.get?_push_size _ rfl, rfl, rfl⟩ (hraw.at fun _ e => Heap.get?_push_of_some _ e) (pi_one (tk := s1.toks) I2 _ (turnT _ hdt) ⟨.none, .none, ?_⟩ q)
    rw [← hsz]
    exact Heap.get?_push_size _ rfl
  show wpAny _ _ (callWith cpos (.builtin "dict.items") [.ref d] [] []) _ X.xe s1
  exact method_meetsIn F.slot_dict_items F.entry_dict_items rfl (PySem.evalArgs_none ⟨rfl, hraw.typeIs, F.args_dict_items_1 _, _, meets_dict_items_raw d hs, ⟨⟨es, ep, hraw⟩, fin⟩⟩)
theorem pi_valuesT (he : PE X e td) (hbase : attributeBase e "values" X.env (eval e X.env) = eval e X.env := by rfl) (hline : (apos.endLine == cpos.line) = true := by rfl) : PI X tg (.Call (.Attribute e "values" apos) [] [] cpos) (iValsT td) := by
  refine ⟨fun pins s σ H R I h => ?_⟩
  refine wpAny_Call_method (T := "dict") (id := "dict.values") hbase rfl hline F.plainAttrs_dict F.slot_dict_values F.type_dict_values (thn (he.run pins s σ H _ I h) fun u s1 ⟨x, H1, I1, rx, d, o, kvs, ex, hd, q⟩ => ?_)
  subst ex
  obtain rfl : u = Value.ref d := rx
  obtain ⟨hs, es, ep, hdt, hraw, hsz, ent⟩ := frzTv I1 hd
  refine ⟨hraw.typeIs, raw_none hraw, ?_⟩
  have I2 : Inv X pins σ H1 { s1 with heap := s1.heap.push { cls := .type "dict_values", data := .fields #[.ref d] } } := I1.kept (t' := s1.toks) fun b ob q => Heap.get?_push_of_some _ q
  have fin : wpAny (model X.prog X.w) X.A (pyIter (.ref s1.heap.objs.size)) (PIE X pins σ tg R) X.xe { s1 with heap := s1.heap.push { cls := .type "dict_values", data := .fields #[.ref d] } } := by
    refine wpAny_pyIter_values_raw (d := d) ⟨_, Heap.get?_push_size _ rfl, rfl, rfl⟩ (hraw.at fun _ e => Heap.get?_push_of_some _ e) (pi_one (tk := s1.toks) I2 _ (turnVT _ hdt) ⟨_, Heap.get?_push_size _ rfl, rfl, ?_⟩ q)
    rw [← hsz] <;> rfl
  show wpAny _ _ (callWith cpos (.builtin "dict.values") [.ref d] [] []) _ X.xe s1
  exact method_meetsIn F.slot_dict_values F.entry_dict_values rfl (PySem.evalArgs_none ⟨rfl, hraw.typeIs, F.args_dict_values_1 _, _, meets_dict_values_raw d hs, ⟨⟨es, ep, hraw⟩, fin⟩⟩)
/-- the value's dict stays locked from here on -/
theorem pe_frz {t : TE} (he : PE X e t) : PE X e (fun σ H Q => t σ H fun v H1 => ∃ d u, v = .ref d ∧ H1 d = some u ∧ Mut (some u) ∧ ∀ od, Q (.ref d) (upd H1 d (.frz od u))) := by
  refine ⟨fun pins s σ H Q I h => ?_⟩
  refine thn (he.run pins s σ H _ I h) fun v s1 ⟨x, H1, I1, r1, d, u, ex, hd, mu, q⟩ => ?_
  subst ex
  obtain ⟨od, I2⟩ := I1.lock hd mu
  exact ⟨.ref d, _, I2, r1, q od⟩
end
theorem walkT {d : Addr} {o : Obj} {kvs : List (List Key × V)} : Walk (ItT d o kvs) kvs.length (fun H => H d = some (.frz o (.dT kvs)))
    (fun i H x H' => ∃ (T : Addr) (k : List Key) (v : V) (q : Addr), kvs[i]? = some (k, v) ∧ x = .ref T ∧ H T = none ∧ H q = some (.tup (k.map kV)) ∧ H' = upd H T (.tup [.ref q, v])) :=
  ⟨fun _ _ hi q => ⟨q, hi⟩, fun _ q => ⟨q, Nat.le_refl _⟩, fun _ _ _ _ _ _ y => y⟩
theorem walkVT {d : Addr} {o : Obj} {kvs : List (List Key × V)} : Walk (IvT d o kvs) kvs.length (fun H => H d = some (.frz o (.dT kvs))) (fun i H x H' => H' = H ∧ ∃ k, kvs[i]? = some (k, x)) :=
  ⟨fun _ _ hi q => ⟨q, hi⟩, fun _ q => ⟨q, Nat.le_refl _⟩, fun _ _ _ _ _ _ y => y⟩
end EfB
/-! text B3 -/
set_option Elab.async false
set_option linter.all false
set_option maxRecDepth 100000
set_option maxHeartbeats 2000000
namespace EfB
open PySem PySem.Spec PyProof.Rows L2 PySem.Calls
section
variable {prog : Program} {w : World} {A : Around} {E : Value → Shared → Prop} {s : Shared} {r d : Addr} {es : Array DictEntry} {ep : Nat}
/-- list(d.items()) of a dict told by its entries -/
theorem rawInit {R : Result → Shared → Prop} (hh : A.handled = none) (hv : s.heap.IsItemsView r d) (hm : DT.Raw s.heap d es ep) (S : Addr) (hSr : S ≠ r) (hSd : d ≠ S) (hS : s.heap.get? S = some { cls := .type "list", data := .seq #[] })
    (hR : ∀ h' tk acc c as, (∀ b o, b ≠ S → s.heap.get? b = some o → h'.get? b = some o) → h'.get? S = some { cls := .type "list", dict := none, data := .seq acc c, slots := #[] } → as.length = es.size → DT.Made es S h' as →
      acc.toList = as.map Value.ref → R (.ok (.ret .none)) { s with heap := h', toks := tk }) (hn : es.size ≤ sizeLine) :
    wpAny (model prog w) A.in1 (Builtin.«list.__init__» ⟨[.ref S, .ref r], []⟩)
      (fun fin s' => match fin with | .done f => R (.ok f) s' | .again c' => c'.quiet = true ∧ codeAny (model prog w) A c' R s') (fun e s' => R (.error e) s') s := by
  show wpAny _ _ (do let old ← Builtin.List.listItems (.ref S); Builtin.List.listUpdate (.ref S) (fun _ => #[]); letGo old.toList.reverse; Builtin.List.listExtendWith (.ref S) (.ref r) .none) _ _ s
  refine wpAny_bind ?_
  unfold Builtin.List.listItems
  refine wpAny_bind (wpAny_seqItems hS rfl (wpAny_pure ?_))
  show wpAny _ _ (updateSeq S (fun _ => #[]) >>= fun _ => letGo (#[] : Array Value).toList.reverse >>= fun _ => Builtin.List.listExtendWith (.ref S) (.ref r) .none) _ _ s
  refine wpAny_bind (wpAny_updateSeq hS rfl ?_)
  have hS₂ := Heap.get?_update_self (Obj.mapSeq (fun _ => (#[] : Array Value))) hS rfl
  have oth : ∀ b o, b ≠ S → s.heap.get? b = some o → (s.heap.update S (Obj.mapSeq (fun _ => (#[] : Array Value)))).get? b = some o :=
    fun b o hb e => (Heap.get?_update_other _ _ (Ne.symm hb)).trans e
  refine wpAny_bind (wpAny_letGo ?_)
  refine DT.extI (es := es) (ep := ep) hh (let ⟨o, ho, x⟩ := hv; ⟨o, oth r o hSr.symm ho, x⟩) (hm.at' fun o e => oth d o hSd e) S hSr hSd .none _ hS₂ (fun h' tk acc c as hk hS' hl hG hacc => ?_) hn
  exact hR h' tk acc c as (fun b o hb e => hk b o hb (oth b o hb e)) hS' hl (hG.low (Nat.le_of_lt (Heap.lt_size hS₂))) hacc
theorem rawCall {Q : Value → Shared → Prop} (hh : A.handled = none) (hv : s.heap.IsItemsView r d) (hm : DT.Raw s.heap d es ep) (hn : es.size ≤ sizeLine)
    (hQ : ∀ h' tk acc c as, (∀ b o, s.heap.get? b = some o → h'.get? b = some o) → h'.get? s.heap.objs.size = some { cls := .type "list", dict := none, data := .seq acc c, slots := #[] } → as.length = es.size → DT.Made es s.heap.objs.size h' as →
      acc.toList = as.map Value.ref → Q (.ref s.heap.objs.size) { s with heap := h', toks := tk }) :
    wpAny (model prog w) A (call (.type "list") [.ref r]) Q E s := by
  refine callType_codes (Q₁ := fun obj s₁ => obj = .ref s.heap.objs.size ∧ s₁ = { s with heap := s.heap.push { cls := .type "list", data := .seq #[] } }) PySem.F.called_list (PySem.F.typeCall_list_1 _) PySem.F.entry_list_init
    (code_list_new _ ⟨rfl, rfl⟩) fun obj s₁ h₁ => ?_
  obtain ⟨rfl, rfl⟩ := h₁
  have hS : (s.heap.push { cls := .type "list", data := .seq #[] }).get? s.heap.objs.size = some { cls := .type "list", data := .seq #[] } := Heap.get?_push_size _ rfl
  have hr : r < s.heap.objs.size := let ⟨_, ho, _⟩ := hv; Heap.lt_size ho
  have hd : d < s.heap.objs.size := hm.lt
  refine ⟨⟨_, hS, rfl⟩, PySem.F.args_list_init_2 _ _, rawInit (A := A.in1) hh (let ⟨o, ho, x⟩ := hv; ⟨o, Heap.get?_push_of_some _ ho, x⟩) (hm.push _) _ (Nat.ne_of_gt hr) (Nat.ne_of_lt hd) hS (fun h' tk acc c as hk hS' hl hG hacc => ?_) hn⟩
  exact ⟨rfl, hQ h' tk acc c as (fun b o e => hk b o (Nat.ne_of_lt (Heap.lt_size e)) (Heap.get?_push_of_some _ e)) hS' hl hG hacc⟩
end
/-- the new list's pairs: each a tuple of a key's own tuple and the value -/
def PairsAt (H : Hp) (ts : List Addr) (kvs : List (List Key × V)) : Prop := ts.length = kvs.length ∧ ∀ (i : Nat) (t : Addr), ts[i]? = some t → ∃ (k : List Key) (v : V) (q : Addr), kvs[i]? = some (k, v) ∧ H t = some (.tup [.ref q, v]) ∧ H q = some (.tup (k.map kV))
def tListItemsT (te : TE) : TE := fun σ H Q => te σ H fun x H1 => ∃ (d : Addr) (o : Obj) (kvs : List (List Key × V)), x = .ref d ∧ H1 d = some (.frz o (.dT kvs)) ∧
  ∀ (H' : Hp) (p : Addr) (ts : List Addr), Same H1 H' → H1 p = none → H' p = some (.lst (ts.map V.ref)) → PairsAt H' ts kvs → Q (.ref p) H'
section
variable {X : Cx} {e : Expr} {te : TE} {p apos cpos pos : Pos}
theorem pe_listItemsT (hc : X.calm = true) (he : PE X e te) (hg : Gl X "list") (hm : X.mg "list" = none) (hv : bootBuiltins "list" = some (.type "list")) (hbase : attributeBase e "items" X.env (eval e X.env) = eval e X.env := by rfl) (hline : (apos.endLine == cpos.line) = true := by rfl)
    (hs : starEach [.Call (.Attribute e "items" apos) [] [] cpos] X.env = (false, eval (.Call (.Attribute e "items" apos) [] [] cpos) X.env) :: starEach [] X.env := by rfl) :
    PE X (.Call (.Name "list" p) [.Call (.Attribute e "items" apos) [] [] cpos] [] pos) (tListItemsT te) := by
  refine ⟨fun pins s σ H Q I hq => ?_⟩
  refine wpAny_Call_Name_kw (ld_blt I hg hm hv ?_)
  refine PyProof.Rows.callWith_type1 ?_ hs rfl
  rw [hs]
  show wpAny _ _ (spliced ((false, eval (.Call (.Attribute e "items" apos) [] [] cpos) X.env) :: backTo pos (starEach [] X.env))) _ _ s
  refine Calls.spliced_cons ?_
  refine wpAny_Call_method (T := "dict") (id := "dict.items") hbase rfl hline F.plainAttrs_dict F.slot_dict_items F.type_dict_items (thn (he.run pins s σ H _ I hq) fun u s1 ⟨x, H1, I1, rx, d, o, kvs, ex, hd, q⟩ => ?_)
  subst ex
  obtain rfl : u = Value.ref d := rx
  obtain ⟨hs0, es, ep, hdt, hraw, hsz, ent⟩ := frzTv I1 hd
  have hz : kvs.length ≤ sizeLine := by
    have z := I1.hok d _ hd
    exact z.2.1
  have I2 : Inv X pins σ H1 { s1 with heap := s1.heap.push { cls := .type "dict_items", data := .fields #[.ref d] } } := I1.kept (t' := s1.toks) fun b ob q => Heap.get?_push_of_some _ q
  refine ⟨hraw.typeIs, raw_none hraw, ?_⟩
  show wpAny _ _ (callWith cpos (.builtin "dict.items") [.ref d] [] []) _ X.xe s1
  refine method_meetsIn F.slot_dict_items F.entry_dict_items rfl (PySem.evalArgs_none ⟨rfl, hraw.typeIs, F.args_dict_items_1 _, _, meets_dict_items_raw d hs0, ⟨⟨es, ep, hraw⟩, ?_⟩⟩)
  refine Calls.spliced_nil ?_
  have hraw2 : DT.Raw (s1.heap.push { cls := .type "dict_items", data := .fields #[.ref d] }) d es ep := hraw.at fun _ e => Heap.get?_push_of_some _ e
  generalize hs2 : ({ s1 with heap := s1.heap.push { cls := .type "dict_items", data := .fields #[.ref d] } } : Shared) = s2 at I2
  have h2 : s2.heap = s1.heap.push { cls := .type "dict_items", data := .fields #[.ref d] } := by rw [← hs2]
  have view : s2.heap.IsItemsView s1.heap.objs.size d := by
    rw [h2]
    exact ⟨_, Heap.get?_push_size _ rfl, rfl, rfl⟩
  rw [← h2] at hraw2
  have goal : wpAny (model X.prog X.w) X.A (call (.type "list") [.ref s1.heap.objs.size]) (EP X pins σ Q) X.xe s2 := by
    refine rawCall (I1.ok.hd hc) view hraw2 (by omega) fun h' tk acc c as hk hS hl hG hacc => ?_
    have nd : as.Nodup := List.Pairwise.imp (fun {a b} (h : a < b) => Nat.ne_of_lt h) hG.rise
    have I3 : Inv X pins σ H1 { s2 with heap := h', toks := tk } := I2.kept (t' := tk) hk
    have newS : H1 s2.heap.objs.size = none := I2.hok.fresh (Nat.le_refl _)
    have okL : ∀ H2, ObjOk X.prog X.w H2 h' s2.heap.objs.size (.lst (as.map V.ref)) := fun H2 => by
      refine ⟨by rw [List.length_map]; omega, acc.toList, c, by rw [hacc]; exact LiI.vals_refs as, ?_⟩
      rw [Array.toArray_toList]
      exact hS
    have I4 : Inv X pins σ (upd H1 s2.heap.objs.size (.lst (as.map V.ref))) { s2 with heap := h', toks := tk } := I3.take (h' := h') (t' := tk) (fun b ob _ e => e) (I2.fpOk (Nat.le_refl _) newS) (okL _)
    obtain ⟨H3, I5, g, qq⟩ := L2.DX.takeT (P := fun a vs => ∃ (j : Nat) (k : List Key) (v : V) (q : Addr), as[j]? = some a ∧ kvs[j]? = some (k, v) ∧ vs = [.ref q, v] ∧ H1 q = some (.tup (k.map kV))) I2 as _ I4 nd fun a ha => by
      have hlt := hG.above a ha
      refine ⟨Nat.le_of_lt hlt, ?_, ?_⟩
      · rw [upd_ne (Nat.ne_of_gt hlt)]
        exact I2.hok.fresh (Nat.le_of_lt hlt)
      · obtain ⟨j, hj⟩ := List.mem_iff_getElem?.mp ha
        obtain ⟨en, hen, hobj⟩ := hG.pairs j a hj
        have hj' : j < es.size := (Array.getElem?_eq_some_iff.mp hen).1
        have ee : es[j] = en := (Array.getElem?_eq_some_iff.mp hen).2
        have hjk : j < kvs.length := by omega
        obtain ⟨q, e1, e2, e3⟩ := ent j hj' _ _ (List.getElem?_eq_getElem hjk)
        rw [ee] at e1 e3
        exact ⟨_, ⟨j, kvs[j].1, kvs[j].2, q, hj, List.getElem?_eq_getElem hjk, rfl, e2⟩, fun H2 => ⟨by show 2 ≤ sizeLine; decide, [en.key, en.val], .cons e1 (.cons e3 .nil), ⟨_, hobj, rfl, _, rfl⟩⟩⟩
    refine ⟨.ref _, H3, I5, rfl, q H3 _ as (fun b ob e => g b ob (by rw [upd_ne (ne_of_none e newS)]; exact e)) newS (g _ _ upd_same) ⟨by omega, fun i t ht => ?_⟩⟩
    obtain ⟨vs, ⟨j, k, v, qa, hj, hk2, rfl, hq⟩, hv⟩ := qq t (List.mem_of_getElem? ht)
    have eji : j = i := by
      have a1 := (List.getElem?_eq_some_iff.mp hj)
      have a2 := (List.getElem?_eq_some_iff.mp ht)
      exact (List.getElem_inj (h₀ := a1.1) (h₁ := a2.1) nd).mp (a1.2.trans a2.2.symm)
    subst eji
    exact ⟨k, v, qa, hk2, hv, g _ _ (by rw [upd_ne (ne_of_none hq newS)]; exact hq)⟩
  exact goal
end
end EfB
/-! text B4 -/
set_option Elab.async false
set_option linter.all false
set_option maxRecDepth 100000
set_option maxHeartbeats 2000000
namespace EfB
open PySem PySem.Spec PyProof.Rows L2 PySem.Calls
/-- a comprehension stores at a key that is a tuple -/
theorem dT_set {X : Cx} {pins : List (Addr × Obj)} {σ : L2.St} {H : Hp} {s : Shared} {E : Value → Shared → Prop} {D b : Addr} {kvs : List (List Key × V)} {k : List Key} {v : V} {u r : Value} {Q : Unit → Shared → Prop} (hu : X.A.units < cLine) (I : Inv X pins σ H s)
    (e : H D = some (.dT kvs)) (eb : H b = some (.tup (k.map kV))) (l : kvs.length < sizeLine) (ry : RelV (.ref b) u) (rv : RelV v r) (h : ∀ s', Inv X pins σ (upd H D (.dT (putK kvs k v))) s' → Q () s') : wpAny (model X.prog X.w) X.A (dictSet D u r) Q E s := by
  cases (show u = Value.ref b from ry)
  obtain ⟨z, hd, xs, rel, dd⟩ := dt_of I.hok e
  have hz : xs.length ≤ sizeLine := by rw [← Paired.length rel]; exact z
  have hl : (putK kvs k v).length ≤ sizeLine := by have := length_putK kvs k v; omega
  refine wpAny_dictSet_heap (hsz := hz) (show (tupleKind (mixKind X.prog X.w)).room X.A from hu) (key_of I.hok eb) dd fun h' dd' hs => h _ ?_
  obtain ⟨q, es, ep, hq, h2, h3, h4, _, h5⟩ := dd'
  refine d_write I (by rw [e]; exact True.intro) hs ⟨q, hq⟩ ⟨hl, hd, _, (rel.put k eb rv).keeps fun c ys ec => ?_, q, es, ep, hq, h2, h3, h4, h5⟩
  rw [upd_ne (ne_of ec e (fun z => nomatch z))]
  exact ec
section
variable {X : Cx}
/-- a dict comprehension whose keys are tuples; D the new dict -/
def tDcT (wi : TI) (g : TG) (tt : TT) (tk tv : TE) (vs : List Nat) : TE := fun σ H Q => wi σ H fun J H1 => ∀ D, H1 D = none → ∃ W : Nat → Nat → Hp → Prop, (∃ m, W 0 m (upd H1 D (.dT []))) ∧ ∀ i m H, W i m H →
  (J.stop i H ∧ Q (.ref D) H) ∨ (J.go i H ∧ ∃ Nx : Hp → Prop, (∀ H', Nx H' → ∃ m', m' < m ∧ W (i + 1) m' H') ∧ ∀ x H', J.yld i H x H' → g x (wipe σ vs) H' fun σ2 H2 => wipe σ2 vs = wipe σ vs ∧ tt σ2 H2 fun b H3 =>
    if b = true then tk σ2 H3 fun y H4 => tv σ2 H4 fun z H5 => ∃ kvs k b, y = .ref b ∧ H5 b = some (.tup (k.map kV)) ∧ H5 D = some (.dT kvs) ∧ kvs.length < sizeLine ∧ Nx (upd H5 D (.dT (putK kvs k z))) else Nx H3)
theorem dcT_core {pins : List (Addr × Obj)} {s : Shared} {σ : L2.St} {H : Hp} {Q : VK} {kx vx tg iter : Expr} {ifs : List Expr} {scope : Scope} {own : List (Str × Nat)} {pos pos' : Pos} {wi : TI} {g : TG} {tt : TT} {tk tv : TE} {use : Option (Value → Sem Unit)} {Qf : Value → Shared → Prop}
    (hc : X.calm = true) (hu : X.A.units < cLine) (hN : X.N.Nodup) (I : Inv X pins σ H s) (hi : PI X tg iter wi) (ok : BlkOk X.N X.env.scope scope own)
    (hg : ∀ (s : Shared) (H : Hp) (C : Addr) (cl : List (Str × Addr)) (fp : List Addr), PG (X.blk s H scope (compEnvC scope cl C X.env) fp) tg g) (ht : ∀ (s : Shared) (H : Hp) (C : Addr) (cl : List (Str × Addr)) (fp : List Addr), PTs (X.blk s H scope (compEnvC scope cl C X.env) fp) ifs tt)
    (hk : ∀ (s : Shared) (H : Hp) (C : Addr) (cl : List (Str × Addr)) (fp : List Addr), PE (X.blk s H scope (compEnvC scope cl C X.env) fp) kx tk)
    (he : ∀ (s : Shared) (H : Hp) (C : Addr) (cl : List (Str × Addr)) (fp : List Addr), PE (X.blk s H scope (compEnvC scope cl C X.env) fp) vx tv) (hs : ∀ x, foldedSetIterable iter X.env x = pure x)
    (h : tDcT wi g tt tk tv (own.map (·.2)) σ H Q)
    (hRR : ∀ D C s' m H', Inv X pins σ H' s' → Q (.ref D) H' → s'.heap.Ns C m → FpOk X pins H' C → compPost (model X.prog X.w) X.A X.xe use Qf (.ref D) C (.ok .next) s') :
    wpAny (model X.prog X.w) X.A (comprehension (.DictComp kx vx [⟨tg, iter, ifs, 0⟩] scope pos) scope X.env pos' newDict false (eval iter X.env) use) Qf X.xe s := by
  have hfree : ∀ y ∈ scope.names, y.2 = .free → ∃ c, X.env.cells.lookup y.1 = some c := fun y hy e => by
    rcases ok.free y hy e with k | k
    · exact I.ok.has _ (.inl k)
    · exact I.ok.has _ (.inr k)
  refine wpAny_comprehension_free (use := use) rfl hs (closure_ok hfree) ok.kind (fun y hy e => by rw [ok.uniq y hy, e])
    (thn (hi.run pins s σ H _ I h) fun xv s1 hx => thn hx fun itv s2 h2 => ?_)
  obtain ⟨it, fp, tn, J, H2, e, I2, T, st2, f2, q⟩ := h2
  subst e
  refine wpAny_newObj_type (newEnv_comp ?_)
  generalize hD : s2.heap.objs.size = D
  have hDn : H2 D = none := I2.hok.fresh (Nat.le_of_eq hD)
  obtain ⟨W, ⟨m0, w0⟩, turn⟩ := q D hDn
  -- the new list
  generalize hs3 : ({ s2 with heap := s2.heap.push { cls := .type "dict", data := .dict #[] } } : Shared) = s3
  have I3 : Inv X pins σ (upd H2 D (.dT [])) s3 := by
    rw [← hs3]
    refine I2.laid (t' := s2.toks) (fun b o e => Heap.get?_push_of_some _ e) (Nat.le_of_eq hD) ?_
    rw [← hD]
    exact dt_empty s2.heap I2.big
  have h3 : s3.heap = s2.heap.push { cls := .type "dict", data := .dict #[] } := by rw [← hs3]
  have sz : ∀ b ∈ fp, b < s2.heap.objs.size := fun b hb => by
    obtain ⟨o, e, _⟩ := T.obj _ _ st2 b hb
    exact Heap.lt_size e
  have f3 : ∀ b ∈ fp, FpOk X pins (upd H2 D (.dT [])) b ∧ b < s3.heap.objs.size := fun b hb => by
    have hlt := sz b hb
    refine ⟨⟨?_, (f2 b hb).2⟩, by rw [h3, Heap.size_push]; exact Nat.lt_succ_of_lt hlt⟩
    rw [upd_ne (by rw [← hD]; exact Nat.ne_of_lt hlt)]
    exact (f2 b hb).1
  have st3 : tn 0 s3.heap := T.keep _ _ _ st2 fun b _ o e => by rw [h3]; exact Heap.get?_push_of_some _ e
  have I4 := block_start I3 ok hN f3
  have pg := hg s3 (upd H2 D (.dT [])) s3.heap.objs.size (cellsFrom (s3.heap.objs.size + 1) scope.names (cloFrom X.env.cells scope.names [])) fp
  have pt := ht s3 (upd H2 D (.dT [])) s3.heap.objs.size (cellsFrom (s3.heap.objs.size + 1) scope.names (cloFrom X.env.cells scope.names [])) fp
  have pk := hk s3 (upd H2 D (.dT [])) s3.heap.objs.size (cellsFrom (s3.heap.objs.size + 1) scope.names (cloFrom X.env.cells scope.names [])) fp
  have pe := he s3 (upd H2 D (.dT [])) s3.heap.objs.size (cellsFrom (s3.heap.objs.size + 1) scope.names (cloFrom X.env.cells scope.names [])) fp
  show codeAny _ _ (.compStart (.DictComp kx vx [⟨tg, iter, ifs, 0⟩] scope pos) 0 (.ref it) (.ref D) (compEnvC scope (cellsFrom (s3.heap.objs.size + 1) scope.names (cloFrom X.env.cells scope.names [])) s3.heap.objs.size X.env)) (compPost (model X.prog X.w) X.A X.xe use Qf (.ref D) s3.heap.objs.size) { s3 with heap := pushCells (s3.heap.push { cls := .type "dict", data := .dict #[] }) scope.names }
  have nfp : ∀ b ∈ fp, (upd H2 D (.dT [])) b = none := fun b hb => (f3 b hb).1.1
  generalize hce : compEnvC scope (cellsFrom (s3.heap.objs.size + 1) scope.names (cloFrom X.env.cells scope.names [])) s3.heap.objs.size X.env = ce at I4 pg pt pk pe ⊢
  have cL : ce.locals = s3.heap.objs.size := by subst hce; rfl
  generalize hH3 : upd H2 D (.dT []) = H3 at I3 I4 pg pt pk pe w0 nfp f3
  generalize hs4 : ({ s3 with heap := pushCells (s3.heap.push { cls := .type "dict", data := .dict #[] }) scope.names } : Shared) = s4 at I4 ⊢
  have st4 : tn 0 s4.heap := T.keep _ _ _ st3 fun b _ o e => by rw [← hs4]; exact pushCells_keeps _ _ _ _ (Heap.get?_push_of_some _ e)
  have stat : ∀ {σ' : L2.St} {H' : Hp} {s' : Shared}, Inv (X.blk s3 H3 scope ce fp) [] σ' H' s' → (∀ b ∈ fp, H' b = none) → ∀ b ∈ fp, FpOk (X.blk s3 H3 scope ce fp) [] H' b := fun {σ' H' s'} I' hn b hb =>
    ⟨hn b hb, (I'.ok.exf b hb).1, I'.ok.exfs b hb, .inl hb, fun x c e => (I'.ok.exf b hb).2 x c e, fun p hp => absurd (show p ∈ ([] : List (Addr × Obj)) ++ [] from hp) (by simp)⟩
  have loop : codeAny (model X.prog X.w) X.A (.compLoop (.DictComp kx vx [⟨tg, iter, ifs, 0⟩] scope pos) 0 (.ref it) (.ref D) ce) (compPost (model X.prog X.w) X.A X.xe use Qf (.ref D) s3.heap.objs.size) s4 := by
    refine compLoop_anyD (fun n s' => ∃ i H', Inv (X.blk s3 H3 scope ce fp) [] (wipe σ (own.map (·.2))) H' s' ∧ tn i s'.heap ∧ (∀ b ∈ fp, H' b = none) ∧ W i n H') ?_ m0 ⟨0, H3, I4, st4, nfp, w0⟩
    rintro n s5 ⟨i, H5, I5, st5, n5, w5⟩
    rcases turn i n H5 w5 with ⟨stop, qq⟩ | ⟨go, Nx, hNx, step⟩
    · have td := T.done (X.blk s3 H3 scope ce fp) rfl rfl rfl hc i [] s5 _ H5 (fun _ _ => False) I5 (stat I5 n5) st5 stop
      refine thnF td fun r s6 ⟨hr, I6⟩ => ?_
      subst hr
      -- back in the def's context
      have I7 : Inv X pins σ H5 s6 := I3.call' (ch := fp) I6.os I6.base I6.hok I6.bare fun b hb => ⟨(f3 b hb).1.2.2.2.1, (f3 b hb).1.2.1, (f3 b hb).1.2.2.2.2.1, (f3 b hb).1.2.2.2.2.2⟩
      have nC : H5 s3.heap.objs.size = none := by
        have z : H5 ce.locals = none := I6.free
        rw [cL] at z
        exact z
      obtain ⟨m, hn, _⟩ := I6.loc
      have hn : s6.heap.Ns ce.locals m := hn
      rw [cL] at hn
      exact hRR D s3.heap.objs.size s6 m H5 I7 qq hn (I3.fpOk (Nat.le_refl _) nC)
    · have ti := T.item (X.blk s3 H3 scope ce fp) rfl rfl rfl hc i [] s5 _ H5 (fun _ _ => False) I5 (stat I5 n5) st5 go
      refine thnF ti fun r s6 ⟨u, hr, h6⟩ => ?_
      subst hr
      refine thnF h6 fun _ s7 ⟨x, H7, I7, r7, y7, st7, n7⟩ => ?_
      have I7' := I7.pinned (stat I7 n7) (T.obj _ _ st7)
      refine thnF (pg.run _ s7 _ H7 x u _ I7' r7 (step x H7 y7)) fun _ s8 ⟨σ8, H8, I8, hw8, q8⟩ => ?_
      refine thnF (pt.run _ s8 σ8 H8 _ I8 q8) fun b s9 ⟨H9, I9, q9⟩ => ?_
      -- the turn's end
      have fin : ∀ {s' : Shared} {H' : Hp}, Inv (X.blk s3 H3 scope ce fp) ([] ++ pinsAt fp s7.heap) σ8 H' s' → Nx H' → ∃ m, m < n ∧ ∃ i H', Inv (X.blk s3 H3 scope ce fp) [] (wipe σ (own.map (·.2))) H' s' ∧ tn i s'.heap ∧ (∀ b ∈ fp, H' b = none) ∧ W i m H' := fun {s' H'} I' nx => by
        obtain ⟨m', hm, w'⟩ := hNx H' nx
        have pin' : ∀ b ∈ fp, ∀ o, s7.heap.get? b = some o → s'.heap.get? b = some o ∧ H' b = none := fun b hb o e =>
          let z := I'.pin (b, o) (List.mem_append_right _ (List.mem_append_right _ (mem_pinsAt hb e)))
          ⟨z.1, z.2.1⟩
        have hl : (wipe σ (own.map (·.2))).length = σ8.length := by rw [← hw8, wipe_length]
        refine ⟨m', hm, i + 1, H', (I'.unpinned (pins := [])).weak hl (fun j v e => ?_), T.keep _ _ _ st7 fun b hb o e => (pin' b hb o e).1, fun b hb => ?_, w'⟩
        · rw [← hw8] at e
          exact (wipe_some e).1
        · obtain ⟨o, e, _⟩ := T.obj _ _ st7 b hb
          exact (pin' b hb o e).2
      cases b with
      | false =>
        simp only [Bool.false_eq_true, if_false] at q9 ⊢
        exact fin I9 q9
      | true =>
        simp only [if_true] at q9 ⊢
        refine thnF (pk.run _ s9 σ8 H9 _ I9 q9) fun z s10 ⟨yk, H10, I10, r10, q10⟩ => ?_
        refine thnF (pe.run _ s10 σ8 H10 _ I10 q10) fun z2 s11 ⟨yv, H11, I11, r11, kvs, k, kb, ek, hkb, hD11, hz11, nx⟩ => ?_
        subst ek
        exact dT_set (X := X.blk s3 H3 scope ce fp) hu I11 hD11 hkb hz11 r10 r11 fun s12 I12 => fin I12 nx
  exact codeAny_compStart_dict loop (T.self X.A 0 _ _ _ st4 loop)
/-- as a value -/
theorem pe_dcT {kx vx tg iter : Expr} {ifs : List Expr} {scope : Scope} {own : List (Str × Nat)} {pos : Pos} {wi : TI} {g : TG} {tt : TT} {tk tv : TE} (hc : X.calm = true) (hu : X.A.units < cLine) (hN : X.N.Nodup) (hi : PI X tg iter wi) (ok : BlkOk X.N X.env.scope scope own)
    (hg : ∀ (s : Shared) (H : Hp) (C : Addr) (cl : List (Str × Addr)) (fp : List Addr), PG (X.blk s H scope (compEnvC scope cl C X.env) fp) tg g) (ht : ∀ (s : Shared) (H : Hp) (C : Addr) (cl : List (Str × Addr)) (fp : List Addr), PTs (X.blk s H scope (compEnvC scope cl C X.env) fp) ifs tt)
    (hk : ∀ (s : Shared) (H : Hp) (C : Addr) (cl : List (Str × Addr)) (fp : List Addr), PE (X.blk s H scope (compEnvC scope cl C X.env) fp) kx tk)
    (he : ∀ (s : Shared) (H : Hp) (C : Addr) (cl : List (Str × Addr)) (fp : List Addr), PE (X.blk s H scope (compEnvC scope cl C X.env) fp) vx tv) (hs : ∀ x, foldedSetIterable iter X.env x = pure x := by intro _; rfl) :
    PE X (.DictComp kx vx [⟨tg, iter, ifs, 0⟩] scope pos) (tDcT wi g tt tk tv (own.map (·.2))) := by
  refine ⟨fun pins s σ H Q I h => ?_⟩
  rw [arm_eval_DictComp]
  refine dcT_core hc hu hN I hi ok hg ht hk he hs h fun D C s' m H' I' q hn f => ⟨m, hn, fun h'' sb => ?_⟩
  obtain ⟨f0, f1, f2, f3, f4, f5⟩ := f
  exact ⟨.ref D, H', I'.turned (t' := s'.toks) (fun b o hb e => (sb.2 b hb).trans e) f0 f1 f3 f4 f5, rfl, q⟩
/-- over anything that is walked -/
theorem dc_it {J : It} {n : Nat} {G : Hp → Prop} {Y : Nat → Hp → V → Hp → Prop} (w : Walk J n G Y) {g : TG} {tt : TT} {tk tv : TE} {vs : List Nat} {σ : L2.St} {H1 : Hp} {D : Addr} {Qd : Hp → Prop} (Pv : Nat → Hp → Prop) (h0 : Pv 0 (upd H1 D (.dT []))) (hG : ∀ i H, i ≤ n → Pv i H → G H)
    (hs : ∀ i x H H', i < n → Pv i H → Y i H x H' → g x (wipe σ vs) H' fun σ2 H2 => wipe σ2 vs = wipe σ vs ∧ tt σ2 H2 fun b H3 =>
      if b = true then tk σ2 H3 fun y H4 => tv σ2 H4 fun z H5 => ∃ kvs k b, y = .ref b ∧ H5 b = some (.tup (k.map kV)) ∧ H5 D = some (.dT kvs) ∧ kvs.length < sizeLine ∧ Pv (i + 1) (upd H5 D (.dT (putK kvs k z))) else Pv (i + 1) H3) (hd : ∀ H, Pv n H → Qd H) :
    ∃ W : Nat → Nat → Hp → Prop, (∃ m, W 0 m (upd H1 D (.dT []))) ∧ ∀ i m H, W i m H →
      (J.stop i H ∧ Qd H) ∨ (J.go i H ∧ ∃ Nx : Hp → Prop, (∀ H', Nx H' → ∃ m', m' < m ∧ W (i + 1) m' H') ∧ ∀ x H', J.yld i H x H' → g x (wipe σ vs) H' fun σ2 H2 => wipe σ2 vs = wipe σ vs ∧ tt σ2 H2 fun b H3 =>
        if b = true then tk σ2 H3 fun y H4 => tv σ2 H4 fun z H5 => ∃ kvs k b, y = .ref b ∧ H5 b = some (.tup (k.map kV)) ∧ H5 D = some (.dT kvs) ∧ kvs.length < sizeLine ∧ Nx (upd H5 D (.dT (putK kvs k z))) else Nx H3) := by
  refine ⟨fun i m H => m = n - i ∧ i ≤ n ∧ Pv i H, ⟨n, by simp, Nat.zero_le _, h0⟩, ?_⟩
  rintro i m H ⟨rfl, hi, p⟩
  have q := hG i H hi p
  by_cases hlt : i < n
  · exact .inr ⟨w.goes i H hlt q, Pv (i + 1), fun H' p' => ⟨n - (i + 1), by omega, rfl, hlt, p'⟩, fun x H' y => hs i x H H' hlt p (w.yields i H x H' hlt q y)⟩
  · obtain rfl : i = n := by omega
    exact .inl ⟨w.stops H q, hd H p⟩
end
end EfB
/-! text B6 -/
set_option Elab.async false
set_option linter.all false
set_option maxRecDepth 100000
set_option maxHeartbeats 3200000
namespace EfB
open PySem PySem.Spec PyProof.Rows L2
theorem SetTx.is_str {P : Program} {w : World} (k : Str) (u : Tok) : (strKind P w).is k (.str k u) = true := by
  show Value.isStrOf k (.str k u) = true
  simp [Value.isStrOf]
/-! ### sets of texts -/
def keyX (e : Int × Value) : Str := match e.2 with | .str k _ => k | _ => ⟨#[]⟩
def GoodX (w : World) (e : Int × Value) : Prop := ∃ k u, e.2 = Value.str k u ∧ e.1 = hashStr w k
/-- the set of texts at a -/
def SetX (w : World) (h : Heap) (a : Addr) (S : Str → Bool) (n : Nat) : Prop :=
  ∃ o es ep t, h.get? a = some o ∧ o.ExactSet ∧ o.data = .set es ep t ∧ (∀ e ∈ es.toList, GoodX w e) ∧ (es.toList.map keyX).Nodup ∧ (∀ k, S k = true ↔ k ∈ es.toList.map keyX) ∧
    es.size < scanBound ∧ t.fits es.size = true ∧ es.size = n ∧ Ris t.place.toList ∧ (w.params.followText "set-order" = true ∨ t.led = true)

section
variable {P : Program} {w : World} {h h' : Heap} {a : Addr} {S : Str → Bool} {n : Nat}

theorem SetX.at (R : SetX w h a S n) (k : ∀ o, h.get? a = some o → h'.get? a = some o) : SetX w h' a S n := by
  obtain ⟨o, es, ep, t, ho, r⟩ := R
  exact ⟨o, es, ep, t, k o ho, r⟩
theorem SetX.lt (R : SetX w h a S n) : a < h.objs.size := by
  obtain ⟨o, es, ep, t, ho, r⟩ := R
  exact Heap.lt_size ho
theorem SetX.congr {S' : Str → Bool} (R : SetX w h a S n) (e : ∀ k, S' k = S k) : SetX w h a S' n := by
  have q : S' = S := funext e
  rw [q]; exact R
theorem goodX_elems {l : List (Int × Value)} (g : ∀ e ∈ l, GoodX w e) : ElemsOf (strKind P w) l := fun e he => by
  obtain ⟨k, u, h1, h2⟩ := g e he
  exact ⟨⟨k, by rw [h1]; exact SetTx.is_str k u, h2⟩, by rw [h1] <;> rfl⟩
theorem goodX_is {e : Int × Value} (g : GoodX w e) (k : Str) : (strKind P w).is k e.2 = true ↔ keyX e = k := by
  obtain ⟨k0, u, h1, _⟩ := g
  unfold keyX
  rw [h1]
  show (Value.isStrOf k (.str k0 u) = true) ↔ k0 = k
  simp [Value.isStrOf]
theorem goodX_mem {l : List (Int × Value)} (g : ∀ e ∈ l, GoodX w e) (k : Str) : k ∈ l.map keyX ↔ ∃ e ∈ l, (strKind P w).is k e.2 = true := by
  rw [List.mem_map]
  constructor
  · rintro ⟨e, he, q⟩
    exact ⟨e, he, (goodX_is (g e he) k).2 q⟩
  · rintro ⟨e, he, q⟩
    exact ⟨e, he, (goodX_is (g e he) k).1 q⟩
theorem SetX.setOf (R : SetX w h a S n) : h.SetOf (strKind P w) a S n := by
  obtain ⟨o, es, ep, t, ho, hx, hd, g, nd, hm, hb, hf, hn, _⟩ := R
  exact ⟨o, es, ep, t, ho, hx, hd, goodX_elems g, fun k => (hm k).trans (goodX_mem g k), hb, hf, hn⟩
end

section
variable {P : Program} {w : World} {A : Around} {E : Value → Shared → Prop} {s : Shared} {a : Addr} {S : Str → Bool} {n : Nat}

/-! ### add -/
theorem storeX_at {h : Heap} {a : Addr} {o : Obj} {es es' : Array (Int × Value)} {ep : Nat} {t t' : SetTable} (ho : h.get? a = some o) (hd : o.data = .set es ep t) :
    (h.update a (Obj.putSet es' t')).get? a = some { o with data := .set es' (ep + 1) t' } := by
  have q := Heap.get?_update_self (Obj.putSet es' t') ho (by rw [putSet_of es' t' hd]; rfl)
  rw [putSet_of es' t' hd] at q
  exact q

theorem setX_add_tail {g : Bool → Sem Unit} (hg : ∀ (b : Bool) (s₁ : Shared) (Q' : Unit → Shared → Prop), Q' () s₁ → wpAny (model P w) A (g b) Q' E s₁)
    {o : Obj} {es : Array (Int × Value)} {ep : Nat} {t : SetTable} (ho : s.heap.get? a = some o) (hex : o.ExactSet) (hd : o.data = .set es ep t)
    {es1 : Array (Int × Value)} {t2 : SetTable} {S' : Str → Bool} (g1 : ∀ e ∈ es1.toList, GoodX w e) (nd1 : (es1.toList.map keyX).Nodup) (m1 : ∀ k, S' k = true ↔ k ∈ es1.toList.map keyX)
    (hb1 : es1.size < scanBound) (hf2 : t2.fits es1.size = true) (hr : Ris t2.place.toList) (hl : w.params.followText "set-order" = true ∨ t2.led = true) {wasDummy : Bool} {R : Option Bool → Shared → Prop}
    (hR : ∀ h', Heap.SameBut a s.heap h' → SetX w h' a S' es1.size → R (some true) { s with heap := h' }) :
    wpAny (model P w) A (do
        storeSet a es1 t2
        if (!wasDummy && t2.tooFull) = true then do
            g (relayAll t2 es1 (SetTable.grown es1.size)).2.2
            storeSet a (relayAll t2 es1 (SetTable.grown es1.size)).1 (relayAll t2 es1 (SetTable.grown es1.size)).2.1
            pure (some true)
          else pure (some true)) R E s := by
  refine wpAny_bind (wpAny_storeSet_of ho hd ?_ (fits_of_scanBound hb1))
  have ho1 := storeX_at (es' := es1) (t' := t2) ho hd
  have sb1 := Heap.SameBut.update s.heap a (Obj.putSet es1 t2)
  split
  · have pm := relayAll_perm t2 es1 (SetTable.grown es1.size)
    have hf3 := relayAll_fits t2 es1 (SetTable.grown es1.size)
    have hr3 := relayAll_ris t2 es1 (SetTable.grown es1.size)
    have hl3 := relayAll_led t2 es1 (SetTable.grown es1.size)
    generalize relayAll t2 es1 (SetTable.grown es1.size) = Z at pm hf3 hr3 hl3 ⊢
    obtain ⟨es2, t3, gave⟩ := Z
    dsimp only at pm hf3 hr3 hl3 ⊢
    have hsz : es2.size = es1.size := by rw [← Array.length_toList, pm.length_eq, Array.length_toList]
    have hb2 : es2.size < scanBound := by rw [hsz]; exact hb1
    refine wpAny_bind (hg _ _ _ ?_)
    refine wpAny_bind (wpAny_storeSet_of ho1 rfl ?_ (fits_of_scanBound hb2))
    have ho2 := storeX_at (es' := es2) (t' := t3) ho1 rfl
    refine wpAny_pure (hR _ (sb1.trans (Heap.SameBut.update _ a _)) ?_)
    exact ⟨_, es2, _, t3, ho2, hex, rfl, fun e he => g1 e (pm.mem_iff.mp he), (pm.map keyX).nodup_iff.mpr nd1, fun k => (m1 k).trans (pm.map keyX).mem_iff.symm, hb2, hf3, hsz, hr3,
      hl.imp id fun z => by rw [hl3]; exact z⟩
  · exact wpAny_pure (hR _ sb1 ⟨_, es1, _, t2, ho1, hex, rfl, g1, nd1, m1, hb1, hf2, rfl, hr, hl⟩)

theorem setX_add_hashed {k : Str} {u : Tok} {Q : Bool → Shared → Prop} (R : SetX w s.heap a S n) (room : n + 1 < scanBound)
    (hQ : ∀ h', Heap.SameBut a s.heap h' → SetX w h' a (fun j => S j || decide (j = k)) (if S k = true then n else n + 1) → Q (!S k) { s with heap := h' }) :
    wpAny (model P w) A (setAddHashed a (.str k u) ((strKind P w).hash k)) Q E s := by
  obtain ⟨o, es, ep, t, ho, hex, hd, g, nd, hm, hb, hf, hn, hr, hl⟩ := R
  have hkey : (strKind P w).is k (.str k u) = true := SetTx.is_str k u
  have hsc : (Value.str k u).scannable = true := rfl
  have hel : ElemsOf (strKind P w) es.toList := goodX_elems g
  unfold setAddHashed setAddHashedIn
  refine wpAny_holding (wpAny_bind (wpAny_setState_of ho hd hf ?_))
  dsimp only
  rw [byScan_of hsc hb hel]
  simp only [↓reduceIte]
  unfold setAddByScan
  refine wpAny_bind ?_
  refine wpAny_bind (wpAny_rule ?_)
  refine wpAny_bind (wpAny_setScan_of hkey ho hd hf hel ?_)
  cases hfi : List.findIdx? (fun e => (strKind P w).is k e.2) es.toList with
  | some j =>
    dsimp only
    obtain ⟨hj, pj, _⟩ := List.findIdx?_eq_some_iff_getElem.mp hfi
    have hSk : S k = true := (hm k).2 ((goodX_mem (P := P) (w := w) g k).2 ⟨es.toList[j], List.getElem_mem hj, pj⟩)
    refine wpAny_pure (wpAny_pure ?_)
    have q := hQ s.heap (Heap.SameBut.refl a s.heap) ⟨o, es, ep, t, ho, hex, hd, g, nd, fun i => by
      rw [Bool.or_eq_true, decide_eq_true_eq, ← hm i]
      exact ⟨fun z => z.elim id (fun e => e ▸ hSk), .inl⟩, hb, hf, by rw [if_pos hSk]; exact hn, hr, hl⟩
    rw [hSk] at q
    exact q
  | none =>
    dsimp only
    have hnk : k ∉ es.toList.map keyX := fun z => by
      obtain ⟨e, he, q⟩ := (goodX_mem (P := P) (w := w) g k).1 z
      have c := List.findIdx?_eq_none_iff.mp hfi e he
      rw [q] at c
      cases c
    have hSk : S k = false := by
      cases q : S k with
      | false => rfl
      | true => exact absurd ((hm k).1 q) hnk
    have hgw : ∀ (b : Bool) {s₁ : Shared} {Q' : Unit → Shared → Prop}, Q' () s₁ → wpAny (model P w) A (match b with | true => rule "set.scan.the-table-gave-way" | false => pure ()) Q' E s₁ :=
      fun b s₁ Q' q => by cases b <;> first | exact wpAny_pure q | exact wpAny_rule q
    have pm := layNew_perm t es ((strKind P w).hash k) (.str k u)
    have hf1 := layNew_fits t es ((strKind P w).hash k) (.str k u)
    have hr1 := layNew_ris t es ((strKind P w).hash k) (.str k u) hr
    have hl1 := layNew_led t es ((strKind P w).hash k) (.str k u)
    generalize layNew t es ((strKind P w).hash k) (.str k u) = Z at pm hf1 hr1 hl1 ⊢
    obtain ⟨es1, t1, wasDummy, gave⟩ := Z
    dsimp only at pm hf1 hr1 hl1 ⊢
    rw [Array.toList_push] at pm
    have pc : es1.toList.Perm (((strKind P w).hash k, Value.str k u) :: es.toList) := pm.trans (List.perm_append_singleton _ _)
    have pk : (es1.toList.map keyX).Perm (k :: es.toList.map keyX) := pc.map keyX
    have g1 : ∀ e ∈ es1.toList, GoodX w e := fun e he => by
      rcases List.mem_cons.mp (pc.mem_iff.mp he) with z | z
      · rw [z]; exact ⟨k, u, rfl, rfl⟩
      · exact g e z
    have nd1 : (es1.toList.map keyX).Nodup := pk.nodup_iff.mpr (List.nodup_cons.mpr ⟨hnk, nd⟩)
    have m1 : ∀ i, (S i || decide (i = k)) = true ↔ i ∈ es1.toList.map keyX := fun i => by
      rw [Bool.or_eq_true, decide_eq_true_eq, hm i, pk.mem_iff, List.mem_cons]
      exact Or.comm
    have hsz : es1.size = n + 1 := by rw [← Array.length_toList, pc.length_eq, List.length_cons, Array.length_toList, hn]
    have hb1 : es1.size < scanBound := by rw [hsz]; exact room
    have hled : w.params.followText "set-order" = true ∨ t1.led = true := hl.imp id fun z => by rw [hl1]; exact z
    have fin : ∀ h', Heap.SameBut a s.heap h' → SetX w h' a (fun j => S j || decide (j = k)) es1.size → Q true { s with heap := h' } := fun h' sb r => by
      have q := hQ h' sb
      rw [hSk] at q
      rw [hsz] at r
      exact q r
    refine wpAny_bind (hgw _ ?_)
    split
    · refine wpAny_bind ?_
      rw [hashByValue_scannable 8 hsc]
      refine wpAny_pure ?_
      refine setX_add_tail ?_ ho hex hd g1 nd1 m1 hb1 ?_ ?_ ?_ ?_
      · intro b s₁ Q' q; cases b <;> first | exact wpAny_pure q | exact wpAny_rule q
      · first | (split <;> first | exact hf1 | exact SetTable.fits_plain_off hf1) | exact hf1
      · first | (split <;> exact hr1) | exact hr1
      · first | (split <;> exact hled) | exact hled
      · intro h' sb r; dsimp only; exact wpAny_pure (fin h' sb r)
    · refine wpAny_bind (wpAny_pure ?_)
      simp only [↓reduceIte]
      refine setX_add_tail ?_ ho hex hd g1 nd1 m1 hb1 hf1 hr1 hled ?_
      · intro b s₁ Q' q; cases b <;> first | exact wpAny_pure q | exact wpAny_rule q
      · intro h' sb r; dsimp only; exact wpAny_pure (fin h' sb r)

/-- found.add(k) -/
theorem setX_add {k : Str} {u : Tok} {Q : Value → Shared → Prop} (R : SetX w s.heap a S n) (room : n + 1 < scanBound)
    (hQ : ∀ h', Heap.SameBut a s.heap h' → SetX w h' a (fun j => S j || decide (j = k)) (if S k = true then n else n + 1) → Q .none { s with heap := h', toks := s.toks + 1 }) :
    wpAny (model P w) A (call (.builtin "set.add") [.ref a, .str k u]) Q E s := by
  have hS : s.heap.SetOf (strKind P w) a S n := R.setOf
  refine wpAny_call_entry F.slot_set_add hS.typeIs F.entry_set_add ?_ (F.args_set_add_2 _ _)
  unfold Builtin.«set.add» Builtin.Frozenset.oneOther
  simp only [List.isEmpty_nil, bind_assoc]
  unfold Builtin.Frozenset.addrOf setAdd
  refine wpAny_bind (wpAny_pure ?_)
  try dsimp only
  refine wpAny_bind (wpAny_pure ?_)
  try dsimp only
  refine wpAny_bind ?_
  refine wpAny_holding ?_
  refine wpAny_bind ((strKind P w).pyHash (SetTx.is_str k u) ?_)
  refine setX_add_hashed (s := { s with toks := s.toks + 1 }) R room fun h' sb r => ?_
  show wpAny _ _ (ret Value.none) _ _ _
  exact wpAny_pure ⟨_, rfl, hQ h' sb r⟩

end
section
variable {P : Program} {w : World} {A : Around} {E : Value → Shared → Prop} {s : Shared}
/-! ### a new set -/
theorem setX_fresh {h : Heap} (w : World) : SetX w (h.push { cls := .type "set", dict := none, data := .set #[] 0 (.fresh 0 0 (!w.params.followText "set-order")) }) h.objs.size (fun _ => false) 0 :=
  ⟨_, #[], 0, _, Heap.get?_push_size _ rfl, ⟨rfl, rfl, rfl⟩, rfl, (fun e he => by simp at he), (by simp), (fun k => by simp), (by decide), (by rfl), rfl, List.Pairwise.nil, by
    show _ ∨ (!w.params.followText "set-order") = true
    cases w.params.followText "set-order"
    · exact .inr rfl
    · exact .inl rfl⟩
end
/-- the set of texts at a, as a tracked thing -/
def SetXO (w : World) (a : Addr) (S : Str → Bool) (n : Nat) : HO := .ext fun h => SetX w h a S n
theorem setXO_new {w : World} {P : Program} {H : Hp} {h : Heap} {a : Addr} {S : Str → Bool} {n : Nat} (R : SetX w h a S n) : ObjOk P w H h a (SetXO w a S n) := by
  have ⟨o, _, _, _, ho, _⟩ := R
  exact ⟨R, ⟨o, ho⟩, fun h1 h2 p k => SetX.at p k⟩
section
variable {X : Cx}
theorem setXO_get {pins : List (Addr × Obj)} {σ : L2.St} {H : Hp} {s : Shared} {a : Addr} {S : Str → Bool} {n : Nat} (I : Inv X pins σ H s) (ha : H a = some (SetXO X.w a S n)) : SetX X.w s.heap a S n := (I.hok a _ ha).1
theorem addX_ok {pins : List (Addr × Obj)} {σ : L2.St} {H : Hp} {s : Shared} {E : Value → Shared → Prop} {D : Addr} {S : Str → Bool} {n : Nat} {y : Str} {v : Value} {Q : Value → Shared → Prop} (I : Inv X pins σ H s) (hD : H D = some (SetXO X.w D S n)) (room : n + 1 < scanBound) (rv : RelV (.str y) v)
    (h : ∀ s', Inv X pins σ (upd H D (SetXO X.w D (fun j => S j || decide (j = y)) (if S y = true then n else n + 1))) s' → Q .none s') : wpAny (model X.prog X.w) X.A (call (.builtin "set.add") [.ref D, v]) Q E s := by
  obtain ⟨u, rfl⟩ := rv
  have R := setXO_get I hD
  refine setX_add R room fun h' sb new => ?_
  have he : ∃ u, h'.get? D = some u := by
    have ⟨o, _, _, _, ho, _⟩ := new
    exact ⟨o, ho⟩
  exact h _ (I.write (e := D) (t' := s.toks + 1) (by rw [hD]; trivial) (.inl rfl) (fun b u hb hu => (sb.2 b hb).trans hu) he (setXO_new new))
end
theorem strs_of : ∀ vs : List Value, (∀ v ∈ vs, ∃ k u, v = Value.str k u) → ∃ xs : List Str, StrsAre vs xs ∧ xs = vs.map fun v => match v with | .str k _ => k | _ => (⟨#[]⟩ : Str)
  | [], _ => ⟨[], .nil, rfl⟩
  | v :: vs, h => by
    obtain ⟨xs, h1, h2⟩ := strs_of vs fun v hv => h v (List.mem_cons_of_mem _ hv)
    obtain ⟨k, u, rfl⟩ := h v List.mem_cons_self
    exact ⟨k :: xs, .cons k u h1, by rw [h2]; rfl⟩
section
variable {P : Program} {w : World} {A : Around} {E : Value → Shared → Prop} {s : Shared}
/-- sorted of what gathers into texts -/
theorem sorted_gather {a : Addr} {Q : Value → Shared → Prop} {G : List Value → List Str → Shared → Prop}
    (hcol : ∀ (A' : Around) (Q' : List Value → Shared → Prop) (E' : Value → Shared → Prop), A' = A.in1 → (∀ vs ss s1, StrsAre vs ss → vs.length < 64 → G vs ss s1 → Q' vs s1) → wpAny (model P w) A' (collect (.ref a)) Q' E' s)
    (hQ : ∀ vs ss s1 (out : Array Value) (c : Nat) (ys : List Str), StrsAre vs ss → G vs ss s1 → StrsAre out.toList ys → ys.Perm ss → sortedS ys = true →
      (sortedHeap (s1.heap.push (seqObj "list" vs.toArray 0)) s1.heap.objs.size vs out).get? s1.heap.objs.size = some (seqObj "list" out c) →
      (∀ b o, s1.heap.get? b = some o → (sortedHeap (s1.heap.push (seqObj "list" vs.toArray 0)) s1.heap.objs.size vs out).get? b = some o) →
      Q (.ref s1.heap.objs.size) { s1 with heap := sortedHeap (s1.heap.push (seqObj "list" vs.toArray 0)) s1.heap.objs.size vs out }) :
    wpAny (model P w) A (call (.builtin "sorted") [.ref a]) Q E s := by
  refine Calls.call_function_entry kind_sorted plain_sorted entry_sorted (args_sorted1 _) ?_
  unfold Builtin.«sorted»
  refine wpAny_bind (m := checkCount "sorted" 1 1 _) (wpAny_pure ?_)
  refine wpAny_bind (hcol _ _ _ rfl fun vs ss s1 hS h64 g => ?_)
  refine wpAny_bind (wpAny_newList ?_ (by rw [sizeLine_eq]; omega))
  have hoL : (s1.heap.push (seqObj "list" vs.toArray 0)).get? s1.heap.objs.size = some (seqObj "list" vs.toArray 0) := Heap.get?_push_size _ rfl
  refine wpAny_bind (wpAny_holding (wpAny_call_entry slot_list_sort ⟨_, hoL, rfl⟩ entry_list_sort (list_sort_treeK strKind_oneLt hoL hS.keysOf (fun v₁ v₂ rest e => keyKind_strs (by rw [← e]; exact hS)) h64 fun st' hp hs => ⟨_, rfl, ?_⟩) (args_list_sort _)))
  obtain ⟨ys, h1, h2, h3⟩ := sorted_out_str hS hp hs
  obtain ⟨c, hc⟩ := sortedHeap_at (vs := vs) (out := (arrOf st').map (·.2)) hoL
  refine wpAny_pure ⟨_, rfl, hQ vs ss s1 _ c ys hS g h1 h2 h3 hc fun b u q => ?_⟩
  have hlt := Heap.lt_size q
  rw [sortedHeap_old (Nat.ne_of_lt hlt) (by rw [size_push']; exact Nat.lt_succ_of_lt hlt)]
  exact Heap.get?_push_of_some _ q
end
def rSortedTx (K : PySem.W.Frag) (w : World) : List V → Hp → VK → Prop := fun vs H Q => ∃ (a : Addr), vs = [V.ref a] ∧
  ((∃ xs : List Str, SqT K H a (xs.map V.str) ∧ xs.length < 64 ∧ ∀ (ys : List Str) (p : Addr), ys.Perm xs → sortedS ys = true → H p = none → Q (.ref p) (upd H p (.lst (ys.map V.str)))) ∨
   ∃ (S : Str → Bool) (n : Nat), H a = some (SetXO w a S n) ∧ n < 64 ∧ ∀ (ys : List Str) (p : Addr), (∀ k, k ∈ ys → S k = true) → ys.length = n → H p = none → Q (.ref p) (upd H p (.lst (ys.map V.str))))
section
variable {X : Cx}
theorem cr_sortedTx (hc : X.calm = true) : CallR X (.builtin "sorted") (rSortedTx X.K X.w) := by
  intro pins s σ H vs us Q I r h
  obtain ⟨a, rfl, h⟩ := h
  rw [Vals.ref1 r]
  rcases h with ⟨xs, hs, h64, q⟩ | ⟨S, n, ha, h64, q⟩
  · obtain ⟨its, rv, ⟨o, ho, hcl, k, hd⟩, hz⟩ := I.tuple hs
    have hlen0 := rv.length
    rw [List.length_map] at hlen0
    refine sorted_gather (G := fun vs ss s1 => ss = xs ∧ Inv X pins σ H s1) (fun A' Q' E' eA k => ?_) fun vs ss s1 out c ys hS g h1 h2 h3 hc hk => ?_
    · refine wpAny_collect_seq a (.inr rfl) ho hcl hd (fun h' hk => ?_) (by rw [List.size_toArray]; rw [sizeLine_eq]; omega)
      have e : its.toArray.toList = its := by simp
      rw [e]
      exact k its xs { s with heap := h' } rv.strs (by omega) ⟨rfl, I.kept (t' := s.toks) hk⟩
    · obtain ⟨rfl, I1⟩ := g
      have hlen : (ys.map V.str).length ≤ sizeLine := by rw [List.length_map, h2.length_eq]; exact small64 h64
      exact ⟨.ref _, _, I1.laid (t' := s1.toks) (o := .lst (ys.map V.str)) hk (Nat.le_refl _) ⟨hlen, out.toList, c, vals_of_strs h1, hc⟩, rfl, q ys _ h2 h3 (I1.hok.fresh (Nat.le_refl _))⟩
  · obtain ⟨o, es, ep, t, ho, hex, hd, g, nd, hm, hb, hf, hn, hr, hl⟩ := setXO_get I ha
    refine sorted_gather (G := fun vs ss s1 => vs.Perm (es.toList.map (·.2)) ∧ Inv X pins σ H s1) (fun A' Q' E' eA k => ?_) fun vs ss s1 out c ys hS g' h1 h2 h3 hc hk => ?_
    · subst eA
      refine collect_set (I.ok.hd hc) ⟨o, ho, hex.1, hd⟩ hf hb hr hl fun s1 vs k1 hz g1 o1 pm => ?_
      obtain ⟨xs, hS, _⟩ := strs_of vs fun v hv => by
        obtain ⟨e, he, q⟩ := List.mem_map.mp (pm.mem_iff.mp hv)
        obtain ⟨k, tk, z1, _⟩ := g e he
        exact ⟨k, tk, by rw [← q]; exact z1⟩
      have I1 : Inv X pins σ H s1 := I.call' (ch := []) o1 (Un.kept k1) (I.hok.kept k1) (by rw [g1]; exact I.bare) (fun _ z => nomatch z)
      exact k vs xs s1 hS (by rw [pm.length_eq, List.length_map, Array.length_toList, hn]; exact h64) ⟨pm, I1⟩
    · obtain ⟨pm, I1⟩ := g'
      have hn' : H s1.heap.objs.size = none := I1.hok.fresh (Nat.le_refl _)
      have lss : ss.length = n := by rw [← hS.length, pm.length_eq, List.length_map, Array.length_toList, hn]
      have hlen : (ys.map V.str).length ≤ sizeLine := by rw [List.length_map, h2.length_eq, lss]; exact small64 h64
      have ess : ss = vs.map strOf := hS.strs.symm
      have J := I1.laid (t' := s1.toks) hk (Nat.le_refl _) (o := .lst (ys.map V.str)) ⟨hlen, out.toList, c, vals_of_strs h1, hc⟩
      refine ⟨.ref _, _, J, rfl, q ys _ (fun k hk' => ?_) (by rw [h2.length_eq]; exact lss) hn'⟩
      have z : k ∈ ss := h2.mem_iff.mp hk'
      rw [ess] at z
      obtain ⟨v, hv, ev⟩ := List.mem_map.mp z
      obtain ⟨e', he', q'⟩ := List.mem_map.mp (pm.mem_iff.mp hv)
      refine (hm k).2 (List.mem_map.mpr ⟨e', he', ?_⟩)
      obtain ⟨k0, tk, z1, _⟩ := g e' he'
      unfold keyX
      rw [z1]
      rw [← ev, ← q', z1]
      rfl
end
end EfB
/-! text B7 -/
set_option Elab.async false
set_option linter.all false
set_option maxRecDepth 100000
set_option maxHeartbeats 3200000
namespace EfB
open PySem PySem.Spec PyProof.Rows L2 PySem.Calls
theorem compTurnX_out (elt t0 i0 t1 i1 : Expr) (ifs0 ifs1 : List Expr) (scope : Scope) (pos : Pos) (it acc : Value) (env : Env) :
    compTurn (.SetComp elt [⟨t0, i0, ifs0, 0⟩, ⟨t1, i1, ifs1, 0⟩] scope pos) 0 it acc env = (do
      standAt i0.pos
      match ← pyNext it with
      | none => pure (.done .next)
      | some v =>
        letOwnedTupleGo t0 it v
        assign t0 env v
        let mut ok := true
        for c in ifs0 do
          if ok then ok ← isTrue c env (eval c env)
        if ok then
          let x ← eval i1 env
          standAt i1.pos
          let x ← foldedSetIterable i1 env x
          let _ ← runOwn (.compStart (.SetComp elt [⟨t0, i0, ifs0, 0⟩, ⟨t1, i1, ifs1, 0⟩] scope pos) 1 (← holding [x] (pyIter x)) acc env) env
        again (.compLoop (.SetComp elt [⟨t0, i0, ifs0, 0⟩, ⟨t1, i1, ifs1, 0⟩] scope pos) 0 it acc env)) := by rfl
theorem compTurnX_in (elt t0 i0 t1 i1 : Expr) (ifs0 ifs1 : List Expr) (scope : Scope) (pos : Pos) (it acc : Value) (env : Env) :
    compTurn (.SetComp elt [⟨t0, i0, ifs0, 0⟩, ⟨t1, i1, ifs1, 0⟩] scope pos) 1 it acc env = (do
      standAt i1.pos
      match ← pyNext it with
      | none => pure (.done .next)
      | some v =>
        letOwnedTupleGo t1 it v
        assign t1 env v
        let mut ok := true
        for c in ifs1 do
          if ok then ok ← isTrue c env (eval c env)
        if ok then
          (do let v ← eval elt env; standAt elt.pos; let _ ← call (.builtin "set.add") [acc, v])
        again (.compLoop (.SetComp elt [⟨t0, i0, ifs0, 0⟩, ⟨t1, i1, ifs1, 0⟩] scope pos) 1 it acc env)) := by rfl

section
variable {prog : Program} {w : World} {A : Around} {R : Result → Shared → Prop} {s : Shared} {elt t0 i0 t1 i1 : Expr} {ifs0 ifs1 : List Expr} {scope : Scope} {pos : Pos} {it acc : Value} {env : Env}
/-- the loop of the first clause -/
theorem compLoopX_out (hs : ∀ x, foldedSetIterable i1 env x = pure x) (I : Nat → Shared → Prop)
    (turn : ∀ n s, I n s → wpAny (model prog w) A (pyNext it) (fun r s₁ => match r with
      | none => R (.ok .next) s₁
      | some v => wpAny (model prog w) A (letOwnedTupleGo t0 it v) (fun _ s₁' => wpAny (model prog w) A (assign t0 env v) (fun _ s₂ =>
          wpAny (model prog w) A (forIn ifs0 true fun c r => if r = true then do let ok ← isTrue c env (eval c env); pure (ForInStep.yield ok) else pure (ForInStep.yield r)) (fun ok s₃ =>
            if ok = true then wpAny (model prog w) A (eval i1 env) (fun x s₄ => wpAny (model prog w) A (pyIter x) (fun it1 s₅ =>
              codeAny (model prog w) A (.compStart (.SetComp elt [⟨t0, i0, ifs0, 0⟩, ⟨t1, i1, ifs1, 0⟩] scope pos) 1 it1 acc env) (fun r s' => match r with
                | .ok _ => ∃ m, m < n ∧ I m s'
                | .error _ => False) s₅) (notedBy (model prog w) A env fun e s' => R (.error e) s') s₄) (notedBy (model prog w) A env fun e s' => R (.error e) s') s₃
            else ∃ m, m < n ∧ I m s₃) (notedBy (model prog w) A env fun e s' => R (.error e) s') s₂) (notedBy (model prog w) A env fun e s' => R (.error e) s') s₁') (notedBy (model prog w) A env fun e s' => R (.error e) s') s₁) (notedBy (model prog w) A env fun e s' => R (.error e) s') s)
    (n : Nat) (h : I n s) :
    codeAny (model prog w) A (.compLoop (.SetComp elt [⟨t0, i0, ifs0, 0⟩, ⟨t1, i1, ifs1, 0⟩] scope pos) 0 it acc env) R s := by
  refine codeAny_loop rfl I (fun n s hI => ?_) n h
  show wpAny _ A ((compTurn (.SetComp elt [⟨t0, i0, ifs0, 0⟩, ⟨t1, i1, ifs1, 0⟩] scope pos) 0 it acc env).onRaise (fun x => do noteFrame x env; theTreesLotGoes x)) _ _ s
  refine wpAny_noted ?_
  rw [compTurnX_out]
  refine wpAny_bind (wpAny_standAt (wpAny_bind (wpAny_mono (turn n s hI) (fun r s₁ h₁ => ?_) fun _ _ h' => h')))
  cases r with
  | none => exact wpAny_pure h₁
  | some v =>
    refine wpAny_bind (wpAny_mono h₁ (fun _ s₁' h₁' => ?_) fun _ _ h' => h')
    refine wpAny_bind (wpAny_mono h₁' (fun _ s₂ h₂ => wpAny_bind (wpAny_mono h₂ (fun ok s₃ h₃ => ?_) fun _ _ h' => h')) fun _ _ h' => h')
    cases ok with
    | false => exact wpAny_pure ⟨rfl, h₃⟩
    | true =>
      refine wpAny_bind (wpAny_mono h₃ (fun x s₄ h₄ => ?_) fun _ _ h' => h')
      refine wpAny_bind (wpAny_standAt (wpAny_bind (wpAny_of_eq (hs x) (wpAny_bind (wpAny_holding (wpAny_mono h₄ (fun it1 s₅ h₅ => ?_) fun _ _ h' => h'))))))
      refine wpAny_bind (wpAny_runOwn ?_)
      rw [Around.mark_none]
      refine codeAny_mono h₅ fun r s' hr => ?_
      cases r with
      | ok f =>
        first
          | exact wpAny_pure ⟨rfl, hr⟩
          | exact wpAny_bind (wpAny_pure (wpAny_pure ⟨rfl, hr⟩))
      | error e => exact hr.elim
/-- the loop of the second -/
theorem compLoopX_in (I : Nat → Shared → Prop)
    (turn : ∀ n s, I n s → wpAny (model prog w) A (pyNext it) (fun r s₁ => match r with
      | none => R (.ok .next) s₁
      | some v => wpAny (model prog w) A (letOwnedTupleGo t1 it v) (fun _ s₁' => wpAny (model prog w) A (assign t1 env v) (fun _ s₂ =>
          wpAny (model prog w) A (forIn ifs1 true fun c r => if r = true then do let ok ← isTrue c env (eval c env); pure (ForInStep.yield ok) else pure (ForInStep.yield r)) (fun ok s₃ =>
            if ok = true then wpAny (model prog w) A (eval elt env) (fun x s₄ =>
              wpAny (model prog w) A (call (.builtin "set.add") [acc, x]) (fun _ s₅ => ∃ m, m < n ∧ I m s₅) (notedBy (model prog w) A env fun e s' => R (.error e) s') s₄) (notedBy (model prog w) A env fun e s' => R (.error e) s') s₃
            else ∃ m, m < n ∧ I m s₃) (notedBy (model prog w) A env fun e s' => R (.error e) s') s₂) (notedBy (model prog w) A env fun e s' => R (.error e) s') s₁') (notedBy (model prog w) A env fun e s' => R (.error e) s') s₁) (notedBy (model prog w) A env fun e s' => R (.error e) s') s)
    (n : Nat) (h : I n s) :
    codeAny (model prog w) A (.compLoop (.SetComp elt [⟨t0, i0, ifs0, 0⟩, ⟨t1, i1, ifs1, 0⟩] scope pos) 1 it acc env) R s := by
  refine codeAny_loop rfl I (fun n s hI => ?_) n h
  show wpAny _ A ((compTurn (.SetComp elt [⟨t0, i0, ifs0, 0⟩, ⟨t1, i1, ifs1, 0⟩] scope pos) 1 it acc env).onRaise (fun x => do noteFrame x env; theTreesLotGoes x)) _ _ s
  refine wpAny_noted ?_
  rw [compTurnX_in]
  refine wpAny_bind (wpAny_standAt (wpAny_bind (wpAny_mono (turn n s hI) (fun r s₁ h₁ => ?_) fun _ _ h' => h')))
  cases r with
  | none => exact wpAny_pure h₁
  | some v =>
    refine wpAny_bind (wpAny_mono h₁ (fun _ s₁' h₁' => ?_) fun _ _ h' => h')
    refine wpAny_bind (wpAny_mono h₁' (fun _ s₂ h₂ => wpAny_bind (wpAny_mono h₂ (fun ok s₃ h₃ => ?_) fun _ _ h' => h')) fun _ _ h' => h')
    cases ok with
    | false => exact wpAny_pure ⟨rfl, h₃⟩
    | true =>
      exact wpAny_bind (wpAny_bind (wpAny_mono h₃ (fun x s₄ h₄ => wpAny_bind (wpAny_standAt (wpAny_bind (wpAny_mono h₄ (fun _ s₅ h₅ => wpAny_pure (wpAny_pure ⟨rfl, h₅⟩)) fun _ _ h' => h')))) fun _ _ h' => h'))
/-- the second clause's start -/
theorem compStartX_ok (h0 : codeAny (model prog w) A (.compLoop (.SetComp elt [⟨t0, i0, ifs0, 0⟩, ⟨t1, i1, ifs1, 0⟩] scope pos) 1 it acc env) R s)
    (h : wpAny (model prog w) A (pyIter it) (fun it' s' => codeAny (model prog w) A (.compLoop (.SetComp elt [⟨t0, i0, ifs0, 0⟩, ⟨t1, i1, ifs1, 0⟩] scope pos) 1 it' acc env) R s')
      (notedBy (model prog w) A env fun x s' => R (.error x) s') s) :
    codeAny (model prog w) A (.compStart (.SetComp elt [⟨t0, i0, ifs0, 0⟩, ⟨t1, i1, ifs1, 0⟩] scope pos) 1 it acc env) R s := by
  refine codeAny_of_tree ?_
  show wpAny _ _ ((compStart (.SetComp elt [⟨t0, i0, ifs0, 0⟩, ⟨t1, i1, ifs1, 0⟩] scope pos) 1 it acc env).onRaise (fun x => do noteFrame x env; standAt theWindowsPlace)) _ _ s
  refine wpAny_notedAt ?_
  unfold compStart
  show wpAny _ _ (ask >>= _) _ _ s
  refine wpAny_bind (wpAny_askSetting (wpAny_ite ?_))
  split
  · first
      | exact wpAny_bind (wpAny_pure (wpAny_pure (And.intro rfl h0)))
      | exact wpAny_pure (And.intro rfl h0)
  · first
      | exact wpAny_bind (wpAny_rule (wpAny_bind (wpAny_standAt (wpAny_bind (wpAny_mono h (fun it' s' h' => wpAny_pure (And.intro rfl h')) fun _ _ x => x)))))
      | (refine wpAny_bind (wpAny_rule ?_); show wpAny _ _ (standAt i1.pos >>= _) _ _ s; exact wpAny_bind (wpAny_standAt (wpAny_bind (wpAny_mono h (fun it' s' h' => wpAny_pure (And.intro rfl h')) fun _ _ x => x))))
end
section
variable {X : Cx}
/-- a set of texts by two clauses: behind the first clause's store and tests the second source's own loop, from which Nx is reached. vs: the block's names; vs1: those of the second target -/
def tSx2 (w : World) (wi : TI) (g : TG) (tt : TT) (wi1 : TI) (g1 : TG) (tt1 : TT) (te : TE) (vs vs1 : List Nat) : TE := fun σ H Q => wi σ H fun J H1 => ∀ D, H1 D = none → ∃ W : Nat → Nat → Hp → Prop, (∃ m, W 0 m (upd H1 D (SetXO w D (fun _ => false) 0))) ∧ ∀ i m H, W i m H →
  (J.stop i H ∧ Q (.ref D) H) ∨ (J.go i H ∧ ∃ Nx : Hp → Prop, (∀ H', Nx H' → ∃ m', m' < m ∧ W (i + 1) m' H') ∧ ∀ x H', J.yld i H x H' → g x (wipe σ vs) H' fun σ2 H2 => wipe σ2 vs = wipe σ vs ∧ tt σ2 H2 fun b H3 =>
    if b = true then wi1 σ2 H3 fun J1 H4 => ∃ W1 : Nat → Nat → Hp → Prop, (∃ m, W1 0 m H4) ∧ ∀ j k H, W1 j k H →
      (J1.stop j H ∧ Nx H) ∨ (J1.go j H ∧ ∃ Nx1 : Hp → Prop, (∀ H', Nx1 H' → ∃ k', k' < k ∧ W1 (j + 1) k' H') ∧ ∀ x H', J1.yld j H x H' → g1 x (wipe σ2 vs1) H' fun σ3 H5 => wipe σ3 vs1 = wipe σ2 vs1 ∧ tt1 σ3 H5 fun b H6 =>
        if b = true then te σ3 H6 fun y H7 => ∃ (c : Str) (S : Str → Bool) (n : Nat), y = .str c ∧ H7 D = some (SetXO w D S n) ∧ n + 1 < scanBound ∧ Nx1 (upd H7 D (SetXO w D (fun j => S j || decide (j = c)) (if S c = true then n else n + 1))) else Nx1 H6)
    else Nx H3)
theorem sx2_core {pins : List (Addr × Obj)} {s : Shared} {σ : L2.St} {H : Hp} {Q : VK} {elt tg iter tg1 iter1 : Expr} {ifs ifs1 : List Expr} {scope : Scope} {own : List (Str × Nat)} {vs1 : List Nat} {pos pos' : Pos} {wi wi1 : TI} {g g1 : TG} {tt tt1 : TT} {te : TE} {use : Option (Value → Sem Unit)} {Qf : Value → Shared → Prop}
    (hc : X.calm = true) (hN : X.N.Nodup) (I : Inv X pins σ H s) (hi : PI X tg iter wi) (ok : BlkOk X.N X.env.scope scope own) (hv : ∀ i ∈ vs1, i ∈ own.map (·.2))
    (hg : ∀ (s : Shared) (H : Hp) (C : Addr) (cl : List (Str × Addr)) (fp : List Addr), PG (X.blk s H scope (compEnvC scope cl C X.env) fp) tg g) (ht : ∀ (s : Shared) (H : Hp) (C : Addr) (cl : List (Str × Addr)) (fp : List Addr), PTs (X.blk s H scope (compEnvC scope cl C X.env) fp) ifs tt)
    (he : ∀ (s : Shared) (H : Hp) (C : Addr) (cl : List (Str × Addr)) (fp : List Addr), PE (X.blk s H scope (compEnvC scope cl C X.env) fp) elt te) (hs : ∀ x, foldedSetIterable iter X.env x = pure x)
    (hi1 : ∀ (s : Shared) (H : Hp) (C : Addr) (cl : List (Str × Addr)) (fp : List Addr), PI (X.blk s H scope (compEnvC scope cl C X.env) fp) tg1 iter1 wi1)
    (hg1 : ∀ (s : Shared) (H : Hp) (C : Addr) (cl : List (Str × Addr)) (fp : List Addr), PG (X.blk s H scope (compEnvC scope cl C X.env) fp) tg1 g1)
    (ht1 : ∀ (s : Shared) (H : Hp) (C : Addr) (cl : List (Str × Addr)) (fp : List Addr), PTs (X.blk s H scope (compEnvC scope cl C X.env) fp) ifs1 tt1)
    (hs1 : ∀ env x, foldedSetIterable iter1 env x = pure x)
    (h : tSx2 X.w wi g tt wi1 g1 tt1 te (own.map (·.2)) vs1 σ H Q)
    (hRR : ∀ D C s' m H', Inv X pins σ H' s' → Q (.ref D) H' → s'.heap.Ns C m → FpOk X pins H' C → compPost (model X.prog X.w) X.A X.xe use Qf (.ref D) C (.ok .next) s') :
    wpAny (model X.prog X.w) X.A (comprehension (.SetComp elt [⟨tg, iter, ifs, 0⟩, ⟨tg1, iter1, ifs1, 0⟩] scope pos) scope X.env pos' (newSet (.type "set")) false (eval iter X.env) use) Qf X.xe s := by
  have hfree : ∀ y ∈ scope.names, y.2 = .free → ∃ c, X.env.cells.lookup y.1 = some c := fun y hy e => by
    rcases ok.free y hy e with k | k
    · exact I.ok.has _ (.inl k)
    · exact I.ok.has _ (.inr k)
  refine wpAny_comprehension_free (use := use) rfl hs (closure_ok hfree) ok.kind (fun y hy e => by rw [ok.uniq y hy, e])
    (thn (hi.run pins s σ H _ I h) fun xv s1 hx => thn hx fun itv s2 h2 => ?_)
  obtain ⟨it, fp, tn, J, H2, e, I2, T, st2, f2, q⟩ := h2
  subst e
  refine PpSet.newSet_ok (newEnv_comp ?_)
  generalize hD : s2.heap.objs.size = D
  have hDn : H2 D = none := I2.hok.fresh (Nat.le_of_eq hD)
  obtain ⟨W, ⟨m0, w0⟩, turn⟩ := q D hDn
  -- the new list
  generalize hs3 : ({ s2 with heap := s2.heap.push { cls := .type "set", dict := none, data := .set #[] 0 (.fresh 0 0 (!X.w.params.followText "set-order")) } } : Shared) = s3
  have I3 : Inv X pins σ (upd H2 D (SetXO X.w D (fun _ => false) 0)) s3 := by
    rw [← hs3]
    refine I2.laid (t' := s2.toks) (fun b o e => Heap.get?_push_of_some _ e) (Nat.le_of_eq hD) ?_
    rw [← hD]
    exact setXO_new (setX_fresh X.w)
  have h3 : s3.heap = s2.heap.push { cls := .type "set", dict := none, data := .set #[] 0 (.fresh 0 0 (!X.w.params.followText "set-order")) } := by rw [← hs3]
  have sz : ∀ b ∈ fp, b < s2.heap.objs.size := fun b hb => by
    obtain ⟨o, e, _⟩ := T.obj _ _ st2 b hb
    exact Heap.lt_size e
  have f3 : ∀ b ∈ fp, FpOk X pins (upd H2 D (SetXO X.w D (fun _ => false) 0)) b ∧ b < s3.heap.objs.size := fun b hb => by
    have hlt := sz b hb
    refine ⟨⟨?_, (f2 b hb).2⟩, by rw [h3, Heap.size_push]; exact Nat.lt_succ_of_lt hlt⟩
    rw [upd_ne (by rw [← hD]; exact Nat.ne_of_lt hlt)]
    exact (f2 b hb).1
  have st3 : tn 0 s3.heap := T.keep _ _ _ st2 fun b _ o e => by rw [h3]; exact Heap.get?_push_of_some _ e
  have I4 := block_start I3 ok hN f3
  have pg := hg s3 (upd H2 D (SetXO X.w D (fun _ => false) 0)) s3.heap.objs.size (cellsFrom (s3.heap.objs.size + 1) scope.names (cloFrom X.env.cells scope.names [])) fp
  have pt := ht s3 (upd H2 D (SetXO X.w D (fun _ => false) 0)) s3.heap.objs.size (cellsFrom (s3.heap.objs.size + 1) scope.names (cloFrom X.env.cells scope.names [])) fp
  have pe := he s3 (upd H2 D (SetXO X.w D (fun _ => false) 0)) s3.heap.objs.size (cellsFrom (s3.heap.objs.size + 1) scope.names (cloFrom X.env.cells scope.names [])) fp
  have pi1 := hi1 s3 (upd H2 D (SetXO X.w D (fun _ => false) 0)) s3.heap.objs.size (cellsFrom (s3.heap.objs.size + 1) scope.names (cloFrom X.env.cells scope.names [])) fp
  have pg1 := hg1 s3 (upd H2 D (SetXO X.w D (fun _ => false) 0)) s3.heap.objs.size (cellsFrom (s3.heap.objs.size + 1) scope.names (cloFrom X.env.cells scope.names [])) fp
  have pt1 := ht1 s3 (upd H2 D (SetXO X.w D (fun _ => false) 0)) s3.heap.objs.size (cellsFrom (s3.heap.objs.size + 1) scope.names (cloFrom X.env.cells scope.names [])) fp
  show codeAny _ _ (.compStart (.SetComp elt [⟨tg, iter, ifs, 0⟩, ⟨tg1, iter1, ifs1, 0⟩] scope pos) 0 (.ref it) (.ref D) (compEnvC scope (cellsFrom (s3.heap.objs.size + 1) scope.names (cloFrom X.env.cells scope.names [])) s3.heap.objs.size X.env)) (compPost (model X.prog X.w) X.A X.xe use Qf (.ref D) s3.heap.objs.size) { s3 with heap := pushCells (s3.heap.push { cls := .type "dict", data := .dict #[] }) scope.names }
  have nfp : ∀ b ∈ fp, (upd H2 D (SetXO X.w D (fun _ => false) 0)) b = none := fun b hb => (f3 b hb).1.1
  generalize hce : compEnvC scope (cellsFrom (s3.heap.objs.size + 1) scope.names (cloFrom X.env.cells scope.names [])) s3.heap.objs.size X.env = ce at I4 pg pt pe pi1 pg1 pt1 ⊢
  have cL : ce.locals = s3.heap.objs.size := by subst hce; rfl
  generalize hH3 : upd H2 D (SetXO X.w D (fun _ => false) 0) = H3 at I3 I4 pg pt pe pi1 pg1 pt1 w0 nfp f3
  generalize hs4 : ({ s3 with heap := pushCells (s3.heap.push { cls := .type "dict", data := .dict #[] }) scope.names } : Shared) = s4 at I4 ⊢
  have st4 : tn 0 s4.heap := T.keep _ _ _ st3 fun b _ o e => by rw [← hs4]; exact pushCells_keeps _ _ _ _ (Heap.get?_push_of_some _ e)
  have stat : ∀ {σ' : L2.St} {H' : Hp} {s' : Shared}, Inv (X.blk s3 H3 scope ce fp) [] σ' H' s' → (∀ b ∈ fp, H' b = none) → ∀ b ∈ fp, FpOk (X.blk s3 H3 scope ce fp) [] H' b := fun {σ' H' s'} I' hn b hb =>
    ⟨hn b hb, (I'.ok.exf b hb).1, I'.ok.exfs b hb, .inl hb, fun x c e => (I'.ok.exf b hb).2 x c e, fun p hp => absurd (show p ∈ ([] : List (Addr × Obj)) ++ [] from hp) (by simp)⟩
  have loop : codeAny (model X.prog X.w) X.A (.compLoop (.SetComp elt [⟨tg, iter, ifs, 0⟩, ⟨tg1, iter1, ifs1, 0⟩] scope pos) 0 (.ref it) (.ref D) ce) (compPost (model X.prog X.w) X.A X.xe use Qf (.ref D) s3.heap.objs.size) s4 := by
    refine compLoopX_out (hs1 ce) (fun n s' => ∃ i H', Inv (X.blk s3 H3 scope ce fp) [] (wipe σ (own.map (·.2))) H' s' ∧ tn i s'.heap ∧ (∀ b ∈ fp, H' b = none) ∧ W i n H') ?_ m0 ⟨0, H3, I4, st4, nfp, w0⟩
    rintro n s5 ⟨i, H5, I5, st5, n5, w5⟩
    rcases turn i n H5 w5 with ⟨stop, qq⟩ | ⟨go, Nx, hNx, step⟩
    · have td := T.done (X.blk s3 H3 scope ce fp) rfl rfl rfl hc i [] s5 _ H5 (fun _ _ => False) I5 (stat I5 n5) st5 stop
      refine thnF td fun r s6 ⟨hr, I6⟩ => ?_
      subst hr
      -- back in the def's context
      have I7 : Inv X pins σ H5 s6 := I3.call' (ch := fp) I6.os I6.base I6.hok I6.bare fun b hb => ⟨(f3 b hb).1.2.2.2.1, (f3 b hb).1.2.1, (f3 b hb).1.2.2.2.2.1, (f3 b hb).1.2.2.2.2.2⟩
      have nC : H5 s3.heap.objs.size = none := by
        have z : H5 ce.locals = none := I6.free
        rw [cL] at z
        exact z
      obtain ⟨m, hn, _⟩ := I6.loc
      have hn : s6.heap.Ns ce.locals m := hn
      rw [cL] at hn
      exact hRR D s3.heap.objs.size s6 m H5 I7 qq hn (I3.fpOk (Nat.le_refl _) nC)
    · have ti := T.item (X.blk s3 H3 scope ce fp) rfl rfl rfl hc i [] s5 _ H5 (fun _ _ => False) I5 (stat I5 n5) st5 go
      refine thnF ti fun r s6 ⟨u, hr, h6⟩ => ?_
      subst hr
      refine thnF h6 fun _ s7 ⟨x, H7, I7, r7, y7, st7, n7⟩ => ?_
      have I7' := I7.pinned (stat I7 n7) (T.obj _ _ st7)
      refine thnF (pg.run _ s7 _ H7 x u _ I7' r7 (step x H7 y7)) fun _ s8 ⟨σ8, H8, I8, hw8, q8⟩ => ?_
      refine thnF (pt.run _ s8 σ8 H8 _ I8 q8) fun b s9 ⟨H9, I9, q9⟩ => ?_
      -- the turn's end, from any slots that know what the block knew at its start
      have fin : ∀ {σ9 : L2.St} {s' : Shared} {H' : Hp}, Inv (X.blk s3 H3 scope ce fp) ([] ++ pinsAt fp s7.heap) σ9 H' s' → (wipe σ (own.map (·.2))).length = σ9.length → (∀ (j : Nat) v, (wipe σ (own.map (·.2)))[j]? = some (some v) → σ9[j]? = some (some v)) → Nx H' →
          ∃ m, m < n ∧ ∃ i H', Inv (X.blk s3 H3 scope ce fp) [] (wipe σ (own.map (·.2))) H' s' ∧ tn i s'.heap ∧ (∀ b ∈ fp, H' b = none) ∧ W i m H' := fun {σ9 s' H'} I' hl hk nx => by
        obtain ⟨m', hm, w'⟩ := hNx H' nx
        have pin' : ∀ b ∈ fp, ∀ o, s7.heap.get? b = some o → s'.heap.get? b = some o ∧ H' b = none := fun b hb o e =>
          let z := I'.pin (b, o) (List.mem_append_right _ (List.mem_append_right _ (mem_pinsAt hb e)))
          ⟨z.1, z.2.1⟩
        refine ⟨m', hm, i + 1, H', (I'.unpinned (pins := [])).weak hl hk, T.keep _ _ _ st7 fun b hb o e => (pin' b hb o e).1, fun b hb => ?_, w'⟩
        obtain ⟨o, e, _⟩ := T.obj _ _ st7 b hb
        exact (pin' b hb o e).2
      have hl8 : (wipe σ (own.map (·.2))).length = σ8.length := by rw [← hw8, wipe_length]
      have hk8 : ∀ (j : Nat) v, (wipe σ (own.map (·.2)))[j]? = some (some v) → σ8[j]? = some (some v) := fun j v e => by
        rw [← hw8] at e
        exact (wipe_some e).1
      have hk9 : ∀ (j : Nat) v, (wipe σ (own.map (·.2)))[j]? = some (some v) → (wipe σ8 vs1)[j]? = some (some v) := fun j v e => by
        rw [← hw8] at e
        obtain ⟨e1, e2⟩ := wipe_some e
        rw [wipe_out fun z => e2 (hv j z)]
        exact e1
      cases b with
      | false =>
        simp only [Bool.false_eq_true, if_false] at q9 ⊢
        exact fin I9 hl8 hk8 q9
      | true =>
        simp only [if_true] at q9 ⊢
        refine thnF (pi1.run _ s9 σ8 H9 _ I9 q9) fun xv s10 hx => thnF hx fun itv s11 h11 => ?_
        obtain ⟨it1, fp1, tn1, J1, H11, e1, I11, T1, st11, f11, W1, ⟨m1, w1⟩, turn1⟩ := h11
        subst e1
        -- the inner loop
        have stat1 : ∀ {H' : Hp}, (∀ b ∈ fp1, H' b = none) → ∀ b ∈ fp1, FpOk (X.blk s3 H3 scope ce fp) ([] ++ pinsAt fp s7.heap) H' b := fun hn b hb => ⟨hn b hb, (f11 b hb).2⟩
        have loop1 : codeAny (model X.prog X.w) X.A (.compLoop (.SetComp elt [⟨tg, iter, ifs, 0⟩, ⟨tg1, iter1, ifs1, 0⟩] scope pos) 1 (.ref it1) (.ref D) ce)
            (fun r s' => match r with
              | .ok _ => ∃ m, m < n ∧ ∃ i H', Inv (X.blk s3 H3 scope ce fp) [] (wipe σ (own.map (·.2))) H' s' ∧ tn i s'.heap ∧ (∀ b ∈ fp, H' b = none) ∧ W i m H'
              | .error _ => False) s11 := by
          refine compLoopX_in (fun k s' => ∃ j H', Inv (X.blk s3 H3 scope ce fp) ([] ++ pinsAt fp s7.heap) (wipe σ8 vs1) H' s' ∧ tn1 j s'.heap ∧ (∀ b ∈ fp1, H' b = none) ∧ W1 j k H') ?_ m1 ⟨0, H11, I11.weak (wipe_length _ _) (fun j v e => (wipe_some e).1), st11, fun b hb => (f11 b hb).1, w1⟩
          rintro k s12 ⟨j, H12, I12, st12, n12, w12⟩
          rcases turn1 j k H12 w12 with ⟨stop1, nx1⟩ | ⟨go1, Nx1, hNx1, step1⟩
          · refine thnF (T1.done (X.blk s3 H3 scope ce fp) rfl rfl rfl hc j _ s12 (wipe σ8 vs1) H12 (fun _ _ => False) I12 (stat1 n12) st12 stop1) fun r s13 ⟨hr, I13⟩ => ?_
            subst hr
            exact fin I13 (hl8.trans (wipe_length σ8 vs1).symm) hk9 nx1
          · refine thnF (T1.item (X.blk s3 H3 scope ce fp) rfl rfl rfl hc j _ s12 (wipe σ8 vs1) H12 (fun _ _ => False) I12 (stat1 n12) st12 go1) fun r s13 ⟨u1, hr, h13⟩ => ?_
            subst hr
            refine thnF h13 fun _ s14 ⟨x1, H14, I14, r14, y14, st14, n14⟩ => ?_
            have I14' := I14.pinned (stat1 n14) (T1.obj _ _ st14)
            refine thnF (pg1.run _ s14 (wipe σ8 vs1) H14 x1 u1 _ I14' r14 (step1 x1 H14 y14)) fun _ s15 ⟨σ15, H15, I15, hw15, q15⟩ => ?_
            refine thnF (pt1.run _ s15 σ15 H15 _ I15 q15) fun b1 s16 ⟨H16, I16, q16⟩ => ?_
            have fin1 : ∀ {s' : Shared} {H' : Hp}, Inv (X.blk s3 H3 scope ce fp) (([] ++ pinsAt fp s7.heap) ++ pinsAt fp1 s14.heap) σ15 H' s' → Nx1 H' → ∃ m, m < k ∧ ∃ j H', Inv (X.blk s3 H3 scope ce fp) ([] ++ pinsAt fp s7.heap) (wipe σ8 vs1) H' s' ∧ tn1 j s'.heap ∧ (∀ b ∈ fp1, H' b = none) ∧ W1 j m H' := fun {s' H'} I' nx => by
              obtain ⟨m', hm, w'⟩ := hNx1 H' nx
              have pin' : ∀ b ∈ fp1, ∀ o, s14.heap.get? b = some o → s'.heap.get? b = some o ∧ H' b = none := fun b hb o e =>
                let z := I'.pin (b, o) (List.mem_append_right _ (List.mem_append_right _ (mem_pinsAt hb e)))
                ⟨z.1, z.2.1⟩
              refine ⟨m', hm, j + 1, H', I'.unpinned.weak (by rw [← hw15, wipe_length]) (fun j v e => by rw [← hw15] at e; exact (wipe_some e).1), T1.keep _ _ _ st14 fun b hb o e => (pin' b hb o e).1, fun b hb => ?_, w'⟩
              obtain ⟨o, e, _⟩ := T1.obj _ _ st14 b hb
              exact (pin' b hb o e).2
            cases b1 with
            | false =>
              simp only [Bool.false_eq_true, if_false] at q16 ⊢
              exact fin1 I16 q16
            | true =>
              simp only [if_true] at q16 ⊢
              refine thnF (pe.run _ s16 σ15 H16 _ I16 q16) fun z s17 ⟨yv, H17, I17, r17, cc, S17, n17, ey, hD17, hz17, nx⟩ => ?_
              subst ey
              exact addX_ok (X := X.blk s3 H3 scope ce fp) I17 hD17 hz17 r17 fun s18 I18 => fin1 I18 nx
        exact compStartX_ok loop1 (T1.self X.A 0 _ _ _ st11 loop1)
  exact PpSet.codeAny_compStart_set loop (T.self X.A 0 _ _ _ st4 loop)
/-- as a value -/
theorem pe_sx2 {elt tg iter tg1 iter1 : Expr} {ifs ifs1 : List Expr} {scope : Scope} {own : List (Str × Nat)} {vs1 : List Nat} {pos : Pos} {wi wi1 : TI} {g g1 : TG} {tt tt1 : TT} {te : TE} (hc : X.calm = true) (hN : X.N.Nodup) (hi : PI X tg iter wi) (ok : BlkOk X.N X.env.scope scope own) (hv : ∀ i ∈ vs1, i ∈ own.map (·.2))
    (hg : ∀ (s : Shared) (H : Hp) (C : Addr) (cl : List (Str × Addr)) (fp : List Addr), PG (X.blk s H scope (compEnvC scope cl C X.env) fp) tg g) (ht : ∀ (s : Shared) (H : Hp) (C : Addr) (cl : List (Str × Addr)) (fp : List Addr), PTs (X.blk s H scope (compEnvC scope cl C X.env) fp) ifs tt)
    (hi1 : ∀ (s : Shared) (H : Hp) (C : Addr) (cl : List (Str × Addr)) (fp : List Addr), PI (X.blk s H scope (compEnvC scope cl C X.env) fp) tg1 iter1 wi1)
    (hg1 : ∀ (s : Shared) (H : Hp) (C : Addr) (cl : List (Str × Addr)) (fp : List Addr), PG (X.blk s H scope (compEnvC scope cl C X.env) fp) tg1 g1) (ht1 : ∀ (s : Shared) (H : Hp) (C : Addr) (cl : List (Str × Addr)) (fp : List Addr), PTs (X.blk s H scope (compEnvC scope cl C X.env) fp) ifs1 tt1)
    (he : ∀ (s : Shared) (H : Hp) (C : Addr) (cl : List (Str × Addr)) (fp : List Addr), PE (X.blk s H scope (compEnvC scope cl C X.env) fp) elt te) (hs : ∀ x, foldedSetIterable iter X.env x = pure x := by intro _; rfl) (hs1 : ∀ env x, foldedSetIterable iter1 env x = pure x := by intro _ _; rfl) :
    PE X (.SetComp elt [⟨tg, iter, ifs, 0⟩, ⟨tg1, iter1, ifs1, 0⟩] scope pos) (tSx2 X.w wi g tt wi1 g1 tt1 te (own.map (·.2)) vs1) := by
  refine ⟨fun pins s σ H Q I h => ?_⟩
  rw [PpSet.eval_SetComp]
  refine sx2_core hc hN I hi ok hv hg ht he hs hi1 hg1 ht1 hs1 h fun D C s' m H' I' q hn f => ⟨m, hn, fun h'' sb => ?_⟩
  obtain ⟨f0, f1, f2, f3, f4, f5⟩ := f
  exact ⟨.ref D, H', I'.turned (t' := s'.toks) (fun b o hb e => (sb.2 b hb).trans e) f0 f1 f3 f4 f5, rfl, q⟩
end
end EfB
/-! text B5 -/
set_option Elab.async false
set_option linter.all false
set_option maxRecDepth 100000
set_option maxHeartbeats 3200000
namespace EfB
open PySem PySem.Spec PyProof.Rows L2 PySem.Calls
theorem meets_bool_tup (l : Addr) (items : Array Value) (hfit : (items.size : Int) < 2 ^ 63) :
    Meets (Builtin.«bool.__new__» ⟨[.type "bool", .ref l], []⟩) (fun _ R s => IsTup s.heap l items ∧ R (.ok (.ret (.bool (!items.isEmpty)))) { s with toks := s.toks + 1 + 1 }) :=
  Meets.of_wp fun prog w A R s hs => by
    obtain ⟨hl, hs⟩ := hs
    obtain ⟨hp, g, d, tk, os⟩ := s
    have f1 := F.conv_sub_bool
    repeat (any_goals (first | assumption | (with_reducible refine PyProof.Rows.truthy_tuple hl hfit ?_) | wp_step))
    all_goals first | exact ⟨_, rfl, hs⟩ | exact hs | skip
theorem call_bool_tup {prog : Program} {w : World} {A : Around} {E : Value → Shared → Prop} {s : Shared} {l : Addr} {items : Array Value} {Q : Value → Shared → Prop} (hfit : (items.size : Int) < 2 ^ 63) (hl : IsTup s.heap l items)
    (h : Q (.bool (!items.isEmpty)) { s with toks := s.toks + 1 + 1 }) : wpAny (model prog w) A (call (.type "bool") [.ref l]) Q E s :=
  call_bool_1 (meets_bool_tup l items hfit) ⟨hl, rfl, h⟩
/-! ### numbers of any size -/
section
variable {X : Cx}
theorem op_mulG : OpR X (binaryOp .Mult) (rI (fun i j => IntMulOk i j) fun i j => .int (i * j)) := opI fun _ _ _ _ _ _ _ hc q => mul_int q hc
theorem op_fdivG : OpR X (binaryOp .FloorDiv) (rI (fun _ j => j ≠ 0 ∧ j.natAbs.log2 < 9000) fun i j => .int (i.fdiv j)) := opI fun _ _ _ _ _ _ _ hc q => floordiv_int hc.1 q (.inl (PyProof.noPylong_of_log2 hc.2))
/-- xs[i], by values -/
def rGetL (K : PySem.W.Frag) : V → V → Hp → VK → Prop := fun o i H Q => ∃ p xs j v, o = .ref p ∧ i = .int (j : Nat) ∧ SqL K H p xs ∧ xs[j]? = some v ∧ Q v H
theorem get_list : PGet X (rGetL X.K) := by
  intro pins s σ H o i ov iv Q I ro ri h
  obtain ⟨p, xs, j, v, rfl, rfl, hq, hv, q⟩ := h
  cases ro
  obtain ⟨t, rfl⟩ := ri
  obtain ⟨its, r, pl, hz⟩ := I.list hq
  obtain ⟨w, ew, rw'⟩ := r.get hv
  have hl := r.length
  have hn := line63
  have hlt : j < its.length := (List.getElem?_eq_some_iff.mp ew).1
  exact wpAny_getItem_list pl.isList (Int.natCast_nonneg _) (by omega) (by simpa using ew) ⟨v, H, I, rw', q⟩
/-- bool(x) by its truth -/
theorem call_boolT : CallR X (.type "bool") (fun xs H Q => (∃ b, xs = [.bl b] ∧ Q (.bl b) H) ∨ ∃ (a : Addr) (zs : List V), xs = [.ref a] ∧ SqT X.K H a zs ∧ Q (.bl (!zs.isEmpty)) H) := by
  intro pins s σ H xs us Q I r h
  rcases h with ⟨b, rfl, q⟩ | ⟨a, zs, rfl, hq, q⟩
  · exact call_bool1 pins s σ H [.bl b] us Q I r (.inr ⟨b, rfl, q⟩)
  · obtain rfl := Vals.ref1 r
    obtain ⟨its, rv, pl, hz⟩ := I.tuple hq
    have hl := line63
    have hlen := rv.length
    refine call_bool_tup (by simp only [List.size_toArray]; omega) pl ?_
    exact ⟨.bl (!zs.isEmpty), H, I.tok _, by rw [isEmpty_of rv]; rfl, q⟩
end
/-! ### enumerate of a tuple -/
set_option maxHeartbeats 1000000 in
theorem meets_enum1 {v : Value} {o : Obj} {H : Heap → Prop} (B : Begins v o H) :
    Meets (Builtin.«enumerate.__new__» ⟨[.type "enumerate", v], []⟩) (fun _ R s => H s.heap ∧
      R (.ok (.ret (.ref (s.heap.push o).objs.size))) { s with heap := (s.heap.push o).push { cls := .type "enumerate", data := .fields #[.none, .bool false, .ref s.heap.objs.size, rawInt 0, .none, .none] } }) :=
  .of_wp fun prog w A R s h => by
    obtain ⟨hp, g, d, tk, os⟩ := s; obtain ⟨h1, h⟩ := h
    have hsub := sub_enumerate
    have q1 : ∀ {A' : Around} {E : Value → Shared → Prop} {Q : Value → Shared → Prop}, Q (.ref hp.objs.size) ⟨hp.push o, g, d, tk, os⟩ → wpAny (model prog w) A' (pyIter v) Q E ⟨hp, g, d, tk, os⟩ :=
      fun q => B.iter prog w _ _ ⟨hp, g, d, tk, os⟩ _ h1 q
    wp_walk using q1
    refine wpAny_stack_any fun st => wpAny_pure ?_
    split
    · rename_i c _ _ _ _ _
      cases (c == Value.type "enumerate")
      · wp_walk using q1
        exact ⟨_, rfl, h⟩
      · wp_walk using q1
        exact ⟨_, rfl, h⟩
    · wp_walk using q1
      exact ⟨_, rfl, h⟩
theorem enum1_begins {prog : Program} {w : World} {A : Around} {E : Value → Shared → Prop} {s : Shared} {v : Value} {o : Obj} {H : Heap → Prop} {Q : Value → Shared → Prop} (B : Begins v o H) (h1 : H s.heap)
    (h : ∀ h', IsEnum h' (s.heap.objs.size + 1) s.heap.objs.size 0 .none → h'.get? s.heap.objs.size = some o → h'.objs.size = s.heap.objs.size + 2 →
      (∀ b o, s.heap.get? b = some o → h'.get? b = some o) → Q (.ref (s.heap.objs.size + 1)) { s with heap := h' }) :
    wpAny (model prog w) A (call (.type "enumerate") [v]) Q E s := by
  refine callType_new F.called_enumerate (by decide) (F.typeCall_enumerate_1 _) (F.newCall_enumerate_1 _) (fun obj => F.args_object_init_2 obj _) F.entry_enumerate_new
    (meets_enum1 B) ⟨h1, ?_⟩
  have hz : (s.heap.push o).objs.size = s.heap.objs.size + 1 := Heap.size_push ..
  show _ ∧ _
  rw [hz]
  have he : IsEnum ((s.heap.push o).push { cls := .type "enumerate", data := .fields #[.none, .bool false, .ref s.heap.objs.size, rawInt 0, .none, .none] }) (s.heap.objs.size + 1) s.heap.objs.size 0 .none := by
    have := Heap.get?_push_size (s.heap.push o) (o := { cls := .type "enumerate", data := .fields #[.none, .bool false, .ref s.heap.objs.size, rawInt 0, .none, .none] }) rfl
    rw [hz] at this; exact this
  refine ⟨⟨_, he, rfl⟩, h _ he (Heap.get?_push_of_some _ (Heap.get?_push_size _ B.free)) (by rw [Heap.size_push, hz]) fun b o x => Heap.get?_push_of_some _ (Heap.get?_push_of_some _ x)⟩
theorem enumT_end {prog : Program} {w : World} {A : Around} {E : Value → Shared → Prop} {s : Shared} {e it t : Addr} {i : Nat} {items : Array Value} {old : Value} {k : Int} {Q : Option Value → Shared → Prop} (hh : A.handled = none)
    (he : IsEnum s.heap e it k old) (hit : s.heap.IsTupleIter it t i) (hl : s.heap.IsTuple t items) (hx : items.size ≤ i) (hQ : ∀ h', Heap.ExtBut it s.heap h' → Q none { s with heap := h' }) : wpAny (model prog w) A (pyNext (.ref e)) Q E s := by
  have hT : s.TypeIs (.ref e) "enumerate" := ⟨_, he, rfl⟩
  unfold pyNext
  refine wpAny_bind (wpAny_attempt (wpAny_callSpecial?_slot (name := Str.ofString "__next__") hT F.slot_enumerate_next
    (wpAny_call_entry F.slot_enumerate_next hT F.entry_enumerate_next ?_ (F.args_enumerate_next_1 _))))
  show wpAny _ _ (field (.ref e) 2 >>= _) _ _ _
  refine wpAny_bind (wpAny_field he rfl (x := .ref it) rfl ?_)
  refine wpAny_bind (wpAny_nextOf_tuple_end hh hit hl (Array.getElem?_eq_none hx) fun h' x he' hx' => ?_)
  obtain ⟨o, ho, hc⟩ := hx'
  refine wpAny_bind (wpAny_isInstance (T := "StopIteration") (b := true) ⟨o, ho, hc⟩ isSubtype_stop ?_)
  exact wpAny_pure (hQ _ he')
/-- the tuple at a, each item in a new pair with its place -/
def IeT (a : Addr) (xs : List V) : It :=
  ⟨fun i H => H a = some (.tup xs) ∧ i < xs.length, fun i H v H' => ∃ T x, v = .ref T ∧ H T = none ∧ H' = upd H T (.tup [.int (i : Nat), x]) ∧ xs[i]? = some x, fun i H => H a = some (.tup xs) ∧ xs.length ≤ i⟩
theorem turn_enumT {P : Program} {w : World} {K : PySem.W.Frag} {elts : List Expr} {kk : Nat} {tpos : Pos} (a e it : Addr) (xs : List V) :
    Turn P w K (.Tuple elts kk tpos) (IeT a xs) [e, it] e (fun i h => (∃ old, IsEnum h e it ((i : Nat) : Int) old) ∧ h.IsTupleIter it a i ∧ e ≠ it ∧ a ≠ it ∧ a ≠ e) where
  mem := by simp
  obj := fun i h st b hb => by
    obtain ⟨⟨old, he⟩, ⟨o, ho, hc, hd⟩, _⟩ := st
    have e' : b = e ∨ b = it := by simpa using hb
    rcases e' with z | z
    · rw [z]; exact ⟨_, he, fun v q => nomatch q⟩
    · rw [z]; exact ⟨o, ho, fun v q => by rw [hd] at q; cases q⟩
  keep := fun i h h' st k => let ⟨⟨old, he⟩, hi, hne⟩ := st; ⟨⟨old, k e (by simp) _ he⟩, hi.at fun o q => k it (by simp) o q, hne⟩
  item := by
    rintro X rfl rfl rfl hc i pins s σ H E I hf ⟨⟨old, he⟩, hit, hne, hai, hae⟩ ⟨hq, hx⟩
    obtain ⟨its, rv, p, hz⟩ := I.tuple (.inl (.inl hq))
    obtain ⟨u, hu, ru⟩ := rv.get (List.getElem?_eq_getElem hx)
    have hl := rv.length
    have hel : e < s.heap.objs.size := Heap.lt_size he
    have hil : it < s.heap.objs.size := by obtain ⟨_, q, _⟩ := hit; exact Heap.lt_size q
    refine wpAny_pyNext_enum_itemD (Draws.tuple (show X.A.in1.handled = none from I.ok.hd hc) it a hai its.toArray) he ⟨hit, p⟩ (by simp; omega) hne (by simp; exact ⟨hne, fun z => hae z.symm⟩) fun x h' tk hP ho hst hT hsz hk => ?_
    have eu : x = u := by
      have q : its[i]? = some x := by simpa using hP
      rw [hu] at q
      exact (Option.some.inj q).symm
    subst eu
    refine ⟨_, rfl, wpAny_letOwnedTupleGo_enum (s := { s with heap := h', toks := tk + 1 }) ho fun h'' he' sb => ?_⟩
    have hT2 : h''.get? s.heap.objs.size = some { cls := .type "tuple", data := .seq #[.int i tk, x] } := (sb.2 _ (Nat.ne_of_gt hel)).trans hT
    have new : ObjOk X.prog X.w (upd H s.heap.objs.size (.tup [.int (i : Nat), xs[i]])) h'' s.heap.objs.size (.tup [.int (i : Nat), xs[i]]) :=
      ⟨by show 2 ≤ sizeLine; decide, [.int i tk, x], .cons ⟨_, rfl⟩ (.cons ru .nil), ⟨_, hT2, rfl, _, rfl⟩⟩
    have I1 : Inv X pins σ (upd H s.heap.objs.size (.tup [.int (i : Nat), xs[i]])) { s with heap := h'', toks := tk + 1 } :=
      I.turnedNew (ch := [e, it]) (fun b ob hb q => (sb.2 b (fun z => hb (by simp [z]))).trans (hk b ob (fun z => hb (by simp [z])) (fun z => hb (by simp [z])) q)) hf (Nat.le_refl _) new
    refine ⟨.ref s.heap.objs.size, _, I1, rfl, ⟨_, xs[i], rfl, I.hok.fresh (Nat.le_refl _), rfl, List.getElem?_eq_getElem hx⟩, ⟨⟨x, ?_⟩, hst.1.at fun o q => (sb.2 it (Ne.symm hne)).trans q, hne, hai, hae⟩, fun b hb => ?_⟩
    · have e1 : ((i + 1 : Nat) : Int) = (i : Int) + 1 := by omega
      rw [e1]; exact he'
    · have hb' : b < s.heap.objs.size := by
        have e' : b = e ∨ b = it := by simpa using hb
        rcases e' with z | z
        · rw [z]; exact hel
        · rw [z]; exact hil
      rw [upd_ne (Nat.ne_of_lt hb')]
      exact (hf b hb).1
  done := by
    rintro X rfl rfl rfl hc i pins s σ H E I hf ⟨⟨old, he⟩, hit, hne, hai, hae⟩ ⟨hq, hx⟩
    obtain ⟨its, rv, p, hz⟩ := I.tuple (.inl (.inl hq))
    have hl := rv.length
    obtain ⟨f0, f1, f2, f3, f4, f5⟩ := hf it (by simp)
    refine enumT_end (I.ok.hd hc) he hit p (by simp; omega) fun h' eb => ⟨rfl, I.turned (t' := s.toks) (fun b o hb q => eb b o hb q) f0 f1 f3 f4 f5⟩
  self := fun A i s Q E st h => let ⟨⟨_, he⟩, _⟩ := st; wpAny_pyIter_enum he h
def iEnumT (ta : TA) : TI := fun σ H R => ta σ H fun vs H1 => ∃ a xs, vs = [.ref a] ∧ H1 a = some (.tup xs) ∧ R (IeT a xs) H1
theorem pi_enumT {X : Cx} {e : Expr} {ta : TA} {p pos tpos : Pos} {elts : List Expr} {kk : Nat} (hg : Gl X "enumerate") (hm : X.mg "enumerate" = none) (ha : PA X [e] ta) (hs : starEach [e] X.env = [(false, eval e X.env)] := by rfl) :
    PI X (.Tuple elts kk tpos) (.Call (.Name "enumerate" p) [e] [] pos) (iEnumT ta) := by
  refine ⟨fun pins s σ H R I h => ?_⟩
  refine Call_ (ld_blt I hg hm boot_enumerate (PyProof.Rows.callWith_type1 (thn (ha.run pos pins s σ H _ I h) fun us s1 ⟨vs, H1, I1, r1, q1⟩ => ?_) hs rfl))
  obtain ⟨a, xs, rfl, hq, q⟩ := q1
  obtain rfl := Vals.ref1 r1
  obtain ⟨its, rv, p', hz⟩ := I1.tuple (.inl (.inl hq))
  have la : a < s1.heap.objs.size := p'.lt
  refine enum1_begins (begins_tuple a its.toArray) p' fun h' he hit hsz hk => wpAny_pyIter_enum he ?_
  have I2 : Inv X pins σ H1 { s1 with heap := h' } := I1.kept (t' := s1.toks) hk
  refine ⟨s1.heap.objs.size + 1, [s1.heap.objs.size + 1, s1.heap.objs.size], _, _, H1, rfl, I2, turn_enumT a (s1.heap.objs.size + 1) s1.heap.objs.size xs, ⟨⟨.none, he⟩, ⟨_, hit, rfl, rfl⟩, Nat.succ_ne_self _, Nat.ne_of_lt la, Nat.ne_of_lt (Nat.lt_succ_of_lt la)⟩, fun b hb => ?_, q⟩
  have e' : b = s1.heap.objs.size + 1 ∨ b = s1.heap.objs.size := by simpa using hb
  have hle : s1.heap.objs.size ≤ b := by
    rcases e' with z | z
    · rw [z]; exact Nat.le_add_right _ _
    · rw [z]; exact Nat.le_refl _
  exact I1.fpOk hle (I1.hok.fresh hle)
theorem walk_enumT {a : Addr} {xs : List V} : Walk (IeT a xs) xs.length (fun H => H a = some (.tup xs)) (YPair (fun i => some (.int (i : Nat))) (fun i => xs[i]?)) := by
  refine ⟨fun i _ hi q => ⟨q, hi⟩, fun _ q => ⟨q, Nat.le_refl _⟩, fun i H v H' _ q y => ?_⟩
  obtain ⟨T, x, h1, h2, h3, h4⟩ := y
  exact ⟨T, .int (i : Nat), x, h1, h2, h3, rfl, h4⟩
end EfB
/-! text B8 -/
set_option Elab.async false
set_option linter.all false
set_option maxRecDepth 100000
set_option maxHeartbeats 3200000
namespace EfB
open PySem PySem.Spec PyProof.Rows L2 PySem.Calls
/-! ### sets of ints from a list or a tuple -/
section
variable {P : Program} {w : World} {A : Around} {E : Value → Shared → Prop} {s : Shared}
set_option maxRecDepth 100000 in
set_option maxHeartbeats 3200000 in
theorem call_set_lstI {l : Addr} {items : Array Value} (ns : List Int) {Q : Value → Shared → Prop} (hh : A.handled = none) (hl : s.heap.IsList l items) (hit : IntsAre items.toList ns) (hb : ns.length + 1 < scanBound)
    (h : ∀ (h' : Heap) (tk c : Nat), SetR w h' s.heap.objs.size (fun j => decide (j ∈ ns)) c → c ≤ ns.length → (∀ b o, s.heap.get? b = some o → h'.get? b = some o) → Q (.ref s.heap.objs.size) { s with heap := h', toks := tk }) :
    wpAny (model P w) A (call (.type "set") [.ref l]) Q E s := by
  have hisz : items.size = ns.length := by
    have q := IntsAre.length hit
    rw [Array.length_toList] at q
    exact q
  obtain ⟨c, tl, hmro⟩ := F.called_set.mro
  have hmade := F.called_set.made
  have hsub := F.called_set.sub
  refine wpAny_call (codeAny_of_tree ?_)
  show wpAny _ _ (callAny (.type "set") _) _ _ _
  refine wpAny_pure ⟨Code.quiet_builtin _ (by decide +kernel), codeAny_builtin F.entry_type_call ?_⟩
  rw [Around.under_plain (weight_type_call_type "set" [.ref l] []) rfl]
  have h1 := F.called_set.notType
  have h2 := F.called_set.canCreate
  have hct := F.typeCall_set_1 (.ref l)
  repeat (any_goals (first | assumption | wp_step))

  refine codeAny_mono (code_set_led1 (.ref l) (E := E) (Q₁ := fun obj s₁ => obj = .ref s.heap.objs.size ∧ s₁ = { s with heap := s.heap.push { cls := .type "set", dict := none, data := .set #[] 0 (.fresh 0 0 (!w.params.followText "set-order")) } }) ⟨rfl, rfl⟩) fun r s₁ hr => ?_
  cases r with
  | error e => exact hr
  | ok fl =>
    cases fl with
    | ret obj =>
      obtain ⟨rfl, rfl⟩ := hr
      have hS : (s.heap.push { cls := .type "set", dict := none, data := .set #[] 0 (.fresh 0 0 (!w.params.followText "set-order")) }).get? s.heap.objs.size = some { cls := .type "set", dict := none, data := .set #[] 0 (.fresh 0 0 (!w.params.followText "set-order")) } := Heap.get?_push_size _ rfl
      have hT : Shared.TypeIs { s with heap := s.heap.push { cls := .type "set", dict := none, data := .set #[] 0 (.fresh 0 0 (!w.params.followText "set-order")) } } (.ref s.heap.objs.size) "set" := ⟨_, hS, rfl⟩
      have hli := F.called_set.init.lookup
      have hbi := F.called_set.init.bind (.ref s.heap.objs.size)
      repeat (any_goals (first | assumption | wp_step))

      refine codeAny_mono (codeAny_call_builtin (R := wants (fun r s₂ => r = .none ∧ ∃ h' tk c, s₂ = { s with heap := h', toks := tk } ∧ SetR w h' s.heap.objs.size (fun j => decide (j ∈ ns)) c ∧ c ≤ ns.length ∧
          (∀ b o, s.heap.get? b = some o → h'.get? b = some o)) E) F.called_set.init.plain F.entry_set_init (check_set_init_1 hT ?_)) fun r₂ s₂ hr₂ => ?_
      · obtain ⟨ol, hol, hcl, nl, hdl⟩ := hl
        obtain ⟨ocls, odict, odata, oslots⟩ := ol
        simp only at hcl hdl
        subst hcl; subst hdl
        have hol' : (s.heap.push { cls := .type "set", dict := none, data := .set #[] 0 (.fresh 0 0 (!w.params.followText "set-order")) }).get? l = some { cls := .type "list", dict := odict, data := .seq items nl, slots := oslots } := Heap.get?_push_of_some _ hol
        have hsls := F.sub_list_set
        have hslf := F.sub_list_frozenset
        have hne : (Value.type "list" == Value.type "dict") = false := by decide
        have hl1 : (s.heap.push { cls := .type "set", dict := none, data := .set #[] 0 (.fresh 0 0 (!w.params.followText "set-order")) }).IsList l items := ⟨_, hol', rfl, nl, rfl⟩
        unfold Builtin.«set.__init__» noKeywords Builtin.Frozenset.updateFrom
        generalize hPI : pyIter = PI
        wp_walk
        subst hPI

        refine wpAny_pyIter_list hl1 ?_
        refine wpAny_bind (wpAny_runValue ?_)
        have hlS : l < s.heap.objs.size := Heap.lt_size hol
        have hh3 : A.in1.in1.in1.handled = none := by simp [hh]
        have hz1 : (s.heap.push { cls := .type "set", dict := none, data := .set #[] 0 (.fresh 0 0 (!w.params.followText "set-order")) }).objs.size = s.heap.objs.size + 1 := Heap.size_push ..
        have hneI : l ≠ (s.heap.push { cls := .type "set", dict := none, data := .set #[] 0 (.fresh 0 0 (!w.params.followText "set-order")) }).objs.size := by
          rw [Heap.size_push]; exact Nat.ne_of_lt (Nat.lt_succ_of_lt hlS)
        have hSf : s.heap.objs.size ∉ [(s.heap.push { cls := .type "set", dict := none, data := .set #[] 0 (.fresh 0 0 (!w.params.followText "set-order")) }).objs.size, l] := by
          rw [Heap.size_push]; simp only [List.mem_cons, List.mem_singleton, List.not_mem_nil, or_false, not_or]
          exact ⟨Nat.ne_of_lt (Nat.lt_succ_self _), Nat.ne_of_gt hlS⟩
        have hval : ∀ (i : Nat) (v : Value), items[i]? = some v → ∃ k t, ns[i]? = some k ∧ v = .int k t := fun i v hv => by
          have hi : i < ns.length := by rw [← hisz]; exact (Array.getElem?_eq_some_iff.mp hv).1
          obtain ⟨t, e⟩ := PyProof.Rows.IntsAre.int_at hit i v (by rw [Array.getElem?_toList]; exact hv)
          refine ⟨ns[i], t, List.getElem?_eq_getElem hi, ?_⟩
          rw [e, List.getD_eq_getElem?_getD, List.getElem?_eq_getElem hi] <;> rfl
        refine set_update_ints ((Walks.list hh3 _ l hneI items).toS) s.heap.objs.size
          hSf ns hisz hb hval (items.size - 0) 0 _ (by omega) (Nat.zero_le _)
          ⟨⟨_, Heap.get?_push_size _ rfl, rfl, rfl⟩, (hl1.push _)⟩ ?hS0 ?hR
        case hS0 =>
          have hget : ((s.heap.push { cls := .type "set", dict := none, data := .set #[] 0 (.fresh 0 0 (!w.params.followText "set-order")) }).push { cls := .type "list_iterator", data := .fields #[.ref l, .int 0 0] }).get? s.heap.objs.size
              = some { cls := .type "set", dict := none, data := .set #[] 0 (.fresh 0 0 (!w.params.followText "set-order")) } := Heap.get?_push_of_some _ hS
          exact ⟨0, Nat.le_refl 0, setR_new_at hget⟩
        case hR =>
          intro s' c' hm hc' hS'
          obtain ⟨h', g2, d', tk', os'⟩ := s'
          have eg : g2 = s.gens := hm.gens
          have ed : d' = s.drawn := hm.drawn
          have eo : os' = s.os := hm.os
          subst eg; subst ed; subst eo
          show wpAny _ _ _ _ _ _
          refine wpAny_pure ?_
          show wpAny _ _ (ret Value.none) _ _ _
          rw [hisz] at hc'
          refine wpAny_pure ⟨rfl, h', tk', c', rfl, hS', hc', fun b o e => ?_⟩
          have hb0 : b < s.heap.objs.size := Heap.lt_size e
          have hb1 : b ≠ s.heap.objs.size := Nat.ne_of_lt hb0
          have hb2 : b ≠ (s.heap.push { cls := .type "set", dict := none, data := .set #[] 0 (.fresh 0 0 (!w.params.followText "set-order")) }).objs.size := by
            rw [Heap.size_push]; exact Nat.ne_of_lt (Nat.lt_succ_of_lt hb0)
          exact hm.heap b o (by simp only [List.mem_cons, List.mem_singleton, List.not_mem_nil, or_false, not_or]; exact ⟨hb1, hb2⟩) (Heap.get?_push_of_some _ (Heap.get?_push_of_some _ e))

      · cases r₂ with
        | error e => exact hr₂
        | ok fl₂ =>
          cases fl₂ with
          | ret r =>
            obtain ⟨rfl, h', tk, c', rfl, hS', hc', hk'⟩ := hr₂
            repeat (any_goals (first | assumption | wp_step))
            exact h _ _ _ hS' hc' hk'
          | _ => exact hr₂.elim
    | _ => exact hr.elim

end
def rSetI (K : PySem.W.Frag) (w : World) : List V → Hp → VK → Prop := fun vs H Q => ∃ (a : Addr) (ns : List Int), vs = [V.ref a] ∧ (SqL K H a (ns.map V.int) ∨ SqT K H a (ns.map V.int)) ∧ ns.length < 4000 ∧
  ∀ (p : Addr) (S : Int → Bool) (n : Nat), (∀ k, S k = true ↔ k ∈ ns) → n ≤ ns.length → H p = none → Q (.ref p) (upd H p (SetO w p S n))
section
variable {X : Cx}
theorem cr_setI (hc : X.calm = true) : CallR X (.type "set") (rSetI X.K X.w) := by
  intro pins s σ H vs us Q I r h
  obtain ⟨a, ns, rfl, hs, hb, q⟩ := h
  rw [Vals.ref1 r]
  have hb2 : ns.length + 1 < scanBound := by unfold scanBound; omega
  have fin : ∀ (h' : Heap) (tk c : Nat), SetR X.w h' s.heap.objs.size (fun j => decide (j ∈ ns)) c → c ≤ ns.length → (∀ b o, s.heap.get? b = some o → h'.get? b = some o) → EP X pins σ Q (.ref s.heap.objs.size) { s with heap := h', toks := tk } := fun h' tk c R hc' k =>
    ⟨.ref s.heap.objs.size, _, I.laid (t' := tk) k (Nat.le_refl _) (setO_new R), rfl, q _ _ _ (fun k => by simp) hc' (I.hok.fresh (Nat.le_refl _))⟩
  rcases hs with hs | hs
  · obtain ⟨its, rv, pl, _⟩ := I.list hs
    exact call_set_lstI ns (I.ok.hd hc) pl.isList (by simpa using rv.ints) hb2 fin
  · obtain ⟨its, rv, pl, _⟩ := I.tuple hs
    exact call_set_tupI ns (I.ok.hd hc) pl (by simpa using rv.ints) hb2 fin
end
end EfB
/-! text B9 -/
set_option Elab.async false
set_option linter.all false
set_option maxRecDepth 100000
set_option maxHeartbeats 3200000
namespace EfB
open PySem PySem.Spec PyProof.Rows L2 PySem.Calls
/-! ### xs == [] -/
section
open PySem.SeqAt
open AutoSeq1 (wpAny_loadPart')
open MeetsSeq MeetsSeq2 MeetsSeq3 SeqRoads2
theorem list_neLen (l b : Addr) (items items2 : Array Value) (n n2 : Nat) (dd dd2 : Option Addr) (sl sl2 : Array (Option Value)) (hsz : items.size ≠ items2.size) :
    Meets (Builtin.«list.__eq__» ⟨[.ref l, .ref b], []⟩)
      (fun _ R s => s.heap.get? l = some { cls := .type "list", dict := dd, data := .seq items n, slots := sl } ∧ s.heap.get? b = some { cls := .type "list", dict := dd2, data := .seq items2 n2, slots := sl2 } ∧
        R (.ok (.ret (.bool false))) s) :=
  .of_wp fun prog w A R s h => by
    obtain ⟨hp, g, d, tk, os⟩ := s; obtain ⟨hl, hb, h⟩ := h
    have f3 := AutoSeq1.sub_list_list
    have hne : (items.size != items2.size) = true := by simp [hsz]
    wp_walk using wpAny_loadPart' hl, wpAny_loadPart' hb
    exact ⟨_, rfl, h⟩
theorem rc_neLen {prog : Program} {w : World} {A : Around} {E : Value → Shared → Prop} {s : Shared} {l b : Addr} {items items2 : Array Value} {Q : Value → Shared → Prop} (hl : s.heap.IsList l items) (hb : s.heap.IsList b items2) (hsz : items.size ≠ items2.size) (hu : A.units < cLine)
    (h : Q (.bool false) s) : wpAny (model prog w) A (richCompare .Eq (.ref l) (.ref b)) Q E s := by
  obtain ⟨⟨cls, dd, data, sl⟩, ho, hc, n, hd⟩ := id hl
  obtain ⟨⟨cls2, dd2, data2, sl2⟩, ho2, hc2, n2, hd2⟩ := id hb
  simp only at hc hd hc2 hd2
  subst hc hd hc2 hd2
  exact richCompare_meets_room (op := .Eq) ⟨_, ho, rfl⟩ ⟨_, ho2, rfl⟩ F.slot_list_eq F.entry_list_eq (F.args_list_eq_2 _ _) (list_neLen l b items items2 n n2 dd dd2 sl sl2 hsz)
    ⟨ho, ho2, show Value.bool false ≠ Value.notImplemented ∧ Q (.bool false) s from ⟨(fun x => nomatch x), h⟩⟩ hu
end
section
variable {X : Cx}
def rEmpty (K : PySem.W.Frag) : R2 := fun x y H Q => ∃ (a b : Addr) (xs : List V), x = .ref a ∧ y = .ref b ∧ SqL K H a xs ∧ SqL K H b [] ∧ Q (.bl xs.isEmpty) H
theorem op_eqNil (hu : X.A.units < cLine) : OpR X (compareOp .Eq) (rEmpty X.K) := by
  intro pins s σ H x y v u Q I rx ry h
  obtain ⟨a, b, xs, rfl, rfl, ha, hb, q⟩ := h
  cases (show v = Value.ref a from rx)
  cases (show u = Value.ref b from ry)
  obtain ⟨its, rv, pl, _⟩ := I.list ha
  obtain ⟨its2, rv2, pl2, _⟩ := I.list hb
  cases rv2
  show wpAny _ _ (richCompare .Eq (.ref a) (.ref b)) _ _ s
  cases rv with
  | nil =>
    refine PySem.SeqAt.rcP_lists (e := fun _ => true) pl.isList pl2.isList rfl hu (fun j h1 h2 => absurd h1 (by simp)) _ _ ?_
    exact ⟨.bl true, H, I, rfl, q⟩
  | cons r rr =>
    refine rc_neLen pl.isList pl2.isList (by simp) hu ?_
    exact ⟨.bl false, H, I, rfl, q⟩
end
/-! ### dict(zip(names, values)) -/
def tDictZip (K : PySem.W.Frag) (t : TA) : TE := fun σ H Q => t σ H fun vs H1 => ∃ (a b : Addr) (xs : List Str) (ys : List V), vs = [.ref a, .ref b] ∧ SqL K H1 a (xs.map V.str) ∧ SqL K H1 b ys ∧ xs.length = ys.length ∧
  ∀ p, H1 p = none → Q (.ref p) (upd H1 p (.dK (mergeK [] ((xs.map Sum.inr).zip ys))))
theorem zip_kv {xs : List Str} {ys : List V} {us : List Value} (r : Vals ys us) (h : xs.length = ys.length) : KV ((xs.map (Sum.inr (α := Int))).zip ys) ((xs.map (Sum.inr (α := Int))).zip us) := by
  induction r generalizing xs with
  | nil => rw [List.zip_nil_right, List.zip_nil_right]; exact .nil
  | cons a t ih =>
    cases xs with
    | nil => cases h
    | cons x xs => exact .cons ⟨rfl, a⟩ (ih (Nat.succ.inj h))
section
variable {X : Cx}
theorem pe_dictZip {e e2 : Expr} {t : TA} {p p2 pos pos2 : Pos} (hc : X.calm = true) (hg : Gl X "dict") (hm : X.mg "dict" = none) (hv : bootBuiltins "dict" = some (.type "dict")) (hg2 : Gl X "zip") (hm2 : X.mg "zip" = none) (ha : PA X [e, e2] t)
    (hs : starEach [e, e2] X.env = (false, eval e X.env) :: starEach [e2] X.env := by rfl) (hpl : (backTo pos2 (starEach [e2] X.env)).any (·.1) = false := by rfl)
    (na : starEach [.Call (.Name "zip" p2) [e, e2] [] pos2] X.env = (false, eval (.Call (.Name "zip" p2) [e, e2] [] pos2) X.env) :: starEach [] X.env := by rfl) :
    PE X (.Call (.Name "dict" p) [.Call (.Name "zip" p2) [e, e2] [] pos2] [] pos) (tDictZip X.K t) := by
  refine ⟨fun pins s σ H Q I h => ?_⟩
  refine Call_ (ld_blt I hg hm hv ?_)
  refine PyProof.Rows.callWith_type1 (PyProof.Rows.args_cons ?_ na) na rfl
  refine Call_ (ld_blt I hg2 hm2 PyProof.Rows.boot_zip (PyProof.Rows.callWith_type1 (thn (ha.run pos2 pins s σ H _ I h) fun us s1 ⟨vs, H1, I1, r1, q1⟩ => ?_) hs hpl))
  obtain ⟨a, b, xs, ys, rfl, hqx, hqy, hlen, q⟩ := q1
  obtain ⟨u1, u2, rfl, ra, rb⟩ := r1.two
  cases (show u1 = Value.ref a from ra)
  cases (show u2 = Value.ref b from rb)
  obtain ⟨its, rv, p1, hz1⟩ := I1.list hqx
  obtain ⟨its2, rv2, p2', hz2⟩ := I1.list hqy
  have la : a < s1.heap.objs.size := p1.lt
  have lb : b < s1.heap.objs.size := p2'.lt
  have hl1 : its.length = xs.length := by rw [← rv.length, List.length_map]
  have hl2 : its2.length = ys.length := rv2.length.symm
  refine call_zip_2 p1.isList p2'.isList fun h' hz hTI hTO h1 h2 hsz hk => PyProof.Rows.args_nil ?_
  have D : ZipApart (s1.heap.objs.size + 4) (s1.heap.objs.size + 2) (s1.heap.objs.size + 3) s1.heap.objs.size (s1.heap.objs.size + 1) a b := PySem.W.ktu_apart _ _ _ la lb
  have I2 : Inv X pins σ H1 { s1 with heap := h' } := I1.kept (t' := s1.toks) hk
  have rk := zip_kv (xs := xs) rv2 hlen
  refine PySem.call_dict_pairs (knd := mixKind X.prog X.w) (kvs := (xs.map Sum.inr).zip its2) (PairArg.zip _ _ _ _ _ a b D its.toArray its2.toArray) (I1.ok.hd hc) ⟨hz, hTI, ⟨_, _, hTO⟩, h1, h2, p1.isList.at fun o z => hk a o z, p2'.isList.at fun o z => hk b o z⟩ ⟨?_, ?_⟩ ?_ fun h'' tk hd' hk' => ?_
  · rw [List.length_zip, List.length_map, List.size_toArray, List.size_toArray, hl1, hl2]
  · rintro i key v ⟨e1, e2⟩
    have e1' : its[i]? = some key := by simpa using e1
    have e2' : its2[i]? = some v := by simpa using e2
    have hi : i < xs.length := by rw [← hl1]; exact (List.getElem?_eq_some_iff.mp e1').1
    refine ⟨.inr xs[i], ?_, ?_⟩
    · rw [List.getElem?_zip_eq_some]
      exact ⟨by rw [List.getElem?_map, List.getElem?_eq_getElem hi] <;> rfl, e2'⟩
    · obtain ⟨u, hu, ru⟩ := rv.get (i := i) (x := V.str xs[i]) (by rw [List.getElem?_map, List.getElem?_eq_getElem hi] <;> rfl)
      rw [e1'] at hu
      cases hu
      exact kV_is (P := X.prog) (w := X.w) (k := .inr xs[i]) ru
  · rw [List.size_toArray, List.size_toArray, hl1]
    have := hz1
    rw [List.length_map] at this
    omega
  · have hsz' : s1.heap.objs.size ≤ h'.objs.size := by rw [hsz]; exact Nat.le_add_right _ _
    have keep : ∀ c o, s1.heap.get? c = some o → h''.get? c = some o := fun c o z => by
      have hlt := Heap.lt_size z
      refine hk' c o (fun m => ?_) (hk c o z)
      have e' : c = s1.heap.objs.size + 4 ∨ c = s1.heap.objs.size + 3 ∨ c = s1.heap.objs.size ∨ c = s1.heap.objs.size + 1 := by simpa using m
      have hlt' : c < s1.heap.objs.size := hlt
      rcases e' with z | z | z | z
      · rw [z] at hlt'; exact absurd hlt' (Nat.not_lt.mpr (Nat.le_add_right _ _))
      · rw [z] at hlt'; exact absurd hlt' (Nat.not_lt.mpr (Nat.le_add_right _ _))
      · rw [z] at hlt'; exact absurd hlt' (Nat.lt_irrefl _)
      · rw [z] at hlt'; exact absurd hlt' (Nat.not_lt.mpr (Nat.le_add_right _ _))
    have hm' : (h'.objs.size == sysModules) = false := beq_eq_false_iff_ne.mpr (Nat.ne_of_gt (Nat.lt_of_lt_of_le I1.big hsz'))
    have hle : (mergeK [] ((xs.map (Sum.inr (α := Int))).zip ys)).length ≤ sizeLine := by
      refine Nat.le_trans (length_mergeK _ []) ?_
      rw [List.length_nil, List.length_zip, List.length_map]
      omega
    exact ⟨.ref h'.objs.size, upd H1 h'.objs.size (.dK (mergeK [] ((xs.map Sum.inr).zip ys))), I1.laid (t' := tk) keep hsz' (show ObjOk X.prog X.w _ _ _ (.dK (mergeK [] ((xs.map Sum.inr).zip ys))) from ⟨hle, hm', merged [] ((xs.map Sum.inr).zip its2), KV.merge rk .nil, hd'⟩), rfl, q _ (I1.hok.fresh hsz')⟩
end
end EfB
/-! text B10 -/
set_option Elab.async false
set_option linter.all false
set_option maxRecDepth 100000
namespace EfB
open PySem PySem.Spec PyProof.Rows L2
/-! the rules whose readings name the written part: K told apart from the context (within a comprehension the context is another) -/
section
variable {X : Cx} {K : PySem.W.Frag} {e : Expr} {f : Str} {pos : Pos} {ta : TE}
theorem pe_fldK (hK : X.K = K) (he : PE X e ta) (hb : attributeBase e f X.env (eval e X.env) = eval e X.env) : PE X (.Attribute e f pos) (tFld K ta f) := by
  subst hK
  exact pe_fld he hb
theorem pg_tupK {es : List Expr} {k : Nat} {t : TGs} {n : Nat} (hK : X.K = K) (hc : X.calm = true) (h : PGs X es t) (hn : (assignEach es X.env).length = n := by rfl) (hst : (assignEach es X.env).findIdx? (·.1) = none := by rfl) : PG X (.Tuple es k pos) (gTup K n t) := by
  subst hK
  exact pg_tup hc h hn hst
def rLenK (K : PySem.W.Frag) : List V → Hp → VK → Prop := fun xs H Q => ∃ x n, xs = [x] ∧ LenV K x H n ∧ Q (.int n) H
theorem call_lenK (hK : X.K = K) : CallR X (.builtin "len") (rLenK K) := by
  subst hK
  exact call_len
def rTupK (K : PySem.W.Frag) : List V → Hp → VK → Prop := fun xs H Q => ∃ p ys, xs = [.ref p] ∧ ((SqL K H p ys ∧ ∀ l, H l = none → Q (.ref l) (upd H l (.tup ys))) ∨ (SqT K H p ys ∧ Q (.ref p) H))
theorem call_tupK (hK : X.K = K) : CallR X (.type "tuple") (rTupK K) := by
  subst hK
  exact call_tuple_of
def rLstK (K : PySem.W.Frag) : List V → Hp → VK → Prop := fun xs H Q => ∃ p ys, xs = [.ref p] ∧ (SqL K H p ys ∨ SqT K H p ys) ∧ ∀ l, H l = none → Q (.ref l) (upd H l (.lst ys))
theorem call_lstK (hK : X.K = K) : CallR X (.type "list") (rLstK K) := by
  subst hK
  exact call_list_of
theorem ix_listK (hK : X.K = K) : IxR X (rIxL K) := by
  subst hK
  exact ix_list
theorem ix_tupK (hK : X.K = K) : IxR X (rIxT K) := by
  subst hK
  exact ix_tup
theorem op_inK (hK : X.K = K) : OpR X (compareOp .In) (L2.rIn K false) := by
  subst hK
  exact op_in_seq
theorem op_notInK (hK : X.K = K) : OpR X (compareOp .NotIn) (L2.rIn K true) := by
  subst hK
  exact op_notIn_seq
theorem sl_listK (hK : X.K = K) : SlR X (rSlL K) := by
  subst hK
  exact sl_list
theorem pi_listK {tg l : Expr} {tl : TE} (hK : X.K = K) (hl : PE X l tl) : PI X tg l (iList K tl) := by
  subst hK
  exact pi_list hl
theorem pi_tupK {tg l : Expr} {tl : TE} (hK : X.K = K) (hl : PE X l tl) : PI X tg l (iTup K tl) := by
  subst hK
  exact pi_tup hl
theorem pi_zipK {e e2 : Expr} {ta : TA} {p pos tpos : Pos} {elts : List Expr} {kk : Nat} (hK : X.K = K) (hg : Gl X "zip") (hm : X.mg "zip" = none) (ha : PA X [e, e2] ta)
    (hs : starEach [e, e2] X.env = (false, eval e X.env) :: starEach [e2] X.env := by rfl) (hpl : (backTo pos (starEach [e2] X.env)).any (·.1) = false := by rfl) :
    PI X (.Tuple elts kk tpos) (.Call (.Name "zip" p) [e, e2] [] pos) (iZip K ta) := by
  subst hK
  exact pi_zip hg hm ha hs hpl
end
end EfB
/-! text C0 -/
set_option Elab.async false
set_option linter.all false
set_option maxRecDepth 100000
set_option maxHeartbeats 2000000
namespace Ef
open PySem PySem.Spec PyProof.Rows L2
def top (i : Nat) : Stmt := PySem.Challenge.pw_everyfield_k03_whole_unknowns_and_matric.main.body.getD i (.Pass ⟨0, 0, 0, 0⟩)
abbrev s_common : Stmt := top 11
abbrev s_prime_divisors : Stmt := top 12
abbrev s_is_prime : Stmt := top 13
abbrev s_checked : Stmt := top 14
abbrev s_is_zero : Stmt := top 15
abbrev s_shared : Stmt := top 21
abbrev s_gathered : Stmt := top 23
abbrev s_product_terms : Stmt := top 25
abbrev s_determinant_of : Stmt := top 29
abbrev s_added_row : Stmt := top 34
abbrev s_added_column : Stmt := top 35
abbrev s_exchanged_columns : Stmt := top 36
abbrev s_diagonal : Stmt := top 38
abbrev s_divisors : Stmt := top 39
abbrev s_count_units : Stmt := top 41
abbrev s_rank : Stmt := top 42
abbrev s_invertible : Stmt := top 43
abbrev s_law_pool : Stmt := top 45
abbrev s_law_take : Stmt := top 46
abbrev s_law_cell : Stmt := top 47
abbrev s_law_is_prime : Stmt := top 48
abbrev s_law_next_prime : Stmt := top 49
abbrev s_law_item : Stmt := top 50
abbrev s_law_determinant : Stmt := top 51
abbrev s_law_values : Stmt := top 52
abbrev s_law_choices : Stmt := top 53
abbrev s_law : Stmt := top 54
abbrev s_Chars_init : Stmt := inClass (top 20) 0
abbrev s_Chars_every : Stmt := inClass (top 20) 1
abbrev s_Chars_zero_of : Stmt := inClass (top 20) 5
abbrev s_Chars_unit_of : Stmt := inClass (top 20) 6
abbrev s_Chars_contains : Stmt := inClass (top 20) 8
abbrev s_Chars_invert : Stmt := inClass (top 20) 9
abbrev s_Chars_and : Stmt := inClass (top 20) 10
abbrev s_Chars_eq : Stmt := inClass (top 20) 13
abbrev s_Chars_bool : Stmt := inClass (top 20) 14
abbrev s_Many_init : Stmt := inClass (top 24) 0
abbrev s_Many_number : Stmt := inClass (top 24) 1
abbrev s_Many_unknown : Stmt := inClass (top 24) 2
abbrev s_Many_add : Stmt := inClass (top 24) 3
abbrev s_Many_neg : Stmt := inClass (top 24) 4
abbrev s_Many_sub : Stmt := inClass (top 24) 5
abbrev s_Many_mul : Stmt := inClass (top 24) 6
abbrev s_Many_names : Stmt := inClass (top 24) 9
abbrev s_Many_degree : Stmt := inClass (top 24) 10
abbrev s_Many_content : Stmt := inClass (top 24) 11
abbrev s_Many_vanishing : Stmt := inClass (top 24) 12
abbrev s_Many_put : Stmt := inClass (top 24) 13
abbrev s_Many_value : Stmt := inClass (top 24) 14
abbrev s_Matrix_init : Stmt := inClass (top 30) 0
abbrev s_Matrix_unit : Stmt := inClass (top 30) 1
abbrev s_Matrix_diagonal : Stmt := inClass (top 30) 2
abbrev s_Matrix_determinant : Stmt := inClass (top 30) 15
abbrev s_Work_init : Stmt := inClass (top 37) 0
abbrev s_Work_least_place : Stmt := inClass (top 37) 1
abbrev s_Work_bring : Stmt := inClass (top 37) 2
abbrev s_Work_clear : Stmt := inClass (top 37) 3
abbrev s_Work_spread : Stmt := inClass (top 37) 4
abbrev s_Work_turn_sign : Stmt := inClass (top 37) 5
/-! ### facts of the written part, each one a test -/
abbrev ga (K : PySem.W.Frag) (x : Str) : Addr := He.ga K x
abbrev ma (K : PySem.W.Frag) (c m : Str) : Addr := He.ma K (He.ga K c) m
abbrev wa (K : PySem.W.Frag) (c m : Str) : Addr := He5.wf K (He.ga K c) "classmethod" m
def kiB (K : PySem.W.Frag) (c : Str) : Bool := (He.Fa.cls c).ok K && (He.eqO (PySem.W.findIn K (.ref (ga K c)) "__class__") (some (some (.builtin "object.__class__"))) && (He.eqO (PySem.W.specialIn K (.builtin "object.__class__") "__get__") (some (some (.builtin "getset_descriptor.__get__"))) &&
  (decide (PySem.W.takesIn K (.builtin "object.__class__") = some true) && (decide (PySem.W.mroIn K (ga K c) (.type "object") = some true) && decide (PySem.W.kitOne K (.ref (ga K c)) (.ref (ga K c)) = some true)))))
theorem ki_ok {K : PySem.W.Frag} {c : Str} (h : kiB K c = true) : C8.InsC K (ga K c) := by
  obtain ⟨h1, h⟩ := He.ba h
  obtain ⟨h2, h⟩ := He.ba h
  obtain ⟨h3, h⟩ := He.ba h
  obtain ⟨h4, h⟩ := He.ba h
  obtain ⟨h5, h6⟩ := He.ba h
  exact ⟨He.cls_ok h1, He.eqO_ok h2, He.eqO_ok h3, of_decide_eq_true h4, of_decide_eq_true h5, of_decide_eq_true h6⟩
theorem rd_ok {K : PySem.W.Frag} {C : Addr} (h : PySem.W.readsIn K C (.type "type") = true) : ClX.CRead K C (.type "type") := by
  refine ⟨h, ?_⟩
  unfold PySem.W.readsIn at h
  obtain ⟨h, _⟩ := He.ba h
  obtain ⟨h, _⟩ := He.ba h
  obtain ⟨h, h3⟩ := He.ba h
  obtain ⟨_, h2⟩ := He.ba h
  unfold PySem.W.specialIn
  rw [beq_iff_eq.mp h2, Option.bind_some]
  exact beq_iff_eq.mp h3
def cmB (K : PySem.W.Frag) (c m : Str) : Bool := He5.wrapB K (ga K c) "classmethod" "classmethod.__get__" m && PySem.W.fnIn K (wa K c m)
theorem cm_ok {K : PySem.W.Frag} {c m : Str} (h : cmB K c m = true) : ClX.CMet K (ga K c) (.type "type") m (ma K c m) (wa K c m) := He5.cmet_of (He.ba h).1 (He.ba h).2
def fa : List (PySem.W.Frag → Bool) := [fun K => (He.Fa.glo "common").ok K,
  fun K => (He.Fa.glo "prime_divisors").ok K,
  fun K => (He.Fa.glo "is_prime").ok K,
  fun K => (He.Fa.glo "checked").ok K,
  fun K => (He.Fa.glo "is_zero").ok K,
  fun K => (He.Fa.glo "shared").ok K,
  fun K => (He.Fa.glo "gathered").ok K,
  fun K => (He.Fa.glo "product_terms").ok K,
  fun K => (He.Fa.glo "determinant_of").ok K,
  fun K => (He.Fa.glo "added_row").ok K,
  fun K => (He.Fa.glo "added_column").ok K,
  fun K => (He.Fa.glo "exchanged_columns").ok K,
  fun K => (He.Fa.glo "diagonal").ok K,
  fun K => (He.Fa.glo "divisors").ok K,
  fun K => (He.Fa.glo "count_units").ok K,
  fun K => (He.Fa.glo "rank").ok K,
  fun K => (He.Fa.glo "invertible").ok K,
  fun K => (He.Fa.glo "_law_pool").ok K,
  fun K => (He.Fa.glo "_law_take").ok K,
  fun K => (He.Fa.glo "_law_cell").ok K,
  fun K => (He.Fa.glo "_law_is_prime").ok K,
  fun K => (He.Fa.glo "_law_next_prime").ok K,
  fun K => (He.Fa.glo "_law_item").ok K,
  fun K => (He.Fa.glo "_law_determinant").ok K,
  fun K => (He.Fa.glo "_law_values").ok K,
  fun K => (He.Fa.glo "_law_choices").ok K,
  fun K => (He.Fa.glo "law").ok K,
  fun K => (He.Fa.glo "Chars").ok K,
  fun K => (He.Fa.glo "Many").ok K,
  fun K => (He.Fa.glo "Matrix").ok K,
  fun K => (He.Fa.glo "Work").ok K,
  fun K => (He.Fa.free "abs").ok K,
  fun K => (He.Fa.free "len").ok K,
  fun K => (He.Fa.free "sorted").ok K,
  fun K => (He.Fa.free "set").ok K,
  fun K => (He.Fa.free "tuple").ok K,
  fun K => (He.Fa.free "list").ok K,
  fun K => (He.Fa.free "dict").ok K,
  fun K => (He.Fa.free "zip").ok K,
  fun K => (He.Fa.free "enumerate").ok K,
  fun K => (He.Fa.free "range").ok K,
  fun K => (He.Fa.free "min").ok K,
  fun K => (He.Fa.free "max").ok K,
  fun K => (He.Fa.free "isinstance").ok K,
  fun K => (He.Fa.free "bool").ok K,
  fun K => (He.Fa.free "int").ok K,
  fun K => (He.Fa.free "any").ok K,
  fun K => (He.Fa.cls "Chars").ok K,
  fun K => (He.Fa.mkr "Chars").ok K,
  fun K => (He.Fa.noat "Chars" "endless").ok K,
  fun K => (He.Fa.noat "Chars" "primes").ok K,
  fun K => cmB K "Chars" "every",
  fun K => cmB K "Chars" "zero_of",
  fun K => cmB K "Chars" "unit_of",
  fun K => (He.Fa.meth "Chars" "__contains__").ok K,
  fun K => (He.Fa.meth "Chars" "__invert__").ok K,
  fun K => (He.Fa.meth "Chars" "__and__").ok K,
  fun K => (He.Fa.meth "Chars" "__eq__").ok K,
  fun K => (He.Fa.meth "Chars" "__bool__").ok K,
  fun K => (He.Fa.cls "Many").ok K,
  fun K => (He.Fa.mkr "Many").ok K,
  fun K => (He.Fa.noat "Many" "terms").ok K,
  fun K => cmB K "Many" "number",
  fun K => cmB K "Many" "unknown",
  fun K => (He.Fa.meth "Many" "__add__").ok K,
  fun K => (He.Fa.meth "Many" "__neg__").ok K,
  fun K => (He.Fa.meth "Many" "__sub__").ok K,
  fun K => (He.Fa.meth "Many" "__mul__").ok K,
  fun K => (He.Fa.meth "Many" "names").ok K,
  fun K => (He.Fa.meth "Many" "degree").ok K,
  fun K => (He.Fa.meth "Many" "content").ok K,
  fun K => (He.Fa.meth "Many" "vanishing").ok K,
  fun K => (He.Fa.meth "Many" "put").ok K,
  fun K => (He.Fa.meth "Many" "value").ok K,
  fun K => (He.Fa.cls "Matrix").ok K,
  fun K => (He.Fa.mkr "Matrix").ok K,
  fun K => (He.Fa.noat "Matrix" "rows").ok K,
  fun K => (He.Fa.noat "Matrix" "height").ok K,
  fun K => (He.Fa.noat "Matrix" "width").ok K,
  fun K => cmB K "Matrix" "unit",
  fun K => cmB K "Matrix" "diagonal",
  fun K => (He.Fa.meth "Matrix" "determinant").ok K,
  fun K => (He.Fa.cls "Work").ok K,
  fun K => (He.Fa.mkr "Work").ok K,
  fun K => (He.Fa.noat "Work" "first").ok K,
  fun K => (He.Fa.noat "Work" "middle").ok K,
  fun K => (He.Fa.noat "Work" "last").ok K,
  fun K => (He.Fa.meth "Work" "least_place").ok K,
  fun K => (He.Fa.meth "Work" "bring").ok K,
  fun K => (He.Fa.meth "Work" "clear").ok K,
  fun K => (He.Fa.meth "Work" "spread").ok K,
  fun K => (He.Fa.meth "Work" "turn_sign").ok K,
  fun K => PySem.W.readsIn K (ga K "Chars") (.type "type"),
  fun K => PySem.W.readsIn K (ga K "Many") (.type "type"),
  fun K => PySem.W.readsIn K (ga K "Matrix") (.type "type"),
  fun K => PySem.W.selfFirst K (ga K "Chars"),
  fun K => PySem.W.selfFirst K (ga K "Many"),
  fun K => kiB K "Chars"]
def fn : List He5.DefA := [⟨fun K => ga K "common", "common", "common", defArgs s_common, defBody s_common, defScope s_common, [], []⟩,
  ⟨fun K => ga K "prime_divisors", "prime_divisors", "prime_divisors", defArgs s_prime_divisors, defBody s_prime_divisors, defScope s_prime_divisors, [], []⟩,
  ⟨fun K => ga K "is_prime", "is_prime", "is_prime", defArgs s_is_prime, defBody s_is_prime, defScope s_is_prime, [], []⟩,
  ⟨fun K => ga K "checked", "checked", "checked", defArgs s_checked, defBody s_checked, defScope s_checked, [], []⟩,
  ⟨fun K => ga K "is_zero", "is_zero", "is_zero", defArgs s_is_zero, defBody s_is_zero, defScope s_is_zero, [], []⟩,
  ⟨fun K => ga K "shared", "shared", "shared", defArgs s_shared, defBody s_shared, defScope s_shared, [], []⟩,
  ⟨fun K => ga K "gathered", "gathered", "gathered", defArgs s_gathered, defBody s_gathered, defScope s_gathered, [], []⟩,
  ⟨fun K => ga K "product_terms", "product_terms", "product_terms", defArgs s_product_terms, defBody s_product_terms, defScope s_product_terms, [], []⟩,
  ⟨fun K => ga K "determinant_of", "determinant_of", "determinant_of", defArgs s_determinant_of, defBody s_determinant_of, defScope s_determinant_of, [], []⟩,
  ⟨fun K => ga K "added_row", "added_row", "added_row", defArgs s_added_row, defBody s_added_row, defScope s_added_row, [], []⟩,
  ⟨fun K => ga K "added_column", "added_column", "added_column", defArgs s_added_column, defBody s_added_column, defScope s_added_column, [], []⟩,
  ⟨fun K => ga K "exchanged_columns", "exchanged_columns", "exchanged_columns", defArgs s_exchanged_columns, defBody s_exchanged_columns, defScope s_exchanged_columns, [], []⟩,
  ⟨fun K => ga K "diagonal", "diagonal", "diagonal", defArgs s_diagonal, defBody s_diagonal, defScope s_diagonal, [], []⟩,
  ⟨fun K => ga K "divisors", "divisors", "divisors", defArgs s_divisors, defBody s_divisors, defScope s_divisors, [], []⟩,
  ⟨fun K => ga K "count_units", "count_units", "count_units", defArgs s_count_units, defBody s_count_units, defScope s_count_units, [], []⟩,
  ⟨fun K => ga K "rank", "rank", "rank", defArgs s_rank, defBody s_rank, defScope s_rank, [], []⟩,
  ⟨fun K => ga K "invertible", "invertible", "invertible", defArgs s_invertible, defBody s_invertible, defScope s_invertible, [], []⟩,
  ⟨fun K => ga K "_law_pool", "_law_pool", "_law_pool", defArgs s_law_pool, defBody s_law_pool, defScope s_law_pool, [], []⟩,
  ⟨fun K => ga K "_law_take", "_law_take", "_law_take", defArgs s_law_take, defBody s_law_take, defScope s_law_take, [], []⟩,
  ⟨fun K => ga K "_law_cell", "_law_cell", "_law_cell", defArgs s_law_cell, defBody s_law_cell, defScope s_law_cell, [], []⟩,
  ⟨fun K => ga K "_law_is_prime", "_law_is_prime", "_law_is_prime", defArgs s_law_is_prime, defBody s_law_is_prime, defScope s_law_is_prime, [], []⟩,
  ⟨fun K => ga K "_law_next_prime", "_law_next_prime", "_law_next_prime", defArgs s_law_next_prime, defBody s_law_next_prime, defScope s_law_next_prime, [], []⟩,
  ⟨fun K => ga K "_law_item", "_law_item", "_law_item", defArgs s_law_item, defBody s_law_item, defScope s_law_item, [], []⟩,
  ⟨fun K => ga K "_law_determinant", "_law_determinant", "_law_determinant", defArgs s_law_determinant, defBody s_law_determinant, defScope s_law_determinant, [], []⟩,
  ⟨fun K => ga K "_law_values", "_law_values", "_law_values", defArgs s_law_values, defBody s_law_values, defScope s_law_values, [], []⟩,
  ⟨fun K => ga K "_law_choices", "_law_choices", "_law_choices", defArgs s_law_choices, defBody s_law_choices, defScope s_law_choices, [], []⟩,
  ⟨fun K => ga K "law", "law", "law", defArgs s_law, defBody s_law, defScope s_law, [], []⟩,
  ⟨fun K => ma K "Chars" "__init__", "__init__", "Chars.__init__", defArgs s_Chars_init, defBody s_Chars_init, defScope s_Chars_init, [], []⟩,
  ⟨fun K => wa K "Chars" "every", "every", "Chars.every", defArgs s_Chars_every, defBody s_Chars_every, defScope s_Chars_every, [], []⟩,
  ⟨fun K => wa K "Chars" "zero_of", "zero_of", "Chars.zero_of", defArgs s_Chars_zero_of, defBody s_Chars_zero_of, defScope s_Chars_zero_of, [], []⟩,
  ⟨fun K => wa K "Chars" "unit_of", "unit_of", "Chars.unit_of", defArgs s_Chars_unit_of, defBody s_Chars_unit_of, defScope s_Chars_unit_of, [], []⟩,
  ⟨fun K => ma K "Chars" "__contains__", "__contains__", "Chars.__contains__", defArgs s_Chars_contains, defBody s_Chars_contains, defScope s_Chars_contains, [], []⟩,
  ⟨fun K => ma K "Chars" "__invert__", "__invert__", "Chars.__invert__", defArgs s_Chars_invert, defBody s_Chars_invert, defScope s_Chars_invert, [], []⟩,
  ⟨fun K => ma K "Chars" "__and__", "__and__", "Chars.__and__", defArgs s_Chars_and, defBody s_Chars_and, defScope s_Chars_and, [], []⟩,
  ⟨fun K => ma K "Chars" "__eq__", "__eq__", "Chars.__eq__", defArgs s_Chars_eq, defBody s_Chars_eq, defScope s_Chars_eq, [], []⟩,
  ⟨fun K => ma K "Chars" "__bool__", "__bool__", "Chars.__bool__", defArgs s_Chars_bool, defBody s_Chars_bool, defScope s_Chars_bool, [], []⟩,
  ⟨fun K => ma K "Many" "__init__", "__init__", "Many.__init__", defArgs s_Many_init, defBody s_Many_init, defScope s_Many_init, [], []⟩,
  ⟨fun K => wa K "Many" "number", "number", "Many.number", defArgs s_Many_number, defBody s_Many_number, defScope s_Many_number, [], []⟩,
  ⟨fun K => wa K "Many" "unknown", "unknown", "Many.unknown", defArgs s_Many_unknown, defBody s_Many_unknown, defScope s_Many_unknown, [], []⟩,
  ⟨fun K => ma K "Many" "__add__", "__add__", "Many.__add__", defArgs s_Many_add, defBody s_Many_add, defScope s_Many_add, [], []⟩,
  ⟨fun K => ma K "Many" "__neg__", "__neg__", "Many.__neg__", defArgs s_Many_neg, defBody s_Many_neg, defScope s_Many_neg, [], []⟩,
  ⟨fun K => ma K "Many" "__sub__", "__sub__", "Many.__sub__", defArgs s_Many_sub, defBody s_Many_sub, defScope s_Many_sub, [], []⟩,
  ⟨fun K => ma K "Many" "__mul__", "__mul__", "Many.__mul__", defArgs s_Many_mul, defBody s_Many_mul, defScope s_Many_mul, [], []⟩,
  ⟨fun K => ma K "Many" "names", "names", "Many.names", defArgs s_Many_names, defBody s_Many_names, defScope s_Many_names, [], []⟩,
  ⟨fun K => ma K "Many" "degree", "degree", "Many.degree", defArgs s_Many_degree, defBody s_Many_degree, defScope s_Many_degree, [], []⟩,
  ⟨fun K => ma K "Many" "content", "content", "Many.content", defArgs s_Many_content, defBody s_Many_content, defScope s_Many_content, [], []⟩,
  ⟨fun K => ma K "Many" "vanishing", "vanishing", "Many.vanishing", defArgs s_Many_vanishing, defBody s_Many_vanishing, defScope s_Many_vanishing, [], []⟩,
  ⟨fun K => ma K "Many" "put", "put", "Many.put", defArgs s_Many_put, defBody s_Many_put, defScope s_Many_put, [], []⟩,
  ⟨fun K => ma K "Many" "value", "value", "Many.value", defArgs s_Many_value, defBody s_Many_value, defScope s_Many_value, [], []⟩,
  ⟨fun K => ma K "Matrix" "__init__", "__init__", "Matrix.__init__", defArgs s_Matrix_init, defBody s_Matrix_init, defScope s_Matrix_init, [], []⟩,
  ⟨fun K => wa K "Matrix" "unit", "unit", "Matrix.unit", defArgs s_Matrix_unit, defBody s_Matrix_unit, defScope s_Matrix_unit, [], []⟩,
  ⟨fun K => wa K "Matrix" "diagonal", "diagonal", "Matrix.diagonal", defArgs s_Matrix_diagonal, defBody s_Matrix_diagonal, defScope s_Matrix_diagonal, [], []⟩,
  ⟨fun K => ma K "Matrix" "determinant", "determinant", "Matrix.determinant", defArgs s_Matrix_determinant, defBody s_Matrix_determinant, defScope s_Matrix_determinant, [], []⟩,
  ⟨fun K => ma K "Work" "__init__", "__init__", "Work.__init__", defArgs s_Work_init, defBody s_Work_init, defScope s_Work_init, [], []⟩,
  ⟨fun K => ma K "Work" "least_place", "least_place", "Work.least_place", defArgs s_Work_least_place, defBody s_Work_least_place, defScope s_Work_least_place, [], []⟩,
  ⟨fun K => ma K "Work" "bring", "bring", "Work.bring", defArgs s_Work_bring, defBody s_Work_bring, defScope s_Work_bring, [], []⟩,
  ⟨fun K => ma K "Work" "clear", "clear", "Work.clear", defArgs s_Work_clear, defBody s_Work_clear, defScope s_Work_clear, [], []⟩,
  ⟨fun K => ma K "Work" "spread", "spread", "Work.spread", defArgs s_Work_spread, defBody s_Work_spread, defScope s_Work_spread, [], []⟩,
  ⟨fun K => ma K "Work" "turn_sign", "turn_sign", "Work.turn_sign", defArgs s_Work_turn_sign, defBody s_Work_turn_sign, defScope s_Work_turn_sign, [], []⟩]
def obsB (fa : List (PySem.W.Frag → Bool)) (fn : List He5.DefA) (K : PySem.W.Frag) : He.AlD := ((fa.all fun f => f K) && fn.all fun d => d.ok K, fn.map fun d => He5.fnA K (d.at_ K))
def SaysB (fa : List (PySem.W.Frag → Bool)) (fn : List He5.DefA) (K : PySem.W.Frag) : Prop := obsB fa fn K = He5.valA fn
def refsE (o : Obj) : List Addr := match o.data with
  | .dict es _ => es.toList.flatMap fun e => He.refV e.val
  | .func fd => He.refV fd.code
  | .cls cd => cd.ns :: cd.mro.flatMap He.refV
  | .fields vs => if decide (o.cls = .type "classmethod") = true then vs.toList.flatMap He.refV else []
  | _ => []
def growE (g : Addr → Option Obj) (new old : List Addr) : List Addr × List Addr :=
  (((new.flatMap fun a => match g a with
    | some o => refsE o
    | none => []).filter fun a => !(old.elem a)).eraseDups, old)
def asE (g : Addr → Option Obj) : Nat → List Addr → List Addr → List Addr
  | 0, _, old => old
  | n + 1, new, old => asE g n (growE g new old).1 ((growE g new old).1 ++ old)
def obsBG (n : Nat) (g : Addr → Option Obj) : He.AlD := obsB fa fn (He.frG g (asE g n [mainGlobals] [mainGlobals, cStatics]))
def hookB (n : Nat) : PySem.W.Hook where
  α := He.AlD
  obs := fun s => obsBG n s.heap.get?
  val := fun _ => He5.valA fn
  says := fun _ h => ∃ K : PySem.W.Frag, K.In h ∧ SaysB fa fn K
  of := fun _ _ e => ⟨_, He.frG_in, e⟩
  keeps := fun _ _ _ ⟨K, hK, c⟩ k => ⟨K, PySem.W.Frag.In.keeps hK k, c⟩
theorem obsBG_eq {n : Nat} {g : Addr → Option Obj} {s : Shared} (h : ∀ a, g a = s.heap.get? a) : obsBG n g = (hookB n).obs s := by
  have e : g = s.heap.get? := funext h
  rw [e] <;> rfl
section
variable {K : PySem.W.Frag} {h : Heap} {mg : Str → Option Value}
theorem fact {fa : List (PySem.W.Frag → Bool)} {fn : List He5.DefA} (c : SaysB fa fn K) (i : Nat) {f : PySem.W.Frag → Bool} (h : fa[i]? = some f) : f K = true := by
  have c1 := (He.ba (show ((fa.all fun f => f K) && fn.all fun d => d.ok K) = true from congrArg (fun z : He.AlD => z.1) c)).1
  exact List.all_eq_true.mp c1 f (List.mem_of_getElem? h)
theorem defD {fa : List (PySem.W.Frag → Bool)} {fn : List He5.DefA} (c : SaysB fa fn K) (i : Nat) {d : He5.DefA} (h : fn[i]? = some d) : ∃ fd, L2.FunD K d.name d.qual d.params d.body d.scope (d.dvs K) (d.kws K) (d.at_ K) fd := by
  have c2 := (He.ba (show ((fa.all fun f => f K) && fn.all fun d => d.ok K) = true from congrArg (fun z : He.AlD => z.1) c)).2
  have e : fn.map (fun d => He5.fnA K (d.at_ K)) = fn.map He5.DefA.val := congrArg (fun z : He.AlD => z.2) c
  have e2 : (fn.map fun d => He5.fnA K (d.at_ K))[i]? = (fn.map He5.DefA.val)[i]? := by rw [e]
  rw [List.getElem?_map, List.getElem?_map, h] at e2
  exact He5.DefA.funD (Option.some.inj e2) (List.all_eq_true.mp c2 d (List.mem_of_getElem? h))
theorem defF {fa : List (PySem.W.Frag → Bool)} {fn : List He5.DefA} (c : SaysB fa fn K) (i : Nat) {at_ : PySem.W.Frag → Addr} {x q : Str} {st : Stmt} (h : fn[i]? = some ⟨at_, x, q, defArgs st, defBody st, defScope st, [], []⟩) : ∃ fd, Fun K x q st (at_ K) fd := by
  obtain ⟨fd, F⟩ := defD c i h
  exact ⟨fd, He5.fun_of F⟩
end
structure Ok (K : PySem.W.Frag) (mg : Str → Option Value) : Prop where
  g_common : mg "common" = some (.ref (ga K "common"))
  g_prime_divisors : mg "prime_divisors" = some (.ref (ga K "prime_divisors"))
  g_is_prime : mg "is_prime" = some (.ref (ga K "is_prime"))
  g_checked : mg "checked" = some (.ref (ga K "checked"))
  g_is_zero : mg "is_zero" = some (.ref (ga K "is_zero"))
  g_shared : mg "shared" = some (.ref (ga K "shared"))
  g_gathered : mg "gathered" = some (.ref (ga K "gathered"))
  g_product_terms : mg "product_terms" = some (.ref (ga K "product_terms"))
  g_determinant_of : mg "determinant_of" = some (.ref (ga K "determinant_of"))
  g_added_row : mg "added_row" = some (.ref (ga K "added_row"))
  g_added_column : mg "added_column" = some (.ref (ga K "added_column"))
  g_exchanged_columns : mg "exchanged_columns" = some (.ref (ga K "exchanged_columns"))
  g_diagonal : mg "diagonal" = some (.ref (ga K "diagonal"))
  g_divisors : mg "divisors" = some (.ref (ga K "divisors"))
  g_count_units : mg "count_units" = some (.ref (ga K "count_units"))
  g_rank : mg "rank" = some (.ref (ga K "rank"))
  g_invertible : mg "invertible" = some (.ref (ga K "invertible"))
  g_law_pool : mg "_law_pool" = some (.ref (ga K "_law_pool"))
  g_law_take : mg "_law_take" = some (.ref (ga K "_law_take"))
  g_law_cell : mg "_law_cell" = some (.ref (ga K "_law_cell"))
  g_law_is_prime : mg "_law_is_prime" = some (.ref (ga K "_law_is_prime"))
  g_law_next_prime : mg "_law_next_prime" = some (.ref (ga K "_law_next_prime"))
  g_law_item : mg "_law_item" = some (.ref (ga K "_law_item"))
  g_law_determinant : mg "_law_determinant" = some (.ref (ga K "_law_determinant"))
  g_law_values : mg "_law_values" = some (.ref (ga K "_law_values"))
  g_law_choices : mg "_law_choices" = some (.ref (ga K "_law_choices"))
  g_law : mg "law" = some (.ref (ga K "law"))
  g_Chars : mg "Chars" = some (.ref (ga K "Chars"))
  g_Many : mg "Many" = some (.ref (ga K "Many"))
  g_Matrix : mg "Matrix" = some (.ref (ga K "Matrix"))
  g_Work : mg "Work" = some (.ref (ga K "Work"))
  n_abs : mg "abs" = none
  n_len : mg "len" = none
  n_sorted : mg "sorted" = none
  n_set : mg "set" = none
  n_tuple : mg "tuple" = none
  n_list : mg "list" = none
  n_dict : mg "dict" = none
  n_zip : mg "zip" = none
  n_enumerate : mg "enumerate" = none
  n_range : mg "range" = none
  n_min : mg "min" = none
  n_max : mg "max" = none
  n_isinstance : mg "isinstance" = none
  n_bool : mg "bool" = none
  n_int : mg "int" = none
  n_any : mg "any" = none
  cl_Chars : Cls K (ga K "Chars")
  mk_Chars : Mk K (ga K "Chars") (ma K "Chars" "__init__")
  na_Chars_endless : NoAttr K (ga K "Chars") "endless"
  na_Chars_primes : NoAttr K (ga K "Chars") "primes"
  cm_Chars_every : ClX.CMet K (ga K "Chars") (.type "type") "every" (ma K "Chars" "every") (wa K "Chars" "every")
  cm_Chars_zero_of : ClX.CMet K (ga K "Chars") (.type "type") "zero_of" (ma K "Chars" "zero_of") (wa K "Chars" "zero_of")
  cm_Chars_unit_of : ClX.CMet K (ga K "Chars") (.type "type") "unit_of" (ma K "Chars" "unit_of") (wa K "Chars" "unit_of")
  me_Chars_contains : Meth K (ga K "Chars") "__contains__" (ma K "Chars" "__contains__")
  me_Chars_invert : Meth K (ga K "Chars") "__invert__" (ma K "Chars" "__invert__")
  me_Chars_and : Meth K (ga K "Chars") "__and__" (ma K "Chars" "__and__")
  me_Chars_eq : Meth K (ga K "Chars") "__eq__" (ma K "Chars" "__eq__")
  me_Chars_bool : Meth K (ga K "Chars") "__bool__" (ma K "Chars" "__bool__")
  cl_Many : Cls K (ga K "Many")
  mk_Many : Mk K (ga K "Many") (ma K "Many" "__init__")
  na_Many_terms : NoAttr K (ga K "Many") "terms"
  cm_Many_number : ClX.CMet K (ga K "Many") (.type "type") "number" (ma K "Many" "number") (wa K "Many" "number")
  cm_Many_unknown : ClX.CMet K (ga K "Many") (.type "type") "unknown" (ma K "Many" "unknown") (wa K "Many" "unknown")
  me_Many_add : Meth K (ga K "Many") "__add__" (ma K "Many" "__add__")
  me_Many_neg : Meth K (ga K "Many") "__neg__" (ma K "Many" "__neg__")
  me_Many_sub : Meth K (ga K "Many") "__sub__" (ma K "Many" "__sub__")
  me_Many_mul : Meth K (ga K "Many") "__mul__" (ma K "Many" "__mul__")
  me_Many_names : Meth K (ga K "Many") "names" (ma K "Many" "names")
  me_Many_degree : Meth K (ga K "Many") "degree" (ma K "Many" "degree")
  me_Many_content : Meth K (ga K "Many") "content" (ma K "Many" "content")
  me_Many_vanishing : Meth K (ga K "Many") "vanishing" (ma K "Many" "vanishing")
  me_Many_put : Meth K (ga K "Many") "put" (ma K "Many" "put")
  me_Many_value : Meth K (ga K "Many") "value" (ma K "Many" "value")
  cl_Matrix : Cls K (ga K "Matrix")
  mk_Matrix : Mk K (ga K "Matrix") (ma K "Matrix" "__init__")
  na_Matrix_rows : NoAttr K (ga K "Matrix") "rows"
  na_Matrix_height : NoAttr K (ga K "Matrix") "height"
  na_Matrix_width : NoAttr K (ga K "Matrix") "width"
  cm_Matrix_unit : ClX.CMet K (ga K "Matrix") (.type "type") "unit" (ma K "Matrix" "unit") (wa K "Matrix" "unit")
  cm_Matrix_diagonal : ClX.CMet K (ga K "Matrix") (.type "type") "diagonal" (ma K "Matrix" "diagonal") (wa K "Matrix" "diagonal")
  me_Matrix_determinant : Meth K (ga K "Matrix") "determinant" (ma K "Matrix" "determinant")
  cl_Work : Cls K (ga K "Work")
  mk_Work : Mk K (ga K "Work") (ma K "Work" "__init__")
  na_Work_first : NoAttr K (ga K "Work") "first"
  na_Work_middle : NoAttr K (ga K "Work") "middle"
  na_Work_last : NoAttr K (ga K "Work") "last"
  me_Work_least_place : Meth K (ga K "Work") "least_place" (ma K "Work" "least_place")
  me_Work_bring : Meth K (ga K "Work") "bring" (ma K "Work" "bring")
  me_Work_clear : Meth K (ga K "Work") "clear" (ma K "Work" "clear")
  me_Work_spread : Meth K (ga K "Work") "spread" (ma K "Work" "spread")
  me_Work_turn_sign : Meth K (ga K "Work") "turn_sign" (ma K "Work" "turn_sign")
  rd_Chars : ClX.CRead K (ga K "Chars") (.type "type")
  rd_Many : ClX.CRead K (ga K "Many") (.type "type")
  rd_Matrix : ClX.CRead K (ga K "Matrix") (.type "type")
  sf_Chars : PySem.W.selfFirst K (ga K "Chars") = true
  sf_Many : PySem.W.selfFirst K (ga K "Many") = true
  ic_Chars : C8.InsC K (ga K "Chars")
  f_common : ∃ fd, Fun K "common" "common" s_common (ga K "common") fd
  f_prime_divisors : ∃ fd, Fun K "prime_divisors" "prime_divisors" s_prime_divisors (ga K "prime_divisors") fd
  f_is_prime : ∃ fd, Fun K "is_prime" "is_prime" s_is_prime (ga K "is_prime") fd
  f_checked : ∃ fd, Fun K "checked" "checked" s_checked (ga K "checked") fd
  f_is_zero : ∃ fd, Fun K "is_zero" "is_zero" s_is_zero (ga K "is_zero") fd
  f_shared : ∃ fd, Fun K "shared" "shared" s_shared (ga K "shared") fd
  f_gathered : ∃ fd, Fun K "gathered" "gathered" s_gathered (ga K "gathered") fd
  f_product_terms : ∃ fd, Fun K "product_terms" "product_terms" s_product_terms (ga K "product_terms") fd
  f_determinant_of : ∃ fd, Fun K "determinant_of" "determinant_of" s_determinant_of (ga K "determinant_of") fd
  f_added_row : ∃ fd, Fun K "added_row" "added_row" s_added_row (ga K "added_row") fd
  f_added_column : ∃ fd, Fun K "added_column" "added_column" s_added_column (ga K "added_column") fd
  f_exchanged_columns : ∃ fd, Fun K "exchanged_columns" "exchanged_columns" s_exchanged_columns (ga K "exchanged_columns") fd
  f_diagonal : ∃ fd, Fun K "diagonal" "diagonal" s_diagonal (ga K "diagonal") fd
  f_divisors : ∃ fd, Fun K "divisors" "divisors" s_divisors (ga K "divisors") fd
  f_count_units : ∃ fd, Fun K "count_units" "count_units" s_count_units (ga K "count_units") fd
  f_rank : ∃ fd, Fun K "rank" "rank" s_rank (ga K "rank") fd
  f_invertible : ∃ fd, Fun K "invertible" "invertible" s_invertible (ga K "invertible") fd
  f_law_pool : ∃ fd, Fun K "_law_pool" "_law_pool" s_law_pool (ga K "_law_pool") fd
  f_law_take : ∃ fd, Fun K "_law_take" "_law_take" s_law_take (ga K "_law_take") fd
  f_law_cell : ∃ fd, Fun K "_law_cell" "_law_cell" s_law_cell (ga K "_law_cell") fd
  f_law_is_prime : ∃ fd, Fun K "_law_is_prime" "_law_is_prime" s_law_is_prime (ga K "_law_is_prime") fd
  f_law_next_prime : ∃ fd, Fun K "_law_next_prime" "_law_next_prime" s_law_next_prime (ga K "_law_next_prime") fd
  f_law_item : ∃ fd, Fun K "_law_item" "_law_item" s_law_item (ga K "_law_item") fd
  f_law_determinant : ∃ fd, Fun K "_law_determinant" "_law_determinant" s_law_determinant (ga K "_law_determinant") fd
  f_law_values : ∃ fd, Fun K "_law_values" "_law_values" s_law_values (ga K "_law_values") fd
  f_law_choices : ∃ fd, Fun K "_law_choices" "_law_choices" s_law_choices (ga K "_law_choices") fd
  f_law : ∃ fd, Fun K "law" "law" s_law (ga K "law") fd
  f_Chars_init : ∃ fd, Fun K "__init__" "Chars.__init__" s_Chars_init (ma K "Chars" "__init__") fd
  f_Chars_every : ∃ fd, Fun K "every" "Chars.every" s_Chars_every (wa K "Chars" "every") fd
  f_Chars_zero_of : ∃ fd, Fun K "zero_of" "Chars.zero_of" s_Chars_zero_of (wa K "Chars" "zero_of") fd
  f_Chars_unit_of : ∃ fd, Fun K "unit_of" "Chars.unit_of" s_Chars_unit_of (wa K "Chars" "unit_of") fd
  f_Chars_contains : ∃ fd, Fun K "__contains__" "Chars.__contains__" s_Chars_contains (ma K "Chars" "__contains__") fd
  f_Chars_invert : ∃ fd, Fun K "__invert__" "Chars.__invert__" s_Chars_invert (ma K "Chars" "__invert__") fd
  f_Chars_and : ∃ fd, Fun K "__and__" "Chars.__and__" s_Chars_and (ma K "Chars" "__and__") fd
  f_Chars_eq : ∃ fd, Fun K "__eq__" "Chars.__eq__" s_Chars_eq (ma K "Chars" "__eq__") fd
  f_Chars_bool : ∃ fd, Fun K "__bool__" "Chars.__bool__" s_Chars_bool (ma K "Chars" "__bool__") fd
  f_Many_init : ∃ fd, Fun K "__init__" "Many.__init__" s_Many_init (ma K "Many" "__init__") fd
  f_Many_number : ∃ fd, Fun K "number" "Many.number" s_Many_number (wa K "Many" "number") fd
  f_Many_unknown : ∃ fd, Fun K "unknown" "Many.unknown" s_Many_unknown (wa K "Many" "unknown") fd
  f_Many_add : ∃ fd, Fun K "__add__" "Many.__add__" s_Many_add (ma K "Many" "__add__") fd
  f_Many_neg : ∃ fd, Fun K "__neg__" "Many.__neg__" s_Many_neg (ma K "Many" "__neg__") fd
  f_Many_sub : ∃ fd, Fun K "__sub__" "Many.__sub__" s_Many_sub (ma K "Many" "__sub__") fd
  f_Many_mul : ∃ fd, Fun K "__mul__" "Many.__mul__" s_Many_mul (ma K "Many" "__mul__") fd
  f_Many_names : ∃ fd, Fun K "names" "Many.names" s_Many_names (ma K "Many" "names") fd
  f_Many_degree : ∃ fd, Fun K "degree" "Many.degree" s_Many_degree (ma K "Many" "degree") fd
  f_Many_content : ∃ fd, Fun K "content" "Many.content" s_Many_content (ma K "Many" "content") fd
  f_Many_vanishing : ∃ fd, Fun K "vanishing" "Many.vanishing" s_Many_vanishing (ma K "Many" "vanishing") fd
  f_Many_put : ∃ fd, Fun K "put" "Many.put" s_Many_put (ma K "Many" "put") fd
  f_Many_value : ∃ fd, Fun K "value" "Many.value" s_Many_value (ma K "Many" "value") fd
  f_Matrix_init : ∃ fd, Fun K "__init__" "Matrix.__init__" s_Matrix_init (ma K "Matrix" "__init__") fd
  f_Matrix_unit : ∃ fd, Fun K "unit" "Matrix.unit" s_Matrix_unit (wa K "Matrix" "unit") fd
  f_Matrix_diagonal : ∃ fd, Fun K "diagonal" "Matrix.diagonal" s_Matrix_diagonal (wa K "Matrix" "diagonal") fd
  f_Matrix_determinant : ∃ fd, Fun K "determinant" "Matrix.determinant" s_Matrix_determinant (ma K "Matrix" "determinant") fd
  f_Work_init : ∃ fd, Fun K "__init__" "Work.__init__" s_Work_init (ma K "Work" "__init__") fd
  f_Work_least_place : ∃ fd, Fun K "least_place" "Work.least_place" s_Work_least_place (ma K "Work" "least_place") fd
  f_Work_bring : ∃ fd, Fun K "bring" "Work.bring" s_Work_bring (ma K "Work" "bring") fd
  f_Work_clear : ∃ fd, Fun K "clear" "Work.clear" s_Work_clear (ma K "Work" "clear") fd
  f_Work_spread : ∃ fd, Fun K "spread" "Work.spread" s_Work_spread (ma K "Work" "spread") fd
  f_Work_turn_sign : ∃ fd, Fun K "turn_sign" "Work.turn_sign" s_Work_turn_sign (ma K "Work" "turn_sign") fd
theorem ok_of {K : PySem.W.Frag} {h : Heap} {mg : Str → Option Value} (X : K.In h) (G : h.Ns mainGlobals mg) (c : SaysB fa fn K) : Ok K mg :=
  { g_common := He.glo_ok X G (fact c 0 rfl),
    g_prime_divisors := He.glo_ok X G (fact c 1 rfl),
    g_is_prime := He.glo_ok X G (fact c 2 rfl),
    g_checked := He.glo_ok X G (fact c 3 rfl),
    g_is_zero := He.glo_ok X G (fact c 4 rfl),
    g_shared := He.glo_ok X G (fact c 5 rfl),
    g_gathered := He.glo_ok X G (fact c 6 rfl),
    g_product_terms := He.glo_ok X G (fact c 7 rfl),
    g_determinant_of := He.glo_ok X G (fact c 8 rfl),
    g_added_row := He.glo_ok X G (fact c 9 rfl),
    g_added_column := He.glo_ok X G (fact c 10 rfl),
    g_exchanged_columns := He.glo_ok X G (fact c 11 rfl),
    g_diagonal := He.glo_ok X G (fact c 12 rfl),
    g_divisors := He.glo_ok X G (fact c 13 rfl),
    g_count_units := He.glo_ok X G (fact c 14 rfl),
    g_rank := He.glo_ok X G (fact c 15 rfl),
    g_invertible := He.glo_ok X G (fact c 16 rfl),
    g_law_pool := He.glo_ok X G (fact c 17 rfl),
    g_law_take := He.glo_ok X G (fact c 18 rfl),
    g_law_cell := He.glo_ok X G (fact c 19 rfl),
    g_law_is_prime := He.glo_ok X G (fact c 20 rfl),
    g_law_next_prime := He.glo_ok X G (fact c 21 rfl),
    g_law_item := He.glo_ok X G (fact c 22 rfl),
    g_law_determinant := He.glo_ok X G (fact c 23 rfl),
    g_law_values := He.glo_ok X G (fact c 24 rfl),
    g_law_choices := He.glo_ok X G (fact c 25 rfl),
    g_law := He.glo_ok X G (fact c 26 rfl),
    g_Chars := He.glo_ok X G (fact c 27 rfl),
    g_Many := He.glo_ok X G (fact c 28 rfl),
    g_Matrix := He.glo_ok X G (fact c 29 rfl),
    g_Work := He.glo_ok X G (fact c 30 rfl),
    n_abs := He.free_ok X G (fact c 31 rfl),
    n_len := He.free_ok X G (fact c 32 rfl),
    n_sorted := He.free_ok X G (fact c 33 rfl),
    n_set := He.free_ok X G (fact c 34 rfl),
    n_tuple := He.free_ok X G (fact c 35 rfl),
    n_list := He.free_ok X G (fact c 36 rfl),
    n_dict := He.free_ok X G (fact c 37 rfl),
    n_zip := He.free_ok X G (fact c 38 rfl),
    n_enumerate := He.free_ok X G (fact c 39 rfl),
    n_range := He.free_ok X G (fact c 40 rfl),
    n_min := He.free_ok X G (fact c 41 rfl),
    n_max := He.free_ok X G (fact c 42 rfl),
    n_isinstance := He.free_ok X G (fact c 43 rfl),
    n_bool := He.free_ok X G (fact c 44 rfl),
    n_int := He.free_ok X G (fact c 45 rfl),
    n_any := He.free_ok X G (fact c 46 rfl),
    cl_Chars := He.cls_ok (fact c 47 rfl),
    mk_Chars := He.mkr_ok (fact c 48 rfl),
    na_Chars_endless := He.noat_ok (fact c 49 rfl),
    na_Chars_primes := He.noat_ok (fact c 50 rfl),
    cm_Chars_every := cm_ok (fact c 51 rfl),
    cm_Chars_zero_of := cm_ok (fact c 52 rfl),
    cm_Chars_unit_of := cm_ok (fact c 53 rfl),
    me_Chars_contains := He.meth_ok (fact c 54 rfl),
    me_Chars_invert := He.meth_ok (fact c 55 rfl),
    me_Chars_and := He.meth_ok (fact c 56 rfl),
    me_Chars_eq := He.meth_ok (fact c 57 rfl),
    me_Chars_bool := He.meth_ok (fact c 58 rfl),
    cl_Many := He.cls_ok (fact c 59 rfl),
    mk_Many := He.mkr_ok (fact c 60 rfl),
    na_Many_terms := He.noat_ok (fact c 61 rfl),
    cm_Many_number := cm_ok (fact c 62 rfl),
    cm_Many_unknown := cm_ok (fact c 63 rfl),
    me_Many_add := He.meth_ok (fact c 64 rfl),
    me_Many_neg := He.meth_ok (fact c 65 rfl),
    me_Many_sub := He.meth_ok (fact c 66 rfl),
    me_Many_mul := He.meth_ok (fact c 67 rfl),
    me_Many_names := He.meth_ok (fact c 68 rfl),
    me_Many_degree := He.meth_ok (fact c 69 rfl),
    me_Many_content := He.meth_ok (fact c 70 rfl),
    me_Many_vanishing := He.meth_ok (fact c 71 rfl),
    me_Many_put := He.meth_ok (fact c 72 rfl),
    me_Many_value := He.meth_ok (fact c 73 rfl),
    cl_Matrix := He.cls_ok (fact c 74 rfl),
    mk_Matrix := He.mkr_ok (fact c 75 rfl),
    na_Matrix_rows := He.noat_ok (fact c 76 rfl),
    na_Matrix_height := He.noat_ok (fact c 77 rfl),
    na_Matrix_width := He.noat_ok (fact c 78 rfl),
    cm_Matrix_unit := cm_ok (fact c 79 rfl),
    cm_Matrix_diagonal := cm_ok (fact c 80 rfl),
    me_Matrix_determinant := He.meth_ok (fact c 81 rfl),
    cl_Work := He.cls_ok (fact c 82 rfl),
    mk_Work := He.mkr_ok (fact c 83 rfl),
    na_Work_first := He.noat_ok (fact c 84 rfl),
    na_Work_middle := He.noat_ok (fact c 85 rfl),
    na_Work_last := He.noat_ok (fact c 86 rfl),
    me_Work_least_place := He.meth_ok (fact c 87 rfl),
    me_Work_bring := He.meth_ok (fact c 88 rfl),
    me_Work_clear := He.meth_ok (fact c 89 rfl),
    me_Work_spread := He.meth_ok (fact c 90 rfl),
    me_Work_turn_sign := He.meth_ok (fact c 91 rfl),
    rd_Chars := rd_ok (fact c 92 rfl),
    rd_Many := rd_ok (fact c 93 rfl),
    rd_Matrix := rd_ok (fact c 94 rfl),
    sf_Chars := fact c 95 rfl,
    sf_Many := fact c 96 rfl,
    ic_Chars := ki_ok (fact c 97 rfl),
    f_common := defF c 0 (st := s_common) rfl,
    f_prime_divisors := defF c 1 (st := s_prime_divisors) rfl,
    f_is_prime := defF c 2 (st := s_is_prime) rfl,
    f_checked := defF c 3 (st := s_checked) rfl,
    f_is_zero := defF c 4 (st := s_is_zero) rfl,
    f_shared := defF c 5 (st := s_shared) rfl,
    f_gathered := defF c 6 (st := s_gathered) rfl,
    f_product_terms := defF c 7 (st := s_product_terms) rfl,
    f_determinant_of := defF c 8 (st := s_determinant_of) rfl,
    f_added_row := defF c 9 (st := s_added_row) rfl,
    f_added_column := defF c 10 (st := s_added_column) rfl,
    f_exchanged_columns := defF c 11 (st := s_exchanged_columns) rfl,
    f_diagonal := defF c 12 (st := s_diagonal) rfl,
    f_divisors := defF c 13 (st := s_divisors) rfl,
    f_count_units := defF c 14 (st := s_count_units) rfl,
    f_rank := defF c 15 (st := s_rank) rfl,
    f_invertible := defF c 16 (st := s_invertible) rfl,
    f_law_pool := defF c 17 (st := s_law_pool) rfl,
    f_law_take := defF c 18 (st := s_law_take) rfl,
    f_law_cell := defF c 19 (st := s_law_cell) rfl,
    f_law_is_prime := defF c 20 (st := s_law_is_prime) rfl,
    f_law_next_prime := defF c 21 (st := s_law_next_prime) rfl,
    f_law_item := defF c 22 (st := s_law_item) rfl,
    f_law_determinant := defF c 23 (st := s_law_determinant) rfl,
    f_law_values := defF c 24 (st := s_law_values) rfl,
    f_law_choices := defF c 25 (st := s_law_choices) rfl,
    f_law := defF c 26 (st := s_law) rfl,
    f_Chars_init := defF c 27 (st := s_Chars_init) rfl,
    f_Chars_every := defF c 28 (st := s_Chars_every) rfl,
    f_Chars_zero_of := defF c 29 (st := s_Chars_zero_of) rfl,
    f_Chars_unit_of := defF c 30 (st := s_Chars_unit_of) rfl,
    f_Chars_contains := defF c 31 (st := s_Chars_contains) rfl,
    f_Chars_invert := defF c 32 (st := s_Chars_invert) rfl,
    f_Chars_and := defF c 33 (st := s_Chars_and) rfl,
    f_Chars_eq := defF c 34 (st := s_Chars_eq) rfl,
    f_Chars_bool := defF c 35 (st := s_Chars_bool) rfl,
    f_Many_init := defF c 36 (st := s_Many_init) rfl,
    f_Many_number := defF c 37 (st := s_Many_number) rfl,
    f_Many_unknown := defF c 38 (st := s_Many_unknown) rfl,
    f_Many_add := defF c 39 (st := s_Many_add) rfl,
    f_Many_neg := defF c 40 (st := s_Many_neg) rfl,
    f_Many_sub := defF c 41 (st := s_Many_sub) rfl,
    f_Many_mul := defF c 42 (st := s_Many_mul) rfl,
    f_Many_names := defF c 43 (st := s_Many_names) rfl,
    f_Many_degree := defF c 44 (st := s_Many_degree) rfl,
    f_Many_content := defF c 45 (st := s_Many_content) rfl,
    f_Many_vanishing := defF c 46 (st := s_Many_vanishing) rfl,
    f_Many_put := defF c 47 (st := s_Many_put) rfl,
    f_Many_value := defF c 48 (st := s_Many_value) rfl,
    f_Matrix_init := defF c 49 (st := s_Matrix_init) rfl,
    f_Matrix_unit := defF c 50 (st := s_Matrix_unit) rfl,
    f_Matrix_diagonal := defF c 51 (st := s_Matrix_diagonal) rfl,
    f_Matrix_determinant := defF c 52 (st := s_Matrix_determinant) rfl,
    f_Work_init := defF c 53 (st := s_Work_init) rfl,
    f_Work_least_place := defF c 54 (st := s_Work_least_place) rfl,
    f_Work_bring := defF c 55 (st := s_Work_bring) rfl,
    f_Work_clear := defF c 56 (st := s_Work_clear) rfl,
    f_Work_spread := defF c 57 (st := s_Work_spread) rfl,
    f_Work_turn_sign := defF c 58 (st := s_Work_turn_sign) rfl }
end Ef
/-! text Z0 -/
set_option Elab.async false
set_option linter.all false
set_option maxRecDepth 100000
set_option maxHeartbeats 0
namespace Ef
open PySem PySem.Spec PyProof.Rows L2
abbrev R : PySem.W.OpenRow := PySem.W.OpenLaw.row PySem.Challenge.rw_everyfield_k03_whole_unknowns_and_matric
abbrev hk : PySem.W.Hook := hookB 5
def ob (s : PySem.W.SharedT) : He.AlD := obsBG 5 (HandSHeadRun.getT s)
theorem ob_eq (s : PySem.W.SharedT) : ob s = hk.obs s.abs := obsBG_eq (HandSHeadRun.getT_eq s)
def loose1 : List Str := ["_wall","__name__","FieldError","BadNumber","BadCharacteristic","BadText","BadRow","UnlikeShapes","NotSquare","UnknownName","common","prime_divisors","is_prime","checked","is_zero","MOST_PRIME","MOST_DIGITS_chars","is_number","Chars","shared","gathered","Many","product_terms","MOST_DIGITS_matrices","is_integer","determinant_of","Matrix"]
def loose2 : List Str := ["sum_rows","product_rows","added_row","added_column","exchanged_columns","Work","diagonal","divisors","count_units","rank","invertible","_law_pool","_law_take","_law_cell","_law_is_prime","_law_next_prime","_law_item","_law_determinant","_law_values","_law_choices"]
def loose : List Str := loose1 ++ loose2
theorem run (w : World) : HandSHeadRun.RunEq R (PySem.W.view R.prog [54]) hk ob 7400 loose w := by
  intro os
  kernel_rfl
end Ef
/-! text A -/
/-! A1: primes, common divisors -/
namespace Ef
theorem nat_gcd_mod (a b : Nat) : Nat.gcd b (a % b) = Nat.gcd a b := by
  rw [Nat.gcd_comm b (a % b), ← Nat.gcd_rec, Nat.gcd_comm]
theorem int_pow_le {a b : Nat} (h : a ≤ b) : (2:Int)^a ≤ 2^b := by
  have := Nat.pow_le_pow_right (n := 2) (by omega) h
  exact_mod_cast this
theorem gcd_step {a b : Int} (ha : 0 ≤ a) (hb : 0 ≤ b) : Int.gcd b (a % b) = Int.gcd a b := by
  obtain ⟨x, rfl⟩ := Int.eq_ofNat_of_zero_le ha
  obtain ⟨y, rfl⟩ := Int.eq_ofNat_of_zero_le hb
  rw [← Int.natCast_emod]
  exact nat_gcd_mod x y
theorem fmod_pos {a b : Int} (hb : 0 < b) : a.fmod b = a % b := Int.fmod_eq_emod_of_nonneg a (by omega)


/-- a prime, as trial division sees it -/
def IsPr (p : Int) : Prop := 2 ≤ p ∧ ∀ d : Int, 2 ≤ d → d * d ≤ p → ¬ d ∣ p
/-- a characteristic -/
def IsCh (p : Int) : Prop := p = 0 ∨ IsPr p

theorem IsPr.eq_of_dvd {p d : Int} (h : IsPr p) (hd : 2 ≤ d) (hp : d ∣ p) : d = p := by
  obtain ⟨e, rfl⟩ := hp
  have h2 := h.1
  have he : 0 < e := by
    apply Classical.byContradiction
    intro hn
    have : e ≤ 0 := by omega
    have := Int.mul_nonneg_of_nonpos_of_nonpos (a := -d) (b := e) (by omega) this
    rw [Int.neg_mul] at this
    omega
  by_cases e1 : e = 1
  · subst e1; simp
  · exfalso
    by_cases hc : d ≤ e
    · exact h.2 d hd (Int.mul_le_mul_of_nonneg_left hc (by omega)) ⟨e, rfl⟩
    · exact h.2 e (by omega) (by rw [Int.mul_comm d e]; exact Int.mul_le_mul_of_nonneg_left (by omega) (by omega)) ⟨d, by rw [Int.mul_comm]⟩

theorem IsPr.dvd_mul {p a b : Int} (h : IsPr p) (hab : p ∣ a * b) : p ∣ a ∨ p ∣ b := by
  have hg : (Int.gcd p a : Int) ∣ p := Int.gcd_dvd_left p a
  have hga : (Int.gcd p a : Int) ∣ a := Int.gcd_dvd_right p a
  by_cases h1 : Int.gcd p a = 1
  · right
    have hc : Nat.Coprime p.natAbs a.natAbs := h1
    have hn : p.natAbs ∣ a.natAbs * b.natAbs := by
      rw [← Int.natAbs_mul]
      exact Int.natAbs_dvd_natAbs.mpr hab
    exact Int.natAbs_dvd_natAbs.mp (hc.dvd_of_dvd_mul_left hn)
  · left
    have h0 : Int.gcd p a ≠ 0 := by
      intro z
      have := (Int.gcd_eq_zero_iff.mp z).1
      have := h.1
      omega
    have e := h.eq_of_dvd (d := (Int.gcd p a : Int)) (by omega) hg
    rw [← e]
    exact hga

theorem IsCh.dvd_mul {p a b : Int} (h : IsCh p) (hab : p ∣ a * b) : p ∣ a ∨ p ∣ b := by
  rcases h with rfl | h
  · have := Int.zero_dvd.mp hab
    rcases Int.mul_eq_zero.mp this with e | e
    · exact .inl (by rw [e]; exact Int.dvd_refl 0)
    · exact .inr (by rw [e]; exact Int.dvd_refl 0)
  · exact h.dvd_mul hab
theorem IsCh.nonneg {p : Int} (h : IsCh p) : 0 ≤ p := by
  rcases h with rfl | h
  · exact Int.le_refl 0
  · have := h.1; omega
theorem IsCh.not_one {p : Int} (h : IsCh p) : ¬ p ∣ 1 := by
  intro hd
  rcases h with rfl | h
  · have := Int.zero_dvd.mp hd; omega
  · have := Int.le_of_dvd (by omega) hd
    have := h.1
    omega

/-! ### is_prime's loop -/
theorem isPr_of_loop {n d : Int} (hn : 2 ≤ n) (hd : n < d * d) (h2 : 2 ≤ d) (no : ∀ e : Int, 2 ≤ e → e < d → ¬ e ∣ n) : IsPr n := by
  refine ⟨hn, fun e he hee hdv => ?_⟩
  refine no e he ?_ hdv
  apply Classical.byContradiction
  intro hc
  have h1 : d ≤ e := by omega
  have := Int.mul_le_mul h1 h1 (by omega) (by omega)
  omega
theorem not_isPr_of {n d : Int} (h2 : 2 ≤ d) (hd : d * d ≤ n) (hdv : d ∣ n) : ¬ IsPr n := fun h => h.2 d h2 hd hdv

/-! ### prime_divisors -/
/-- what its outer loop keeps: n's primes are found or divide what is left -/
structure PdInv (n : Int) (found : List Int) (left d : Int) : Prop where
  left1 : 1 ≤ left
  d2 : 2 ≤ d
  no : ∀ e : Int, 2 ≤ e → e < d → ¬ e ∣ left
  pr : ∀ p ∈ found, IsPr p ∧ p ∣ n
  dv : left ∣ n
  all : ∀ p : Int, IsPr p → p ∣ n → p ∈ found ∨ p ∣ left
  len : (2 : Int) ^ found.length * left ≤ n.natAbs
/-- .. its inner one: d itself is found -/
structure PdIn (n : Int) (found : List Int) (left d : Int) : Prop where
  left1 : 1 ≤ left
  d2 : 2 ≤ d
  no : ∀ e : Int, 2 ≤ e → e < d → ¬ e ∣ left
  pr : ∀ p ∈ found, IsPr p ∧ p ∣ n
  dm : d ∈ found
  dv : left ∣ n
  all : ∀ p : Int, IsPr p → p ∣ n → p ∈ found ∨ p ∣ left
  len : (2 : Int) ^ found.length * left ≤ n.natAbs ∨ (d ∣ left ∧ (2 : Int) ^ found.length * left ≤ n.natAbs * d)

theorem pd_start {n : Int} (h : n ≠ 0) : PdInv n [] (n.natAbs : Int) 2 := by
  have h1 : 1 ≤ (n.natAbs : Int) := by omega
  refine ⟨h1, by omega, fun e h1 h2 => by omega, fun p hp => (nomatch hp), ?_, fun p hp hd => .inr ?_, ?_⟩
  · exact Int.natAbs_dvd.mpr (Int.dvd_refl n)
  · exact Int.dvd_natAbs.mpr hd
  · simp
theorem pd_found {n : Int} {found : List Int} {left d : Int} (I : PdInv n found left d) (hd : d ∣ left) : PdIn n (found ++ [d]) left d := by
  have hp : IsPr d := by
    refine ⟨I.d2, fun e he hee hdv => ?_⟩
    refine I.no e he ?_ (Int.dvd_trans hdv hd)
    have := Int.mul_le_mul_of_nonneg_left (a := 2) (b := e) (c := e) he (by omega)
    omega
  refine ⟨I.left1, I.d2, I.no, fun p h => ?_, by simp, I.dv, fun p h1 h2 => ?_, .inr ⟨hd, ?_⟩⟩
  · rcases List.mem_append.mp h with h | h
    · exact I.pr p h
    · have e := List.mem_singleton.mp h
      rw [e]
      exact ⟨hp, Int.dvd_trans hd I.dv⟩
  · rcases I.all p h1 h2 with h | h
    · exact .inl (List.mem_append_left _ h)
    · exact .inr h
  · have hl := I.len
    rw [List.length_append, List.length_singleton, Int.pow_succ]
    have e : (2 : Int) ^ found.length * 2 * left = (2 ^ found.length * left) * 2 := by grind
    rw [e]
    refine Int.le_trans (Int.mul_le_mul_of_nonneg_right hl (by omega)) ?_
    exact Int.mul_le_mul_of_nonneg_left I.d2 (by omega)
theorem pd_inner {n : Int} {found : List Int} {left d : Int} (I : PdIn n found left d) (hd : d ∣ left) : PdIn n found (left / d) d ∧ left / d < left := by
  obtain ⟨q, rfl⟩ := hd
  have hd2 := I.d2
  have e : d * q / d = q := Int.mul_ediv_cancel_left q (by omega)
  have hq : 1 ≤ q := by
    have := I.left1
    apply Classical.byContradiction
    intro hn
    have : q ≤ 0 := by omega
    have := Int.mul_le_mul_of_nonneg_left (a := q) (b := 0) (c := d) this (by omega)
    simp at this
    omega
  rw [e]
  have key : 2 * q ≤ d * q := Int.mul_le_mul_of_nonneg_right hd2 (by omega)
  refine ⟨⟨hq, hd2, fun x h1 h2 h3 => I.no x h1 h2 (Int.dvd_trans h3 (Int.dvd_mul_left ..)), I.pr, I.dm, Int.dvd_trans (Int.dvd_mul_left ..) I.dv, fun p h1 h2 => ?_, .inl ?_⟩, by omega⟩
  · rcases I.all p h1 h2 with h | h
    · exact .inl h
    · rcases h1.dvd_mul h with h | h
      · have : p = d := by
          have hpd : IsPr d := (I.pr d I.dm).1
          exact hpd.eq_of_dvd h1.1 h
        rw [this]
        exact .inl I.dm
      · exact .inr h
  · have hp : (0 : Int) < 2 ^ found.length := Int.pow_pos (by omega)
    rcases I.len with h | ⟨_, h⟩
    · refine Int.le_trans (Int.mul_le_mul_of_nonneg_left (by omega : q ≤ d * q) (by omega)) h
    · have e : (2 : Int) ^ found.length * (d * q) = (2 ^ found.length * q) * d := by grind
      rw [e] at h
      exact Int.le_of_mul_le_mul_right h (by omega)
theorem no_next {left d : Int} (no : ∀ e : Int, 2 ≤ e → e < d → ¬ e ∣ left) (hd : ¬ d ∣ left) : ∀ e : Int, 2 ≤ e → e < d + 1 → ¬ e ∣ left := fun e h1 h2 => by
  by_cases h : e = d
  · rw [h]; exact hd
  · exact no e h1 (by omega)
theorem pd_no {n : Int} {found : List Int} {left d : Int} (I : PdInv n found left d) (hd : ¬ d ∣ left) : PdInv n found left (d + 1) :=
  ⟨I.left1, by have := I.d2; omega, no_next I.no hd, I.pr, I.dv, I.all, I.len⟩
theorem pd_yes {n : Int} {found : List Int} {left d : Int} (I : PdIn n found left d) (hd : ¬ d ∣ left) : PdInv n found left (d + 1) :=
  ⟨I.left1, by have := I.d2; omega, no_next I.no hd, I.pr, I.dv, I.all, by
    rcases I.len with h | ⟨h, _⟩
    · exact h
    · exact absurd h hd⟩
/-- the primes that divide n, no other -/
structure PD (n : Int) (ps : List Int) : Prop where
  pr : ∀ p ∈ ps, IsPr p
  iff : ∀ p : Int, IsPr p → (p ∈ ps ↔ p ∣ n)
  len : (2 : Int) ^ ps.length ≤ n.natAbs
theorem pd_end1 {n : Int} {found : List Int} {left d : Int} (I : PdInv n found left d) (hd : left < d * d) (h1 : 1 < left) : PD n (found ++ [left]) := by
  have hp : IsPr left := isPr_of_loop (by omega) hd I.d2 I.no
  refine ⟨fun p h => ?_, fun p h => ⟨fun hm => ?_, fun hm => ?_⟩, ?_⟩
  · rcases List.mem_append.mp h with h | h
    · exact (I.pr p h).1
    · rw [List.mem_singleton.mp h]; exact hp
  · rcases List.mem_append.mp hm with h | h
    · exact (I.pr p h).2
    · rw [List.mem_singleton.mp h]; exact I.dv
  · rcases I.all p h hm with h' | h'
    · exact List.mem_append_left _ h'
    · exact List.mem_append_right _ (List.mem_singleton.mpr (hp.eq_of_dvd h.1 h'))
  · rw [List.length_append, List.length_singleton, Int.pow_succ]
    exact Int.le_trans (Int.mul_le_mul_of_nonneg_left (by omega) (Int.le_of_lt (Int.pow_pos (by omega)))) I.len
theorem pd_end0 {n : Int} {found : List Int} {left d : Int} (I : PdInv n found left d) (h1 : ¬ 1 < left) : PD n found := by
  have e : left = 1 := by have := I.left1; omega
  have hl := I.len
  refine ⟨fun p h => (I.pr p h).1, fun p h => ⟨fun hm => (I.pr p hm).2, fun hm => ?_⟩, ?_⟩
  · rcases I.all p h hm with h' | h'
    · exact h'
    · rw [e] at h'
      exact absurd h' (IsCh.not_one (.inr h))
  · rw [e, Int.mul_one] at hl
    exact hl
theorem PD.short {n : Int} {ps : List Int} (h : PD n ps) (hn : n.natAbs < 2 ^ 60) : ps.length < 60 := by
  apply Classical.byContradiction
  intro hc
  have h1 : (2 : Int) ^ 60 ≤ 2 ^ ps.length := int_pow_le (by omega)
  have := h.len
  omega
/-! ### the greatest common divisor of a list -/
structure IsGcd (g : Int) (cs : List Int) : Prop where
  nn : 0 ≤ g
  dv : ∀ d : Int, d ∣ g ↔ ∀ c ∈ cs, d ∣ c
theorem isGcd_nil : IsGcd 0 [] := ⟨Int.le_refl 0, fun d => ⟨fun _ c hc => (nomatch hc), fun _ => Int.dvd_zero d⟩⟩
theorem dvd_gcd_iff {d a b : Int} : d ∣ (Int.gcd a b : Int) ↔ d ∣ a ∧ d ∣ b :=
  ⟨fun h => ⟨Int.dvd_trans h (Int.gcd_dvd_left a b), Int.dvd_trans h (Int.gcd_dvd_right a b)⟩, fun h => Int.dvd_coe_gcd h.1 h.2⟩
theorem IsGcd.snoc {g c : Int} {cs : List Int} (h : IsGcd g cs) : IsGcd (Int.gcd g c : Int) (cs ++ [c]) := by
  refine ⟨by omega, fun d => ?_⟩
  rw [dvd_gcd_iff, h.dv]
  constructor
  · rintro ⟨h1, h2⟩ x hx
    rcases List.mem_append.mp hx with hx | hx
    · exact h1 x hx
    · rw [List.mem_singleton.mp hx]; exact h2
  · intro h
    exact ⟨fun x hx => h x (List.mem_append_left _ hx), h c (by simp)⟩
theorem IsGcd.zero {g : Int} {cs : List Int} (h : IsGcd g cs) : g = 0 ↔ ∀ c ∈ cs, c = 0 := by
  have e := h.dv 0
  rw [Int.zero_dvd] at e
  rw [e]
  exact ⟨fun h c hc => Int.zero_dvd.mp (h c hc), fun h c hc => Int.zero_dvd.mpr (h c hc)⟩
theorem IsGcd.le {g c : Int} {cs : List Int} (h : IsGcd g cs) (hc : c ∈ cs) (h0 : c ≠ 0) : g ≤ c.natAbs := by
  have d := (h.dv g).mp (Int.dvd_refl g) c hc
  exact Int.le_of_dvd (by omega) (Int.dvd_natAbs.mpr d)
end Ef
/-! A2: polynomials in three unknowns -/
namespace Ef
abbrev Mo := Nat × Nat × Nat
abbrev Po := List (Mo × Int)
abbrev Pt := Int × Int × Int
def mv (m : Mo) (v : Pt) : Int := v.1 ^ m.1 * v.2.1 ^ m.2.1 * v.2.2 ^ m.2.2
def ev : Po → Pt → Int
  | [], _ => 0
  | t :: P, v => t.2 * mv t.1 v + ev P v
def cf : Po → Mo → Int
  | [], _ => 0
  | t :: P, k => (if t.1 = k then t.2 else 0) + cf P k
def nrm : Po → Nat
  | [] => 0
  | t :: P => t.2.natAbs + nrm P
def dg (m : Mo) : Nat := m.1 + m.2.1 + m.2.2
def moAdd (m k : Mo) : Mo := (m.1 + k.1, m.2.1 + k.2.1, m.2.2 + k.2.2)
def DgLe (P : Po) (d : Nat) : Prop := ∀ t ∈ P, dg t.1 ≤ d
def WF (P : Po) : Prop := (P.map (·.1)).Nodup ∧ ∀ t ∈ P, t.2 ≠ 0
def addT : Po → Mo → Int → Po
  | [], m, c => [(m, c)]
  | t :: P, m, c => if t.1 = m then (t.1, t.2 + c) :: P else t :: addT P m c
def gsumA (d : Po) : Po → Po
  | [] => d
  | t :: ts => gsumA (addT d t.1 t.2) ts
def nz (P : Po) : Po := P.filter fun t => !decide (t.2 = 0)
def gath (ts : Po) : Po := nz (gsumA [] ts)
def pnegT (P : Po) : Po := P.map fun t => (t.1, -t.2)
def prodT (P Q : Po) : Po := P.flatMap fun a => Q.map fun b => (moAdd a.1 b.1, a.2 * b.2)
def pnum (n : Int) : Po := gath [((0, 0, 0), n)]
def punk (m : Mo) : Po := gath [(m, 1)]
def padd (P Q : Po) : Po := gath (P ++ Q)
def pneg (P : Po) : Po := gath (pnegT P)
def psub (P Q : Po) : Po := padd P (pneg Q)
def pmul (P Q : Po) : Po := gath (prodT P Q)

theorem mv_add (m k : Mo) (v : Pt) : mv (moAdd m k) v = mv m v * mv k v := by
  unfold mv moAdd
  simp only [Int.pow_add]
  grind
theorem dg_add (m k : Mo) : dg (moAdd m k) = dg m + dg k := by unfold dg moAdd; dsimp only; omega

/-! ### appends -/
theorem ev_append (P Q : Po) (v : Pt) : ev (P ++ Q) v = ev P v + ev Q v := by
  induction P with
  | nil => simp [ev]
  | cons t P ih => simp only [List.cons_append, ev, ih]; omega
theorem cf_append (P Q : Po) (k : Mo) : cf (P ++ Q) k = cf P k + cf Q k := by
  induction P with
  | nil => simp [cf]
  | cons t P ih => simp only [List.cons_append, cf, ih]; omega
theorem nrm_append (P Q : Po) : nrm (P ++ Q) = nrm P + nrm Q := by
  induction P with
  | nil => simp [nrm]
  | cons t P ih => simp only [List.cons_append, nrm, ih]; omega

/-! ### one term more -/
theorem ev_addT (P : Po) (m : Mo) (c : Int) (v : Pt) : ev (addT P m c) v = ev P v + c * mv m v := by
  induction P with
  | nil => simp [addT, ev]
  | cons t P ih =>
    unfold addT
    split
    · rename_i e
      simp only [ev, e]
      grind
    · simp only [ev, ih]; omega
theorem cf_addT (P : Po) (m : Mo) (c : Int) (k : Mo) : cf (addT P m c) k = cf P k + if m = k then c else 0 := by
  induction P with
  | nil => simp [addT, cf]
  | cons t P ih =>
    unfold addT
    split
    · rename_i e
      simp only [cf, e]
      split <;> omega
    · simp only [cf, ih]; omega
theorem nrm_addT (P : Po) (m : Mo) (c : Int) : nrm (addT P m c) ≤ nrm P + c.natAbs := by
  induction P with
  | nil => simp [addT, nrm]
  | cons t P ih =>
    unfold addT
    split
    · simp only [nrm]; omega
    · simp only [nrm]; omega
theorem len_addT (P : Po) (m : Mo) (c : Int) : (addT P m c).length ≤ P.length + 1 := by
  induction P with
  | nil => simp [addT]
  | cons t P ih =>
    unfold addT
    split
    · simp
    · simp only [List.length_cons]; omega
theorem mem_addT {P : Po} {m : Mo} {c : Int} {k : Mo} : k ∈ (addT P m c).map (·.1) ↔ k ∈ P.map (·.1) ∨ k = m := by
  induction P with
  | nil => simp [addT]
  | cons t P ih =>
    unfold addT
    split
    · rename_i e
      simp only [List.map_cons, List.mem_cons, e]
      grind
    · simp only [List.map_cons, List.mem_cons, ih]
      grind
theorem nodup_addT {P : Po} {m : Mo} {c : Int} (h : (P.map (·.1)).Nodup) : ((addT P m c).map (·.1)).Nodup := by
  induction P with
  | nil => simp [addT]
  | cons t P ih =>
    rw [List.map_cons, List.nodup_cons] at h
    unfold addT
    split
    · rw [List.map_cons, List.nodup_cons]; exact h
    · rename_i e
      rw [List.map_cons, List.nodup_cons]
      refine ⟨fun hm => ?_, ih h.2⟩
      rcases mem_addT.mp hm with hm | hm
      · exact h.1 hm
      · exact e hm

/-! ### all terms -/
theorem ev_gsumA (ts d : Po) (v : Pt) : ev (gsumA d ts) v = ev d v + ev ts v := by
  induction ts generalizing d with
  | nil => simp [gsumA, ev]
  | cons t ts ih => simp only [gsumA, ih, ev_addT, ev]; omega
theorem cf_gsumA (ts d : Po) (k : Mo) : cf (gsumA d ts) k = cf d k + cf ts k := by
  induction ts generalizing d with
  | nil => simp [gsumA, cf]
  | cons t ts ih => simp only [gsumA, ih, cf_addT, cf]; omega
theorem nrm_gsumA (ts d : Po) : nrm (gsumA d ts) ≤ nrm d + nrm ts := by
  induction ts generalizing d with
  | nil => simp [gsumA, nrm]
  | cons t ts ih =>
    simp only [gsumA, nrm]
    have h1 := ih (addT d t.1 t.2)
    have h2 := nrm_addT d t.1 t.2
    omega
theorem len_gsumA (ts d : Po) : (gsumA d ts).length ≤ d.length + ts.length := by
  induction ts generalizing d with
  | nil => simp [gsumA]
  | cons t ts ih =>
    simp only [gsumA, List.length_cons]
    have h1 := ih (addT d t.1 t.2)
    have h2 := len_addT d t.1 t.2
    omega
theorem nodup_gsumA {ts d : Po} (h : (d.map (·.1)).Nodup) : ((gsumA d ts).map (·.1)).Nodup := by
  induction ts generalizing d with
  | nil => exact h
  | cons t ts ih => exact ih (nodup_addT h)
theorem mem_gsumA {ts d : Po} {k : Mo} : k ∈ (gsumA d ts).map (·.1) ↔ k ∈ d.map (·.1) ∨ k ∈ ts.map (·.1) := by
  induction ts generalizing d with
  | nil => simp [gsumA]
  | cons t ts ih =>
    simp only [gsumA, List.map_cons, List.mem_cons]
    rw [ih, mem_addT]
    grind
/-! ### without the zeros -/
theorem ev_nz (P : Po) (v : Pt) : ev (nz P) v = ev P v := by
  induction P with
  | nil => rfl
  | cons t P ih =>
    unfold nz at *
    rw [List.filter_cons]
    split
    · simp only [ev, ih]
    · rename_i h
      have : t.2 = 0 := by simpa using h
      simp only [ev, ih, this]; omega
theorem cf_nz (P : Po) (k : Mo) : cf (nz P) k = cf P k := by
  induction P with
  | nil => rfl
  | cons t P ih =>
    unfold nz at *
    rw [List.filter_cons]
    split
    · simp only [cf, ih]
    · rename_i h
      have : t.2 = 0 := by simpa using h
      simp only [cf, ih, this]; split <;> omega
theorem nrm_nz (P : Po) : nrm (nz P) ≤ nrm P := by
  induction P with
  | nil => exact Nat.le_refl _
  | cons t P ih =>
    unfold nz at *
    rw [List.filter_cons]
    split <;> simp only [nrm] <;> omega
theorem ev_gath (ts : Po) (v : Pt) : ev (gath ts) v = ev ts v := by unfold gath; rw [ev_nz, ev_gsumA]; simp [ev]
theorem cf_gath (ts : Po) (k : Mo) : cf (gath ts) k = cf ts k := by unfold gath; rw [cf_nz, cf_gsumA]; simp [cf]
theorem nrm_gath (ts : Po) : nrm (gath ts) ≤ nrm ts := by
  have h1 := nrm_nz (gsumA [] ts)
  have h2 := nrm_gsumA ts []
  have h3 : nrm [] = 0 := rfl
  unfold gath
  omega
theorem wf_gath (ts : Po) : WF (gath ts) := by
  refine ⟨?_, fun t h => ?_⟩
  · exact List.Nodup.sublist (List.Sublist.map _ List.filter_sublist) (nodup_gsumA (d := []) (by simp))
  · have := (List.mem_filter.mp h).2
    simpa using this
theorem dg_gath {ts : Po} {d : Nat} (h : DgLe ts d) : DgLe (gath ts) d := by
  intro t ht
  have h1 := (List.mem_filter.mp ht).1
  have h2 : t.1 ∈ (gsumA [] ts).map (·.1) := List.mem_map.mpr ⟨t, h1, rfl⟩
  rcases mem_gsumA.mp h2 with h3 | h3
  · simp at h3
  · obtain ⟨u, hu, e⟩ := List.mem_map.mp h3
    rw [← e]
    exact h u hu
/-! ### the operations -/
theorem ev_pnegT (P : Po) (v : Pt) : ev (pnegT P) v = - ev P v := by
  induction P with
  | nil => rfl
  | cons t P ih => unfold pnegT at *; simp only [List.map_cons, ev, ih]; grind
theorem cf_pnegT (P : Po) (k : Mo) : cf (pnegT P) k = - cf P k := by
  induction P with
  | nil => rfl
  | cons t P ih => unfold pnegT at *; simp only [List.map_cons, cf, ih]; split <;> omega
theorem nrm_pnegT (P : Po) : nrm (pnegT P) = nrm P := by
  induction P with
  | nil => rfl
  | cons t P ih => unfold pnegT at *; simp only [List.map_cons, nrm, ih]; omega
theorem ev_row (a : Mo × Int) (Q : Po) (v : Pt) : ev (Q.map fun b => (moAdd a.1 b.1, a.2 * b.2)) v = (a.2 * mv a.1 v) * ev Q v := by
  induction Q with
  | nil => simp [ev]
  | cons t Q ih => simp only [List.map_cons, ev, ih, mv_add]; grind
theorem nrm_row (a : Mo × Int) (Q : Po) : nrm (Q.map fun b => (moAdd a.1 b.1, a.2 * b.2)) = a.2.natAbs * nrm Q := by
  induction Q with
  | nil => simp [nrm]
  | cons t Q ih => simp only [List.map_cons, nrm, ih, Int.natAbs_mul]; grind
theorem ev_prodT (P Q : Po) (v : Pt) : ev (prodT P Q) v = ev P v * ev Q v := by
  induction P with
  | nil => simp [prodT, ev]
  | cons t P ih => unfold prodT at *; rw [List.flatMap_cons, ev_append, ih, ev_row]; simp only [ev]; grind
theorem nrm_prodT (P Q : Po) : nrm (prodT P Q) = nrm P * nrm Q := by
  induction P with
  | nil => simp [prodT, nrm]
  | cons t P ih => unfold prodT at *; rw [List.flatMap_cons, nrm_append, ih, nrm_row]; simp only [nrm]; grind
/-- a polynomial as the program holds it: one term a product, no zeros, its size and degree -/
structure Good (P : Po) (n d : Nat) : Prop where
  wf : WF P
  nr : nrm P ≤ n
  dl : DgLe P d
theorem Good.mono {P : Po} {n d n' d' : Nat} (h : Good P n d) (hn : n ≤ n') (hd : d ≤ d') : Good P n' d' :=
  ⟨h.wf, Nat.le_trans h.nr hn, fun t ht => Nat.le_trans (h.dl t ht) hd⟩
theorem good_gath {ts : Po} {n d : Nat} (hn : nrm ts ≤ n) (hd : DgLe ts d) : Good (gath ts) n d := ⟨wf_gath ts, Nat.le_trans (nrm_gath ts) hn, dg_gath hd⟩
theorem good_num (n : Int) : Good (pnum n) n.natAbs 0 := good_gath (by simp [nrm]) (by
  intro t ht
  rw [List.mem_singleton.mp ht]
  exact Nat.le_refl 0)
theorem good_unk (m : Mo) : Good (punk m) 1 (dg m) := good_gath (by simp [nrm]) (by
  intro t ht
  rw [List.mem_singleton.mp ht]
  exact Nat.le_refl _)
theorem good_add {P Q : Po} {n m d e : Nat} (hP : Good P n d) (hQ : Good Q m e) : Good (padd P Q) (n + m) (max d e) := good_gath (by
  rw [nrm_append]; have := hP.nr; have := hQ.nr; omega) (by
  intro t ht
  rcases List.mem_append.mp ht with h | h
  · have := hP.dl t h; omega
  · have := hQ.dl t h; omega)
theorem dg_pnegT {P : Po} {d : Nat} (h : DgLe P d) : DgLe (pnegT P) d := by
  intro t ht
  obtain ⟨u, hu, e⟩ := List.mem_map.mp ht
  rw [← e]
  exact h u hu
theorem good_neg {P : Po} {n d : Nat} (hP : Good P n d) : Good (pneg P) n d := good_gath (by rw [nrm_pnegT]; exact hP.nr) (dg_pnegT hP.dl)
theorem good_sub {P Q : Po} {n m d e : Nat} (hP : Good P n d) (hQ : Good Q m e) : Good (psub P Q) (n + m) (max d e) := good_add hP (good_neg hQ)
theorem good_mul {P Q : Po} {n m d e : Nat} (hP : Good P n d) (hQ : Good Q m e) : Good (pmul P Q) (n * m) (d + e) := good_gath (by
  rw [nrm_prodT]; exact Nat.mul_le_mul hP.nr hQ.nr) (by
  intro t ht
  obtain ⟨a, ha, hb⟩ := List.mem_flatMap.mp ht
  obtain ⟨b, hb, e⟩ := List.mem_map.mp hb
  rw [← e]
  have h1 := hP.dl a ha
  have h2 := hQ.dl b hb
  show dg (moAdd a.1 b.1) ≤ _
  rw [dg_add]
  omega)
theorem ev_num (n : Int) (v : Pt) : ev (pnum n) v = n := by unfold pnum; rw [ev_gath]; simp [ev, mv]
theorem ev_unk (m : Mo) (v : Pt) : ev (punk m) v = mv m v := by unfold punk; rw [ev_gath]; simp [ev]
theorem ev_add (P Q : Po) (v : Pt) : ev (padd P Q) v = ev P v + ev Q v := by unfold padd; rw [ev_gath, ev_append]
theorem ev_neg (P : Po) (v : Pt) : ev (pneg P) v = - ev P v := by unfold pneg; rw [ev_gath, ev_pnegT]
theorem ev_sub (P Q : Po) (v : Pt) : ev (psub P Q) v = ev P v - ev Q v := by unfold psub; rw [ev_add, ev_neg]; omega
theorem ev_mul (P Q : Po) (v : Pt) : ev (pmul P Q) v = ev P v * ev Q v := by unfold pmul; rw [ev_gath, ev_prodT]
theorem cf_of_not_mem {P : Po} {k : Mo} (h : k ∉ P.map (·.1)) : cf P k = 0 := by
  induction P with
  | nil => rfl
  | cons t P ih =>
    rw [List.map_cons, List.mem_cons] at h
    simp only [cf]
    rw [ih (fun z => h (.inr z)), if_neg (fun z => h (.inl z.symm))]
    rfl
theorem cf_of_mem {P : Po} (h : (P.map (·.1)).Nodup) {t : Mo × Int} (ht : t ∈ P) : cf P t.1 = t.2 := by
  induction P with
  | nil => cases ht
  | cons u P ih =>
    rw [List.map_cons, List.nodup_cons] at h
    simp only [cf]
    rcases List.mem_cons.mp ht with e | hm
    · subst e
      rw [if_pos rfl, cf_of_not_mem h.1]; omega
    · rw [ih h.2 hm, if_neg (fun e => h.1 (by rw [e]; exact List.mem_map.mpr ⟨t, hm, rfl⟩))]; omega
theorem psub_self (P : Po) : psub P P = [] := by
  have hw : WF (psub P P) := wf_gath _
  have hc : ∀ k, cf (psub P P) k = 0 := fun k => by
    unfold psub padd pneg
    rw [cf_gath, cf_append, cf_gath, cf_pnegT]
    omega
  cases e : psub P P with
  | nil => rfl
  | cons t r =>
    exfalso
    rw [e] at hw hc
    have h1 := cf_of_mem hw.1 (t := t) (by simp)
    rw [hc] at h1
    exact hw.2 t (by simp) h1.symm
theorem coef_le {P : Po} {t : Mo × Int} (h : t ∈ P) : t.2.natAbs ≤ nrm P := by
  induction P with
  | nil => cases h
  | cons u P ih =>
    simp only [nrm]
    rcases List.mem_cons.mp h with e | h
    · rw [e]; omega
    · have := ih h; omega
theorem len_le {P : Po} (h : ∀ t ∈ P, t.2 ≠ 0) : P.length ≤ nrm P := by
  induction P with
  | nil => exact Nat.le_refl 0
  | cons t P ih =>
    simp only [nrm, List.length_cons]
    have h1 := h t (by simp)
    have h2 := ih fun u hu => h u (by simp [hu])
    omega
theorem natAbs_pow_le {x : Int} {M : Nat} (h : x.natAbs ≤ M) (n : Nat) : (x ^ n).natAbs ≤ M ^ n := by
  rw [Int.natAbs_pow]; exact Nat.pow_le_pow_left h n
theorem mv_le {m : Mo} {v : Pt} {M d : Nat} (h1 : v.1.natAbs ≤ M) (h2 : v.2.1.natAbs ≤ M) (h3 : v.2.2.natAbs ≤ M) (hM : 1 ≤ M) (hd : dg m ≤ d) : (mv m v).natAbs ≤ M ^ d := by
  unfold mv
  rw [Int.natAbs_mul, Int.natAbs_mul]
  have a := natAbs_pow_le h1 m.1
  have b := natAbs_pow_le h2 m.2.1
  have c := natAbs_pow_le h3 m.2.2
  refine Nat.le_trans (Nat.mul_le_mul (Nat.mul_le_mul a b) c) ?_
  rw [← Nat.pow_add, ← Nat.pow_add]
  exact Nat.pow_le_pow_right hM hd
theorem ev_le {P : Po} {v : Pt} {M d : Nat} (h1 : v.1.natAbs ≤ M) (h2 : v.2.1.natAbs ≤ M) (h3 : v.2.2.natAbs ≤ M) (hM : 1 ≤ M) (hd : DgLe P d) : (ev P v).natAbs ≤ nrm P * M ^ d := by
  induction P with
  | nil => simp [ev]
  | cons t P ih =>
    simp only [ev, nrm]
    have i1 := ih fun u hu => hd u (by simp [hu])
    have i2 := mv_le h1 h2 h3 hM (hd t (by simp))
    have i3 : (t.2 * mv t.1 v).natAbs ≤ t.2.natAbs * M ^ d := by rw [Int.natAbs_mul]; exact Nat.mul_le_mul_left _ i2
    rw [Nat.add_mul]
    omega
theorem dvd_ev {P : Po} {v : Pt} {p : Int} (h : ∀ t ∈ P, p ∣ t.2) : p ∣ ev P v := by
  induction P with
  | nil => exact Int.dvd_zero p
  | cons t P ih =>
    simp only [ev]
    exact Int.dvd_add (Int.dvd_mul_of_dvd_left (h t (by simp))) (ih fun u hu => h u (by simp [hu]))
end Ef
/-! A2b: a polynomial that is not 0 in a characteristic has a value that is not 0 on a grid -/
namespace Ef
/-- Horner's scheme -/
def hor : List Int → Int → Int
  | [], _ => 0
  | c :: cs, x => c + x * hor cs x
/-- division by (t - r) -/
def sdiv : List Int → Int → List Int
  | [], _ => []
  | [_], _ => []
  | _ :: c :: cs, r => hor (c :: cs) r :: sdiv (c :: cs) r
theorem hor_sdiv (cs : List Int) (x r : Int) : hor cs x - hor cs r = (x - r) * hor (sdiv cs r) x := by
  induction cs with
  | nil => simp [hor, sdiv]
  | cons c cs ih =>
    cases cs with
    | nil => simp [hor, sdiv]
    | cons c' cs =>
      have e : sdiv (c :: c' :: cs) r = hor (c' :: cs) r :: sdiv (c' :: cs) r := rfl
      rw [e]
      have e2 : hor (c :: c' :: cs) x = c + x * hor (c' :: cs) x := rfl
      have e3 : hor (c :: c' :: cs) r = c + r * hor (c' :: cs) r := rfl
      have e4 : ∀ l y, hor (hor (c' :: cs) r :: l) y = hor (c' :: cs) r + y * hor l y := fun _ _ => rfl
      rw [e2, e3, e4]
      generalize hor (c' :: cs) x = a at *
      generalize hor (c' :: cs) r = b at *
      generalize hor (sdiv (c' :: cs) r) x = q at *
      grind
theorem len_sdiv (cs : List Int) (r : Int) : (sdiv cs r).length = cs.length - 1 := by
  induction cs with
  | nil => rfl
  | cons c cs ih =>
    cases cs with
    | nil => rfl
    | cons c' cs =>
      have e : sdiv (c :: c' :: cs) r = hor (c' :: cs) r :: sdiv (c' :: cs) r := rfl
      rw [e, List.length_cons, ih]
      simp
/-- the coefficients are 0 if the quotient's are and the value at r is -/
theorem all_of_sdiv {p : Int} (cs : List Int) (r : Int) (hr : p ∣ hor cs r) (hq : ∀ c ∈ sdiv cs r, p ∣ c) : ∀ c ∈ cs, p ∣ c := by
  induction cs with
  | nil => intro c hc; cases hc
  | cons c cs ih =>
    cases cs with
    | nil =>
      intro d hd
      rw [List.mem_singleton.mp hd]
      have : hor [c] r = c := by simp [hor]
      rw [this] at hr
      exact hr
    | cons c' cs =>
      have e : sdiv (c :: c' :: cs) r = hor (c' :: cs) r :: sdiv (c' :: cs) r := rfl
      rw [e] at hq
      have h1 : p ∣ hor (c' :: cs) r := hq _ (by simp)
      have e3 : hor (c :: c' :: cs) r = c + r * hor (c' :: cs) r := rfl
      rw [e3] at hr
      have h2 : p ∣ c := (Int.dvd_add_left (Int.dvd_mul_of_dvd_right h1)).mp hr
      intro d hd
      rcases List.mem_cons.mp hd with hd | hd
      · rw [hd]; exact h2
      · exact ih h1 (fun d hd => hq d (by simp [hd])) d hd
/-- one unknown: n coefficients, n points whose differences are not 0: if all values are 0, all coefficients are -/
theorem uni {p : Int} (hp : ∀ a b : Int, p ∣ a * b → p ∣ a ∨ p ∣ b) : ∀ (xs cs : List Int), cs.length = xs.length → xs.Pairwise (fun a b => ¬ p ∣ b - a) → (∀ x ∈ xs, p ∣ hor cs x) → ∀ c ∈ cs, p ∣ c := by
  intro xs
  induction xs with
  | nil =>
    intro cs hl _ _
    rw [List.length_nil, List.length_eq_zero_iff] at hl
    subst hl
    intro c hc; cases hc
  | cons r xs ih =>
    intro cs hl hpw hv
    rw [List.pairwise_cons] at hpw
    refine all_of_sdiv cs r (hv r (by simp)) (ih (sdiv cs r) (by rw [len_sdiv, hl]; simp) hpw.2 fun x hx => ?_)
    have h1 : p ∣ hor cs x - hor cs r := Int.dvd_sub (hv x (by simp [hx])) (hv r (by simp))
    rw [hor_sdiv] at h1
    rcases hp _ _ h1 with h | h
    · exact absurd h (hpw.1 x hx)
    · exact h
/-! ### three unknowns -/
def rg (d : Nat) (f : Nat → Int) : List Int := (List.range (d + 1)).map f
theorem rg_len (d : Nat) (f : Nat → Int) : (rg d f).length = d + 1 := by simp [rg]
theorem rg_mem {d : Nat} {f : Nat → Int} {k : Nat} (h : k ≤ d) : f k ∈ rg d f := List.mem_map.mpr ⟨k, List.mem_range.mpr (by omega), rfl⟩
def pts (d : Nat) : List Int := (List.range (d + 1)).map fun k : Nat => (k : Int)
theorem pts_pw {p : Int} {d : Nat} (hp : p = 0 ∨ (d : Int) < p) : (pts d).Pairwise (fun a b => ¬ p ∣ b - a) := by
  unfold pts
  rw [List.pairwise_map]
  refine List.Pairwise.imp_of_mem ?_ (List.pairwise_lt_range)
  intro a b ha hb hlt hd
  have h1 := List.mem_range.mp ha
  have h2 := List.mem_range.mp hb
  rcases hp with rfl | hp
  · have := Int.zero_dvd.mp hd
    omega
  · have := Int.le_of_dvd (by omega) hd
    omega
/-- a sum over 0 .. d -/
theorem hor_add (d : Nat) (f g : Nat → Int) (x : Int) : ∀ s : Nat → Nat, hor ((List.range (d + 1)).map fun k => f (s k) + g (s k)) x = hor ((List.range (d + 1)).map fun k => f (s k)) x + hor ((List.range (d + 1)).map fun k => g (s k)) x := by
  suffices h : ∀ (l : List Nat), hor (l.map fun k => f k + g k) x = hor (l.map f) x + hor (l.map g) x by
    intro s
    have := h ((List.range (d + 1)).map s)
    simp only [List.map_map] at this
    exact this
  intro l
  induction l with
  | nil => simp [hor]
  | cons a l ih => simp only [List.map_cons, hor, ih]; grind
theorem hor_map_add (l : List Nat) (f g : Nat → Int) (x : Int) : hor (l.map fun k => f k + g k) x = hor (l.map f) x + hor (l.map g) x := by
  induction l with
  | nil => simp [hor]
  | cons a l ih => simp only [List.map_cons, hor, ih]; grind
theorem rg_add (d : Nat) (f g : Nat → Int) (x : Int) : hor (rg d fun k => f k + g k) x = hor (rg d f) x + hor (rg d g) x := hor_map_add _ f g x
theorem hor_zero (l : List Nat) (x : Int) : hor (l.map fun _ => 0) x = 0 := by
  induction l with
  | nil => rfl
  | cons a l ih => simp only [List.map_cons, hor, ih]; simp
theorem hor_single (n : Nat) (a s : Nat) (t x : Int) (h : a < s + n) (hs : s ≤ a) : hor ((List.range' s n).map fun k => if k = a then t else 0) x = t * x ^ (a - s) := by
  induction n generalizing s with
  | zero => omega
  | succ n ih =>
    rw [List.range'_succ, List.map_cons]
    simp only [hor]
    by_cases e : s = a
    · subst e
      rw [if_pos rfl]
      have : (List.range' (s + 1) n).map (fun k => if k = s then t else 0) = (List.range' (s + 1) n).map fun _ => (0 : Int) := by
        refine List.map_congr_left fun k hk => ?_
        have := (List.mem_range'_1.mp hk).1
        rw [if_neg (by omega)]
      rw [this, hor_zero]
      simp
    · rw [if_neg e, ih (s + 1) (by omega) (by omega)]
      have : a - s = (a - (s + 1)) + 1 := by omega
      rw [this, Int.pow_succ]
      grind
theorem rg_single (d a : Nat) (t x : Int) (h : a ≤ d) : hor (rg d fun k => if k = a then t else 0) x = t * x ^ a := by
  unfold rg
  rw [List.range_eq_range']
  have := hor_single (d + 1) a 0 t x (by omega) (by omega)
  simpa using this
theorem rg_zero (d : Nat) (x : Int) : hor (rg d fun _ => 0) x = 0 := hor_zero _ x
/-- the value, by Horner's scheme in x of schemes in y of schemes in z -/
def tri (A : Mo → Int) (d : Nat) (v : Pt) : Int := hor (rg d fun a => hor (rg d fun b => hor (rg d fun c => A (a, b, c)) v.2.2) v.2.1) v.1
theorem tri_add (A B : Mo → Int) (d : Nat) (v : Pt) : tri (fun m => A m + B m) d v = tri A d v + tri B d v := by
  unfold tri
  simp only [rg_add]
theorem tri_zero (d : Nat) (v : Pt) : tri (fun _ => 0) d v = 0 := by
  unfold tri
  simp only [rg_zero]
theorem tri_one (m : Mo) (t : Int) (d : Nat) (v : Pt) (h : dg m ≤ d) : tri (fun k => if m = k then t else 0) d v = t * mv m v := by
  obtain ⟨a, b, c⟩ := m
  have ha : a ≤ d := by unfold dg at h; dsimp only at h; omega
  have hb : b ≤ d := by unfold dg at h; dsimp only at h; omega
  have hc : c ≤ d := by unfold dg at h; dsimp only at h; omega
  show hor (rg d fun i => hor (rg d fun j => hor (rg d fun k => if (a, b, c) = (i, j, k) then t else 0) v.2.2) v.2.1) v.1 = t * (v.1 ^ a * v.2.1 ^ b * v.2.2 ^ c)
  have e1 : ∀ i j, hor (rg d fun k => if (a, b, c) = (i, j, k) then t else 0) v.2.2 = if j = b then (if i = a then t * v.2.2 ^ c else 0) else 0 := by
    intro i j
    by_cases h1 : i = a
    · by_cases h2 : j = b
      · subst h1 h2
        rw [if_pos rfl, if_pos rfl, ← rg_single d c t v.2.2 hc]
        congr 1
        unfold rg
        refine List.map_congr_left fun k _ => ?_
        simp only [Prod.mk.injEq, true_and]
        by_cases e : c = k
        · rw [if_pos e, if_pos e.symm]
        · rw [if_neg e, if_neg (fun q => e q.symm)]
      · rw [if_neg h2]
        refine Eq.trans (b := hor (rg d fun _ => 0) v.2.2) ?_ (rg_zero d v.2.2)
        congr 1
        unfold rg
        refine List.map_congr_left fun k _ => ?_
        exact if_neg fun q => h2 (Prod.mk.inj (Prod.mk.inj q).2).1.symm
    · have e0 : (if j = b then (if i = a then t * v.2.2 ^ c else 0) else 0) = (0 : Int) := by rw [if_neg h1]; split <;> rfl
      rw [e0]
      refine Eq.trans (b := hor (rg d fun _ => 0) v.2.2) ?_ (rg_zero d v.2.2)
      congr 1
      unfold rg
      refine List.map_congr_left fun k _ => ?_
      exact if_neg fun q => h1 (Prod.mk.inj q).1.symm
  simp only [e1]
  have e2 : ∀ i, hor (rg d fun j => if j = b then (if i = a then t * v.2.2 ^ c else 0) else 0) v.2.1 = if i = a then t * v.2.2 ^ c * v.2.1 ^ b else 0 := by
    intro i
    rw [rg_single d b _ _ hb]
    split
    · rfl
    · simp
  simp only [e2]
  rw [rg_single d a _ _ ha]
  grind
theorem ev_tri (P : Po) (d : Nat) (v : Pt) (h : DgLe P d) : ev P v = tri (cf P) d v := by
  induction P with
  | nil =>
    have e : cf [] = fun _ => 0 := by funext k; rfl
    rw [e, tri_zero]; rfl
  | cons t P ih =>
    have e : cf (t :: P) = fun k => (if t.1 = k then t.2 else 0) + cf P k := by funext k; rfl
    rw [e, tri_add, tri_one _ _ _ _ (h t (by simp)), ← ih fun u hu => h u (by simp [hu])]
    rfl
/-- a point of the grid -/
def InGrid (d : Nat) (v : Pt) : Prop := v.1 ∈ pts d ∧ v.2.1 ∈ pts d ∧ v.2.2 ∈ pts d
theorem tri_all {p : Int} (hp : ∀ a b : Int, p ∣ a * b → p ∣ a ∨ p ∣ b) {A : Mo → Int} {d : Nat} (hd : p = 0 ∨ (d : Int) < p) (h : ∀ v, InGrid d v → p ∣ tri A d v) {m : Mo} (hm : dg m ≤ d) : p ∣ A m := by
  obtain ⟨a, b, c⟩ := m
  have ha : a ≤ d := by unfold dg at hm; dsimp only at hm; omega
  have hb : b ≤ d := by unfold dg at hm; dsimp only at hm; omega
  have hc : c ≤ d := by unfold dg at hm; dsimp only at hm; omega
  have hl : ∀ f, (rg d f).length = (pts d).length := fun f => by simp [rg, pts]
  refine uni hp (pts d) (rg d fun c => A (a, b, c)) (hl _) (pts_pw hd) (fun z hz => ?_) _ (rg_mem hc)
  refine uni hp (pts d) (rg d fun b => hor (rg d fun c => A (a, b, c)) z) (hl _) (pts_pw hd) (fun y hy => ?_) _ (rg_mem (f := fun b => hor (rg d fun c => A (a, b, c)) z) hb)
  refine uni hp (pts d) (rg d fun a => hor (rg d fun b => hor (rg d fun c => A (a, b, c)) z) y) (hl _) (pts_pw hd) (fun x hx => ?_) _ (rg_mem (f := fun a => hor (rg d fun b => hor (rg d fun c => A (a, b, c)) z) y) ha)
  exact h (x, y, z) ⟨hx, hy, hz⟩
/-- the law's own use: a coefficient that p does not divide gives a point of the grid where p does not divide the value -/
theorem grid {p : Int} (hp : ∀ a b : Int, p ∣ a * b → p ∣ a ∨ p ∣ b) {P : Po} {d : Nat} (hw : WF P) (hdl : DgLe P d) (hd : p = 0 ∨ (d : Int) < p) (hc : ¬ ∀ t ∈ P, p ∣ t.2) : ∃ v, InGrid d v ∧ ¬ p ∣ ev P v := by
  apply Classical.byContradiction
  intro hn
  refine hc fun t ht => ?_
  rw [← cf_of_mem hw.1 ht]
  refine tri_all hp hd (fun v hv => ?_) (hdl t ht)
  rw [← ev_tri P d v hdl]
  apply Classical.byContradiction
  intro h
  exact hn ⟨v, hv, h⟩
end Ef
/-! A3: small matrices as functions, determinants, fraction-free elimination -/
namespace Ef
abbrev Mx := Nat → Nat → Int
def det2 (M : Mx) : Int := M 0 0 * M 1 1 - M 0 1 * M 1 0
def det3 (M : Mx) : Int := M 0 0 * (M 1 1 * M 2 2 - M 1 2 * M 2 1) - M 0 1 * (M 1 0 * M 2 2 - M 1 2 * M 2 0) + M 0 2 * (M 1 0 * M 2 1 - M 1 1 * M 2 0)
def detn (n : Nat) (M : Mx) : Int := if n = 2 then det2 M else det3 M
def swapR (M : Mx) (r s : Nat) : Mx := fun i j => if i = r then M s j else if i = s then M r j else M i j
def swapC (M : Mx) (r s : Nat) : Mx := fun i j => if j = r then M i s else if j = s then M i r else M i j
def addR (M : Mx) (t s : Nat) (f : Int) : Mx := fun i j => if i = t then M t j + f * M s j else M i j
def addC (M : Mx) (t s : Nat) (f : Int) : Mx := fun i j => if j = t then M i t + f * M i s else M i j
def negR (M : Mx) (r : Nat) : Mx := fun i j => if i = r then - M i j else M i j
def setE (M : Mx) (r s : Nat) (v : Int) : Mx := fun i j => if i = r ∧ j = s then v else M i j

/-! ### exact division -/
theorem fdiv_unique {a d q r : Int} (h : a = d * q + r) (hr : (0 ≤ r ∧ r < d) ∨ (d < r ∧ r ≤ 0)) : a.fdiv d = q ∧ a.fmod d = r := by
  have hd : d ≠ 0 := by omega
  have e := Int.mul_fdiv_add_fmod a d
  have hm : (0 ≤ a.fmod d ∧ a.fmod d < d) ∨ (d < a.fmod d ∧ a.fmod d ≤ 0) := by
    by_cases hp : 0 < d
    · exact .inl ⟨Int.fmod_nonneg_of_pos a hp, Int.fmod_lt_of_pos a hp⟩
    · right
      have hn : d < 0 := by omega
      have h1 : a.fmod d = -((-a).fmod (-d)) := by rw [Int.neg_fmod_neg]; omega
      have h2 := Int.fmod_nonneg_of_pos (-a) (b := -d) (by omega)
      have h3 := Int.fmod_lt_of_pos (-a) (b := -d) (by omega)
      omega
  have key : d * (a.fdiv d - q) = r - a.fmod d := by rw [Int.mul_sub]; omega
  have hq : a.fdiv d - q = 0 := by
    apply Classical.byContradiction
    intro hne
    have h4 : (d * (a.fdiv d - q)).natAbs = d.natAbs * (a.fdiv d - q).natAbs := Int.natAbs_mul ..
    have h5 : d.natAbs * 1 ≤ d.natAbs * (a.fdiv d - q).natAbs := Nat.mul_le_mul_left _ (by omega)
    omega
  rw [hq] at key
  constructor <;> omega
theorem fmod_rng (a : Int) {d : Int} (hd : d ≠ 0) : (0 ≤ a.fmod d ∧ a.fmod d < d) ∨ (d < a.fmod d ∧ a.fmod d ≤ 0) := by
  by_cases hp : 0 < d
  · exact .inl ⟨Int.fmod_nonneg_of_pos a hp, Int.fmod_lt_of_pos a hp⟩
  · right
    have h1 : a.fmod d = -((-a).fmod (-d)) := by rw [Int.neg_fmod_neg]; omega
    have h2 := Int.fmod_nonneg_of_pos (-a) (b := -d) (by omega)
    have h3 := Int.fmod_lt_of_pos (-a) (b := -d) (by omega)
    omega
theorem fmod_eq (a d : Int) : a.fmod d = a - d * a.fdiv d := by have := Int.mul_fdiv_add_fmod a d; omega
theorem fmod_eq' (a d : Int) : a + -(a.fdiv d) * d = a.fmod d := by rw [fmod_eq]; grind
theorem fmod_zero_iff {a d : Int} (hd : d ≠ 0) : a.fmod d = 0 ↔ d ∣ a := by
  constructor
  · intro h
    have := Int.mul_fdiv_add_fmod a d
    exact ⟨a.fdiv d, by omega⟩
  · rintro ⟨q, rfl⟩
    exact (fdiv_unique (a := d * q) (d := d) (q := q) (r := 0) (by omega) (by omega)).2
theorem fdiv_mul_left {a d : Int} (hd : d ≠ 0) : (d * a).fdiv d = a := (fdiv_unique (a := d * a) (d := d) (q := a) (r := 0) (by omega) (by omega)).1
theorem fdiv_le (a : Int) {d : Int} (hd : d ≠ 0) : (a.fdiv d).natAbs ≤ a.natAbs := by
  have e := Int.mul_fdiv_add_fmod a d
  have hm := fmod_rng a hd
  apply Classical.byContradiction
  intro hn
  have h4 : (d * a.fdiv d).natAbs = d.natAbs * (a.fdiv d).natAbs := Int.natAbs_mul ..
  have h1 : d.natAbs ≤ 1 ∨ 2 ≤ d.natAbs := by omega
  rcases h1 with h1 | h1
  · have h6 : d.natAbs = 1 := by omega
    rw [h6] at h4
    omega
  · by_cases h0 : a.fdiv d = 0
    · rw [h0] at hn; simp at hn
    · have h5 : d.natAbs + (a.fdiv d).natAbs ≤ d.natAbs * (a.fdiv d).natAbs + 1 := by
        obtain ⟨x, hx⟩ : ∃ x, d.natAbs = x + 1 := ⟨d.natAbs - 1, by omega⟩
        obtain ⟨y, hy⟩ : ∃ y, (a.fdiv d).natAbs = y + 1 := ⟨(a.fdiv d).natAbs - 1, by omega⟩
        rw [hx, hy]
        have : (x + 1) * (y + 1) = x * y + x + y + 1 := by grind
        have := Nat.zero_le (x * y)
        omega
      omega
/-! ### fraction-free elimination -/
/-- rows below at, columns behind at: one turn -/
def elimV (M : Mx) (k : Nat) (b : Int) (i j : Nat) : Int := (M i j * M k k - M i k * M k j).fdiv b
/-- the turn as far as row i0, column j0 -/
def elimP (M : Mx) (k : Nat) (b : Int) (i0 j0 : Nat) : Mx := fun i j => if k < i ∧ k < j ∧ (i < i0 ∨ (i = i0 ∧ j < j0)) then elimV M k b i j else M i j
theorem elimP_start (M : Mx) (k : Nat) (b : Int) : elimP M k b (k + 1) (k + 1) = M := by
  funext i j
  unfold elimP
  rw [if_neg]
  omega
theorem elimP_set (M : Mx) (k : Nat) (b : Int) {i0 j0 : Nat} (hi : k < i0) (hj : k < j0) : setE (elimP M k b i0 j0) i0 j0 (elimV M k b i0 j0) = elimP M k b i0 (j0 + 1) := by
  funext i j
  unfold setE elimP
  by_cases h : i = i0 ∧ j = j0
  · obtain ⟨rfl, rfl⟩ := h
    rw [if_pos ⟨rfl, rfl⟩, if_pos]
    omega
  · rw [if_neg h]
    by_cases h2 : k < i ∧ k < j ∧ (i < i0 ∨ (i = i0 ∧ j < j0))
    · rw [if_pos h2, if_pos (by omega)]
    · rw [if_neg h2, if_neg (by omega)]
/-- the entries that a turn reads are as they were -/
theorem elimP_get (M : Mx) (k : Nat) (b : Int) {i0 j0 i j : Nat} (h : ¬ (k < i ∧ k < j ∧ (i < i0 ∨ (i = i0 ∧ j < j0)))) : elimP M k b i0 j0 i j = M i j := if_neg h
/-- what stands ahead of turn k; D the determinant, E a bound of the entries -/
structure BInv (n k : Nat) (M : Mx) (sg bf D : Int) (E : Nat) : Prop where
  shape : (n = 2 ∨ n = 3) ∧ k < n
  sgn : sg = 1 ∨ sg = -1
  fin : k + 1 = n → sg * M k k = D
  mid : n = 3 → k = 1 → bf ≠ 0 ∧ sg * (M 1 1 * M 2 2 - M 1 2 * M 2 1) = bf * D
  ini : k = 0 → bf = 1 ∧ sg * detn n M = D
  bf0 : k + 1 < n → bf ≠ 0 ∧ bf.natAbs ≤ E
  sz : k + 1 < n → ∀ i j, i < n → j < n → (M i j).natAbs ≤ (if k = 0 then E else 2 * E * E)
theorem natAbs_mul_le {a b : Int} {x y : Nat} (ha : a.natAbs ≤ x) (hb : b.natAbs ≤ y) : (a * b).natAbs ≤ x * y := by rw [Int.natAbs_mul]; exact Nat.mul_le_mul ha hb
theorem swap_sz {n : Nat} {M : Mx} {B r s : Nat} (h : ∀ i j, i < n → j < n → (M i j).natAbs ≤ B) (hr : r < n) (hs : s < n) : ∀ i j, i < n → j < n → (swapR M r s i j).natAbs ≤ B := by
  intro i j hi hj
  unfold swapR
  split
  · exact h s j hs hj
  · split
    · exact h r j hr hj
    · exact h i j hi hj
/-- rows k and p exchanged -/
theorem BInv.swap {n k : Nat} {M : Mx} {sg bf D : Int} {E p : Nat} (I : BInv n k M sg bf D E) (hk : k + 1 < n) (hp : k < p) (hn : p < n) : BInv n k (swapR M k p) (-sg) bf D E := by
  obtain ⟨⟨hn23, hkn⟩, hsg, fin, mid, ini, bf0, sz⟩ := I
  refine ⟨⟨hn23, hkn⟩, by omega, fun h => by omega, fun h1 h2 => ?_, fun h => ?_, bf0, ?_⟩
  · subst h1 h2
    have e : p = 2 := by omega
    subst e
    obtain ⟨m1, m2⟩ := mid rfl rfl
    refine ⟨m1, ?_⟩
    simp [swapR]
    rw [← m2]
    grind
  · subst h
    obtain ⟨i1, i2⟩ := ini rfl
    refine ⟨i1, ?_⟩
    rw [← i2]
    rcases hn23 with rfl | rfl
    · have e : p = 1 := by omega
      subst e
      simp [detn, det2, swapR]
      grind
    · have e : p = 1 ∨ p = 2 := by omega
      rcases e with rfl | rfl
      · simp [detn, det3, swapR]
        grind
      · simp [detn, det3, swapR]
        grind
  · exact fun _ => swap_sz (sz hk) hkn hn
/-- one turn -/
theorem BInv.turn {n k : Nat} {M : Mx} {sg bf D : Int} {E : Nat} (I : BInv n k M sg bf D E) (hk : k + 1 < n) (h0 : M k k ≠ 0) : BInv n (k + 1) (elimP M k bf n (k + 1)) sg (M k k) D E := by
  obtain ⟨⟨hn23, hkn⟩, hsg, fin, mid, ini, bf0, sz⟩ := I
  have hk01 : k = 0 ∨ (n = 3 ∧ k = 1) := by omega
  rcases hk01 with rfl | ⟨rfl, rfl⟩
  · obtain ⟨i1, i2⟩ := ini rfl
    subst i1
    have d1 : ∀ x : Int, x.fdiv 1 = x := fun x => Int.fdiv_one x
    have sz0 : ∀ i j, i < n → j < n → (M i j).natAbs ≤ E := fun i j hi hj => by simpa using sz hk i j hi hj
    have sz1 : ∀ i j, i < n → j < n → (elimP M 0 1 n 1 i j).natAbs ≤ 2 * E * E := by
      intro i j hi hj
      unfold elimP
      have hE : E ≤ 2 * E * E := by
        rcases Nat.eq_zero_or_pos E with z | z
        · omega
        · have := Nat.mul_le_mul_left (2 * E) z
          omega
      split
      · unfold elimV
        rw [d1]
        have a1 := natAbs_mul_le (sz0 i j hi hj) (sz0 0 0 (by omega) (by omega))
        have a2 := natAbs_mul_le (sz0 i 0 hi (by omega)) (sz0 0 j (by omega) hj)
        have : 2 * E * E = E * E + E * E := by grind
        omega
      · exact Nat.le_trans (sz0 i j hi hj) hE
    rcases hn23 with rfl | rfl
    · refine ⟨⟨.inl rfl, by omega⟩, hsg, fun _ => ?_, fun h => by omega, fun h => by omega, fun h => by omega, fun h => by omega⟩
      rw [← i2]
      simp [elimP, elimV, d1, detn, det2]
      grind
    · refine ⟨⟨.inr rfl, by omega⟩, hsg, fun h => by omega, fun _ _ => ⟨h0, ?_⟩, fun h => by omega, fun _ => ⟨h0, sz0 0 0 (by omega) (by omega)⟩, fun _ => by simpa using sz1⟩
      rw [← i2]
      simp [elimP, elimV, d1, detn, det3]
      grind
  · obtain ⟨m1, m2⟩ := mid rfl rfl
    have hD : ∃ t : Int, M 2 2 * M 1 1 - M 2 1 * M 1 2 = bf * t ∧ sg * t = D := by
      rcases hsg with rfl | rfl
      · exact ⟨D, by grind, by grind⟩
      · exact ⟨-D, by grind, by grind⟩
    obtain ⟨t, ht, htD⟩ := hD
    have e : elimP M 1 bf 3 2 2 2 = t := by
      simp [elimP, elimV]
      rw [ht]
      exact fdiv_mul_left m1
    refine ⟨⟨.inr rfl, by omega⟩, hsg, fun _ => ?_, fun _ h => by omega, fun h => by omega, fun h => by omega, fun h => by omega⟩
    show sg * elimP M 1 bf 3 2 2 2 = D
    rw [e, htD]
/-- no row has an entry in column k -/
theorem BInv.none {n k : Nat} {M : Mx} {sg bf D : Int} {E : Nat} (I : BInv n k M sg bf D E) (hk : k + 1 < n) (h0 : ∀ i, k ≤ i → i < n → M i k = 0) : D = 0 := by
  obtain ⟨⟨hn23, hkn⟩, hsg, fin, mid, ini, bf0, sz⟩ := I
  have hk01 : k = 0 ∨ (n = 3 ∧ k = 1) := by omega
  rcases hk01 with rfl | ⟨rfl, rfl⟩
  · obtain ⟨_, i2⟩ := ini rfl
    rw [← i2]
    rcases hn23 with rfl | rfl
    · have a := h0 0 (by omega) (by omega)
      have b := h0 1 (by omega) (by omega)
      simp [detn, det2, a, b]
    · have a := h0 0 (by omega) (by omega)
      have b := h0 1 (by omega) (by omega)
      have c := h0 2 (by omega) (by omega)
      simp [detn, det3, a, b, c]
  · obtain ⟨m1, m2⟩ := mid rfl rfl
    have a := h0 1 (by omega) (by omega)
    have b := h0 2 (by omega) (by omega)
    rw [a, b] at m2
    have : bf * D = 0 := by rw [← m2]; grind
    rcases Int.mul_eq_zero.mp this with z | z
    · exact absurd z m1
    · exact z
/-- the products of a turn are small -/
theorem BInv.small {n k : Nat} {M : Mx} {sg bf D : Int} {E : Nat} (I : BInv n k M sg bf D E) (hE : E ≤ 8192) (hk : k + 1 < n) : ∀ i j, i < n → j < n → (M i j).natAbs ≤ 134217728 := by
  intro i j hi hj
  have h := I.sz hk i j hi hj
  have : E * E ≤ 8192 * 8192 := Nat.mul_le_mul hE hE
  have e : 2 * E * E = 2 * (E * E) := by grind
  split at h <;> omega
theorem bInv_ini {n : Nat} {M : Mx} {E : Nat} (hn : n = 2 ∨ n = 3) (h : ∀ i j, i < n → j < n → (M i j).natAbs ≤ E) (hE : 1 ≤ E) : BInv n 0 M 1 1 (detn n M) E :=
  ⟨⟨hn, by omega⟩, .inl rfl, fun h => by omega, fun _ h => by omega, fun _ => ⟨rfl, by omega⟩, fun _ => ⟨by omega, by simpa using hE⟩, fun _ => by simpa using h⟩
end Ef
/-! A4: the 2 by 2 turn in numbers: how its least item falls -/
namespace Ef
/-- remainders of the size of a: between 0 and a -/
def Rem (a b : Int) : Prop := (0 ≤ b ∧ b < a) ∨ (a < b ∧ b ≤ 0)
theorem rem_fmod (x : Int) {p : Int} (h : p ≠ 0) : Rem p (x.fmod p) := fmod_rng x h
/-- a 2 by 2 block -/
structure B2 where
  a : Int
  b : Int
  c : Int
  d : Int
/-- the block with its pivot brought to the corner, cleared -/
def B2.clr (s : B2) : B2 := ⟨s.a, s.b.fmod s.a, s.c.fmod s.a, (s.d + -(s.c.fdiv s.a) * s.b) + -(s.b.fdiv s.a) * s.c.fmod s.a⟩
def B2.spr (s : B2) : B2 := ⟨s.a + s.c, s.b + s.d, s.c, s.d⟩
def B2.swr (s : B2) : B2 := ⟨s.c, s.d, s.a, s.b⟩
def B2.swc (s : B2) : B2 := ⟨s.b, s.a, s.d, s.c⟩
def B2.at (s : B2) : Bool → Bool → Int
  | false, false => s.a
  | false, true => s.b
  | true, false => s.c
  | true, true => s.d
def B2.bring (s : B2) (i j : Bool) : B2 :=
  let t := if i then s.swr else s
  if j then t.swc else t
/-- (i, j) is the first place of the least size -/
structure B2.LP (s : B2) (i j : Bool) : Prop where
  ne : s.at i j ≠ 0
  least : ∀ i' j', s.at i' j' ≠ 0 → (s.at i j).natAbs ≤ (s.at i' j').natAbs
  first : ∀ i' j', (i' = false ∧ i = true) ∨ (i' = i ∧ j' = false ∧ j = true) → s.at i' j' ≠ 0 → (s.at i j).natAbs < (s.at i' j').natAbs
def B2.Small (s : B2) (k : Nat) : Prop := ∃ i j, s.at i j ≠ 0 ∧ (s.at i j).natAbs < 2 ^ k
/-- behind a turn that was not clean -/
structure B2.NSt (s : B2) (k : Nat) : Prop where
  a0 : s.a ≠ 0
  ak : s.a.natAbs < 2 ^ (k + 1)
  rb : Rem s.a s.b
  rc : Rem s.a s.c
  ne : s.b ≠ 0 ∨ s.c ≠ 0
/-- behind a spread row -/
structure B2.SSt (s : B2) (k : Nat) : Prop where
  a0 : s.a ≠ 0
  ak : s.a.natAbs < 2 ^ (k + 1)
  c0 : s.c = 0
  bd : s.b = s.d
  nd : ¬ s.a ∣ s.d
def B2.Two (s : B2) (k : Nat) : Prop := s.NSt k ∧ (s.d = 0 ∨ s.a.natAbs ≤ s.d.natAbs ∨ s.d.natAbs < 2 ^ k)
/-- at most m turns more -/
def B2.Rank (s : B2) (m : Nat) : Prop := (∃ k, m = 5 * k + 4 ∧ s.Small k) ∨ (∃ k, m = 5 * (k + 1) + 3 ∧ s.NSt k) ∨ (∃ k, m = 5 * (k + 1) + 2 ∧ s.SSt k) ∨ (∃ k, m = 5 * (k + 1) + 1 ∧ s.Two k)
theorem small0 {s : B2} : ¬ s.Small 0 := by
  rintro ⟨i, j, h1, h2⟩
  simp at h2
  exact h1 h2
theorem Rem.lt {a b : Int} (h : Rem a b) (ha : a ≠ 0) : b.natAbs < a.natAbs := by unfold Rem at h; omega
/-- the next remainder is less than half -/
theorem half_mod {a b : Int} (h : Rem a b) (hb : b ≠ 0) : 2 * (a.fmod b).natAbs < a.natAbs := by
  have r := fmod_rng a hb
  have e := Int.mul_fdiv_add_fmod a b
  have hq : b.natAbs ≤ (b * a.fdiv b).natAbs ∧ ((0 ≤ b * a.fdiv b) ↔ 0 ≤ a) := by
    have h4 : (b * a.fdiv b).natAbs = b.natAbs * (a.fdiv b).natAbs := Int.natAbs_mul ..
    have h0 : a.fdiv b ≠ 0 := by
      intro z
      rw [z] at e
      unfold Rem at h
      omega
    have h5 : b.natAbs * 1 ≤ b.natAbs * (a.fdiv b).natAbs := Nat.mul_le_mul_left _ (by omega)
    unfold Rem at h
    constructor
    · omega
    · constructor <;> intro _ <;> omega
  unfold Rem at h
  omega
theorem half_dvd {a b : Int} (h : Rem a b) (hb : b ≠ 0) (hd : b ∣ a) : 2 * b.natAbs ≤ a.natAbs := by
  obtain ⟨q, rfl⟩ := hd
  have h4 : (b * q).natAbs = b.natAbs * q.natAbs := Int.natAbs_mul ..
  have hl := h.lt (by intro z; rcases Int.mul_eq_zero.mp z with z | z; exact hb z; subst z; unfold Rem at h; omega)
  have : 2 ≤ q.natAbs := by
    apply Classical.byContradiction
    intro hn
    have : q.natAbs = 0 ∨ q.natAbs = 1 := by omega
    rcases this with z | z <;> rw [z] at h4 <;> omega
  have h5 : b.natAbs * 2 ≤ b.natAbs * q.natAbs := Nat.mul_le_mul_left _ this
  omega
/-- the interior item behind a turn with an interior pivot of more than half the size -/
theorem bad_turn {a b c d : Int} {k : Nat} (rb : Rem a b) (rc : Rem a c) (ak : a.natAbs < 2 ^ (k + 1)) (hd : d.natAbs < a.natAbs) (dk : 2 ^ k ≤ d.natAbs) (hb : b = 0 ∨ d.natAbs ≤ b.natAbs) (hc : c = 0 ∨ d.natAbs ≤ c.natAbs) :
    let z := (a + -(b.fdiv d) * c) + -(c.fdiv d) * b.fmod d
    d.natAbs ≤ z.natAbs ∨ z.natAbs < 2 ^ k := by
  intro z
  have h2 : (2 : Nat) ^ (k + 1) = 2 * 2 ^ k := by rw [Nat.pow_succ]; omega
  generalize (2 : Nat) ^ k = P at *
  have hd0 : d ≠ 0 := by omega
  have fz : (0 : Int).fdiv d = 0 ∧ (0 : Int).fmod d = 0 := fdiv_unique (a := 0) (d := d) (q := 0) (r := 0) (by omega) (by omega)
  rcases hb with hb | hb
  · have : z = a := by show (a + -(b.fdiv d) * c) + -(c.fdiv d) * b.fmod d = a; rw [hb, fz.1, fz.2]; omega
    left; omega
  rcases hc with hc | hc
  · have : z = a := by show (a + -(b.fdiv d) * c) + -(c.fdiv d) * b.fmod d = a; rw [hc, fz.1]; omega
    left; omega
  unfold Rem at rb rc
  -- the quotients
  have q1 : ∀ x : Int, Rem a x → d.natAbs ≤ x.natAbs → ((0 < a ↔ 0 < d) → x.fdiv d = 1 ∧ x.fmod d = x - d) ∧ (¬ (0 < a ↔ 0 < d) → (x = -d → x.fdiv d = -1 ∧ x.fmod d = 0) ∧ (x ≠ -d → x.fdiv d = -2 ∧ x.fmod d = x + 2 * d)) := by
    intro x rx hx
    unfold Rem at rx
    refine ⟨fun hs => fdiv_unique (by omega) (by omega), fun hs => ⟨fun e => fdiv_unique (by omega) (by omega), fun e => fdiv_unique (by omega) (by omega)⟩⟩
  have hbq := q1 b (by unfold Rem; exact rb) hb
  have hcq := q1 c (by unfold Rem; exact rc) hc
  by_cases hs : (0 < a ↔ 0 < d)
  · obtain ⟨b1, b2⟩ := hbq.1 hs
    obtain ⟨c1, _⟩ := hcq.1 hs
    have : z = a - b - c + d := by show (a + -(b.fdiv d) * c) + -(c.fdiv d) * b.fmod d = _; rw [b1, b2, c1]; omega
    right; omega
  · have hb2 := hbq.2 hs
    have hc2 := hcq.2 hs
    left
    by_cases eb : b = -d
    · obtain ⟨b1, b2⟩ := hb2.1 eb
      have : z = a + c := by show (a + -(b.fdiv d) * c) + -(c.fdiv d) * b.fmod d = _; rw [b1, b2]; omega
      omega
    · obtain ⟨b1, b2⟩ := hb2.2 eb
      by_cases ec : c = -d
      · obtain ⟨c1, _⟩ := hc2.1 ec
        have : z = a + b := by show (a + -(b.fdiv d) * c) + -(c.fdiv d) * b.fmod d = _; rw [b1, b2, c1]; omega
        omega
      · obtain ⟨c1, _⟩ := hc2.2 ec
        have : z = a + 2 * b + 2 * c + 4 * d := by show (a + -(b.fdiv d) * c) + -(c.fdiv d) * b.fmod d = _; rw [b1, b2, c1]; omega
        omega
/-- a turn that is not clean, or spreads a row, leaves fewer turns -/
theorem B2.turn {s : B2} {m : Nat} (R : s.Rank m) {i j : Bool} (L : s.LP i j) :
    let t := (s.bring i j).clr
    (¬ (t.b = 0 ∧ t.c = 0) → ∃ m', m' < m ∧ t.Rank m') ∧ (t.b = 0 → t.c = 0 → ¬ t.a ∣ t.d → ∃ m', m' < m ∧ t.spr.Rank m') := by
  intro t
  -- the pivot
  have hp : t.a = s.at i j := by
    cases i <;> cases j <;> rfl
  have hp0 : t.a ≠ 0 := by rw [hp]; exact L.ne
  have rb : Rem t.a t.b := rem_fmod _ hp0
  have rc : Rem t.a t.c := rem_fmod _ hp0
  -- if the pivot is small
  have viaN : ∀ k, t.a.natAbs < 2 ^ (k + 1) → 5 * (k + 1) + 3 < m → (¬ (t.b = 0 ∧ t.c = 0) → ∃ m', m' < m ∧ t.Rank m') ∧ (t.b = 0 → t.c = 0 → ¬ t.a ∣ t.d → ∃ m', m' < m ∧ t.spr.Rank m') := by
    intro k hk hm
    refine ⟨fun hn => ⟨_, hm, .inr (.inl ⟨k, rfl, hp0, hk, rb, rc, by omega⟩)⟩, fun h1 h2 h3 => ⟨5 * (k + 1) + 2, by omega, .inr (.inr (.inl ⟨k, rfl, ?_⟩))⟩⟩
    have e1 : t.spr.a = t.a := by show t.a + t.c = t.a; omega
    refine ⟨by rw [e1]; exact hp0, by rw [e1]; exact hk, h2, ?_, by rw [e1]; exact h3⟩
    show t.b + t.d = t.d
    omega
  have viaS : ∀ k, (t.a.natAbs < 2 ^ k ∨ (t.b ≠ 0 ∧ t.b.natAbs < 2 ^ k) ∨ (t.c ≠ 0 ∧ t.c.natAbs < 2 ^ k)) → 5 * k + 4 < m → (¬ (t.b = 0 ∧ t.c = 0) → ∃ m', m' < m ∧ t.Rank m') ∧ (t.b = 0 → t.c = 0 → ¬ t.a ∣ t.d → ∃ m', m' < m ∧ t.spr.Rank m') := by
    intro k hk hm
    refine ⟨fun hn => ⟨_, hm, .inl ⟨k, rfl, ?_⟩⟩, fun h1 h2 h3 => ⟨_, hm, .inl ⟨k, rfl, false, false, ?_⟩⟩⟩
    · rcases hk with h | ⟨h1, h⟩ | ⟨h1, h⟩
      · exact ⟨false, false, hp0, h⟩
      · exact ⟨false, true, h1, h⟩
      · exact ⟨true, false, h1, h⟩
    · have e1 : t.spr.at false false = t.a := by show t.a + t.c = t.a; omega
      rw [e1]
      rcases hk with h | ⟨h4, h⟩ | ⟨h4, h⟩
      · exact ⟨hp0, h⟩
      · exact absurd h1 h4
      · exact absurd h2 h4
  -- from a state behind a turn that was not clean
  have fromN : ∀ k, s.NSt k → 5 * (k + 1) + 1 ≤ m → (s.d = 0 ∨ s.a.natAbs ≤ s.d.natAbs ∨ s.d.natAbs < 2 ^ k) ∨ 5 * (k + 1) + 3 ≤ m →
      (¬ (t.b = 0 ∧ t.c = 0) → ∃ m', m' < m ∧ t.Rank m') ∧ (t.b = 0 → t.c = 0 → ¬ t.a ∣ t.d → ∃ m', m' < m ∧ t.spr.Rank m') := by
    intro k N hm hd
    have h2 : (2 : Nat) ^ (k + 1) = 2 * 2 ^ k := by rw [Nat.pow_succ]; omega
    have ak := N.ak
    have hle : ∀ x : Int, (s.at i j).natAbs ≤ x.natAbs ∨ x = 0 → True := fun _ _ => trivial
    cases i with
    | false =>
      cases j with
      | false =>
        exfalso
        have hb := L.least false true
        have hc := L.least true false
        have l1 := N.rb.lt N.a0
        have l2 := N.rc.lt N.a0
        have e : (s.at false false) = s.a := rfl
        have e1 : (s.at false true) = s.b := rfl
        have e2 : (s.at true false) = s.c := rfl
        rw [e] at hb hc
        rw [e1] at hb
        rw [e2] at hc
        rcases N.ne with h | h
        · have := hb h; omega
        · have := hc h; omega
      | true =>
        have hb0 : s.b ≠ 0 := L.ne
        have e1 : t.b = s.a.fmod s.b := rfl
        have e2 : t.a = s.b := rfl
        by_cases z : t.b = 0
        · refine viaS k (.inl ?_) (by omega)
          rw [e1] at z
          have := half_dvd N.rb hb0 ((fmod_zero_iff hb0).mp z)
          rw [e2]; omega
        · refine viaS k (.inr (.inl ⟨z, ?_⟩)) (by omega)
          have := half_mod N.rb hb0
          rw [e1]; omega
    | true =>
      cases j with
      | false =>
        have hb0 : s.c ≠ 0 := L.ne
        have e1 : t.c = s.a.fmod s.c := rfl
        have e2 : t.a = s.c := rfl
        by_cases z : t.c = 0
        · refine viaS k (.inl ?_) (by omega)
          rw [e1] at z
          have := half_dvd N.rc hb0 ((fmod_zero_iff hb0).mp z)
          rw [e2]; omega
        · refine viaS k (.inr (.inr ⟨z, ?_⟩)) (by omega)
          have := half_mod N.rc hb0
          rw [e1]; omega
      | true =>
        have hd0 : s.d ≠ 0 := L.ne
        have e2 : t.a = s.d := rfl
        have lb := L.least false true
        have lc := L.least true false
        have e3 : (s.at true true) = s.d := rfl
        have e4 : (s.at false true) = s.b := rfl
        have e5 : (s.at true false) = s.c := rfl
        rw [e3] at lb lc
        rw [e4] at lb
        rw [e5] at lc
        have l1 := N.rb.lt N.a0
        have l2 := N.rc.lt N.a0
        have hda : s.d.natAbs < s.a.natAbs := by
          rcases N.ne with h | h
          · have := lb h; omega
          · have := lc h; omega
        by_cases hk : s.d.natAbs < 2 ^ k
        · exact viaS k (.inl (by rw [e2]; exact hk)) (by omega)
        · have hm3 : 5 * (k + 1) + 3 ≤ m := by
            rcases hd with hd | hd
            · omega
            · exact hd
          refine ⟨fun hn => ⟨5 * (k + 1) + 1, by omega, .inr (.inr (.inr ⟨k, rfl, ⟨hp0, by rw [e2]; omega, rb, rc, by omega⟩, ?_⟩))⟩, fun h1 h2' h3 => ⟨5 * (k + 1) + 2, by omega, .inr (.inr (.inl ⟨k, rfl, ?_⟩))⟩⟩
          · have hb' : s.b = 0 ∨ s.d.natAbs ≤ s.b.natAbs := by
              by_cases h : s.b = 0
              · exact .inl h
              · exact .inr (lb h)
            have hc' : s.c = 0 ∨ s.d.natAbs ≤ s.c.natAbs := by
              by_cases h : s.c = 0
              · exact .inl h
              · exact .inr (lc h)
            have bt := bad_turn (k := k) N.rb N.rc ak hda (by omega) hb' hc'
            rw [e2]
            exact .inr bt
          · have e6 : t.spr.a = t.a := by show t.a + t.c = t.a; omega
            refine ⟨by rw [e6]; exact hp0, by rw [e6, e2]; omega, h2', ?_, by rw [e6]; exact h3⟩
            show t.b + t.d = t.d
            omega
  rcases R with ⟨k, rfl, i', j', h1, h2⟩ | ⟨k, rfl, N⟩ | ⟨k, rfl, S⟩ | ⟨k, rfl, N, h⟩
  · have hl := L.least i' j' h1
    cases k with
    | zero => exact absurd ⟨i', j', h1, h2⟩ small0
    | succ k => exact viaN k (by rw [hp]; omega) (by omega)
  · exact fromN k N (by omega) (.inr (by omega))
  · -- behind a spread row
    have hd0 : s.d ≠ 0 := by intro z; exact S.nd (by rw [z]; exact Int.dvd_zero _)
    have hb0 : s.b ≠ 0 := by rw [S.bd]; exact hd0
    have two : t.Two k → (¬ (t.b = 0 ∧ t.c = 0) → ∃ m', m' < 5 * (k + 1) + 2 ∧ t.Rank m') := fun T _ => ⟨5 * (k + 1) + 1, by omega, .inr (.inr (.inr ⟨k, rfl, T⟩))⟩
    cases i with
    | true =>
      exfalso
      cases j with
      | false => exact L.ne S.c0
      | true =>
        have h1 := L.first false true (.inl ⟨rfl, rfl⟩) hb0
        have e3 : (s.at true true) = s.d := rfl
        have e4 : (s.at false true) = s.b := rfl
        rw [e3, e4, S.bd] at h1
        omega
    | false =>
      cases j with
      | false =>
        have e2 : t.a = s.a := rfl
        have ez : (0 : Int).fdiv s.a = 0 ∧ (0 : Int).fmod s.a = 0 := fdiv_unique (a := 0) (d := s.a) (q := 0) (r := 0) (by omega) (by have := S.a0; omega)
        have e3 : t.c = 0 := by show s.c.fmod s.a = 0; rw [S.c0]; exact ez.2
        have e4 : t.d = s.d := by
          show (s.d + -(s.c.fdiv s.a) * s.b) + -(s.b.fdiv s.a) * s.c.fmod s.a = s.d
          rw [S.c0, ez.1, ez.2]; omega
        have e5 : t.b ≠ 0 := by
          show s.b.fmod s.a ≠ 0
          rw [S.bd]
          intro z
          exact S.nd ((fmod_zero_iff S.a0).mp z)
        have hl := L.least true true hd0
        refine ⟨two ⟨⟨hp0, by rw [e2]; exact S.ak, rb, rc, .inl e5⟩, .inr (.inl ?_)⟩, fun h => absurd h e5⟩
        rw [e2, e4]
        exact hl
      | true =>
        have hlt : s.d.natAbs < s.a.natAbs := by
          have h1 := L.first false false (.inr ⟨rfl, rfl, rfl⟩) S.a0
          have e3 : (s.at false true) = s.b := rfl
          have e4 : (s.at false false) = s.a := rfl
          rw [e3, e4, S.bd] at h1
          exact h1
        have e2 : t.a = s.d := S.bd
        have eo : s.d.fdiv s.d = 1 ∧ s.d.fmod s.d = 0 := fdiv_unique (a := s.d) (d := s.d) (q := 1) (r := 0) (by omega) (by omega)
        have e3 : t.c = 0 := by show s.d.fmod s.b = 0; rw [S.bd]; exact eo.2
        have e4 : t.d = -s.a := by
          show (s.c + -(s.d.fdiv s.b) * s.a) + -(s.a.fdiv s.b) * s.d.fmod s.b = -s.a
          rw [S.bd, eo.1, eo.2, S.c0]; omega
        have e5 : t.b = s.a.fmod s.d := by show s.a.fmod s.b = _; rw [S.bd]
        have ak := S.ak
        refine ⟨fun hn => two ⟨⟨hp0, by rw [e2]; omega, rb, rc, by omega⟩, .inr (.inl (by rw [e2, e4]; omega))⟩ hn, fun h1 h2 h3 => ?_⟩
        exfalso
        rw [e5] at h1
        rw [e2, e4] at h3
        exact h3 (Int.dvd_neg.mpr ((fmod_zero_iff hd0).mp h1))
  · exact fromN k N (by omega) (.inl h)
end Ef
/-! A5: the turns of the diagonal form on matrices as functions -/
namespace Ef
def bringM (M : Mx) (k i j : Nat) : Mx := swapC (swapR M k i) k j
/-- rows below k, as far as row i0, cleared by row k -/
def clrR (M : Mx) (k i0 : Nat) : Mx := fun i j => if k < i ∧ i < i0 then M i j + -((M i k).fdiv (M k k)) * M k j else M i j
def clrC (M : Mx) (k j0 : Nat) : Mx := fun i j => if k < j ∧ j < j0 then M i j + -((M k j).fdiv (M k k)) * M i k else M i j
def clrM (M : Mx) (k n : Nat) : Mx := clrC (clrR M k n) k n
def Clean (M : Mx) (k n : Nat) : Prop := ∀ i, k < i → i < n → M i k = 0 ∧ M k i = 0
/-- row i is the first below k with an item that the pivot does not divide -/
structure Spr (M : Mx) (k n i : Nat) : Prop where
  lo : k < i
  hi : i < n
  nd : ∃ c, c < n ∧ ¬ M k k ∣ M i c
def NoSpr (M : Mx) (k n : Nat) : Prop := ∀ i, k < i → i < n → ∀ c, c < n → M k k ∣ M i c
/-- the first place of the least size -/
structure LPl (M : Mx) (n k i j : Nat) : Prop where
  ki : k ≤ i
  kj : k ≤ j
  ni : i < n
  nj : j < n
  ne : M i j ≠ 0
  least : ∀ i' j', k ≤ i' → k ≤ j' → i' < n → j' < n → M i' j' ≠ 0 → (M i j).natAbs ≤ (M i' j').natAbs
  first : ∀ i' j', k ≤ i' → k ≤ j' → i' < n → j' < n → (i' < i ∨ (i' = i ∧ j' < j)) → M i' j' ≠ 0 → (M i j).natAbs < (M i' j').natAbs
/-- off the diagonal all is 0 in the rows and columns ahead of k; the determinant is D or -D -/
structure Cor (n k : Nat) (M : Mx) (D : Int) : Prop where
  z : ∀ i j, i < n → j < n → i ≠ j → (i < k ∨ j < k) → M i j = 0
  d : detn n M = D ∨ detn n M = -D
def BdM (b n : Nat) (M : Mx) : Prop := ∀ i j, i < n → j < n → (M i j).natAbs < 2 ^ b

theorem clrR_start (M : Mx) (k : Nat) : clrR M k (k + 1) = M := by
  funext i j; unfold clrR; rw [if_neg (by omega)]
theorem clrC_start (M : Mx) (k : Nat) : clrC M k (k + 1) = M := by
  funext i j; unfold clrC; rw [if_neg (by omega)]
theorem clrR_k (M : Mx) (k i0 j : Nat) : clrR M k i0 k j = M k j := by unfold clrR; rw [if_neg (by omega)]
theorem clrC_k (M : Mx) (k j0 i : Nat) : clrC M k j0 i k = M i k := by unfold clrC; rw [if_neg (by omega)]
theorem clrR_out (M : Mx) (k i0 : Nat) {i : Nat} (j : Nat) (h : ¬ (k < i ∧ i < i0)) : clrR M k i0 i j = M i j := if_neg h
theorem clrC_out (M : Mx) (k j0 i : Nat) {j : Nat} (h : ¬ (k < j ∧ j < j0)) : clrC M k j0 i j = M i j := if_neg h
/-- one row more -/
theorem clrR_step (M : Mx) (k : Nat) {i0 : Nat} (h : k < i0) : addR (clrR M k i0) i0 k (-((clrR M k i0 i0 k).fdiv (clrR M k i0 k k))) = clrR M k (i0 + 1) := by
  rw [clrR_k, clrR_out M k i0 k (by omega)]
  funext i j
  unfold addR
  by_cases e : i = i0
  · subst e
    rw [if_pos rfl, clrR_k, clrR_out M k i j (by omega)]
    show _ = if k < i ∧ i < i + 1 then _ else _
    rw [if_pos (by omega)]
  · rw [if_neg e]
    unfold clrR
    by_cases h2 : k < i ∧ i < i0
    · rw [if_pos h2, if_pos (by omega)]
    · rw [if_neg h2, if_neg (by omega)]
theorem clrC_step (M : Mx) (k : Nat) {j0 : Nat} (h : k < j0) : addC (clrC M k j0) j0 k (-((clrC M k j0 k j0).fdiv (clrC M k j0 k k))) = clrC M k (j0 + 1) := by
  rw [clrC_k, clrC_out M k j0 k (by omega)]
  funext i j
  unfold addC
  by_cases e : j = j0
  · subst e
    rw [if_pos rfl, clrC_k, clrC_out M k j i (by omega)]
    show _ = if k < j ∧ j < j + 1 then _ else _
    rw [if_pos (by omega)]
  · rw [if_neg e]
    unfold clrC
    by_cases h2 : k < j ∧ j < j0
    · rw [if_pos h2, if_pos (by omega)]
    · rw [if_neg h2, if_neg (by omega)]
theorem swapR_self (M : Mx) (k : Nat) : swapR M k k = M := by
  funext i j; unfold swapR; split
  · rename_i e; rw [e]
  · rfl
theorem swapC_self (M : Mx) (k : Nat) : swapC M k k = M := by
  funext i j; unfold swapC; split
  · rename_i e; rw [e]
  · rfl
/-! ### determinants -/
theorem lt3 {n i : Nat} (hn : n = 2 ∨ n = 3) (h : i < n) : i = 0 ∨ i = 1 ∨ (i = 2 ∧ n = 3) := by omega
theorem det_swapR {n r s : Nat} (hn : n = 2 ∨ n = 3) (hr : r < n) (hs : s < n) (M : Mx) : detn n (swapR M r s) = detn n M ∨ detn n (swapR M r s) = - detn n M := by
  by_cases e : r = s
  · subst e; rw [swapR_self]; exact .inl rfl
  right
  rcases hn with rfl | rfl
  · have h : (r = 0 ∧ s = 1) ∨ (r = 1 ∧ s = 0) := by omega
    rcases h with ⟨rfl, rfl⟩ | ⟨rfl, rfl⟩ <;> simp [detn, det2, swapR] <;> grind
  · have h : (r = 0 ∧ s = 1) ∨ (r = 1 ∧ s = 0) ∨ (r = 0 ∧ s = 2) ∨ (r = 2 ∧ s = 0) ∨ (r = 1 ∧ s = 2) ∨ (r = 2 ∧ s = 1) := by omega
    rcases h with ⟨rfl, rfl⟩ | ⟨rfl, rfl⟩ | ⟨rfl, rfl⟩ | ⟨rfl, rfl⟩ | ⟨rfl, rfl⟩ | ⟨rfl, rfl⟩ <;> simp [detn, det3, swapR] <;> grind
theorem det_swapC {n r s : Nat} (hn : n = 2 ∨ n = 3) (hr : r < n) (hs : s < n) (M : Mx) : detn n (swapC M r s) = detn n M ∨ detn n (swapC M r s) = - detn n M := by
  by_cases e : r = s
  · subst e; rw [swapC_self]; exact .inl rfl
  right
  rcases hn with rfl | rfl
  · have h : (r = 0 ∧ s = 1) ∨ (r = 1 ∧ s = 0) := by omega
    rcases h with ⟨rfl, rfl⟩ | ⟨rfl, rfl⟩ <;> simp [detn, det2, swapC] <;> grind
  · have h : (r = 0 ∧ s = 1) ∨ (r = 1 ∧ s = 0) ∨ (r = 0 ∧ s = 2) ∨ (r = 2 ∧ s = 0) ∨ (r = 1 ∧ s = 2) ∨ (r = 2 ∧ s = 1) := by omega
    rcases h with ⟨rfl, rfl⟩ | ⟨rfl, rfl⟩ | ⟨rfl, rfl⟩ | ⟨rfl, rfl⟩ | ⟨rfl, rfl⟩ | ⟨rfl, rfl⟩ <;> simp [detn, det3, swapC] <;> grind
theorem det_addR {n t s : Nat} (hn : n = 2 ∨ n = 3) (ht : t < n) (hs : s < n) (hne : t ≠ s) (M : Mx) (f : Int) : detn n (addR M t s f) = detn n M := by
  rcases hn with rfl | rfl
  · have h : (t = 0 ∧ s = 1) ∨ (t = 1 ∧ s = 0) := by omega
    rcases h with ⟨rfl, rfl⟩ | ⟨rfl, rfl⟩ <;> simp [detn, det2, addR] <;> grind
  · have h : (t = 0 ∧ s = 1) ∨ (t = 1 ∧ s = 0) ∨ (t = 0 ∧ s = 2) ∨ (t = 2 ∧ s = 0) ∨ (t = 1 ∧ s = 2) ∨ (t = 2 ∧ s = 1) := by omega
    rcases h with ⟨rfl, rfl⟩ | ⟨rfl, rfl⟩ | ⟨rfl, rfl⟩ | ⟨rfl, rfl⟩ | ⟨rfl, rfl⟩ | ⟨rfl, rfl⟩ <;> simp [detn, det3, addR] <;> grind
theorem det_addC {n t s : Nat} (hn : n = 2 ∨ n = 3) (ht : t < n) (hs : s < n) (hne : t ≠ s) (M : Mx) (f : Int) : detn n (addC M t s f) = detn n M := by
  rcases hn with rfl | rfl
  · have h : (t = 0 ∧ s = 1) ∨ (t = 1 ∧ s = 0) := by omega
    rcases h with ⟨rfl, rfl⟩ | ⟨rfl, rfl⟩ <;> simp [detn, det2, addC] <;> grind
  · have h : (t = 0 ∧ s = 1) ∨ (t = 1 ∧ s = 0) ∨ (t = 0 ∧ s = 2) ∨ (t = 2 ∧ s = 0) ∨ (t = 1 ∧ s = 2) ∨ (t = 2 ∧ s = 1) := by omega
    rcases h with ⟨rfl, rfl⟩ | ⟨rfl, rfl⟩ | ⟨rfl, rfl⟩ | ⟨rfl, rfl⟩ | ⟨rfl, rfl⟩ | ⟨rfl, rfl⟩ <;> simp [detn, det3, addC] <;> grind
theorem det_negR {n r : Nat} (hn : n = 2 ∨ n = 3) (hr : r < n) (M : Mx) : detn n (negR M r) = - detn n M := by
  rcases hn with rfl | rfl
  · have h : r = 0 ∨ r = 1 := by omega
    rcases h with rfl | rfl <;> simp [detn, det2, negR] <;> grind
  · have h : r = 0 ∨ r = 1 ∨ r = 2 := by omega
    rcases h with rfl | rfl | rfl <;> simp [detn, det3, negR] <;> grind
/-! ### each operation keeps Cor -/
theorem Cor.of {n k : Nat} {M M' : Mx} {D : Int} (C : Cor n k M D) (hz : ∀ i j, i < n → j < n → i ≠ j → (i < k ∨ j < k) → M' i j = 0) (hd : detn n M' = detn n M ∨ detn n M' = - detn n M) : Cor n k M' D :=
  ⟨hz, by have := C.d; omega⟩
theorem Cor.swapR {n k i : Nat} {M : Mx} {D : Int} (C : Cor n k M D) (hn : n = 2 ∨ n = 3) (hk : k < n) (h1 : k ≤ i) (h2 : i < n) : Cor n k (swapR M k i) D := by
  refine C.of (fun a b ha hb hab hkk => ?_) (det_swapR hn hk h2 M)
  unfold Ef.swapR
  split
  · exact C.z _ _ h2 hb (by omega) (by omega)
  · split
    · exact C.z _ _ hk hb (by omega) (by omega)
    · exact C.z _ _ ha hb hab hkk
theorem Cor.swapC {n k i : Nat} {M : Mx} {D : Int} (C : Cor n k M D) (hn : n = 2 ∨ n = 3) (hk : k < n) (h1 : k ≤ i) (h2 : i < n) : Cor n k (swapC M k i) D := by
  refine C.of (fun a b ha hb hab hkk => ?_) (det_swapC hn hk h2 M)
  unfold Ef.swapC
  split
  · exact C.z _ _ ha h2 (by omega) (by omega)
  · split
    · exact C.z _ _ ha hk (by omega) (by omega)
    · exact C.z _ _ ha hb hab hkk
theorem Cor.addR {n k t s : Nat} {M : Mx} {D f : Int} (C : Cor n k M D) (hn : n = 2 ∨ n = 3) (h1 : k ≤ t) (h2 : t < n) (h3 : k ≤ s) (h4 : s < n) (hne : t ≠ s) : Cor n k (addR M t s f) D := by
  refine C.of (fun a b ha hb hab hkk => ?_) (.inl (det_addR hn h2 h4 hne M f))
  unfold Ef.addR
  split
  · rw [C.z t b h2 hb (by omega) (by omega), C.z s b h4 hb (by omega) (by omega)]; omega
  · exact C.z _ _ ha hb hab hkk
theorem Cor.addC {n k t s : Nat} {M : Mx} {D f : Int} (C : Cor n k M D) (hn : n = 2 ∨ n = 3) (h1 : k ≤ t) (h2 : t < n) (h3 : k ≤ s) (h4 : s < n) (hne : t ≠ s) : Cor n k (addC M t s f) D := by
  refine C.of (fun a b ha hb hab hkk => ?_) (.inl (det_addC hn h2 h4 hne M f))
  unfold Ef.addC
  split
  · rw [C.z a t ha h2 (by omega) (by omega), C.z a s ha h4 (by omega) (by omega)]; omega
  · exact C.z _ _ ha hb hab hkk
theorem Cor.negR {n k r : Nat} {M : Mx} {D : Int} (C : Cor n k M D) (hn : n = 2 ∨ n = 3) (h2 : r < n) : Cor n k (negR M r) D := by
  refine C.of (fun a b ha hb hab hkk => ?_) (.inr (det_negR hn h2 M))
  unfold Ef.negR
  split
  · rw [C.z _ _ ha hb hab hkk]; rfl
  · exact C.z _ _ ha hb hab hkk
theorem Cor.bring {n k i j : Nat} {M : Mx} {D : Int} (C : Cor n k M D) (hn : n = 2 ∨ n = 3) (L : LPl M n k i j) : Cor n k (bringM M k i j) D :=
  (C.swapR hn (by have := L.ki; have := L.ni; omega) L.ki L.ni).swapC hn (by have := L.ki; have := L.ni; omega) L.kj L.nj
theorem Cor.clrR {n k : Nat} {M : Mx} {D : Int} (C : Cor n k M D) (hn : n = 2 ∨ n = 3) (hk : k < n) : ∀ d, k + 1 + d ≤ n → Cor n k (clrR M k (k + 1 + d)) D
  | 0, _ => by rw [show k + 1 + 0 = k + 1 by omega, clrR_start]; exact C
  | d + 1, h => by
    have ih := C.clrR hn hk d (by omega)
    rw [show k + 1 + (d + 1) = (k + 1 + d) + 1 by omega, ← clrR_step M k (by omega : k < k + 1 + d)]
    exact ih.addR hn (by omega) (by omega) (by omega) hk (by omega)
theorem Cor.clrC {n k : Nat} {M : Mx} {D : Int} (C : Cor n k M D) (hn : n = 2 ∨ n = 3) (hk : k < n) : ∀ d, k + 1 + d ≤ n → Cor n k (clrC M k (k + 1 + d)) D
  | 0, _ => by rw [show k + 1 + 0 = k + 1 by omega, clrC_start]; exact C
  | d + 1, h => by
    have ih := C.clrC hn hk d (by omega)
    rw [show k + 1 + (d + 1) = (k + 1 + d) + 1 by omega, ← clrC_step M k (by omega : k < k + 1 + d)]
    exact ih.addC hn (by omega) (by omega) (by omega) hk (by omega)
theorem Cor.clr {n k : Nat} {M : Mx} {D : Int} (C : Cor n k M D) (hn : n = 2 ∨ n = 3) (hk : k < n) : Cor n k (clrM M k n) D := by
  have h := (C.clrR hn hk (n - (k + 1)) (by omega)).clrC hn hk (n - (k + 1)) (by omega)
  rw [show k + 1 + (n - (k + 1)) = n by omega] at h
  exact h
theorem Cor.next {n k : Nat} {M : Mx} {D : Int} (C : Cor n k M D) (h : Clean M k n) : Cor n (k + 1) M D := by
  refine ⟨fun i j hi hj hij hk => ?_, C.d⟩
  by_cases h1 : i < k ∨ j < k
  · exact C.z i j hi hj hij h1
  · by_cases h2 : i = k
    · subst h2; exact (h j (by omega) hj).2
    · have : j = k := by omega
      subst this
      exact (h i (by omega) hi).1
theorem Cor.none {n k : Nat} {M : Mx} {D : Int} (C : Cor n k M D) (h : ∀ i j, k ≤ i → k ≤ j → i < n → j < n → M i j = 0) (m : Nat) : Cor n m M D := by
  refine ⟨fun i j hi hj hij _ => ?_, C.d⟩
  by_cases h1 : i < k ∨ j < k
  · exact C.z i j hi hj hij h1
  · exact h i j (by omega) (by omega) hi hj
/-- the end: which diagonal items are 0 in a characteristic -/
theorem Cor.diag {n : Nat} {M : Mx} {D p : Int} (C : Cor n n M D) (hn : n = 2 ∨ n = 3) (hp : ∀ a b : Int, p ∣ a * b → p ∣ a ∨ p ∣ b) : (∀ i, i < n → ¬ p ∣ M i i) ↔ ¬ p ∣ D := by
  have hD : p ∣ D ↔ p ∣ detn n M := by
    rcases C.d with e | e
    · rw [e]
    · rw [e, Int.dvd_neg]
  rw [hD]
  rcases hn with rfl | rfl
  · have e : detn 2 M = M 0 0 * M 1 1 := by
      simp [detn, det2]
      rw [C.z 0 1 (by omega) (by omega) (by omega) (by omega)]; omega
    rw [e]
    constructor
    · intro h hd
      rcases hp _ _ hd with h' | h'
      · exact h 0 (by omega) h'
      · exact h 1 (by omega) h'
    · intro h i hi hd
      rcases (show i = 0 ∨ i = 1 by omega) with rfl | rfl
      · exact h (Int.dvd_mul_of_dvd_left hd)
      · exact h (Int.dvd_mul_of_dvd_right hd)
  · have e : detn 3 M = M 0 0 * (M 1 1 * M 2 2) := by
      simp [detn, det3]
      rw [C.z 0 1 (by omega) (by omega) (by omega) (by omega), C.z 0 2 (by omega) (by omega) (by omega) (by omega), C.z 1 2 (by omega) (by omega) (by omega) (by omega)]
      grind
    rw [e]
    constructor
    · intro h hd
      rcases hp _ _ hd with h' | h'
      · exact h 0 (by omega) h'
      · rcases hp _ _ h' with h' | h'
        · exact h 1 (by omega) h'
        · exact h 2 (by omega) h'
    · intro h i hi hd
      rcases (show i = 0 ∨ i = 1 ∨ i = 2 by omega) with rfl | rfl | rfl
      · exact h (Int.dvd_mul_of_dvd_left hd)
      · exact h (Int.dvd_mul_of_dvd_right (Int.dvd_mul_of_dvd_left hd))
      · exact h (Int.dvd_mul_of_dvd_right (Int.dvd_mul_of_dvd_right hd))
/-! ### a stage, as the walk wants it -/
/-- what the walk of the loop at place k asks: R m M: at most m turns more; E: at the end -/
structure Stg (n k b : Nat) (R : Nat → Mx → Prop) (E : Mx → Prop) : Prop where
  bd : ∀ m M, R m M → BdM b n M
  none : ∀ m M, R m M → (∀ i j, k ≤ i → k ≤ j → i < n → j < n → M i j = 0) → E M
  more : ∀ m M i j, R m M → LPl M n k i j → ¬ Clean (clrM (bringM M k i j) k n) k n → ∃ m', m' < m ∧ R m' (clrM (bringM M k i j) k n)
  spr : ∀ m M i j r, R m M → LPl M n k i j → Clean (clrM (bringM M k i j) k n) k n → Spr (clrM (bringM M k i j) k n) k n r → ∃ m', m' < m ∧ R m' (addR (clrM (bringM M k i j) k n) k r 1)
  fin : ∀ m M i j, R m M → LPl M n k i j → Clean (clrM (bringM M k i j) k n) k n → NoSpr (clrM (bringM M k i j) k n) k n → E (clrM (bringM M k i j) k n)
  neg : ∀ M, E M → E (negR M k)
theorem bd_neg {b n : Nat} {M : Mx} (h : BdM b n M) (k : Nat) : BdM b n (negR M k) := by
  intro i j hi hj
  unfold negR
  split
  · rw [Int.natAbs_neg]; exact h i j hi hj
  · exact h i j hi hj
/-- the last stage: one item -/
theorem stg1 {n k b : Nat} {D : Int} (hn : n = 2 ∨ n = 3) (hk : k + 1 = n) : Stg n k b (fun m M => m = 0 ∧ BdM b n M ∧ Cor n k M D) (fun M => BdM b n M ∧ Cor n (k + 1) M D) where
  bd := fun _ _ h => h.2.1
  none := fun _ _ h hz => ⟨h.2.1, h.2.2.none hz _⟩
  more := fun m M i j _ L hc => absurd (fun i' h1 h2 => by omega) hc
  spr := fun m M i j r _ L _ S => by have := S.lo; have := S.hi; omega
  fin := fun m M i j h L hc _ => by
    have h1 := L.ki; have h2 := L.kj; have h3 := L.ni; have h4 := L.nj
    have e1 : i = k := by omega
    have e2 : j = k := by omega
    rw [e1, e2] at hc ⊢
    have e : clrM (bringM M k k k) k n = M := by
      unfold bringM clrM
      rw [swapR_self, swapC_self, ← hk, clrR_start, clrC_start]
    rw [e] at hc ⊢
    exact ⟨h.2.1, h.2.2.next hc⟩
  neg := fun M h => ⟨bd_neg h.1 k, h.2.negR hn (by omega)⟩
end Ef
/-! A6: the stage of a 2 by 2 block -/
namespace Ef
def blk (M : Mx) (k : Nat) : B2 := ⟨M k k, M k (k + 1), M (k + 1) k, M (k + 1) (k + 1)⟩
def B2.det (s : B2) : Int := s.a * s.d - s.b * s.c
theorem B2.det_clr (s : B2) : s.clr.det = s.det := by
  unfold B2.clr B2.det
  dsimp only
  have e1 := fmod_eq s.b s.a
  have e2 := fmod_eq s.c s.a
  rw [e1, e2]
  generalize s.c.fdiv s.a = q
  generalize s.b.fdiv s.a = r
  grind
theorem B2.det_bring (s : B2) (i j : Bool) : (s.bring i j).det = s.det ∨ (s.bring i j).det = - s.det := by
  cases i <;> cases j <;> simp [B2.bring, B2.det, B2.swr, B2.swc] <;> grind
theorem B2.det_spr (s : B2) : s.spr.det = s.det := by unfold B2.spr B2.det; dsimp only; grind
theorem le_of_mul {p x y : Nat} (h : p * x ≤ p * y) (hp : p ≠ 0) : x ≤ y := Nat.le_of_mul_le_mul_left h (by omega)
/-- the interior item behind a turn -/
theorem inner_le {p x y z e : Int} (h : p * z - x * y = e) (hp : p ≠ 0) (hx : x.natAbs ≤ p.natAbs) (hy : y.natAbs ≤ p.natAbs) : z.natAbs ≤ e.natAbs + p.natAbs := by
  refine le_of_mul (p := p.natAbs) ?_ (by omega)
  have h1 : (p * z).natAbs = p.natAbs * z.natAbs := Int.natAbs_mul ..
  have h2 : (x * y).natAbs ≤ p.natAbs * p.natAbs := by rw [Int.natAbs_mul]; exact Nat.mul_le_mul hx hy
  have h3 : e.natAbs ≤ p.natAbs * e.natAbs := Nat.le_mul_of_pos_left _ (by omega)
  rw [Nat.mul_add]
  omega
theorem bi_eq {k i : Nat} (h1 : k ≤ i) (h2 : i < k + 2) : (decide (i = k + 1) = false ∧ i = k) ∨ (decide (i = k + 1) = true ∧ i = k + 1) := by
  by_cases h : i = k + 1
  · exact .inr ⟨by simp [h], h⟩
  · exact .inl ⟨by simp [h], by omega⟩
theorem blk_at {M : Mx} {k i j : Nat} (hi : k ≤ i) (hi2 : i < k + 2) (hj : k ≤ j) (hj2 : j < k + 2) : (blk M k).at (decide (i = k + 1)) (decide (j = k + 1)) = M i j := by
  rcases bi_eq hi hi2 with ⟨e, rfl⟩ | ⟨e, rfl⟩ <;> rcases bi_eq hj hj2 with ⟨f, rfl⟩ | ⟨f, rfl⟩ <;> simp only [e, f] <;> rfl
theorem blk_at' (M : Mx) (k : Nat) (a b : Bool) : (blk M k).at a b = M (if a then k + 1 else k) (if b then k + 1 else k) := by
  cases a <;> cases b <;> rfl
theorem blk_bring {M : Mx} {k i j : Nat} (hi : k ≤ i) (hi2 : i < k + 2) (hj : k ≤ j) (hj2 : j < k + 2) : blk (bringM M k i j) k = (blk M k).bring (decide (i = k + 1)) (decide (j = k + 1)) := by
  rcases bi_eq hi hi2 with ⟨e, rfl⟩ | ⟨e, rfl⟩ <;> rcases bi_eq hj hj2 with ⟨f, rfl⟩ | ⟨f, rfl⟩ <;> simp only [e, f] <;>
    simp [blk, bringM, B2.bring, B2.swr, B2.swc, swapR, swapC]
theorem blk_clr (M : Mx) (k : Nat) : blk (clrM M k (k + 2)) k = (blk M k).clr := by
  unfold blk B2.clr clrM
  simp [clrC, clrR, fmod_eq']
theorem blk_spr (M : Mx) (k : Nat) : blk (addR M k (k + 1) 1) k = (blk M k).spr := by
  simp [blk, B2.spr, addR]
theorem lp_of {M : Mx} {k i j : Nat} (L : LPl M (k + 2) k i j) : (blk M k).LP (decide (i = k + 1)) (decide (j = k + 1)) := by
  have h1 := L.ki; have h2 := L.kj; have h3 := L.ni; have h4 := L.nj
  have e := blk_at (M := M) h1 h3 h2 h4
  refine ⟨by rw [e]; exact L.ne, fun a b hab => ?_, fun a b hab h0 => ?_⟩
  · rw [e]
    rw [blk_at'] at hab ⊢
    exact L.least _ _ (by split <;> omega) (by split <;> omega) (by split <;> omega) (by split <;> omega) hab
  · rw [e]
    rw [blk_at'] at h0 ⊢
    refine L.first _ _ (by split <;> omega) (by split <;> omega) (by split <;> omega) (by split <;> omega) ?_ h0
    rcases hab with ⟨ha, hi⟩ | ⟨ha, hb, hj⟩
    · left
      rw [ha]
      have := of_decide_eq_true hi
      simp; omega
    · right
      have := of_decide_eq_true hj
      rw [hb, ha]
      rcases bi_eq h1 h3 with ⟨x, y⟩ | ⟨x, y⟩ <;> rw [x] <;> simp <;> omega
/-- off the block nothing that is not 0 changes -/
theorem diag_bring {M : Mx} {n k i j a : Nat} (L : LPl M n k i j) (h : a < k) : bringM M k i j a a = M a a := by
  have h1 := L.ki; have h2 := L.kj
  unfold bringM swapC swapR
  rw [if_neg (by omega), if_neg (by omega), if_neg (by omega), if_neg (by omega)]
theorem diag_clr {M : Mx} {n k a : Nat} (h : a < k) : clrM M k n a a = M a a := by
  unfold clrM clrC clrR
  rw [if_neg (by omega), if_neg (by omega)]
theorem bd_of_blk {n k b : Nat} {M M' : Mx} {D : Int} (hn : n = k + 2) (B : BdM b n M) (C : Cor n k M' D) (hd : ∀ a, a < k → M' a a = M a a) (hb : ∀ i j, ((blk M' k).at i j).natAbs < 2 ^ b) : BdM b n M' := by
  intro i j hi hj
  by_cases h : i < k ∨ j < k
  · by_cases e : i = j
    · subst e
      rw [hd i (by omega)]
      exact B i i hi hi
    · rw [C.z i j hi hj e h]
      exact Nat.pow_pos (by omega)
  · have := hb (decide (i = k + 1)) (decide (j = k + 1))
    rw [blk_at (by omega) (by omega) (by omega) (by omega)] at this
    exact this
/-- all of a 2 by 2 stage: x bounds the items at its start -/
structure R2 (n k x : Nat) (D : Int) (m : Nat) (M : Mx) : Prop where
  bd : BdM (2 * x + 2) n M
  cor : Cor n k M D
  rest : (∀ i j, k ≤ i → k ≤ j → i < n → j < n → M i j = 0) ∨ ((blk M k).Rank m ∧ (blk M k).Small x ∧ (blk M k).det.natAbs ≤ 2 ^ (2 * x + 1))
theorem clr_bounds {s : B2} {x : Nat} {e : Int} (h0 : s.a ≠ 0) (hx : s.a.natAbs < 2 ^ x) (hd : s.det = e) (he : e.natAbs ≤ 2 ^ (2 * x + 1)) : (∀ i j, (s.clr.at i j).natAbs < 2 ^ (2 * x + 2)) ∧ (∀ j, (s.clr.at false j).natAbs < 2 ^ x) := by
  have hb := (rem_fmod s.b h0).lt h0
  have hc := (rem_fmod s.c h0).lt h0
  have h1 : s.clr.a * s.clr.d - s.clr.b * s.clr.c = e := by have := s.det_clr; rw [hd] at this; exact this
  have hz := inner_le (p := s.a) (x := s.b.fmod s.a) (y := s.c.fmod s.a) h1 h0 (by omega) (by omega)
  have p1 : 2 ^ x ≤ 2 ^ (2 * x + 1) := Nat.pow_le_pow_right (by omega) (by omega)
  have p2 : (2 : Nat) ^ (2 * x + 2) = 2 * 2 ^ (2 * x + 1) := by rw [Nat.pow_succ]; omega
  have ha : s.clr.a = s.a := rfl
  have hb' : s.clr.b = s.b.fmod s.a := rfl
  have hc' : s.clr.c = s.c.fmod s.a := rfl
  refine ⟨fun i j => ?_, fun j => ?_⟩
  · cases i <;> cases j <;> simp only [B2.at]
    · omega
    · omega
    · omega
    · have : s.clr.d.natAbs ≤ e.natAbs + s.a.natAbs := hz
      omega
  · cases j <;> simp only [B2.at]
    · omega
    · omega
theorem stg2 {n k x : Nat} {D : Int} (hn : n = 2 ∨ n = 3) (hk : n = k + 2) : Stg n k (2 * x + 2) (R2 n k x D) (fun M => BdM (2 * x + 2) n M ∧ Cor n (k + 1) M D) := by
  -- what a turn leaves
  have turn : ∀ m M i j, R2 n k x D m M → LPl M n k i j →
      let M3 := clrM (bringM M k i j) k n
      Cor n k M3 D ∧ (∀ a, a < k → M3 a a = M a a) ∧ BdM (2 * x + 2) n M3 ∧ (blk M3 k).a ≠ 0 ∧ (blk M3 k).a.natAbs < 2 ^ x ∧ (blk M3 k).det.natAbs ≤ 2 ^ (2 * x + 1) ∧ (blk M k).Rank m ∧ (blk M k).LP (decide (i = k + 1)) (decide (j = k + 1)) ∧
      blk M3 k = ((blk M k).bring (decide (i = k + 1)) (decide (j = k + 1))).clr ∧ (∀ a b, ((blk M3 k).at a b).natAbs < 2 ^ (2 * x + 2)) := by
    intro m M i j R L M3
    obtain ⟨B, C, rest⟩ := R
    have h1 := L.ki; have h2 := L.kj; have h3 := L.ni; have h4 := L.nj
    rcases rest with hz | ⟨rk, ⟨i', j', hs1, hs2⟩, hdet⟩
    · exact absurd (hz i j h1 h2 h3 h4) L.ne
    · have C1 := C.bring hn L
      have C3 : Cor n k M3 D := C1.clr hn (by omega)
      subst hk
      have LP := lp_of L
      have eb := blk_bring (M := M) h1 h3 h2 h4
      have e3 : blk M3 k = ((blk M k).bring (decide (i = k + 1)) (decide (j = k + 1))).clr := by
        show blk (clrM _ k (k + 2)) k = _
        rw [blk_clr, eb]
      have hp : ((blk M k).bring (decide (i = k + 1)) (decide (j = k + 1))).a = (blk M k).at (decide (i = k + 1)) (decide (j = k + 1)) := by
        cases decide (i = k + 1) <;> cases decide (j = k + 1) <;> rfl
      have ha0 : ((blk M k).bring (decide (i = k + 1)) (decide (j = k + 1))).a ≠ 0 := by rw [hp]; exact LP.ne
      have hax : ((blk M k).bring (decide (i = k + 1)) (decide (j = k + 1))).a.natAbs < 2 ^ x := by
        rw [hp]; exact Nat.lt_of_le_of_lt (LP.least i' j' hs1) hs2
      have hdb : ((blk M k).bring (decide (i = k + 1)) (decide (j = k + 1))).det.natAbs ≤ 2 ^ (2 * x + 1) := by
        have := (blk M k).det_bring (decide (i = k + 1)) (decide (j = k + 1))
        omega
      obtain ⟨c1, c2⟩ := clr_bounds ha0 hax rfl hdb
      have hd3 : ∀ a, a < k → M3 a a = M a a := fun a ha => by
        show clrM _ k (k + 2) a a = _
        rw [diag_clr ha, diag_bring L ha]
      refine ⟨C3, hd3, bd_of_blk rfl B C3 hd3 (by rw [e3]; exact c1), by rw [e3]; exact ha0, by rw [e3]; exact hax, by rw [e3, B2.det_clr]; exact hdb, rk, LP, e3, by rw [e3]; exact c1⟩
  have cl : ∀ M : Mx, Clean M k n ↔ (blk M k).b = 0 ∧ (blk M k).c = 0 := by
    intro M
    constructor
    · intro h
      have := h (k + 1) (by omega) (by omega)
      exact ⟨this.2, this.1⟩
    · rintro ⟨h1, h2⟩ i hi hi2
      have e : i = k + 1 := by omega
      subst e
      exact ⟨h2, h1⟩
  refine ⟨fun m M R => R.bd, fun m M R hz => ⟨R.bd, R.cor.none hz _⟩, fun m M i j R L hc => ?_, fun m M i j r R L hc S => ?_, fun m M i j R L hc _ => ?_, fun M h => ⟨bd_neg h.1 k, h.2.negR hn (by omega)⟩⟩
  · obtain ⟨C3, hd3, B3, a0, ax, dt, rk, LP, e3, c1⟩ := turn m M i j R L
    rw [cl] at hc
    obtain ⟨t1, _⟩ := B2.turn rk LP
    rw [← e3] at t1
    obtain ⟨m', hm, rk'⟩ := t1 hc
    exact ⟨m', hm, B3, C3, .inr ⟨rk', ⟨false, false, a0, ax⟩, dt⟩⟩
  · obtain ⟨C3, hd3, B3, a0, ax, dt, rk, LP, e3, c1⟩ := turn m M i j R L
    rw [cl] at hc
    obtain ⟨_, t2⟩ := B2.turn rk LP
    rw [← e3] at t2
    have hr : r = k + 1 := by have := S.lo; have := S.hi; omega
    subst hr
    have nd : ¬ (blk (clrM (bringM M k i j) k n) k).a ∣ (blk (clrM (bringM M k i j) k n) k).d := by
      intro hdv
      obtain ⟨c, hcn, hcd⟩ := S.nd
      apply hcd
      by_cases h : c < k
      · rw [C3.z (k + 1) c (by omega) hcn (by omega) (by omega)]
        exact Int.dvd_zero _
      · rcases (show c = k ∨ c = k + 1 by omega) with e | e
        · rw [e]
          have : clrM (bringM M k i j) k n (k + 1) k = 0 := hc.2
          rw [this]
          exact Int.dvd_zero _
        · rw [e]; exact hdv
    obtain ⟨m', hm, rk'⟩ := t2 hc.1 hc.2 nd
    have es := blk_spr (clrM (bringM M k i j) k n) k
    have C4 : Cor n k (addR (clrM (bringM M k i j) k n) k (k + 1) 1) D := C3.addR hn (by omega) (by omega) (by omega) (by omega) (by omega)
    have hd4 : ∀ a, a < k → addR (clrM (bringM M k i j) k n) k (k + 1) 1 a a = M a a := fun a ha => by
      unfold addR
      rw [if_neg (by omega)]
      exact hd3 a ha
    rw [← es] at rk'
    have sa : (blk (clrM (bringM M k i j) k n) k).spr.a = (blk (clrM (bringM M k i j) k n) k).a := by
      show (blk _ k).a + (blk _ k).c = _
      rw [hc.2]; omega
    refine ⟨m', hm, bd_of_blk hk R.bd C4 hd4 ?_, C4, .inr ⟨rk', ⟨false, false, ?_, ?_⟩, by rw [es, B2.det_spr]; exact dt⟩⟩
    · rw [es]
      intro a b
      have h00 := c1 false false
      have h11 := c1 true true
      have h10 := c1 true false
      have sb : (blk (clrM (bringM M k i j) k n) k).spr.b = (blk (clrM (bringM M k i j) k n) k).d := by
        show (blk _ k).b + (blk _ k).d = _
        rw [hc.1]; omega
      cases a <;> cases b
      · show ((blk (clrM (bringM M k i j) k n) k).spr.a).natAbs < _; rw [sa]; exact h00
      · show ((blk (clrM (bringM M k i j) k n) k).spr.b).natAbs < _; rw [sb]; exact h11
      · exact h10
      · exact h11
    · rw [es]
      show (blk (clrM (bringM M k i j) k n) k).spr.a ≠ 0
      rw [sa]; exact a0
    · rw [es]
      show ((blk (clrM (bringM M k i j) k n) k).spr.a).natAbs < _
      rw [sa]; exact ax
  · obtain ⟨C3, hd3, B3, _⟩ := turn m M i j R L
    exact ⟨B3, C3.next hc⟩
theorem r2_ini {n k x : Nat} {M : Mx} {D : Int} (hk : n = k + 2) (B : BdM x n M) (C : Cor n k M D) : R2 n k x D (5 * x + 4) M := by
  have px : (2 : Nat) ^ x ≤ 2 ^ (2 * x + 2) := Nat.pow_le_pow_right (by omega) (by omega)
  refine ⟨fun i j hi hj => Nat.lt_of_lt_of_le (B i j hi hj) px, C, ?_⟩
  by_cases h : ∀ i j, k ≤ i → k ≤ j → i < n → j < n → M i j = 0
  · exact .inl h
  · right
    have : ∃ i j, k ≤ i ∧ k ≤ j ∧ i < n ∧ j < n ∧ M i j ≠ 0 := by
      apply Classical.byContradiction
      intro hc
      refine h fun i j h1 h2 h3 h4 => ?_
      apply Classical.byContradiction
      intro h5
      exact hc ⟨i, j, h1, h2, h3, h4, h5⟩
    obtain ⟨i, j, h1, h2, h3, h4, h5⟩ := this
    have sm : (blk M k).Small x := ⟨decide (i = k + 1), decide (j = k + 1), by rw [blk_at h1 (by omega) h2 (by omega)]; exact h5, by rw [blk_at h1 (by omega) h2 (by omega)]; exact B i j h3 h4⟩
    refine ⟨.inl ⟨x, rfl, sm⟩, sm, ?_⟩
    have e : (2 : Nat) ^ (2 * x + 1) = 2 ^ x * 2 ^ x + 2 ^ x * 2 ^ x := by
      rw [show 2 * x + 1 = (x + x) + 1 by omega, Nat.pow_succ, Nat.pow_add]; omega
    have a1 := natAbs_mul_le (Nat.le_of_lt (B k k (by omega) (by omega))) (Nat.le_of_lt (B (k + 1) (k + 1) (by omega) (by omega)))
    have a2 := natAbs_mul_le (Nat.le_of_lt (B k (k + 1) (by omega) (by omega))) (Nat.le_of_lt (B (k + 1) k (by omega) (by omega)))
    show (M k k * M (k + 1) (k + 1) - M k (k + 1) * M (k + 1) k).natAbs ≤ _
    omega
end Ef
/-! A7: the stage of a 3 by 3 matrix -/
namespace Ef
def mnr (M : Mx) (i i' j j' : Nat) : Int := M i j * M i' j' - M i j' * M i' j
/-- all 2 by 2 minors, and the determinant, are small -/
def MBd (C : Nat) (D : Int) (M : Mx) : Prop := ∀ i i' j j', i < 3 → i' < 3 → j < 3 → j' < 3 → (mnr M i i' j j').natAbs + D.natAbs ≤ C
theorem mnr_swapR (M : Mx) (r s i i' j j' : Nat) : mnr (swapR M r s) i i' j j' = mnr M (if i = r then s else if i = s then r else i) (if i' = r then s else if i' = s then r else i') j j' := by
  unfold mnr swapR
  split <;> split <;> (try split) <;> (try split) <;> rfl
theorem mnr_swapC (M : Mx) (r s i i' j j' : Nat) : mnr (swapC M r s) i i' j j' = mnr M i i' (if j = r then s else if j = s then r else j) (if j' = r then s else if j' = s then r else j') := by
  unfold mnr swapC
  split <;> split <;> (try split) <;> (try split) <;> rfl
theorem MBd.bring {C : Nat} {D : Int} {M : Mx} (h : MBd C D M) {k i j : Nat} (hk : k < 3) (hi : i < 3) (hj : j < 3) : MBd C D (bringM M k i j) := by
  intro a a' b b' ha ha' hb hb'
  unfold bringM
  rw [mnr_swapC, mnr_swapR]
  refine h _ _ _ _ ?_ ?_ ?_ ?_ <;> (split <;> (try split) <;> omega)
/-- nine of them are enough -/
theorem MBd.of {C : Nat} {D : Int} {M : Mx} (hD : D.natAbs ≤ C) (h : ∀ i i' j j', i < i' → i' < 3 → j < j' → j' < 3 → (mnr M i i' j j').natAbs + D.natAbs ≤ C) : MBd C D M := by
  have z1 : ∀ i j j', mnr M i i j j' = 0 := fun i j j' => by unfold mnr; grind
  have z2 : ∀ i i' j, mnr M i i' j j = 0 := fun i i' j => by unfold mnr; grind
  have n1 : ∀ i i' j j', mnr M i i' j j' = - mnr M i' i j j' := fun i i' j j' => by unfold mnr; grind
  have n2 : ∀ i i' j j', mnr M i i' j j' = - mnr M i i' j' j := fun i i' j j' => by unfold mnr; grind
  have h2 : ∀ i i' j j', i < i' → i' < 3 → j < 3 → j' < 3 → (mnr M i i' j j').natAbs + D.natAbs ≤ C := by
    intro i i' j j' h1 h2 h3 h4
    rcases Nat.lt_trichotomy j j' with hj | hj | hj
    · exact h i i' j j' h1 h2 hj h4
    · subst hj; rw [z2]; simpa using hD
    · rw [n2, Int.natAbs_neg]; exact h i i' j' j h1 h2 hj h3
  intro i i' j j' a1 a2 a3 a4
  rcases Nat.lt_trichotomy i i' with hi | hi | hi
  · exact h2 i i' j j' hi a2 a3 a4
  · subst hi; rw [z1]; simpa using hD
  · rw [n1, Int.natAbs_neg]; exact h2 i' i j j' hi a1 a3 a4
theorem mul_bound {p s1 s2 d1 d2 x : Int} {C : Nat} (h : p * x = s1 * d2 - s2 * d1) (hp : p ≠ 0) (h1 : s1.natAbs ≤ p.natAbs) (h2 : s2.natAbs ≤ p.natAbs) (b1 : d1.natAbs ≤ C) (b2 : d2.natAbs ≤ C) : x.natAbs ≤ 2 * C := by
  refine le_of_mul (p := p.natAbs) ?_ (by omega)
  have e1 : (p * x).natAbs = p.natAbs * x.natAbs := Int.natAbs_mul ..
  have e2 := natAbs_mul_le h1 b2
  have e3 := natAbs_mul_le h2 b1
  have e4 : p.natAbs * (2 * C) = p.natAbs * C + p.natAbs * C := by rw [Nat.mul_left_comm, Nat.two_mul]
  rw [← e1, h, e4]
  generalize s1 * d2 = y1 at *
  generalize s2 * d1 = y2 at *
  generalize p.natAbs * C = y3 at *
  clear h e1
  omega
theorem mul_bound4N {p x D C a1 a2 a3 a4 : Nat} (h : p * (p * x) ≤ p * D + a1 + a2 + a3 + a4) (b1 : a1 ≤ C * (p * p)) (b2 : a2 ≤ C * (p * p)) (b3 : a3 ≤ C * (p * p)) (b4 : a4 ≤ C * (p * p)) (hp : p ≠ 0) : x ≤ 4 * C + D := by
  refine le_of_mul (p := p) (le_of_mul (p := p) ?_ hp) hp
  have e7 : p * (p * (4 * C + D)) = 4 * (C * (p * p)) + p * (p * D) := by
    rw [Nat.mul_add, Nat.mul_add, Nat.add_right_cancel_iff]
    rw [Nat.mul_left_comm p 4 C, Nat.mul_left_comm p 4, Nat.mul_left_comm p p C, Nat.mul_comm C]
    rw [Nat.mul_assoc, Nat.mul_left_comm p p C]
  have e8 : p * D ≤ p * (p * D) := Nat.le_mul_of_pos_left _ (by omega)
  rw [e7]
  generalize C * (p * p) = w at *
  generalize p * (p * D) = w2 at *
  generalize p * (p * x) = w3 at *
  omega
theorem mul_bound4 {p s1 s2 r1 r2 d11 d12 d21 d22 x D : Int} {C : Nat} (h : p * (p * x) = p * D + (d11 * (s2 * r2) + d22 * (s1 * r1) - d12 * (s1 * r2) - d21 * (s2 * r1))) (hp : p ≠ 0)
    (h1 : s1.natAbs ≤ p.natAbs) (h2 : s2.natAbs ≤ p.natAbs) (h3 : r1.natAbs ≤ p.natAbs) (h4 : r2.natAbs ≤ p.natAbs) (b1 : d11.natAbs ≤ C) (b2 : d12.natAbs ≤ C) (b3 : d21.natAbs ≤ C) (b4 : d22.natAbs ≤ C) : x.natAbs ≤ 4 * C + D.natAbs := by
  have e3 := natAbs_mul_le b1 (natAbs_mul_le h2 h4)
  have e4 := natAbs_mul_le b4 (natAbs_mul_le h1 h3)
  have e5 := natAbs_mul_le b2 (natAbs_mul_le h1 h4)
  have e6 := natAbs_mul_le b3 (natAbs_mul_le h2 h3)
  refine mul_bound4N ?_ e3 e4 e5 e6 (by omega)
  have e1 : (p * (p * x)).natAbs = p.natAbs * (p.natAbs * x.natAbs) := by rw [Int.natAbs_mul, Int.natAbs_mul]
  have e2 : (p * D).natAbs = p.natAbs * D.natAbs := Int.natAbs_mul ..
  rw [← e1, ← e2, h]
  clear h e1 e2 e3 e4 e5 e6 h1 h2 h3 h4 b1 b2 b3 b4
  generalize p * D = y1
  generalize d11 * (s2 * r2) = y2
  generalize d22 * (s1 * r1) = y3
  generalize d12 * (s1 * r2) = y4
  generalize d21 * (s2 * r1) = y5
  omega
/-- the cleared matrix, item by item -/
theorem clr3 (M : Mx) (i j : Nat) (hi : i = 1 ∨ i = 2) (hj : j = 1 ∨ j = 2) :
    clrM M 0 3 0 0 = M 0 0 ∧ clrM M 0 3 i 0 = (M i 0).fmod (M 0 0) ∧ clrM M 0 3 0 j = (M 0 j).fmod (M 0 0) ∧
      M 0 0 * clrM M 0 3 i j - clrM M 0 3 i 0 * clrM M 0 3 0 j = M 0 0 * M i j - M i 0 * M 0 j := by
  have e1 : clrM M 0 3 0 0 = M 0 0 := by simp [clrM, clrC, clrR]
  have e2 : clrM M 0 3 i 0 = (M i 0).fmod (M 0 0) := by
    rcases hi with rfl | rfl <;> simp [clrM, clrC, clrR, fmod_eq']
  have e3 : clrM M 0 3 0 j = (M 0 j).fmod (M 0 0) := by
    rcases hj with rfl | rfl <;> simp [clrM, clrC, clrR, fmod_eq']
  have e4 : clrM M 0 3 i j = (M i j + -((M i 0).fdiv (M 0 0)) * M 0 j) + -((M 0 j).fdiv (M 0 0)) * (M i 0).fmod (M 0 0) := by
    rcases hi with rfl | rfl <;> rcases hj with rfl | rfl <;> simp [clrM, clrC, clrR, fmod_eq']
  refine ⟨e1, e2, e3, ?_⟩
  rw [e2, e3, e4, fmod_eq, fmod_eq]
  generalize (M i 0).fdiv (M 0 0) = q
  generalize (M 0 j).fdiv (M 0 0) = r
  grind
/-- behind a turn: the shape -/
structure Cl3 (M : Mx) (P : Nat) : Prop where
  p0 : M 0 0 ≠ 0
  pP : (M 0 0).natAbs < P
  r : ∀ i, i = 1 ∨ i = 2 → (M i 0).natAbs < (M 0 0).natAbs
  s : ∀ j, j = 1 ∨ j = 2 → (M 0 j).natAbs < (M 0 0).natAbs
theorem cl3_of {M : Mx} {P : Nat} (h0 : M 0 0 ≠ 0) (hP : (M 0 0).natAbs < P) : Cl3 (clrM M 0 3) P := by
  have c := fun i j hi hj => clr3 M i j hi hj
  obtain ⟨e1, _, _, _⟩ := c 1 1 (.inl rfl) (.inl rfl)
  refine ⟨by rw [e1]; exact h0, by rw [e1]; exact hP, fun i hi => ?_, fun j hj => ?_⟩
  · obtain ⟨_, e2, _, _⟩ := c i 1 hi (.inl rfl)
    rw [e1, e2]
    exact (rem_fmod _ h0).lt h0
  · obtain ⟨_, _, e3, _⟩ := c 1 j (.inl rfl) hj
    rw [e1, e3]
    exact (rem_fmod _ h0).lt h0
theorem id_last (p s1 s2 r1 e f r2 g h : Int) : p * (p * (e * h - f * g)) = p * (p * (e * h - f * g) - s1 * (r1 * h - f * r2) + s2 * (r1 * g - e * r2)) +
    ((p * e - s1 * r1) * (s2 * r2) + (p * h - s2 * r2) * (s1 * r1) - (p * f - s2 * r1) * (s1 * r2) - (p * g - s1 * r2) * (s2 * r1)) := by grind
theorem id_row (p s1 s2 r e f : Int) : p * (s1 * f - s2 * e) = s1 * (p * f - s2 * r) - s2 * (p * e - s1 * r) := by grind
theorem id_col (p s r1 r2 e g : Int) : p * (r1 * g - e * r2) = r1 * (p * g - s * r2) - r2 * (p * e - s * r1) := by grind
/-- the minors behind a turn -/
theorem mbd_clr {M : Mx} {C P : Nat} {D : Int} (hM : MBd C D M) (h0 : M 0 0 ≠ 0) (hP : (M 0 0).natAbs < P) (hd : det3 M = D ∨ det3 M = -D) (hd3 : det3 (clrM M 0 3) = det3 M) : MBd (4 * C) D (clrM M 0 3) := by
  have cl := cl3_of h0 hP
  have c := fun i j hi hj => clr3 M i j hi hj
  obtain ⟨e1, _, _, _⟩ := c 1 1 (.inl rfl) (.inl rfl)
  generalize hN : clrM M 0 3 = N at *
  -- the four that hold the pivot
  have dd : ∀ i j, i = 1 ∨ i = 2 → j = 1 ∨ j = 2 → (mnr N 0 i 0 j).natAbs + D.natAbs ≤ C := by
    intro i j hi hj
    obtain ⟨_, _, _, e4⟩ := c i j hi hj
    have : mnr N 0 i 0 j = mnr M 0 i 0 j := by
      unfold mnr
      rw [e1]
      grind
    rw [this]
    exact hM 0 i 0 j (by omega) (by omega) (by omega) (by omega)
  have d11 := dd 1 1 (.inl rfl) (.inl rfl)
  have d12 := dd 1 2 (.inl rfl) (.inr rfl)
  have d21 := dd 2 1 (.inr rfl) (.inl rfl)
  have d22 := dd 2 2 (.inr rfl) (.inr rfl)
  have hp := cl.p0
  have s1 := Nat.le_of_lt (cl.s 1 (.inl rfl))
  have s2 := Nat.le_of_lt (cl.s 2 (.inr rfl))
  have r1 := Nat.le_of_lt (cl.r 1 (.inl rfl))
  have r2 := Nat.le_of_lt (cl.r 2 (.inr rfl))
  have rr : ∀ i, i = 1 ∨ i = 2 → (mnr N 0 i 1 2).natAbs ≤ 2 * (C - D.natAbs) := by
    intro i hi
    have k1 := dd i 1 hi (.inl rfl)
    have k2 := dd i 2 hi (.inr rfl)
    refine mul_bound (p := N 0 0) (s1 := N 0 1) (s2 := N 0 2) (d1 := mnr N 0 i 0 1) (d2 := mnr N 0 i 0 2) ?_ hp s1 s2 (by omega) (by omega)
    exact id_row ..
  have tt : ∀ j, j = 1 ∨ j = 2 → (mnr N 1 2 0 j).natAbs ≤ 2 * (C - D.natAbs) := by
    intro j hj
    have k1 := dd 1 j (.inl rfl) hj
    have k2 := dd 2 j (.inr rfl) hj
    refine mul_bound (p := N 0 0) (s1 := N 1 0) (s2 := N 2 0) (d1 := mnr N 0 1 0 j) (d2 := mnr N 0 2 0 j) ?_ hp r1 r2 (by omega) (by omega)
    exact id_col ..
  have last : (mnr N 1 2 1 2).natAbs ≤ 4 * (C - D.natAbs) + (det3 N).natAbs := by
    refine mul_bound4 (p := N 0 0) (s1 := N 0 1) (s2 := N 0 2) (r1 := N 1 0) (r2 := N 2 0) (d11 := mnr N 0 1 0 1) (d12 := mnr N 0 1 0 2) (d21 := mnr N 0 2 0 1) (d22 := mnr N 0 2 0 2) ?_ hp s1 s2 r1 r2 (by omega) (by omega) (by omega) (by omega)
    exact id_last ..
  have hdn : (det3 N).natAbs = D.natAbs := by
    rw [hd3]
    rcases hd with h | h
    · rw [h]
    · rw [h, Int.natAbs_neg]
  rw [hdn] at last
  refine MBd.of (by omega) fun i i' j j' h1 h2 h3 h4 => ?_
  have hi : (i = 0 ∧ (i' = 1 ∨ i' = 2)) ∨ (i = 1 ∧ i' = 2) := by omega
  have hj : (j = 0 ∧ (j' = 1 ∨ j' = 2)) ∨ (j = 1 ∧ j' = 2) := by omega
  rcases hi with ⟨rfl, hi⟩ | ⟨rfl, rfl⟩ <;> rcases hj with ⟨rfl, hj⟩ | ⟨rfl, rfl⟩
  · have := dd i' j' hi hj; omega
  · have := rr i' hi; omega
  · have := tt j' hj; omega
  · omega
/-- a spread row adds nothing to the minors' bound -/
theorem mbd_spr {N : Mx} {C r : Nat} {D : Int} (h : MBd C D N) (hc : Clean N 0 3) (hr : r = 1 ∨ r = 2) : MBd C D (addR N 0 r 1) := by
  have hD : D.natAbs ≤ C := by have := h 0 0 0 0 (by omega) (by omega) (by omega) (by omega); omega
  have c1 := hc 1 (by omega) (by omega)
  have c2 := hc 2 (by omega) (by omega)
  refine MBd.of hD fun i i' j j' h1 h2 h3 h4 => ?_
  have hi : (i = 0 ∧ (i' = 1 ∨ i' = 2)) ∨ (i = 1 ∧ i' = 2) := by omega
  rcases hi with ⟨rfl, hi⟩ | ⟨rfl, rfl⟩
  · have hj : (j = 0 ∧ (j' = 1 ∨ j' = 2)) ∨ (j = 1 ∧ j' = 2) := by omega
    rcases hj with ⟨rfl, hj⟩ | ⟨rfl, rfl⟩
    · have e : mnr (addR N 0 r 1) 0 i' 0 j' = mnr N 0 i' 0 j' := by
        rcases hr with rfl | rfl <;> rcases hi with rfl | rfl <;> rcases hj with rfl | rfl <;> simp [mnr, addR, c1.1, c1.2, c2.1, c2.2]
      rw [e]; exact h _ _ _ _ (by omega) (by omega) (by omega) (by omega)
    · have e : mnr (addR N 0 r 1) 0 i' 1 2 = mnr N r i' 1 2 := by
        rcases hr with rfl | rfl <;> rcases hi with rfl | rfl <;> simp [mnr, addR, c1.1, c1.2, c2.1, c2.2]
      rw [e]; exact h _ _ _ _ (by omega) (by omega) (by omega) (by omega)
  · have e : mnr (addR N 0 r 1) 1 2 j j' = mnr N 1 2 j j' := by simp [mnr, addR]
    rw [e]; exact h _ _ _ _ (by omega) (by omega) (by omega) (by omega)
/-- at most m turns more -/
def Rank3 (m : Nat) (M : Mx) : Prop :=
  (∃ i j, i < 3 ∧ j < 3 ∧ M i j ≠ 0 ∧ 2 * (M i j).natAbs + 1 ≤ m) ∨
  (M 0 0 ≠ 0 ∧ 2 * (M 0 0).natAbs ≤ m ∧ M 1 0 = 0 ∧ M 2 0 = 0 ∧ ∃ j, (j = 1 ∨ j = 2) ∧ ¬ M 0 0 ∣ M 0 j)
/-- all of a 3 by 3 stage: N turns at most, K0 bounds the minors at the start, P the least item -/
structure R3 (N K0 P b : Nat) (D : Int) (m : Nat) (M : Mx) : Prop where
  bd : BdM b 3 M
  cor : Cor 3 0 M D
  rest : (∀ i j, 0 ≤ i → 0 ≤ j → i < 3 → j < 3 → M i j = 0) ∨ (m ≤ N ∧ Rank3 m M ∧ MBd (4 ^ (N - m) * K0) D M ∧ ∃ i j, i < 3 ∧ j < 3 ∧ M i j ≠ 0 ∧ (M i j).natAbs < P)
theorem stg3 {N K0 P b : Nat} {D : Int} (hb : 4 ^ N * K0 + 2 * P ≤ 2 ^ b) : Stg 3 0 b (R3 N K0 P b D) (fun M => BdM b 3 M ∧ Cor 3 1 M D) := by
  have turn : ∀ m M i j, R3 N K0 P b D m M → LPl M 3 0 i j →
      let M1 := bringM M 0 i j
      let M3 := clrM M1 0 3
      m ≤ N ∧ Cor 3 0 M3 D ∧ MBd (4 * (4 ^ (N - m) * K0)) D M3 ∧ MBd (4 ^ (N - m) * K0) D M1 ∧ Cl3 M3 P ∧ BdM b 3 M3 ∧ M3 0 0 = M i j ∧ Rank3 m M ∧ (∀ a c, (a = 1 ∨ a = 2) → (c = 1 ∨ c = 2) → (M3 a c).natAbs ≤ 4 ^ N * K0 + (M3 0 0).natAbs) := by
    intro m M i j R L M1 M3
    obtain ⟨B, C, rest⟩ := R
    have h3 := L.ni; have h4 := L.nj
    rcases rest with hz | ⟨hmN, rk, mb, i', j', hi', hj', hs1, hs2⟩
    · exact absurd (hz i j (by omega) (by omega) h3 h4) L.ne
    · have C1 := C.bring (.inr rfl) L
      have C3 : Cor 3 0 M3 D := C1.clr (.inr rfl) (by omega)
      have mb1 : MBd (4 ^ (N - m) * K0) D M1 := mb.bring (by omega) h3 h4
      have ep : M1 0 0 = M i j := by
        show swapC (swapR M 0 i) 0 j 0 0 = M i j
        simp [swapC, swapR]
      have h0 : M1 0 0 ≠ 0 := by rw [ep]; exact L.ne
      have hP : (M1 0 0).natAbs < P := by rw [ep]; exact Nat.lt_of_le_of_lt (L.least i' j' (by omega) (by omega) hi' hj' hs1) hs2
      have hd1 : det3 M1 = D ∨ det3 M1 = -D := C1.d
      have hd3 : det3 M3 = det3 M1 := by
        have k : ∀ d, 0 + 1 + d ≤ 3 → detn 3 (clrR M1 0 (0 + 1 + d)) = detn 3 M1 := by
          intro d
          induction d with
          | zero => intro _; rw [clrR_start]
          | succ d ih =>
            intro h
            rw [show 0 + 1 + (d + 1) = (0 + 1 + d) + 1 by omega, ← clrR_step M1 0 (by omega : 0 < 0 + 1 + d), det_addR (.inr rfl) (by omega) (by omega) (by omega), ih (by omega)]
        have k2 : ∀ d, 0 + 1 + d ≤ 3 → detn 3 (clrC (clrR M1 0 3) 0 (0 + 1 + d)) = detn 3 (clrR M1 0 3) := by
          intro d
          induction d with
          | zero => intro _; rw [clrC_start]
          | succ d ih =>
            intro h
            rw [show 0 + 1 + (d + 1) = (0 + 1 + d) + 1 by omega, ← clrC_step (clrR M1 0 3) 0 (by omega : 0 < 0 + 1 + d), det_addC (.inr rfl) (by omega) (by omega) (by omega), ih (by omega)]
        have a1 := k 2 (by omega)
        have a2 := k2 2 (by omega)
        show detn 3 (clrC (clrR M1 0 3) 0 (0 + 1 + 2)) = detn 3 M1
        rw [a2]
        exact a1
      have mb3 := mbd_clr mb1 h0 hP hd1 hd3
      have cl := cl3_of h0 hP
      have e00 : M3 0 0 = M1 0 0 := (clr3 M1 1 1 (.inl rfl) (.inl rfl)).1
      have inn : ∀ a c, (a = 1 ∨ a = 2) → (c = 1 ∨ c = 2) → (M3 a c).natAbs ≤ 4 ^ N * K0 + (M3 0 0).natAbs := by
        intro a c ha hc
        have hm := mb1 0 a 0 c (by omega) (by omega) (by omega) (by omega)
        have e4 := (clr3 M1 a c ha hc).2.2.2
        have h5 := inner_le (p := M3 0 0) (x := M3 a 0) (y := M3 0 c) (z := M3 a c) (e := mnr M1 0 a 0 c) (by rw [e00]; unfold mnr; rw [e4]; grind) cl.p0 (Nat.le_of_lt (cl.r a ha)) (Nat.le_of_lt (cl.s c hc))
        have h6 : 4 ^ (N - m) * K0 ≤ 4 ^ N * K0 := Nat.mul_le_mul_right _ (Nat.pow_le_pow_right (by omega) (by omega))
        omega
      refine ⟨hmN, C3, mb3, mb1, cl, ?_, by rw [e00, ep], rk, inn⟩
      intro a c ha hc
      have pP : (M3 0 0).natAbs < P := cl.pP
      rcases (show a = 0 ∨ a = 1 ∨ a = 2 by omega) with rfl | ha'
      · rcases (show c = 0 ∨ c = 1 ∨ c = 2 by omega) with rfl | hc'
        · show (M3 0 0).natAbs < _; omega
        · have : (M3 0 c).natAbs < (M3 0 0).natAbs := cl.s c hc'
          show (M3 0 c).natAbs < _; omega
      · rcases (show c = 0 ∨ c = 1 ∨ c = 2 by omega) with rfl | hc'
        · have : (M3 a 0).natAbs < (M3 0 0).natAbs := cl.r a ha'
          show (M3 a 0).natAbs < _; omega
        · have := inn a c ha' hc'; show (M3 a c).natAbs < _; omega
  have grow : ∀ m m', m' < m → m ≤ N → 4 * (4 ^ (N - m) * K0) ≤ 4 ^ (N - m') * K0 := by
    intro m m' h1 h2
    have : 4 * (4 ^ (N - m) * K0) = 4 ^ ((N - m) + 1) * K0 := by rw [Nat.pow_succ]; grind
    rw [this]
    exact Nat.mul_le_mul_right _ (Nat.pow_le_pow_right (by omega) (by omega))
  have mono : ∀ {C C' : Nat} {M : Mx}, C ≤ C' → MBd C D M → MBd C' D M := fun h hM a b c d h1 h2 h3 h4 => Nat.le_trans (hM a b c d h1 h2 h3 h4) h
  have notcl : ∀ M : Mx, Cl3 M P → ¬ Clean M 0 3 → ∃ i j, i < 3 ∧ j < 3 ∧ M i j ≠ 0 ∧ (M i j).natAbs < (M 0 0).natAbs := by
    intro M cl h
    apply Classical.byContradiction
    intro hn
    refine h fun i h1 h2 => ⟨?_, ?_⟩
    · apply Classical.byContradiction
      intro h3
      exact hn ⟨i, 0, h2, by omega, h3, cl.r i (by omega)⟩
    · apply Classical.byContradiction
      intro h3
      exact hn ⟨0, i, by omega, h2, h3, cl.s i (by omega)⟩
  refine ⟨fun m M R => R.bd, fun m M R hz => ⟨R.bd, R.cor.none hz _⟩, fun m M i j R L hc => ?_, fun m M i j r R L hc S => ?_, fun m M i j R L hc _ => ?_, fun M h => ⟨bd_neg h.1 0, h.2.negR (.inr rfl) (by omega)⟩⟩
  · obtain ⟨hmN, C3, mb3, mb1, cl, B3, ep, rk, inn⟩ := turn m M i j R L
    obtain ⟨a, c, ha, hc', hne, hlt⟩ := notcl _ cl hc
    have hm : 2 * (M i j).natAbs ≤ m := by
      rcases rk with ⟨x, y, hx, hy, h1, h2⟩ | ⟨h1, h2, _⟩
      · have := L.least x y (by omega) (by omega) hx hy h1; omega
      · have := L.least 0 0 (by omega) (by omega) (by omega) (by omega) h1; omega
    rw [ep] at hlt
    refine ⟨2 * (clrM (bringM M 0 i j) 0 3 a c).natAbs + 1, by omega, B3, C3, .inr ⟨by omega, .inl ⟨a, c, ha, hc', hne, Nat.le_refl _⟩, mono (grow m _ (by omega) hmN) mb3, ?_⟩⟩
    exact ⟨0, 0, by omega, by omega, cl.p0, cl.pP⟩
  · obtain ⟨hmN, C3, mb3, mb1, cl, B3, ep, rk, inn⟩ := turn m M i j R L
    have c1 := hc 1 (by omega) (by omega)
    have c2 := hc 2 (by omega) (by omega)
    have hr : r = 1 ∨ r = 2 := by have := S.lo; have := S.hi; omega
    -- the pivot was not the corner's own, left by a spread row
    have hm : 2 * (M i j).natAbs < m := by
      rcases rk with ⟨x, y, hx, hy, h1, h2⟩ | ⟨h1, h2, z1, z2, y, hy, hnd⟩
      · have := L.least x y (by omega) (by omega) hx hy h1; omega
      · have hle := L.least 0 0 (by omega) (by omega) (by omega) (by omega) h1
        by_cases he : (M i j).natAbs < (M 0 0).natAbs
        · omega
        · exfalso
          have h00 : i = 0 ∧ j = 0 := by
            apply Classical.byContradiction
            intro hn
            have := L.first 0 0 (by omega) (by omega) (by omega) (by omega) (by omega) h1
            omega
          obtain ⟨rfl, rfl⟩ := h00
          apply hnd
          have e3 := (clr3 (bringM M 0 0 0) 1 y (.inl rfl) hy).2.2.1
          have eb : bringM M 0 0 0 = M := by unfold bringM; rw [swapR_self, swapC_self]
          rw [eb] at e3
          have hz : clrM (bringM M 0 0 0) 0 3 0 y = 0 := by
            rcases hy with rfl | rfl
            · exact c1.2
            · exact c2.2
          rw [eb] at hz
          rw [hz] at e3
          exact (fmod_zero_iff h1).mp e3.symm
    generalize hM3 : clrM (bringM M 0 i j) 0 3 = M3 at *
    have e00 : addR M3 0 r 1 0 0 = M3 0 0 := by
      rcases hr with rfl | rfl
      · simp [addR, c1.1]
      · simp [addR, c2.1]
    have e0j : ∀ y, (y = 1 ∨ y = 2) → addR M3 0 r 1 0 y = M3 r y := by
      intro y hy
      rcases hy with rfl | rfl
      · simp [addR, c1.2]
      · simp [addR, c2.2]
    have eo : ∀ a c, a ≠ 0 → addR M3 0 r 1 a c = M3 a c := fun a c ha => by simp [addR, ha]
    have C4 : Cor 3 0 (addR M3 0 r 1) D := C3.addR (.inr rfl) (by omega) (by omega) (by omega) (by omega) (by omega)
    have nd : ∃ y, (y = 1 ∨ y = 2) ∧ ¬ M3 0 0 ∣ M3 r y := by
      obtain ⟨c, hc3, hnd⟩ := S.nd
      rcases (show c = 0 ∨ c = 1 ∨ c = 2 by omega) with rfl | hc'
      · exfalso
        apply hnd
        have : M3 r 0 = 0 := by rcases hr with rfl | rfl; exact c1.1; exact c2.1
        rw [this]; exact Int.dvd_zero _
      · exact ⟨c, hc', hnd⟩
    refine ⟨2 * (M i j).natAbs, hm, ?_, C4, .inr ⟨by omega, .inr ⟨by rw [e00]; exact cl.p0, by rw [e00, ep]; exact Nat.le_refl _, by rw [eo _ _ (by omega)]; exact c1.1, by rw [eo _ _ (by omega)]; exact c2.1, ?_⟩, mbd_spr (mono (grow m _ hm hmN) mb3) hc hr, 0, 0, by omega, by omega, by rw [e00]; exact cl.p0, by rw [e00]; exact cl.pP⟩⟩
    · intro a c ha hc'
      by_cases h0 : a = 0
      · subst h0
        by_cases hc0 : c = 0
        · subst hc0; rw [e00]; exact B3 0 0 (by omega) (by omega)
        · rw [e0j c (by omega)]; exact B3 r c (by omega) hc'
      · rw [eo a c h0]; exact B3 a c ha hc'
    · obtain ⟨y, hy, hnd⟩ := nd
      exact ⟨y, hy, by rw [e00, e0j y hy]; exact hnd⟩
  · obtain ⟨hmN, C3, mb3, mb1, cl, B3, _⟩ := turn m M i j R L
    exact ⟨B3, C3.next hc⟩
end Ef
/-! A8: the stages in a row, with numbers -/
namespace Ef
/-- what the walk of diagonal() asks of a matrix -/
structure Run (n : Nat) (A : Mx) (D : Int) where
  b : Nat → Nat
  N : Nat → Nat
  u : Nat → Nat
  R : Nat → Nat → Mx → Prop
  E : Nat → Mx → Prop
  stg : ∀ k, k < n → Stg n k (b k) (R k) (E k)
  ini : ∃ m, m ≤ N 0 ∧ R 0 m A
  nxt : ∀ k, k + 1 < n → ∀ M, E k M → ∃ m, m ≤ N (k + 1) ∧ R (k + 1) m M
  fin : ∀ M, E (n - 1) M → Cor n n M D
  u0 : 1 ≤ u 0
  us : ∀ k, k < n → u k + (N k + 1) * (b k + 3) ≤ u (k + 1)
  lim : ∀ k, k < n → b k ≤ 8000 ∧ b k + u (k + 1) + 8 ≤ 134000000
theorem run_2 {A : Mx} (h : ∀ i j, i < 2 → j < 2 → (A i j).natAbs < 2 ^ 13) : Nonempty (Run 2 A (detn 2 A)) := by
  refine ⟨⟨fun _ => 28, fun k => if k = 0 then 69 else 0, fun k => if k = 0 then 1 else if k = 1 then 2171 else 2202,
    fun k => if k = 0 then R2 2 0 13 (detn 2 A) else fun m M => m = 0 ∧ BdM 28 2 M ∧ Cor 2 1 M (detn 2 A),
    fun k => if k = 0 then fun M => BdM 28 2 M ∧ Cor 2 1 M (detn 2 A) else fun M => BdM 28 2 M ∧ Cor 2 2 M (detn 2 A), ?_, ?_, ?_, ?_, ?_, ?_, ?_⟩⟩
  · intro k hk
    rcases (show k = 0 ∨ k = 1 by omega) with rfl | rfl
    · exact stg2 (n := 2) (k := 0) (x := 13) (.inl rfl) rfl
    · exact stg1 (n := 2) (k := 1) (.inl rfl) rfl
  · exact ⟨69, Nat.le_refl _, r2_ini (n := 2) (k := 0) (x := 13) rfl h ⟨fun i j _ _ _ hk => by omega, .inl rfl⟩⟩
  · intro k hk M hE
    have e : k = 0 := by omega
    subst e
    exact ⟨0, Nat.le_refl _, rfl, hE⟩
  · intro M hE
    exact hE.2
  · simp
  · intro k hk
    rcases (show k = 0 ∨ k = 1 by omega) with rfl | rfl <;> simp
  · intro k hk
    rcases (show k = 0 ∨ k = 1 by omega) with rfl | rfl <;> simp
/-- three rows, from the bounds of the first stage -/
theorem run_3 {A : Mx} {N K0 P b : Nat} (h : BdM b 3 A) (hb : 4 ^ N * K0 + 2 * P ≤ 2 ^ b) (hR : R3 N K0 P b (detn 3 A) N A) (l1 : b ≤ 3900) (l2 : (N + 1) * (b + 3) + (5 * b + 5) * (2 * b + 5) + (4 * b + 20) ≤ 133000000) : Nonempty (Run 3 A (detn 3 A)) := by
  refine ⟨⟨fun k => if k = 0 then b else 2 * b + 2, fun k => if k = 0 then N else if k = 1 then 5 * b + 4 else 0,
    fun k => if k = 0 then 1 else if k = 1 then 1 + (N + 1) * (b + 3) else if k = 2 then 1 + (N + 1) * (b + 3) + (5 * b + 5) * (2 * b + 5) else 1 + (N + 1) * (b + 3) + (5 * b + 5) * (2 * b + 5) + (2 * b + 5),
    fun k => if k = 0 then R3 N K0 P b (detn 3 A) else if k = 1 then R2 3 1 b (detn 3 A) else fun m M => m = 0 ∧ BdM (2 * b + 2) 3 M ∧ Cor 3 2 M (detn 3 A),
    fun k => if k = 0 then fun M => BdM b 3 M ∧ Cor 3 1 M (detn 3 A) else if k = 1 then fun M => BdM (2 * b + 2) 3 M ∧ Cor 3 2 M (detn 3 A) else fun M => BdM (2 * b + 2) 3 M ∧ Cor 3 3 M (detn 3 A), ?_, ?_, ?_, ?_, ?_, ?_, ?_⟩⟩
  · intro k hk
    rcases (show k = 0 ∨ k = 1 ∨ k = 2 by omega) with rfl | rfl | rfl
    · exact stg3 hb
    · exact stg2 (n := 3) (k := 1) (x := b) (.inr rfl) rfl
    · exact stg1 (n := 3) (k := 2) (.inr rfl) rfl
  · exact ⟨N, Nat.le_refl _, hR⟩
  · intro k hk M hE
    rcases (show k = 0 ∨ k = 1 by omega) with rfl | rfl
    · exact ⟨5 * b + 4, Nat.le_refl _, r2_ini (n := 3) (k := 1) (x := b) rfl hE.1 hE.2⟩
    · exact ⟨0, Nat.le_refl _, rfl, hE⟩
  · intro M hE
    exact hE.2
  · simp
  · intro k hk
    rcases (show k = 0 ∨ k = 1 ∨ k = 2 by omega) with rfl | rfl | rfl <;> simp
  · intro k hk
    rcases (show k = 0 ∨ k = 1 ∨ k = 2 by omega) with rfl | rfl | rfl
    · simp only [if_true, reduceIte]
      generalize (N + 1) * (b + 3) = y1 at *
      generalize (5 * b + 5) * (2 * b + 5) = y2 at *
      constructor
      · omega
      · simp; omega
    · generalize (N + 1) * (b + 3) = y1 at *
      generalize (5 * b + 5) * (2 * b + 5) = y2 at *
      constructor
      · simp; omega
      · simp; omega
    · generalize (N + 1) * (b + 3) = y1 at *
      generalize (5 * b + 5) * (2 * b + 5) = y2 at *
      constructor
      · simp; omega
      · simp; omega
theorem cor_ini {n : Nat} {A : Mx} : Cor n 0 A (detn n A) := ⟨fun i j _ _ _ hk => by omega, .inl rfl⟩
theorem pow4 (N : Nat) : 4 ^ N = 2 ^ (2 * N) := by rw [Nat.pow_mul]
theorem run_3a {A : Mx} (h : ∀ i j, i < 3 → j < 3 → (A i j).natAbs < 8192) (hs : ∃ i j, i < 3 ∧ j < 3 ∧ A i j ≠ 0 ∧ (A i j).natAbs ≤ 432) : Nonempty (Run 3 A (detn 3 A)) := by
  have p13 : (8192 : Nat) ≤ 2 ^ 1773 := Nat.le_trans (show 8192 ≤ 2 ^ 13 by decide) (Nat.pow_le_pow_right (by omega) (by omega))
  have hb : 4 ^ 865 * 2 ^ 42 + 2 * 433 ≤ 2 ^ 1773 := by
    rw [pow4, ← Nat.pow_add, show 1773 = (2 * 865 + 42) + 1 by omega, Nat.pow_succ]
    have : 2 * 433 ≤ 2 ^ (2 * 865 + 42) := Nat.le_trans (show 2 * 433 ≤ 2 ^ 10 by decide) (Nat.pow_le_pow_right (by omega) (by omega))
    omega
  have bd : BdM 1773 3 A := fun i j hi hj => Nat.lt_of_lt_of_le (h i j hi hj) p13
  refine run_3 (N := 865) (K0 := 2 ^ 42) (P := 433) (b := 1773) bd hb ⟨bd, cor_ini, .inr ⟨Nat.le_refl _, ?_, ?_, ?_⟩⟩ (by decide) (by decide)
  · obtain ⟨i, j, hi, hj, h1, h2⟩ := hs
    exact .inl ⟨i, j, hi, hj, h1, by omega⟩
  · have mm : ∀ i j i' j', i < 3 → j < 3 → i' < 3 → j' < 3 → (A i j * A i' j').natAbs ≤ 67108864 := fun i j i' j' h1 h2 h3 h4 =>
      natAbs_mul_le (x := 8192) (y := 8192) (by have := h i j h1 h2; omega) (by have := h i' j' h3 h4; omega)
    have mn : ∀ i i' j j', i < 3 → i' < 3 → j < 3 → j' < 3 → (A i j * A i' j' - A i j' * A i' j).natAbs ≤ 134217728 := fun i i' j j' h1 h2 h3 h4 => by
      have a := mm i j i' j' h1 h3 h2 h4
      have b := mm i j' i' j h1 h4 h2 h3
      omega
    have hD : (detn 3 A).natAbs ≤ 3298534883328 := by
      have t : ∀ j x : Nat, j < 3 → ∀ y : Int, y.natAbs ≤ 134217728 → (A 0 j * y).natAbs ≤ 1099511627776 := fun j _ hj y hy =>
        natAbs_mul_le (x := 8192) (y := 134217728) (by have := h 0 j (by omega) hj; omega) hy
      have a1 := t 0 0 (by omega) _ (mn 1 2 1 2 (by omega) (by omega) (by omega) (by omega))
      have a2 := t 1 0 (by omega) _ (mn 1 2 0 2 (by omega) (by omega) (by omega) (by omega))
      have a3 := t 2 0 (by omega) _ (mn 1 2 0 1 (by omega) (by omega) (by omega) (by omega))
      show (det3 A).natAbs ≤ _
      unfold det3
      omega
    intro i i' j j' h1 h2 h3 h4
    have := mn i i' j j' h1 h2 h3 h4
    show (A i j * A i' j' - A i j' * A i' j).natAbs + _ ≤ 4 ^ (865 - 865) * 2 ^ 42
    rw [Nat.sub_self]
    omega
  · obtain ⟨i, j, hi, hj, h1, h2⟩ := hs
    exact ⟨i, j, hi, hj, h1, by omega⟩
theorem run_3b {A : Mx} (h : ∀ i j, i < 3 → j < 3 → (A i j).natAbs < 8192) (hm : ∀ i i' j j', i < 3 → i' < 3 → j < 3 → j' < 3 → mnr A i i' j j' = 0) : Nonempty (Run 3 A (detn 3 A)) := by
  have bd : BdM 15 3 A := fun i j hi hj => Nat.lt_trans (h i j hi hj) (by decide)
  have hD : detn 3 A = 0 := by
    have a1 := hm 1 2 1 2 (by omega) (by omega) (by omega) (by omega)
    have a2 := hm 1 2 0 2 (by omega) (by omega) (by omega) (by omega)
    have a3 := hm 1 2 0 1 (by omega) (by omega) (by omega) (by omega)
    unfold mnr at a1 a2 a3
    show det3 A = 0
    unfold det3
    rw [a1, a2, a3]
    omega
  refine run_3 (N := 16385) (K0 := 0) (P := 8192) (b := 15) bd (by rw [Nat.mul_zero]; decide) ⟨bd, cor_ini, ?_⟩ (by decide) (by decide)
  by_cases hz : ∀ i j, 0 ≤ i → 0 ≤ j → i < 3 → j < 3 → A i j = 0
  · exact .inl hz
  · right
    have : ∃ i j, i < 3 ∧ j < 3 ∧ A i j ≠ 0 := by
      apply Classical.byContradiction
      intro hc
      refine hz fun i j _ _ h3 h4 => ?_
      apply Classical.byContradiction
      intro h5
      exact hc ⟨i, j, h3, h4, h5⟩
    obtain ⟨i, j, hi, hj, h1⟩ := this
    have h2 := h i j hi hj
    refine ⟨Nat.le_refl _, .inl ⟨i, j, hi, hj, h1, by omega⟩, fun a a' c c' g1 g2 g3 g4 => ?_, i, j, hi, hj, h1, h2⟩
    rw [hm a a' c c' g1 g2 g3 g4, hD]
    simp
end Ef
/-! text C1 -/
set_option Elab.async false
set_option linter.all false
set_option maxRecDepth 100000
set_option maxHeartbeats 2000000
namespace Ef
open PySem PySem.Spec PyProof.Rows L2 EfB
section
variable {P : Program} {w : World} {K : PySem.W.Frag} {mg : Str → Option Value} {base : Heap}
theorem frn {x qual : Str} {st : Stmt} {f : Addr} {fd : FuncData} {N ps : List Str} {k : Nat} {sp : Sp} (F : Fun K x qual st f fd) (S : FnScope N ps (defScope st))
    (hb : ∀ (kV doc pm : Value) (an : Option Addr) (cdv ct : Value) (us : List Value), us.length = ps.length → bindArgs (PySem.W.fnOf x qual (defArgs st) (defBody st) (defScope st) .none kV doc pm an cdv ct) ⟨us, []⟩ = pure (ps.zip us))
    (len : ∀ vs H Q E, sp vs H Q E → vs.length = ps.length)
    (hbody : ∀ (cdv : Value) (A : Around) (outer : List Env) (s : Shared) (H : Hp) (vs : List V) (Q : VK) (E : XK), Room k (A.deeper (envOfC qual (defScope st) s.heap.objs.size f cdv)) → sp vs H Q E →
      ∃ t, PSs (cxOf CX0 P w K mg base N qual (defScope st) f cdv A outer s H E).nox (defBody st) t ∧ t { nx := fun _ H' => Q .non H', rt := Q } (start N vs) H) : FnR P w K mg base CX0 (k + 1) f sp := by
  have G := F.ok (P := P) (w := w) (mg := mg) (base := base) S len hbody
  exact FnR.imp (G.raw (F.binds hb) .nil) fun vs H Q E h => by
    rw [List.append_nil]
    exact h
theorem kp_of {x qual : Str} {st : Stmt} {f : Addr} (h : ∃ fd, Fun K x qual st f fd) : PySem.W.keepIn K (.ref f) = true := h.elim fun _ F => F.kp
section
variable {A B : Prop}
theorem ifD {c : Prop} [Decidable c] (h1 : c → A) (h2 : ¬ c → B) : if decide c = true then A else B := by
  by_cases h : c
  · rw [decide_eq_true h]; exact iteT (h1 h)
  · rw [decide_eq_false h]; exact iteF (h2 h)
theorem ifN {c : Prop} [Decidable c] (h1 : ¬ c → A) (h2 : c → B) : if (!decide c) = true then A else B := by
  by_cases h : c
  · rw [decide_eq_true h]; exact iteF (h2 h)
  · rw [decide_eq_false h]; exact iteT (h1 h)
theorem ifEq {a b : Int} (h1 : a = b → A) (h2 : a ≠ b → B) : if decide (V.int a = V.int b) = true then A else B :=
  ifD (fun h => h1 (by injection h)) fun h => h2 fun e => h (by rw [e])
theorem ifNe {a b : Int} (h1 : a ≠ b → A) (h2 : a = b → B) : if (!decide (V.int a = V.int b)) = true then A else B :=
  ifN (fun h => h1 fun e => h (by rw [e])) fun h => h2 (by injection h)
theorem ifB {b : Bool} (h1 : b = true → A) (h2 : b = false → B) : if b = true then A else B := by
  cases b
  · exact iteF (h2 rfl)
  · exact iteT (h1 rfl)
end
/-! ### common -/
def sp_common : Sp := fun vs H Q _ => ∃ i j : Int, vs = [.int i, .int j] ∧ Q (.int (Int.gcd i j : Nat)) H
theorem sc_common : FnScope ["a", "b", "first", "second"] ["a", "b"] (defScope s_common) := ⟨rfl, rfl, rfl, by decide +kernel, rfl, by decide +kernel, by decide +kernel⟩
theorem abs_eq (i : Int) : (if i < 0 then -i else i) = (i.natAbs : Int) := by split <;> omega
theorem r_common (T : Ok K mg) : FnR P w K mg base CX0 1 (ga K "common") sp_common := by
  obtain ⟨fd, F⟩ := T.f_common
  refine frn F sc_common (fun _ _ _ _ _ _ us hl => match us, hl with | [_, _], _ => rfl) (fun vs H Q E h => ?_) (fun cdv A outer s H vs Q E hr h => ?_)
  · obtain ⟨i, j, rfl, _⟩ := h
    rfl
  · obtain ⟨i, j, rfl, k⟩ := h
    refine ⟨_, (pss_cons (ps_par (i := 2) (j := 3) rfl sc_common.nd rfl rfl (by decide) rfl rfl (pa_cons (pe_callB call_abs (by rfl) T.n_abs (by decide +kernel) (pa_cons (pv 0) pa_nil)) (pa_cons (pe_callB call_abs (by rfl) T.n_abs (by decide +kernel) (pa_cons (pv 1) pa_nil)) pa_nil)) rfl)
      (pss_cons (ps_while PassesOwn.never (pt_cmpR op_ne (pv 3) pe_int (nomark _))
        (pss_one (ps_par (i := 2) (j := 3) rfl sc_common.nd rfl rfl (by decide) rfl rfl (pa_cons (pv 3) (pa_cons (pe_op op_modN (pv 2) (pv 3)) pa_nil)) rfl)))
      (pss_one (ps_ret (pv 2))))), ?_⟩
    refine ⟨_, rfl, i, rfl, _, rfl, j, rfl, _, _, rfl, ?_⟩
    refine ⟨fun m σ H' => ∃ (a b : Int), H' = H ∧ σ = [some (.int i), some (.int j), some (.int a), some (.int b)] ∧ 0 ≤ a ∧ 0 ≤ b ∧ Int.gcd a b = Int.gcd i j ∧ m = b.toNat, ⟨_, _, _, rfl, rfl, ?_, ?_, ?_, rfl⟩, ?_⟩
    · split <;> omega
    · split <;> omega
    · rw [abs_eq, abs_eq]
      simp [Int.gcd]
    · rintro m σ H' ⟨a, b, rfl, rfl, ha, hb, hg, rfl⟩
      refine ⟨_, rfl, rfl, _, rfl, ?_⟩
      refine ifNe (fun h0 => ?_) fun h0 => ?_
      · refine ⟨fun σ' H'' => ∃ a' b' : Int, H'' = H' ∧ σ' = [some (.int i), some (.int j), some (.int a'), some (.int b')] ∧ 0 ≤ a' ∧ 0 ≤ b' ∧ Int.gcd a' b' = Int.gcd i j ∧ b'.toNat < b.toNat, ?_, ?_⟩
        · rintro σ' H'' ⟨a', b', rfl, rfl, h1, h2, h3, h4⟩
          exact ⟨_, h4, a', b', rfl, rfl, h1, h2, h3, rfl⟩
        · refine ⟨_, rfl, _, rfl, _, rfl, _, _, rfl, rfl, h0, _, _, rfl, b, _, rfl, rfl, hb, ?_, ?_, ?_⟩
          · rw [fmod_pos (by omega)]
            exact Int.emod_nonneg _ h0
          · rw [fmod_pos (by omega), gcd_step ha hb, hg]
          · rw [fmod_pos (by omega)]
            have := Int.emod_lt_of_pos a (show 0 < b by omega)
            have := Int.emod_nonneg a h0
            omega
      · subst h0
        refine ⟨_, rfl, ?_⟩
        have e : a = (Int.gcd i j : Nat) := by
          rw [← hg]
          simp [Int.gcd]
          omega
        rw [e]
        exact k
/-! ### primes -/
def sp_is_prime : Sp := fun vs H Q _ => ∃ n : Int, vs = [.int n] ∧ n.natAbs < 2 ^ 60 ∧ ∀ b : Bool, (b = true ↔ IsPr n) → Q (.bl b) H
theorem sc_is_prime : FnScope ["n", "divisor"] ["n"] (defScope s_is_prime) := ⟨rfl, rfl, rfl, by decide +kernel, rfl, by decide +kernel, by decide +kernel⟩
theorem r_is_prime (T : Ok K mg) : FnR P w K mg base CX0 1 (ga K "is_prime") sp_is_prime := by
  obtain ⟨fd, F⟩ := T.f_is_prime
  refine frn F sc_is_prime (fun _ _ _ _ _ _ us hl => match us, hl with | [_], _ => rfl) (fun vs H Q E h => ?_) (fun cdv A outer s H vs Q E hr h => ?_)
  · obtain ⟨n, rfl, _⟩ := h
    rfl
  · obtain ⟨n, rfl, hb, k⟩ := h
    refine ⟨_, (pss_cons (ps_if (pt_cmpR op_lt (pv 0) pe_int (nomark _))
        (pss_one (ps_ret pe_bl)) pss_nil)
      (pss_cons (ps_set (i := 1) sc_is_prime.nd rfl (Or.inl rfl) pe_int)
      (pss_cons (ps_while PassesOwn.never (pt_cmpR op_le (pe_op op_mul (pv 1) (pv 1)) (pv 0) (nomark _))
        (pss_cons (ps_if (pt_cmpR op_eq (pe_op op_modN (pv 0) (pv 1)) pe_int (nomark _))
          (pss_one (ps_ret pe_bl)) pss_nil)
        (pss_one (ps_aug (i := 1) sc_is_prime.nd rfl (Or.inl rfl) pe_int ip_add))))
      (pss_one (ps_ret pe_bl))))), ?_⟩
    refine ⟨_, rfl, _, _, rfl, rfl, _, rfl, ifD (fun h2 => ?_) fun h2 => ?_⟩
    · exact k false ⟨fun z => (nomatch z), fun z => absurd z.1 (by omega)⟩
    have h2 : 2 ≤ n := by omega
    refine ⟨fun m σ H' => ∃ d : Int, H' = H ∧ σ = [some (.int n), some (.int d)] ∧ 2 ≤ d ∧ d ≤ n + 1 ∧ (∀ e : Int, 2 ≤ e → e < d → ¬ e ∣ n) ∧ m = (n + 1 - d).toNat, ⟨_, 2, rfl, rfl, by omega, by omega, fun e h1 h2 => by omega, rfl⟩, ?_⟩
    rintro m σ H' ⟨d, rfl, rfl, hd2, hdn, no, rfl⟩
    refine ⟨_, rfl, _, rfl, _, _, rfl, rfl, .inl ⟨by omega, by omega⟩, _, rfl, _, _, rfl, rfl, _, rfl, ifD (fun h3 => ?_) fun h3 => ?_⟩
    · refine ⟨fun σ' H'' => ∃ d' : Int, H'' = H' ∧ σ' = [some (.int n), some (.int d')] ∧ 2 ≤ d' ∧ d' ≤ n + 1 ∧ (∀ e : Int, 2 ≤ e → e < d' → ¬ e ∣ n) ∧ (n + 1 - d').toNat < (n + 1 - d).toNat, ?_, ?_⟩
      · rintro σ' H'' ⟨d', rfl, rfl, h4, h5, h6, h7⟩
        exact ⟨_, h7, d', rfl, rfl, h4, h5, h6, rfl⟩
      · have hle : d ≤ n := by
          have := Int.mul_le_mul_of_nonneg_left (a := 1) (b := d) (c := d) (by omega) (by omega)
          omega
        refine ⟨_, rfl, _, rfl, _, _, rfl, rfl, (by omega), rfl, _, rfl, ifEq (fun h4 => ?_) fun h4 => ?_⟩
        · refine k false ⟨fun z => (nomatch z), fun z => ?_⟩
          refine absurd z (not_isPr_of hd2 h3 ?_)
          rw [fmod_pos (by omega)] at h4
          exact Int.dvd_of_emod_eq_zero h4
        · refine ⟨_, rfl, _, _, rfl, rfl, d + 1, rfl, rfl, by omega, by omega, fun e h5 h6 => ?_, by omega⟩
          by_cases e1 : e = d
          · subst e1
            intro hdv
            apply h4
            rw [fmod_pos (by omega)]
            exact Int.emod_eq_zero_of_dvd hdv
          · exact no e h5 (by omega)
    · exact k true ⟨fun _ => isPr_of_loop h2 (by omega) hd2 no, fun _ => rfl⟩
/-! ### prime divisors -/
def sp_pd : Sp := fun vs H Q _ => ∃ n : Int, vs = [.int n] ∧ n ≠ 0 ∧ n.natAbs < 2 ^ 60 ∧ ∀ (ps : List Int) (p : Addr), PD n ps → H p = none → Q (.ref p) (upd H p (.lst (ps.map V.int)))
theorem sc_prime_divisors : FnScope ["n", "found", "left", "divisor"] ["n"] (defScope s_prime_divisors) := ⟨rfl, rfl, rfl, by decide +kernel, rfl, by decide +kernel, by decide +kernel⟩
theorem len_of_inv {n : Int} {found : List Int} {left : Int} (h1 : 1 ≤ left) (h : (2 : Int) ^ found.length * left ≤ n.natAbs) (hn : n.natAbs < 2 ^ 60) : found.length < 60 := by
  apply Classical.byContradiction
  intro hc
  have h2 : (2 : Int) ^ 60 ≤ 2 ^ found.length := int_pow_le (by omega)
  have h3 : (2 : Int) ^ found.length * 1 ≤ 2 ^ found.length * left := Int.mul_le_mul_of_nonneg_left h1 (by have := Int.pow_pos (n := 2) (m := found.length) (by omega); omega)
  omega
theorem fdiv_pos {a b : Int} (hb : 0 < b) : a.fdiv b = a / b := Int.fdiv_eq_ediv_of_nonneg a (by omega)
theorem log_small {d : Int} (h : d.natAbs < 2 ^ 61) : d.natAbs.log2 < 9000 := by
  by_cases e : d.natAbs = 0
  · rw [e]
    decide +kernel
  · have := (Nat.log2_lt e).mpr h
    omega
theorem r_prime_divisors (T : Ok K mg) : FnR P w K mg base CX0 1 (ga K "prime_divisors") sp_pd := by
  obtain ⟨fd, F⟩ := T.f_prime_divisors
  refine frn F sc_prime_divisors (fun _ _ _ _ _ _ us hl => match us, hl with | [_], _ => rfl) (fun vs H Q E h => ?_) (fun cdv A outer s H vs Q E hr h => ?_)
  · obtain ⟨n, rfl, _⟩ := h
    rfl
  · obtain ⟨n, rfl, h0, hb, k⟩ := h
    refine ⟨_, (pss_cons (ps_if (pt_cmpR op_eq (pv 0) pe_int (nomark _))
        (pss_one ps_never) pss_nil)
      (pss_cons (ps_set (i := 1) sc_prime_divisors.nd rfl (Or.inl rfl) (pe_lst pa_nil))
      (pss_cons (ps_set (i := 2) sc_prime_divisors.nd rfl (Or.inl rfl) (pe_callB call_abs (by rfl) T.n_abs (by decide +kernel) (pa_cons (pv 0) pa_nil)))
      (pss_cons (ps_set (i := 3) sc_prime_divisors.nd rfl (Or.inl rfl) pe_int)
      (pss_cons (ps_while PassesOwn.never (pt_cmpR op_le (pe_op op_mul (pv 3) (pv 3)) (pv 2) (nomark _))
        (pss_cons (ps_if (pt_cmpR op_eq (pe_op op_modN (pv 2) (pv 3)) pe_int (nomark _))
          (pss_cons (ps_expr (pe_bm PySem.F.plainAttrs_list PySem.F.slot_list_append PySem.F.type_list_append mt_append (pv 1) (pa_cons (pv 3) pa_nil)))
          (pss_one (ps_while PassesOwn.never (pt_cmpR op_eq (pe_op op_modN (pv 2) (pv 3)) pe_int (nomark _))
            (pss_one (ps_set (i := 2) sc_prime_divisors.nd rfl (Or.inl rfl) (pe_op op_fdivG (pv 2) (pv 3))))))) pss_nil)
        (pss_one (ps_aug (i := 3) sc_prime_divisors.nd rfl (Or.inl rfl) pe_int ip_add))))
      (pss_cons (ps_if (pt_cmpR op_gt (pv 2) pe_int (nomark _))
        (pss_one (ps_expr (pe_bm PySem.F.plainAttrs_list PySem.F.slot_list_append PySem.F.type_list_append mt_append (pv 1) (pa_cons (pv 2) pa_nil)))) pss_nil)
      (pss_one (ps_ret (pv 1))))))))), ?_⟩
    refine ⟨_, rfl, rfl, _, rfl, ifEq (fun z => absurd z h0) fun _ => ?_⟩
    refine ⟨Nat.zero_le _, fun p hp => ⟨_, rfl, n, rfl, ?_⟩⟩
    show tSeq _ _ _ [some (.int n), some (.ref p), some (.int (if n < 0 then -n else n)), none] _
    rw [abs_eq]
    have hnn : ∀ {left : Int}, 1 ≤ left → left ∣ n → left ≤ n.natAbs := fun {left} h1 hd => Int.le_of_dvd (by omega) (Int.dvd_natAbs.mpr hd)
    refine ⟨fun m σ H' => ∃ (found : List Int) (left d : Int), H' = upd H p (.lst (found.map V.int)) ∧ σ = [some (.int n), some (.ref p), some (.int left), some (.int d)] ∧ PdInv n found left d ∧ d ≤ n.natAbs + 1 ∧ m = (n.natAbs + 1 - d).toNat, ⟨_, [], _, _, rfl, rfl, pd_start h0, by omega, rfl⟩, ?_⟩
    rintro m σ H' ⟨found, left, d, rfl, rfl, I, hdn, rfl⟩
    have hd2 := I.d2
    have hl1 := I.left1
    have hln := hnn hl1 I.dv
    refine ⟨_, rfl, _, rfl, _, _, rfl, rfl, .inl ⟨by omega, by omega⟩, _, rfl, _, _, rfl, rfl, _, rfl, ifD (fun h3 => ?_) fun h3 => ?_⟩
    · have hdl : d ≤ left := by
        have := Int.mul_le_mul_of_nonneg_left (a := 1) (b := d) (c := d) (by omega) (by omega)
        omega
      refine ⟨fun σ' H'' => ∃ (found' : List Int) (left' d' : Int), H'' = upd H p (.lst (found'.map V.int)) ∧ σ' = [some (.int n), some (.ref p), some (.int left'), some (.int d')] ∧ PdInv n found' left' d' ∧ d' ≤ n.natAbs + 1 ∧ (n.natAbs + 1 - d').toNat < (n.natAbs + 1 - d).toNat, ?_, ?_⟩
      · rintro σ' H'' ⟨found', left', d', rfl, rfl, I', h4, h5⟩
        exact ⟨_, h5, found', left', d', rfl, rfl, I', h4, rfl⟩
      · refine ⟨_, rfl, _, rfl, _, _, rfl, rfl, (by omega), rfl, _, rfl, ifEq (fun h4 => ?_) fun h4 => ?_⟩
        · rw [fmod_pos (by omega)] at h4
          have hdv : d ∣ left := Int.dvd_of_emod_eq_zero h4
          have I1 := pd_found I hdv
          have hlen := len_of_inv hl1 I.len hb
          refine ⟨_, rfl, .inl ⟨rfl, _, .inl (.inl upd_same)⟩, _, rfl, p, _, _, rfl, rfl, upd_same, by rw [List.length_map, sizeLine_eq]; omega, ?_⟩
          rw [upd_upd]
          refine ⟨fun m σ H' => ∃ (left' : Int), H' = upd H p (.lst ((found ++ [d]).map V.int)) ∧ σ = [some (.int n), some (.ref p), some (.int left'), some (.int d)] ∧ PdIn n (found ++ [d]) left' d ∧ m = left'.toNat, ⟨_, left, by rw [List.map_append]; rfl, rfl, I1, rfl⟩, ?_⟩
          rintro m σ H' ⟨left', rfl, rfl, I', rfl⟩
          refine ⟨_, rfl, _, rfl, _, _, rfl, rfl, (by omega), rfl, _, rfl, ifEq (fun h5 => ?_) fun h5 => ?_⟩
          · rw [fmod_pos (by omega)] at h5
            obtain ⟨I2, hlt⟩ := pd_inner I' (Int.dvd_of_emod_eq_zero h5)
            refine ⟨fun σ' H'' => ∃ (left'' : Int), H'' = upd H p (.lst ((found ++ [d]).map V.int)) ∧ σ' = [some (.int n), some (.ref p), some (.int left''), some (.int d)] ∧ PdIn n (found ++ [d]) left'' d ∧ left''.toNat < left'.toNat, ?_, ?_⟩
            · rintro σ' H'' ⟨left'', rfl, rfl, I3, h6⟩
              exact ⟨_, h6, left'', rfl, rfl, I3, rfl⟩
            · refine ⟨_, rfl, _, rfl, _, _, rfl, rfl, ⟨by omega, log_small (by omega)⟩, left' / d, rfl, ?_, I2, ?_⟩
              · show [some (V.int n), some (V.ref p), some (V.int (left'.fdiv d)), some (V.int d)] = _
                rw [fdiv_pos (by omega)]
              · have := I2.left1
                omega
          · rw [fmod_pos (by omega)] at h5
            exact ⟨_, rfl, _, _, rfl, rfl, found ++ [d], left', d + 1, rfl, rfl, pd_yes I' (fun z => h5 (Int.emod_eq_zero_of_dvd z)), by omega, by omega⟩
        · rw [fmod_pos (by omega)] at h4
          exact ⟨_, rfl, _, _, rfl, rfl, found, left, d + 1, rfl, rfl, pd_no I (fun z => h4 (Int.emod_eq_zero_of_dvd z)), by omega, by omega⟩
    · refine ⟨_, rfl, _, _, rfl, rfl, _, rfl, ifD (fun h4 => ?_) fun h4 => ?_⟩
      · have hlen := len_of_inv hl1 I.len hb
        refine ⟨_, rfl, .inl ⟨rfl, _, .inl (.inl upd_same)⟩, _, rfl, p, _, _, rfl, rfl, upd_same, by rw [List.length_map, sizeLine_eq]; omega, _, rfl, ?_⟩
        rw [upd_upd]
        have := k (found ++ [left]) p (pd_end1 I (by omega) h4) hp
        rw [List.map_append] at this
        exact this
      · exact ⟨_, rfl, k found p (pd_end0 I h4) hp⟩
/-! ### checked, is_zero -/
def sp_checked : Sp := fun vs H Q _ => ∃ p : Int, vs = [.int p] ∧ IsCh p ∧ p.natAbs < 2 ^ 60 ∧ Q (.int p) H
theorem sc_checked : FnScope ["p"] ["p"] (defScope s_checked) := ⟨rfl, rfl, rfl, by decide +kernel, rfl, by decide +kernel, by decide +kernel⟩
theorem r_checked (T : Ok K mg) : FnR P w K mg base CX0 2 (ga K "checked") sp_checked := by
  obtain ⟨fd, F⟩ := T.f_checked
  refine frn F sc_checked (fun _ _ _ _ _ _ us hl => match us, hl with | [_], _ => rfl) (fun vs H Q E h => ?_) (fun cdv A outer s H vs Q E hr h => ?_)
  · obtain ⟨n, rfl, _⟩ := h
    rfl
  · obtain ⟨p, rfl, hp, hb, k⟩ := h
    refine ⟨_, (pss_cons (ps_if (PW.pt (pw_and (pt_cmpR op_ne (pv 0) pe_int (nomark _)) (pw_and1 (pt_not (pt_val (pe_callR (r_is_prime T) (hr.mono (by decide)) (kp_of T.f_is_prime) rfl T.g_is_prime pass0 (pa_cons (pv 0) pa_nil)))))))
        (pss_one ps_never) pss_nil)
      (pss_one (ps_ret (pv 0)))), ?_⟩
    refine ⟨_, rfl, rfl, _, rfl, ifNe (fun h0 => ?_) fun h0 => ?_⟩
    · refine ⟨_, rfl, p, rfl, hb, fun b hbp => ⟨b, rfl, ?_⟩⟩
      have hb1 : b = true := hbp.2 (hp.resolve_left h0)
      subst hb1
      exact iteF ⟨_, rfl, k⟩
    · exact iteF ⟨_, rfl, k⟩
def sp_is_zero : Sp := fun vs H Q _ => ∃ n p : Int, vs = [.int n, .int p] ∧ IsCh p ∧ p.natAbs < 2 ^ 60 ∧ ∀ b : Bool, (b = true ↔ p ∣ n) → Q (.bl b) H
theorem sc_is_zero : FnScope ["n", "p"] ["n", "p"] (defScope s_is_zero) := ⟨rfl, rfl, rfl, by decide +kernel, rfl, by decide +kernel, by decide +kernel⟩
theorem r_is_zero (T : Ok K mg) : FnR P w K mg base CX0 3 (ga K "is_zero") sp_is_zero := by
  obtain ⟨fd, F⟩ := T.f_is_zero
  refine frn F sc_is_zero (fun _ _ _ _ _ _ us hl => match us, hl with | [_, _], _ => rfl) (fun vs H Q E h => ?_) (fun cdv A outer s H vs Q E hr h => ?_)
  · obtain ⟨n, p, rfl, _⟩ := h
    rfl
  · obtain ⟨n, p, rfl, hp, hb, k⟩ := h
    refine ⟨_, (pss_cons (ps_if (pt_cmpR op_eq (pe_callR (r_checked T) (hr.mono (by decide)) (kp_of T.f_checked) rfl T.g_checked pass0 (pa_cons (pv 1) pa_nil)) pe_int (nomark _))
        (pss_one (ps_ret (pe_cmpR op_eq (pv 0) pe_int (nomark _)))) pss_nil)
      (pss_one (ps_ret (pe_cmpR op_eq (pe_op op_modN (pv 0) (pv 1)) pe_int (nomark _))))), ?_⟩
    refine ⟨_, rfl, p, rfl, hp, hb, rfl, _, rfl, ifEq (fun h0 => ?_) fun h0 => ?_⟩
    · subst h0
      refine ⟨_, rfl, rfl, k _ ?_⟩
      rw [decide_eq_true_eq]
      constructor
      · intro h
        injection h with h
        rw [h]
        exact Int.dvd_refl 0
      · intro h
        rw [Int.zero_dvd.mp h]
    · have hpos : 0 < p := by have := hp.nonneg; omega
      refine ⟨_, rfl, _, rfl, _, _, rfl, rfl, h0, rfl, k _ ?_⟩
      rw [decide_eq_true_eq]
      show V.int (n.fmod p) = V.int 0 ↔ _
      rw [fmod_pos hpos]
      constructor
      · intro h
        injection h with h
        exact Int.dvd_of_emod_eq_zero h
      · intro h
        rw [Int.emod_eq_zero_of_dvd h]
end
end Ef
/-! text C2 -/
set_option Elab.async false
set_option linter.all false
set_option maxRecDepth 100000
set_option maxHeartbeats 2000000
namespace Ef
open PySem PySem.Spec PyProof.Rows L2 EfB
/-! ### a list or a tuple walked -/
def iSeq (K : PySem.W.Frag) (tl : TE) : TI := fun σ H R => tl σ H fun x H1 => ∃ a, x = .ref a ∧ ((∃ xs, SqL K H1 a xs ∧ R (Itl K a) H1) ∨ ∃ xs, SqT K H1 a xs ∧ R (Itt K a) H1)
theorem pi_seq {X : Cx} {tg l : Expr} {tl : TE} (hl : PE X l tl) : PI X tg l (iSeq X.K tl) := by
  refine ⟨fun pins s σ H R I h => ?_⟩
  refine thn (hl.run pins s σ H _ I h) fun v s1 ⟨x, H1, I1, r1, q1⟩ => ?_
  obtain ⟨a, rfl, q⟩ := q1
  cases (show v = Value.ref a from r1)
  have one : ∀ {b : Addr}, b ∈ [s1.heap.objs.size] → FpOk X pins H1 b := fun {b} hb => by
    obtain rfl : b = s1.heap.objs.size := by simpa using hb
    exact I1.fpOk (Nat.le_refl _) (I1.hok.fresh (Nat.le_refl _))
  rcases q with ⟨xs, hq, q⟩ | ⟨xs, hq, q⟩
  · obtain ⟨its, rv, p, hz⟩ := I1.list hq
    exact wpAny_pyIter_list p.isList ⟨s1.heap.objs.size, [s1.heap.objs.size], _, _, H1, rfl, I1.kept (t' := s1.toks) fun b o e => Heap.get?_push_of_some _ e, turn_list a _, ⟨_, Heap.get?_push_size _ rfl, rfl, rfl⟩, fun b hb => one hb, q⟩
  · obtain ⟨its, rv, p, hz⟩ := I1.tuple hq
    exact wpAny_pyIter_tuple (show s1.heap.IsTuple a its.toArray from p) ⟨s1.heap.objs.size, [s1.heap.objs.size], _, _, H1, rfl, I1.kept (t' := s1.toks) fun b o e => Heap.get?_push_of_some _ e, turn_tuple a _, ⟨_, Heap.get?_push_size _ rfl, rfl, rfl⟩, fun b hb => one hb, q⟩
/-! ### the attributes of a Chars -/
theorem en_pr : ¬ (("endless" : Str) = "primes") := by decide +kernel
def chF (b : Bool) (t : Addr) : List (Str × V) := putF "primes" (.ref t) (putF "endless" (.bl b) [])
theorem chF_en (b : Bool) (t : Addr) : (chF b t).lookup ("endless" : Str) = some (.bl b) := by
  unfold chF
  rw [lookup_putF, if_neg en_pr, lookup_putF, if_pos rfl]
theorem chF_pr (b : Bool) (t : Addr) : (chF b t).lookup ("primes" : Str) = some (.ref t) := by
  unfold chF
  rw [lookup_putF, if_pos rfl]
theorem chF_no (b : Bool) (t : Addr) {m : Str} (h1 : ¬ m = "primes") (h2 : ¬ m = "endless") : (chF b t).lookup m = none := by
  unfold chF
  rw [lookup_putF, if_neg h1, lookup_putF, if_neg h2]
  all_goals rfl
/-- a Chars at a: endless or not, and its primes -/
def ChAt (K : PySem.W.Frag) (H : Hp) (a : Addr) (b : Bool) (ps : List Int) : Prop := ∃ dx t, H a = some (.ins (ga K "Chars") dx (chF b t)) ∧ H t = some (.tup (ps.map V.int))
theorem ChAt.same {K : PySem.W.Frag} {H H' : Hp} {a : Addr} {b : Bool} {ps : List Int} (h : ChAt K H a b ps) (s : Same H H') : ChAt K H' a b ps := let ⟨dx, t, h1, h2⟩ := h; ⟨dx, t, s _ _ h1, s _ _ h2⟩
def SeqI (H : Hp) (l : Addr) (ns : List Int) : Prop := H l = some (.lst (ns.map V.int)) ∨ H l = some (.tup (ns.map V.int))
/-- numbers that may be primes of a Chars -/
def PrL (ns : List Int) : Prop := ∀ n ∈ ns, IsPr n ∧ n.natAbs < 2 ^ 60
theorem sqT_same {K : PySem.W.Frag} {H H' : Hp} {a : Addr} {xs : List V} (e : Same H H') (h : SqT K H a xs) : SqT K H' a xs := by
  rcases h with (h | ⟨o, h⟩) | h
  · exact .inl (.inl (e _ _ h))
  · exact .inl (.inr ⟨o, e _ _ h⟩)
  · exact .inr h
theorem SeqI.same {H H' : Hp} {l : Addr} {ns : List Int} (e : Same H H') (h : SeqI H l ns) : SeqI H' l ns := h.imp (e _ _) (e _ _)
theorem SeqI.sq {K : PySem.W.Frag} {H : Hp} {l : Addr} {ns : List Int} (h : SeqI H l ns) : SqL K H l (ns.map V.int) ∨ SqT K H l (ns.map V.int) := h.imp SqL.of SqT.of
theorem SeqI.ne {H : Hp} {l x C dx : Addr} {ns : List Int} {fs : List (Str × V)} (h : SeqI H l ns) (hx : H x = some (.ins C dx fs)) : l ≠ x := h.elim (fun h => ne_of h hx (by intro z; cases z)) fun h => ne_of h hx (by intro z; cases z)
theorem SeqI.at {H H' : Hp} {l : Addr} {ns : List Int} (h : SeqI H l ns) (e : H' l = H l) : SeqI H' l ns := by
  unfold SeqI
  rw [e]
  exact h
theorem map_int_at {ns : List Int} {i : Nat} {y : V} (h : (ns.map V.int)[i]? = some y) : ∃ n, ns[i]? = some n ∧ y = .int n := by
  rw [List.getElem?_map] at h
  cases e : ns[i]? with
  | none => rw [e] at h; cases h
  | some n => rw [e] at h; exact ⟨n, rfl, (Option.some.inj h).symm⟩
theorem Same.upd {H H' : Hp} {p : Addr} {o : HO} (s : Same H H') (h : H p = none) : Same H (L2.upd H' p o) := fun b u e => by
  rw [upd_ne (ne_of_none e h)]
  exact s b u e
section
variable {P : Program} {w : World} {K : PySem.W.Frag} {mg : Str → Option Value} {base : Heap}
def sp_Chars_init (K : PySem.W.Frag) : Sp := fun vs H Q _ => ∃ (x dx l : Addr) (b : Bool) (ns : List Int), vs = [.ref x, .bl b, .ref l] ∧ H x = some (.ins (ga K "Chars") dx []) ∧ SeqI H l ns ∧ PrL ns ∧ ns.length < 64 ∧
  ∀ (H' : Hp) (ps : List Int), ChAt K H' x b ps → (∀ k, k ∈ ps ↔ k ∈ ns) → ps.length ≤ ns.length → (∀ c o, H c = some o → c ≠ x → H' c = some o) → Q .non H'
theorem sc_Chars_init : FnScope ["self", "endless", "primes", "p"] ["self", "endless", "primes"] (defScope s_Chars_init) := ⟨rfl, rfl, rfl, by decide +kernel, rfl, by decide +kernel, by decide +kernel⟩
theorem r_Chars_init (T : Ok K mg) : FnR P w K mg base CX0 2 (ma K "Chars" "__init__") (sp_Chars_init K) := by
  obtain ⟨fd, F⟩ := T.f_Chars_init
  refine frn F sc_Chars_init (fun _ _ _ _ _ _ us hl => match us, hl with | [_, _, _], _ => rfl) (fun vs H Q E h => ?_) (fun cdv A outer s H vs Q E hr h => ?_)
  · obtain ⟨x, dx, l, b, ns, rfl, _⟩ := h
    rfl
  · obtain ⟨x, dx, l, b, ns, rfl, hx, hl, hp, h64, k⟩ := h
    refine ⟨_, (pss_cons (ps_for PassesOwn.never rfl (pi_seq (pv 2)) (pg_name (i := 3) sc_Chars_init.nd rfl (Or.inl rfl))
        (pss_one (ps_if (pt_not (pt_val (pe_callR (r_is_prime T) (hr.mono (by decide)) (kp_of T.f_is_prime) rfl T.g_is_prime pass0 (pa_cons (pv 3) pa_nil))))
          (pss_one ps_never) pss_nil)))
      (pss_cons (ps_fld (pv 0) (pv 1) rfl)
      (pss_one (ps_fld (pv 0) (pe_callTy (call_tupK (K := K) rfl) (by rfl) T.n_tuple (by decide +kernel) (pa_cons (pe_callB (L2.cr_sortedSet rfl) (by rfl) T.n_sorted (by decide +kernel) (pa_cons (pe_callTy (cr_setI rfl) (by rfl) T.n_set (by decide +kernel) (pa_cons (pv 2) pa_nil)) pa_nil)) pa_nil)) rfl)))), ?_⟩
    have rest : ∀ v, tSeq (sFld K (tVar 0) (tVar 1) "endless") (sFld K (tVar 0) (tCB (fun xs H Q => ∃ p ys, xs = [.ref p] ∧ ((SqL K H p ys ∧ ∀ l, H l = none → Q (.ref l) (upd H l (.tup ys))) ∨ (SqT K H p ys ∧ Q (.ref p) H)))
        (tCons (tCB (rSortedSet w) (tCons (tCB (rSetI K w) (tCons (tVar 2) tNil)) tNil)) tNil)) "primes") { nx := fun _ H' => Q .non H', rt := Q } [some (.ref x), some (.bl b), some (.ref l), v] H := fun v => by
      refine ⟨_, rfl, _, rfl, x, _, dx, _, rfl, hx, T.cl_Chars, T.na_Chars_endless, (by show 0 < 1000; decide), ?_⟩
      have lx : l ≠ x := hl.ne hx
      refine ⟨_, rfl, l, ns, rfl, (hl.at (upd_ne lx)).sq, by omega, fun p S n hS hn hp0 => ?_⟩
      have px : p ≠ x := fun e => by rw [e, upd_same] at hp0; cases hp0
      have p0 : H p = none := by rw [upd_ne px] at hp0; exact hp0
      refine ⟨p, S, n, rfl, upd_same, by omega, fun ps q hs hm hl2 hq => ?_⟩
      have qx : q ≠ x := fun e => by rw [e, upd_ne px.symm, upd_same] at hq; cases hq
      have qp : q ≠ p := fun e => by rw [e, upd_same] at hq; cases hq
      have q0 : H q = none := by rw [upd_ne qp, upd_ne qx] at hq; exact hq
      refine ⟨q, _, rfl, .inl ⟨SqL.of upd_same, fun t ht => ?_⟩⟩
      have tq : t ≠ q := fun e => by rw [e, upd_same] at ht; cases ht
      have tp : t ≠ p := fun e => by rw [e, upd_ne qp.symm, upd_same] at ht; cases ht
      have tx : t ≠ x := fun e => by rw [e, upd_ne qx.symm, upd_ne px.symm, upd_same] at ht; cases ht
      have t0 : H t = none := by rw [upd_ne tq, upd_ne tp, upd_ne tx] at ht; exact ht
      refine ⟨_, rfl, x, _, dx, _, rfl, (by rw [upd_ne tx.symm, upd_ne qx.symm, upd_ne px.symm, upd_same]), T.cl_Chars, T.na_Chars_primes, (by show 1 < 1000; decide), ?_⟩
      refine k _ ps ⟨dx, t, upd_same, by rw [upd_ne tx, upd_same]⟩ (fun i => (hm i).trans (hS i)) (by omega) fun c o hc cx => ?_
      rw [upd_ne cx, upd_ne (ne_of_none hc t0), upd_ne (ne_of_none hc q0), upd_ne (ne_of_none hc p0), upd_ne cx]
      exact hc
    have turn : ∀ (i : Nat) (y : V) (σ : L2.St) (H' : Hp), (ns.map V.int)[i]? = some y → (∃ v, σ = [some (.ref x), some (.bl b), some (.ref l), v] ∧ H' = H) →
        ∃ n : Int, y = .int n ∧ IsPr n ∧ n.natAbs < 2 ^ 60 := fun i y σ H' hy _ => by
      obtain ⟨n, hn, rfl⟩ := map_int_at hy
      exact ⟨n, rfl, hp n (List.mem_of_getElem? hn)⟩
    refine ⟨_, rfl, l, rfl, ?_⟩
    rcases hl with hl | hl
    · refine .inl ⟨_, SqL.of hl, for_list (K := K) (a := l) (xs := ns.map V.int) (fun i σ H' => ∃ v, σ = [some (.ref x), some (.bl b), some (.ref l), v] ∧ H' = H) ⟨none, rfl, rfl⟩ (fun i σ H' _ ⟨_, _, e⟩ => by rw [e]; exact SqL.of hl) ?_ fun σ H' ⟨v, e1, e2⟩ => by rw [e1, e2]; exact rest v⟩
      rintro i y σ H' hy ⟨v, rfl, rfl⟩
      obtain ⟨n, rfl, h1, h2⟩ := turn i y _ _ hy ⟨v, rfl, rfl⟩
      refine ⟨_, rfl, n, rfl, h2, fun b' hb => ⟨b', rfl, ?_⟩⟩
      rw [hb.2 h1]
      exact iteF ⟨_, rfl, rfl⟩
    · refine .inr ⟨_, SqT.of hl, for_tup (K := K) (a := l) (xs := ns.map V.int) (fun i σ H' => ∃ v, σ = [some (.ref x), some (.bl b), some (.ref l), v] ∧ H' = H) ⟨none, rfl, rfl⟩ (fun i σ H' _ ⟨_, _, e⟩ => by rw [e]; exact SqT.of hl) ?_ fun σ H' ⟨v, e1, e2⟩ => by rw [e1, e2]; exact rest v⟩
      rintro i y σ H' hy ⟨v, rfl, rfl⟩
      obtain ⟨n, rfl, h1, h2⟩ := turn i y _ _ hy ⟨v, rfl, rfl⟩
      refine ⟨_, rfl, n, rfl, h2, fun b' hb => ⟨b', rfl, ?_⟩⟩
      rw [hb.2 h1]
      exact iteF ⟨_, rfl, rfl⟩
/-! ### the makers -/
/-- what zero_of tells of n -/
def Zn (n : Int) (b : Bool) (ps : List Int) : Prop := (n = 0 ∧ b = true ∧ ps = []) ∨ (n ≠ 0 ∧ b = false ∧ ∀ k, k ∈ ps ↔ IsPr k ∧ k ∣ n)
def ChOk (ps : List Int) : Prop := PrL ps ∧ ps.length < 60
theorem ChOk.nil : ChOk [] := ⟨fun _ h => (nomatch h), by decide⟩
theorem nil_of {ps : List Int} (h : ∀ k, k ∈ ps ↔ k ∈ ([] : List Int)) : ps = [] := List.eq_nil_iff_forall_not_mem.mpr fun k hk => nomatch (h k).1 hk
def sp_Chars_every (K : PySem.W.Frag) : Sp := fun vs H Q _ => vs = [.ref (ga K "Chars")] ∧ ∀ (H' : Hp) (a : Addr), Same H H' → H a = none → ChAt K H' a true [] → Q (.ref a) H'
theorem sc_Chars_every : FnScope ["cls"] ["cls"] (defScope s_Chars_every) := ⟨rfl, rfl, rfl, by decide +kernel, rfl, by decide +kernel, by decide +kernel⟩
theorem made_ch {H H1 : Hp} {x dx C : Addr} (nx : H x = none) (nd : H dx = none) (k : ∀ c o, (upd (upd H dx (.own x)) x (.ins C dx [])) c = some o → c ≠ x → H1 c = some o) : Same H H1 := Same.made nx nd k
theorem r_Chars_every (T : Ok K mg) : FnR P w K mg base CX0 4 (wa K "Chars" "every") (sp_Chars_every K) := by
  obtain ⟨fd, F⟩ := T.f_Chars_every
  refine frn F sc_Chars_every (fun _ _ _ _ _ _ us hl => match us, hl with | [_], _ => rfl) (fun vs H Q E h => ?_) (fun cdv A outer s H vs Q E hr h => ?_)
  · obtain ⟨rfl, _⟩ := h
    rfl
  · obtain ⟨rfl, k⟩ := h
    refine ⟨_, (pss_one (ps_ret (pe_makeL (i := 0) T.mk_Chars (r_Chars_init T) (hr.mono (by decide)) rfl (Or.inl rfl) pass0 (pa_cons pe_bl (pa_cons (pe_lst pa_nil) pa_nil))))), ?_⟩
    refine ⟨rfl, Nat.zero_le _, fun l hl x dx nx nd ne => ?_⟩
    have lx : l ≠ x := fun e => by rw [← e, upd_same] at nx; cases nx
    have ld : l ≠ dx := fun e => by rw [← e, upd_same] at nd; cases nd
    refine ⟨x, dx, l, true, [], rfl, upd_same, .inl (by rw [upd_ne lx, upd_ne ld, upd_same]; rfl), fun _ h => (nomatch h), by decide, fun H' ps hc hm _ fr => ⟨rfl, ?_⟩⟩
    have e := nil_of hm
    subst e
    have x0 : H x = none := by rw [upd_ne lx.symm] at nx; exact nx
    exact k H' x (fun c o h => made_ch nx nd fr c o (by rw [upd_ne (ne_of_none h hl)]; exact h)) x0 hc
def sp_Chars_zero (K : PySem.W.Frag) (flip : Bool) : Sp := fun vs H Q _ => ∃ n : Int, vs = [.ref (ga K "Chars"), .int n] ∧ n.natAbs < 2 ^ 60 ∧
  ∀ (H' : Hp) (a : Addr) (b : Bool) (ps : List Int), Same H H' → H a = none → ChAt K H' a (b != flip) ps → Zn n b ps → ChOk ps → Q (.ref a) H'
theorem sc_Chars_zero_of : FnScope ["cls", "n"] ["cls", "n"] (defScope s_Chars_zero_of) := ⟨rfl, rfl, rfl, by decide +kernel, rfl, by decide +kernel, by decide +kernel⟩
theorem r_Chars_zero_of (T : Ok K mg) : FnR P w K mg base CX0 4 (wa K "Chars" "zero_of") (sp_Chars_zero K false) := by
  obtain ⟨fd, F⟩ := T.f_Chars_zero_of
  refine frn F sc_Chars_zero_of (fun _ _ _ _ _ _ us hl => match us, hl with | [_, _], _ => rfl) (fun vs H Q E h => ?_) (fun cdv A outer s H vs Q E hr h => ?_)
  · obtain ⟨n, rfl, _⟩ := h
    rfl
  · obtain ⟨n, rfl, hn, k⟩ := h
    refine ⟨_, (pss_cons (ps_if (pt_cmpR op_eq (pv 1) pe_int (nomark _))
        (pss_one (ps_ret (pe_makeL (i := 0) T.mk_Chars (r_Chars_init T) (hr.mono (by decide)) rfl (Or.inl rfl) pass0 (pa_cons pe_bl (pa_cons (pe_lst pa_nil) pa_nil))))) pss_nil)
      (pss_one (ps_ret (pe_makeL (i := 0) T.mk_Chars (r_Chars_init T) (hr.mono (by decide)) rfl (Or.inl rfl) pass0 (pa_cons pe_bl (pa_cons (pe_callR (r_prime_divisors T) (hr.mono (by decide)) (kp_of T.f_prime_divisors) rfl T.g_prime_divisors pass0 (pa_cons (pv 1) pa_nil)) pa_nil)))))), ?_⟩
    refine ⟨_, rfl, rfl, _, rfl, ifEq (fun h0 => ?_) fun h0 => ?_⟩
    · refine ⟨rfl, Nat.zero_le _, fun l hl x dx nx nd ne => ?_⟩
      have lx : l ≠ x := fun e => by rw [← e, upd_same] at nx; cases nx
      have ld : l ≠ dx := fun e => by rw [← e, upd_same] at nd; cases nd
      refine ⟨x, dx, l, true, [], rfl, upd_same, .inl (by rw [upd_ne lx, upd_ne ld, upd_same]; rfl), fun _ h => (nomatch h), by decide, fun H' ps hc hm _ fr => ⟨rfl, ?_⟩⟩
      have e := nil_of hm
      subst e
      have x0 : H x = none := by rw [upd_ne lx.symm] at nx; exact nx
      exact k H' x true [] (fun c o h => made_ch nx nd fr c o (by rw [upd_ne (ne_of_none h hl)]; exact h)) x0 hc (.inl ⟨h0, rfl, rfl⟩) ChOk.nil
    · refine ⟨rfl, _, rfl, n, rfl, h0, hn, fun ds l hpd hl x dx nx nd ne => ?_⟩
      have lx : l ≠ x := fun e => by rw [← e, upd_same] at nx; cases nx
      have ld : l ≠ dx := fun e => by rw [← e, upd_same] at nd; cases nd
      have hshort := hpd.short hn
      have hpr : PrL ds := fun k hk => by
        have h1 := hpd.pr k hk
        have h2 := (hpd.iff k h1).1 hk
        exact ⟨h1, Nat.lt_of_le_of_lt (Nat.le_of_dvd (by omega) (Int.natAbs_dvd_natAbs.mpr h2)) hn⟩
      refine ⟨x, dx, l, false, ds, rfl, upd_same, .inl (by rw [upd_ne lx, upd_ne ld, upd_same]), hpr, by omega, fun H' ps hc hm hle fr => ⟨rfl, ?_⟩⟩
      have x0 : H x = none := by rw [upd_ne lx.symm] at nx; exact nx
      exact k H' x false ps (fun c o h => made_ch nx nd fr c o (by rw [upd_ne (ne_of_none h hl)]; exact h)) x0 hc (.inr ⟨h0, rfl, fun i => (hm i).trans ⟨fun z => ⟨hpd.pr i z, (hpd.iff i (hpd.pr i z)).1 z⟩, fun z => (hpd.iff i z.1).2 z.2⟩⟩) ⟨fun i hi => hpr i ((hm i).1 hi), by omega⟩
/-! ### in, ~, truth, == -/
theorem inV_int (p : Int) (ps : List Int) : inV (V.int p) (ps.map V.int) = decide (p ∈ ps) := by
  unfold inV
  rw [List.any_map, Bool.eq_iff_iff, List.any_eq_true, decide_eq_true_eq]
  constructor
  · rintro ⟨x, hx, e⟩
    have : x = p := by simpa [eqV] using e
    rw [← this]; exact hx
  · intro h
    exact ⟨p, h, by simp [eqV]⟩
theorem flat_ints (ps : List Int) : (ps.map V.int).all flatV = true := by
  rw [List.all_map, List.all_eq_true]
  exact fun _ _ => rfl
def chIn (b : Bool) (ps : List Int) (p : Int) : Bool := if p = 0 then b else (decide (p ∈ ps) != b)
def sp_Chars_contains (K : PySem.W.Frag) : Sp := fun vs H Q _ => ∃ (a : Addr) (p : Int) (b : Bool) (ps : List Int), vs = [.ref a, .int p] ∧ ChAt K H a b ps ∧ Q (.bl (chIn b ps p)) H
theorem sc_Chars_contains : FnScope ["self", "p"] ["self", "p"] (defScope s_Chars_contains) := ⟨rfl, rfl, rfl, by decide +kernel, rfl, by decide +kernel, by decide +kernel⟩
theorem r_Chars_contains (T : Ok K mg) : FnR P w K mg base CX0 1 (ma K "Chars" "__contains__") (sp_Chars_contains K) := by
  obtain ⟨fd, F⟩ := T.f_Chars_contains
  refine frn F sc_Chars_contains (fun _ _ _ _ _ _ us hl => match us, hl with | [_, _], _ => rfl) (fun vs H Q E h => ?_) (fun cdv A outer s H vs Q E hr h => ?_)
  · obtain ⟨a, p, b, ps, rfl, _⟩ := h
    rfl
  · obtain ⟨a, p, b, ps, rfl, ⟨dx, t, h1, h2⟩, k⟩ := h
    refine ⟨_, (pss_cons (ps_if (pt_cmpR op_eq (pv 1) pe_int (nomark _))
        (pss_one (ps_ret (pe_fldK (K := K) rfl (pv 0) rfl))) pss_nil)
      (pss_one (ps_ret (pe_cmpR op_ne (pe_cmpR (op_inK (K := K) rfl) (pv 1) (pe_fldK (K := K) rfl (pv 0) rfl) (by rfl)) (pe_fldK (K := K) rfl (pv 0) rfl) (nomark _))))), ?_⟩
    refine ⟨_, rfl, rfl, _, rfl, ifEq (fun h0 => ?_) fun h0 => ?_⟩
    · refine ⟨_, rfl, a, _, dx, _, _, rfl, h1, T.cl_Chars, T.na_Chars_endless, chF_en _ _, ?_⟩
      unfold chIn at k
      rw [if_pos h0] at k
      exact k
    · refine ⟨_, rfl, _, rfl, a, _, dx, _, _, rfl, h1, T.cl_Chars, T.na_Chars_primes, chF_pr _ _, t, _, rfl, .inr (SqT.of h2), rfl, flat_ints ps, _, rfl, a, _, dx, _, _, rfl, h1, T.cl_Chars, T.na_Chars_endless, chF_en _ _, rfl, ?_⟩
      unfold chIn at k
      rw [if_neg h0] at k
      show Q (.bl (!decide (V.bl (inV (V.int p) (ps.map V.int)) = V.bl b))) H
      rw [inV_int, dec_bl]
      exact k
def sp_Chars_invert (K : PySem.W.Frag) : Sp := fun vs H Q _ => ∃ (a : Addr) (b : Bool) (ps : List Int), vs = [.ref a] ∧ ChAt K H a b ps ∧ ChOk ps ∧
  ∀ (H' : Hp) (a' : Addr) (ps' : List Int), Same H H' → H a' = none → ChAt K H' a' (!b) ps' → (∀ k, k ∈ ps' ↔ k ∈ ps) → ChOk ps' → Q (.ref a') H'
theorem sc_Chars_invert : FnScope ["self"] ["self"] (defScope s_Chars_invert) := ⟨rfl, rfl, rfl, by decide +kernel, rfl, by decide +kernel, by decide +kernel⟩
theorem r_Chars_invert (T : Ok K mg) : FnR P w K mg base CX0 4 (ma K "Chars" "__invert__") (sp_Chars_invert K) := by
  obtain ⟨fd, F⟩ := T.f_Chars_invert
  refine frn F sc_Chars_invert (fun _ _ _ _ _ _ us hl => match us, hl with | [_], _ => rfl) (fun vs H Q E h => ?_) (fun cdv A outer s H vs Q E hr h => ?_)
  · obtain ⟨a, b, ps, rfl, _⟩ := h
    rfl
  · obtain ⟨a, b, ps, rfl, ⟨dx, t, h1, h2⟩, ⟨hp, hlen⟩, k⟩ := h
    refine ⟨_, (pss_one (ps_ret (StX.pe_makeR T.mk_Chars (r_Chars_init T) (hr.mono (by decide)) rfl T.g_Chars pass0 (pa_cons (pe_not (pe_fldK (K := K) rfl (pv 0) rfl)) (pa_cons (pe_fldK (K := K) rfl (pv 0) rfl) pa_nil))))), ?_⟩
    refine ⟨_, rfl, a, _, dx, _, _, rfl, h1, T.cl_Chars, T.na_Chars_endless, chF_en _ _, _, rfl, _, rfl, a, _, dx, _, _, rfl, h1, T.cl_Chars, T.na_Chars_primes, chF_pr _ _, fun x dy nx nd ne => ?_⟩
    refine ⟨x, dy, t, !b, ps, rfl, upd_same, .inr (by rw [upd_ne (ne_of_none h2 nx), upd_ne (ne_of_none h2 nd)]; exact h2), hp, by omega, fun H' ps' hc hm hle fr => ⟨rfl, ?_⟩⟩
    exact k H' x ps' (made_ch nx nd fr) nx hc hm ⟨fun i hi => hp i ((hm i).1 hi), by omega⟩
theorem sc_Chars_unit_of : FnScope ["cls", "n"] ["cls", "n"] (defScope s_Chars_unit_of) := ⟨rfl, rfl, rfl, by decide +kernel, rfl, by decide +kernel, by decide +kernel⟩
theorem r_Chars_unit_of (T : Ok K mg) : FnR P w K mg base CX0 5 (wa K "Chars" "unit_of") (sp_Chars_zero K true) := by
  obtain ⟨fd, F⟩ := T.f_Chars_unit_of
  refine frn F sc_Chars_unit_of (fun _ _ _ _ _ _ us hl => match us, hl with | [_, _], _ => rfl) (fun vs H Q E h => ?_) (fun cdv A outer s H vs Q E hr h => ?_)
  · obtain ⟨n, rfl, _⟩ := h
    rfl
  · obtain ⟨n, rfl, hn, k⟩ := h
    refine ⟨_, (pss_one (ps_ret (pe_un (un_invO T.me_Chars_invert.at_ T.me_Chars_invert.fn (r_Chars_invert T) (hr.mono (by decide)) pass0) (ClX.pe_cmeth (pv 0) T.rd_Chars T.cm_Chars_zero_of (r_Chars_zero_of T) (hr.mono (by decide)) pass0 (pa_cons (pv 1) pa_nil))))), ?_⟩
    refine ⟨_, rfl, rfl, _, rfl, n, rfl, hn, fun H1 a b ps s1 ha hc hz ho => ?_⟩
    have hc' : ChAt K H1 a b ps := by cases b <;> exact hc
    obtain ⟨dx, t, h1, h2⟩ := id hc'
    refine ⟨a, dx, _, rfl, h1, a, b, ps, rfl, hc', ho, fun H2 a' ps' s2 ha' hc2 hm ho' => ?_⟩
    refine k H2 a' b ps' (s1.trans s2) (s1.free ha') (by cases b <;> exact hc2) ?_ ho'
    rcases hz with ⟨e1, e2, rfl⟩ | ⟨e1, e2, e3⟩
    · exact .inl ⟨e1, e2, nil_of hm⟩
    · exact .inr ⟨e1, e2, fun i => (hm i).trans (e3 i)⟩
def sp_Chars_bool (K : PySem.W.Frag) : Sp := fun vs H Q _ => ∃ (a : Addr) (b : Bool) (ps : List Int), vs = [.ref a] ∧ ChAt K H a b ps ∧ Q (.bl (b || !ps.isEmpty)) H
theorem sc_Chars_bool : FnScope ["self"] ["self"] (defScope s_Chars_bool) := ⟨rfl, rfl, rfl, by decide +kernel, rfl, by decide +kernel, by decide +kernel⟩
theorem r_Chars_bool (T : Ok K mg) : FnR P w K mg base CX0 1 (ma K "Chars" "__bool__") (sp_Chars_bool K) := by
  obtain ⟨fd, F⟩ := T.f_Chars_bool
  refine frn F sc_Chars_bool (fun _ _ _ _ _ _ us hl => match us, hl with | [_], _ => rfl) (fun vs H Q E h => ?_) (fun cdv A outer s H vs Q E hr h => ?_)
  · obtain ⟨a, b, ps, rfl, _⟩ := h
    rfl
  · obtain ⟨a, b, ps, rfl, ⟨dx, t, h1, h2⟩, k⟩ := h
    refine ⟨_, (pss_one (ps_ret (pe_callTy call_boolT (by rfl) T.n_bool (by decide +kernel) (pa_cons (pe_or (pe_fldK (K := K) rfl (pv 0) rfl) (pe_one (pe_fldK (K := K) rfl (pv 0) rfl))) pa_nil)))), ?_⟩
    refine ⟨_, rfl, a, _, dx, _, _, rfl, h1, T.cl_Chars, T.na_Chars_endless, chF_en _ _, _, rfl, ?_⟩
    cases b
    · refine iteF ⟨_, rfl, a, _, dx, _, _, rfl, h1, T.cl_Chars, T.na_Chars_primes, chF_pr _ _, .inr ⟨t, _, rfl, SqT.of h2, ?_⟩⟩
      have e : (ps.map V.int).isEmpty = ps.isEmpty := by cases ps <;> rfl
      rw [e]
      exact k
    · exact iteT (.inl ⟨true, rfl, k⟩)
def sp_Chars_eq (K : PySem.W.Frag) : Sp := fun vs H Q _ => ∃ (a a' : Addr), vs = [.ref a, .ref a'] ∧ ChAt K H a true [] ∧ ChAt K H a' true [] ∧ Q (.bl true) H
theorem sc_Chars_eq : FnScope ["self", "other"] ["self", "other"] (defScope s_Chars_eq) := ⟨rfl, rfl, rfl, by decide +kernel, rfl, by decide +kernel, by decide +kernel⟩
theorem r_Chars_eq (T : Ok K mg) : FnR P w K mg base CX0 1 (ma K "Chars" "__eq__") (sp_Chars_eq K) := by
  obtain ⟨fd, F⟩ := T.f_Chars_eq
  refine frn F sc_Chars_eq (fun _ _ _ _ _ _ us hl => match us, hl with | [_, _], _ => rfl) (fun vs H Q E h => ?_) (fun cdv A outer s H vs Q E hr h => ?_)
  · obtain ⟨a, a', rfl, _⟩ := h
    rfl
  · obtain ⟨a, a', rfl, ⟨dx, t, h1, h2⟩, ⟨dy, u, h3, h4⟩, k⟩ := h
    refine ⟨_, (pss_cons (ps_if (pt_not (pt_val (pe_callB (C8.call_isC T.ic_Chars) (by rfl) T.n_isinstance (by decide +kernel) (pa_cons (pv 1) (pa_cons (pe_glob (v := .ref (ga K "Chars")) rfl T.g_Chars rfl) pa_nil)))))
        (pss_one (ps_ret pe_bl)) pss_nil)
      (pss_one (ps_ret (pe_and (pe_cmpR op_eq (pe_fldK (K := K) rfl (pv 0) rfl) (pe_fldK (K := K) rfl (pv 1) rfl) (nomark _)) (pe_one (pe_cmpR (op_eqD hr.units) (pe_fldK (K := K) rfl (pv 0) rfl) (pe_fldK (K := K) rfl (pv 1) rfl) (nomark _))))))), ?_⟩
    refine ⟨_, rfl, a', dy, _, rfl, h3, _, rfl, ?_⟩
    refine iteF ⟨_, rfl, a, _, dx, _, _, rfl, h1, T.cl_Chars, T.na_Chars_endless, chF_en _ _, _, rfl, a', _, dy, _, _, rfl, h3, T.cl_Chars, T.na_Chars_endless, chF_en _ _, rfl, _, rfl, ?_⟩
    refine ifD (fun _ => ?_) fun h => absurd rfl h
    exact ⟨_, rfl, a, _, dx, _, _, rfl, h1, T.cl_Chars, T.na_Chars_primes, chF_pr _ _, _, rfl, a', _, dy, _, _, rfl, h3, T.cl_Chars, T.na_Chars_primes, chF_pr _ _, .tuple [], .tuple [], .tup (SqT.of h2) .nil, .tup (SqT.of h4) .nil, rfl, rfl, k⟩
end
end Ef
/-! text C2b -/
set_option Elab.async false
set_option linter.all false
set_option maxRecDepth 100000
set_option maxHeartbeats 2000000
namespace Ef
open PySem PySem.Spec PyProof.Rows L2 EfB
section
variable {P : Program} {w : World} {K : PySem.W.Frag} {mg : Str → Option Value} {base : Heap}
/-! ### the common ones -/
def shMem (b1 : Bool) (ps1 : List Int) (b2 : Bool) (ps2 : List Int) (k : Int) : Prop :=
  match b1, b2 with
  | true, true => k ∈ ps1 ∨ k ∈ ps2
  | true, false => k ∈ ps2 ∧ k ∉ ps1
  | false, true => k ∈ ps1 ∧ k ∉ ps2
  | false, false => k ∈ ps1 ∧ k ∈ ps2
def sp_shared (K : PySem.W.Frag) : Sp := fun vs H Q _ => ∃ (a1 a2 : Addr) (b1 b2 : Bool) (ps1 ps2 : List Int), vs = [.ref a1, .ref a2] ∧ ChAt K H a1 b1 ps1 ∧ ChAt K H a2 b2 ps2 ∧ ChOk ps1 ∧ ChOk ps2 ∧
  ∀ (H' : Hp) (l : Addr) (ns : List Int), Same H H' → SeqI H' l ns → (∀ k, k ∈ ns ↔ shMem b1 ps1 b2 ps2 k) → ns.length ≤ ps1.length + ps2.length → (b1 = false ∨ b2 = false → ns.length < 60) → Q (.ref l) H'
theorem sc_shared : FnScope ["first", "second", "p"] ["first", "second"] (defScope s_shared) := ⟨rfl, rfl, rfl, by decide +kernel, rfl, by decide +kernel, by decide +kernel⟩
theorem lc_filter {K : PySem.W.Frag} {a : Addr} {ps : List Int} {f : Int → Bool} {H : Hp} {tt : TT} {i : Nat} {σ : L2.St} {D : Addr} {Qd : Hp → Prop} (hD : H D = none) (ha : H a = some (.tup (ps.map V.int))) (hz : ps.length ≤ 1000) (hi : i < σ.length)
    (ht : ∀ (n : Int) (H' : Hp), n ∈ ps → Same H H' → ∀ R : Bool → Hp → Prop, R (f n) H' → tt ((wipe σ [i]).set i (some (.int n))) H' R) (hd : Qd (upd H D (.lst ((ps.filter f).map V.int)))) :
    ∃ W : Nat → Nat → Hp → Prop, (∃ m, W 0 m (upd H D (.lst []))) ∧ ∀ j m H, W j m H →
      ((Itt K a).stop j H ∧ Qd H) ∨ ((Itt K a).go j H ∧ ∃ Nx : Hp → Prop, (∀ H', Nx H' → ∃ m', m' < m ∧ W (j + 1) m' H') ∧ ∀ x H', (Itt K a).yld j H x H' → gName i x (wipe σ [i]) H' fun σ2 H2 => wipe σ2 [i] = wipe σ [i] ∧ tt σ2 H2 fun b H3 =>
        if b = true then tVar i σ2 H3 fun y H4 => ∃ acc, H4 D = some (.lst acc) ∧ acc.length < sizeLine ∧ Nx (upd H4 D (.lst (acc ++ [y]))) else Nx H3) := by
  have tr : ∀ j (n : Int), ps[j]? = some n → ps.take (j + 1) = ps.take j ++ [n] := fun j n e => by rw [List.take_add_one, e]; rfl
  refine lc_tup (K := K) (a := a) (xs := ps.map V.int) (fun j H' => H' = upd H D (.lst (((ps.take j).filter f).map V.int))) rfl (fun j H' _ e => ?_) ?_ fun H' e => ?_
  · rw [e]
    exact SqT.of (by rw [upd_ne (ne_of_none ha hD)]; exact ha)
  · rintro j x H' hx rfl
    obtain ⟨n, hn, rfl⟩ := map_int_at hx
    have hlw : i < (wipe σ [i]).length := by rw [wipe_length]; exact hi
    refine ⟨?_, ht n _ (List.mem_of_getElem? hn) (Same.upd (Same.refl H) hD) _ ?_⟩
    · show ((((σ.set i none).set i (some (V.int n))).set i none) : List (Option V)) = σ.set i none
      rw [List.set_set, List.set_set]
    · cases e : f n with
      | true =>
        refine iteT ⟨_, by rw [List.getElem?_set_self hlw], _, upd_same, ?_, ?_⟩
        · rw [List.length_map]
          have := List.length_filter_le f (ps.take j)
          have := List.length_take_le' j ps
          have := sizeLine_eq
          omega
        · rw [upd_upd, tr j n hn, List.filter_append, List.filter_cons_of_pos (by exact e), List.filter_nil, List.map_append]
          rfl
      | false =>
        refine iteF ?_
        rw [tr j n hn, List.filter_append, List.filter_cons_of_neg (by rw [e]; exact Bool.false_ne_true), List.filter_nil, List.append_nil]
  · rw [e, List.length_map, List.take_length]
    exact hd
theorem r_shared (T : Ok K mg) : FnR P w K mg base CX0 1 (ga K "shared") (sp_shared K) := by
  obtain ⟨fd, F⟩ := T.f_shared
  refine frn F sc_shared (fun _ _ _ _ _ _ us hl => match us, hl with | [_, _], _ => rfl) (fun vs H Q E h => ?_) (fun cdv A outer s H vs Q E hr h => ?_)
  · obtain ⟨a1, a2, b1, b2, ps1, ps2, rfl, _⟩ := h
    rfl
  · obtain ⟨a1, a2, b1, b2, ps1, ps2, rfl, ⟨dx1, t1, h1, h2⟩, ⟨dx2, t2, h3, h4⟩, ⟨q1, l1⟩, ⟨q2, l2⟩, k⟩ := h
    refine ⟨_, (pss_cons (ps_if (PW.pt (pw_and (pt_val (pe_fldK (K := K) rfl (pv 0) rfl)) (pw_and1 (pt_val (pe_fldK (K := K) rfl (pv 1) rfl)))))
        (pss_one (ps_ret (pe_op op_catA (pe_fldK (K := K) rfl (pv 0) rfl) (pe_fldK (K := K) rfl (pv 1) rfl)))) pss_nil)
      (pss_cons (ps_if (pt_val (pe_fldK (K := K) rfl (pv 0) rfl))
        (pss_one (ps_ret (pe_lc (own := [("p", 2)]) rfl sc_shared.nd (pi_tupK (K := K) rfl (pe_fldK (K := K) rfl (pv 1) rfl)) (blkOk_by (own := [("p", 2)]) (N := ["first", "second", "p"]) (sc := (defScope s_shared)) (by decide +kernel)) (fun _ _ _ _ _ => (pg_name (i := 2) sc_shared.nd rfl (Or.inl rfl))) (by exact fun _ _ _ _ _ => pts_one (pt_cmpR (op_notInK (K := K) rfl) (pv 2) (pe_fldK (K := K) rfl (pv 0) rfl) (by rfl))) (by exact fun _ _ _ _ _ => (pv 2))))) pss_nil)
      (pss_cons (ps_if (pt_val (pe_fldK (K := K) rfl (pv 1) rfl))
        (pss_one (ps_ret (pe_lc (own := [("p", 2)]) rfl sc_shared.nd (pi_tupK (K := K) rfl (pe_fldK (K := K) rfl (pv 0) rfl)) (blkOk_by (own := [("p", 2)]) (N := ["first", "second", "p"]) (sc := (defScope s_shared)) (by decide +kernel)) (fun _ _ _ _ _ => (pg_name (i := 2) sc_shared.nd rfl (Or.inl rfl))) (by exact fun _ _ _ _ _ => pts_one (pt_cmpR (op_notInK (K := K) rfl) (pv 2) (pe_fldK (K := K) rfl (pv 1) rfl) (by rfl))) (by exact fun _ _ _ _ _ => (pv 2))))) pss_nil)
      (pss_one (ps_ret (pe_lc (own := [("p", 2)]) rfl sc_shared.nd (pi_tupK (K := K) rfl (pe_fldK (K := K) rfl (pv 0) rfl)) (blkOk_by (own := [("p", 2)]) (N := ["first", "second", "p"]) (sc := (defScope s_shared)) (by decide +kernel)) (fun _ _ _ _ _ => (pg_name (i := 2) sc_shared.nd rfl (Or.inl rfl))) (by exact fun _ _ _ _ _ => pts_one (pt_cmpR (op_inK (K := K) rfl) (pv 2) (pe_fldK (K := K) rfl (pv 1) rfl) (by rfl))) (by exact fun _ _ _ _ _ => (pv 2)))))))), ?_⟩
    have len1 : ∀ f : Int → Bool, (ps1.filter f).length ≤ ps1.length := fun f => List.length_filter_le f ps1
    have len2 : ∀ f : Int → Bool, (ps2.filter f).length ≤ ps2.length := fun f => List.length_filter_le f ps2
    cases b1 with
    | true =>
      cases b2 with
      | true =>
        refine ⟨_, rfl, a1, _, dx1, _, _, rfl, h1, T.cl_Chars, T.na_Chars_endless, chF_en _ _, ?_⟩
        refine ⟨true, rfl, iteT ?_⟩
        refine ⟨_, rfl, a2, _, dx2, _, _, rfl, h3, T.cl_Chars, T.na_Chars_endless, chF_en _ _, ?_⟩
        refine ⟨true, rfl, iteT ?_⟩
        refine ⟨_, rfl, a1, _, dx1, _, _, rfl, (Same.refl H) _ _ h1, T.cl_Chars, T.na_Chars_primes, chF_pr _ _, ?_⟩
        refine ⟨_, rfl, a2, _, dx2, _, _, rfl, (Same.refl H) _ _ h3, T.cl_Chars, T.na_Chars_primes, chF_pr _ _, ?_⟩
        refine ⟨t1, t2, _, _, rfl, rfl, SqT.of h2, SqT.of h4, by rw [List.length_map, List.length_map, sizeLine_eq]; omega, fun z => ?_, fun z z2 => ?_, fun z z2 p hp => ?_⟩
        · have z := List.map_eq_nil_iff.mp z
          subst z
          exact k H t2 ps2 (Same.refl H) (.inr h4) (fun i => ⟨fun z => .inr z, fun z => z.elim (fun z => nomatch z) id⟩) (by simp) (fun z => z.elim (fun z => nomatch z) fun z => nomatch z)
        · have z2 := List.map_eq_nil_iff.mp z2
          subst z2
          exact k H t1 ps1 (Same.refl H) (.inr h2) (fun i => ⟨fun z => .inl z, fun z => z.elim id (fun z => nomatch z)⟩) (by simp) (fun z => z.elim (fun z => nomatch z) fun z => nomatch z)
        · exact k _ p (ps1 ++ ps2) (Same.upd (Same.refl H) hp) (.inr (by rw [upd_same, List.map_append])) (fun i => List.mem_append) (by rw [List.length_append]; exact Nat.le_refl _) (fun z => z.elim (fun z => nomatch z) fun z => nomatch z)
      | false =>
        refine ⟨_, rfl, a1, _, dx1, _, _, rfl, h1, T.cl_Chars, T.na_Chars_endless, chF_en _ _, ?_⟩
        refine ⟨true, rfl, iteT ?_⟩
        refine ⟨_, rfl, a2, _, dx2, _, _, rfl, h3, T.cl_Chars, T.na_Chars_endless, chF_en _ _, ?_⟩
        refine ⟨false, rfl, iteF ?_⟩
        refine ⟨_, rfl, a1, _, dx1, _, _, rfl, h1, T.cl_Chars, T.na_Chars_endless, chF_en _ _, ?_⟩
        refine ⟨true, rfl, iteT ?_⟩
        refine ⟨_, rfl, a2, _, dx2, _, _, rfl, (Same.refl H) _ _ h3, T.cl_Chars, T.na_Chars_primes, chF_pr _ _, ?_⟩
        refine ⟨t2, rfl, ⟨_, SqT.of h4⟩, fun D hD => ?_⟩
        refine lc_filter (f := fun n => !decide (n ∈ ps1)) hD h4 (by omega) (by show 2 < 3; decide) (fun n H' hn s R r => ?_) ?_
        · refine ⟨_, rfl, ?_⟩
          refine ⟨_, rfl, a1, _, dx1, _, _, rfl, s _ _ h1, T.cl_Chars, T.na_Chars_primes, chF_pr _ _, ?_⟩
          refine ⟨t1, _, rfl, .inr (SqT.of (s _ _ h2)), rfl, flat_ints ps1, _, rfl, ?_⟩
          rw [inV_int]
          exact r
        · refine k _ D _ (Same.upd (Same.refl H) hD) (.inl upd_same) (fun i => ?_) (Nat.le_trans (len2 _) (Nat.le_add_left _ _)) fun _ => Nat.lt_of_le_of_lt (len2 _) l2
          rw [List.mem_filter]
          simp [shMem]
    | false =>
      cases b2 with
      | true =>
        refine ⟨_, rfl, a1, _, dx1, _, _, rfl, h1, T.cl_Chars, T.na_Chars_endless, chF_en _ _, ?_⟩
        refine ⟨false, rfl, iteF ?_⟩
        refine ⟨_, rfl, a1, _, dx1, _, _, rfl, h1, T.cl_Chars, T.na_Chars_endless, chF_en _ _, ?_⟩
        refine ⟨false, rfl, iteF ?_⟩
        refine ⟨_, rfl, a2, _, dx2, _, _, rfl, h3, T.cl_Chars, T.na_Chars_endless, chF_en _ _, ?_⟩
        refine ⟨true, rfl, iteT ?_⟩
        refine ⟨_, rfl, a1, _, dx1, _, _, rfl, (Same.refl H) _ _ h1, T.cl_Chars, T.na_Chars_primes, chF_pr _ _, ?_⟩
        refine ⟨t1, rfl, ⟨_, SqT.of h2⟩, fun D hD => ?_⟩
        refine lc_filter (f := fun n => !decide (n ∈ ps2)) hD h2 (by omega) (by show 2 < 3; decide) (fun n H' hn s R r => ?_) ?_
        · refine ⟨_, rfl, ?_⟩
          refine ⟨_, rfl, a2, _, dx2, _, _, rfl, s _ _ h3, T.cl_Chars, T.na_Chars_primes, chF_pr _ _, ?_⟩
          refine ⟨t2, _, rfl, .inr (SqT.of (s _ _ h4)), rfl, flat_ints ps2, _, rfl, ?_⟩
          rw [inV_int]
          exact r
        · refine k _ D _ (Same.upd (Same.refl H) hD) (.inl upd_same) (fun i => ?_) (Nat.le_trans (len1 _) (Nat.le_add_right _ _)) fun _ => Nat.lt_of_le_of_lt (len1 _) l1
          rw [List.mem_filter]
          simp [shMem]
      | false =>
        refine ⟨_, rfl, a1, _, dx1, _, _, rfl, h1, T.cl_Chars, T.na_Chars_endless, chF_en _ _, ?_⟩
        refine ⟨false, rfl, iteF ?_⟩
        refine ⟨_, rfl, a1, _, dx1, _, _, rfl, h1, T.cl_Chars, T.na_Chars_endless, chF_en _ _, ?_⟩
        refine ⟨false, rfl, iteF ?_⟩
        refine ⟨_, rfl, a2, _, dx2, _, _, rfl, h3, T.cl_Chars, T.na_Chars_endless, chF_en _ _, ?_⟩
        refine ⟨false, rfl, iteF ?_⟩
        refine ⟨_, rfl, a1, _, dx1, _, _, rfl, (Same.refl H) _ _ h1, T.cl_Chars, T.na_Chars_primes, chF_pr _ _, ?_⟩
        refine ⟨t1, rfl, ⟨_, SqT.of h2⟩, fun D hD => ?_⟩
        refine lc_filter (f := fun n => decide (n ∈ ps2)) hD h2 (by omega) (by show 2 < 3; decide) (fun n H' hn s R r => ?_) ?_
        · refine ⟨_, rfl, ?_⟩
          refine ⟨_, rfl, a2, _, dx2, _, _, rfl, s _ _ h3, T.cl_Chars, T.na_Chars_primes, chF_pr _ _, ?_⟩
          refine ⟨t2, _, rfl, .inr (SqT.of (s _ _ h4)), rfl, flat_ints ps2, _, rfl, ?_⟩
          rw [inV_int]
          exact r
        · refine k _ D _ (Same.upd (Same.refl H) hD) (.inl upd_same) (fun i => ?_) (Nat.le_trans (len1 _) (Nat.le_add_right _ _)) fun _ => Nat.lt_of_le_of_lt (len1 _) l1
          rw [List.mem_filter]
          simp [shMem]
def sp_Chars_and (K : PySem.W.Frag) : Sp := fun vs H Q _ => ∃ (a1 a2 : Addr) (b1 b2 : Bool) (ps1 ps2 : List Int), vs = [.ref a1, .ref a2] ∧ ChAt K H a1 b1 ps1 ∧ ChAt K H a2 b2 ps2 ∧ ChOk ps1 ∧ ChOk ps2 ∧ (b1 = true ∧ b2 = true → ps1.length + ps2.length < 60) ∧
  ∀ (H' : Hp) (a : Addr) (ps : List Int), Same H H' → H a = none → ChAt K H' a (b1 && b2) ps → (∀ k, k ∈ ps ↔ shMem b1 ps1 b2 ps2 k) → Q (.ref a) H'
theorem sc_Chars_and : FnScope ["self", "other"] ["self", "other"] (defScope s_Chars_and) := ⟨rfl, rfl, rfl, by decide +kernel, rfl, by decide +kernel, by decide +kernel⟩
theorem r_Chars_and (T : Ok K mg) : FnR P w K mg base CX0 4 (ma K "Chars" "__and__") (sp_Chars_and K) := by
  obtain ⟨fd, F⟩ := T.f_Chars_and
  refine frn F sc_Chars_and (fun _ _ _ _ _ _ us hl => match us, hl with | [_, _], _ => rfl) (fun vs H Q E h => ?_) (fun cdv A outer s H vs Q E hr h => ?_)
  · obtain ⟨a1, a2, b1, b2, ps1, ps2, rfl, _⟩ := h
    rfl
  · obtain ⟨a1, a2, b1, b2, ps1, ps2, rfl, c1, c2, o1, o2, hsm, k⟩ := h
    obtain ⟨dx1, t1, h1, h2⟩ := id c1
    obtain ⟨dx2, t2, h3, h4⟩ := id c2
    refine ⟨_, (pss_one (ps_ret (StX.pe_makeR T.mk_Chars (r_Chars_init T) (hr.mono (by decide)) rfl T.g_Chars pass0 (pa_cons (pe_and (pe_fldK (K := K) rfl (pv 0) rfl) (pe_one (pe_fldK (K := K) rfl (pv 1) rfl))) (pa_cons (pe_callR (r_shared T) (hr.mono (by decide)) (kp_of T.f_shared) rfl T.g_shared pass0 (pa_cons (pv 0) (pa_cons (pv 1) pa_nil))) pa_nil))))), ?_⟩
    have tail : ∀ b : Bool, b = (b1 && b2) → (fun vs H1 => (sp_shared K) vs H1 (fun v H2 => ∀ x dx, H2 x = none → H2 dx = none → dx ≠ x → (sp_Chars_init K) [.ref x, .bl b, v] (upd (upd H2 dx (.own x)) x (.ins (ga K "Chars") dx [])) (fun v H3 => v = .non ∧ Q (.ref x) H3) E0) E0) [.ref a1, .ref a2] H := fun b hb => by
      refine ⟨a1, a2, b1, b2, ps1, ps2, rfl, c1, c2, o1, o2, fun H1 l ns s1 hl hm hle h60 x dx nx nd ne => ?_⟩
      have hpr : PrL ns := fun n hn => by
        have z := (hm n).1 hn
        cases b1 <;> cases b2 <;> first | exact z.elim (o1.1 n) (o2.1 n) | exact o1.1 n z.1 | exact o2.1 n z.1
      have hlx : SeqI (upd (upd H1 dx (.own x)) x (.ins (ga K "Chars") dx [])) l ns := hl.at (by
        rcases hl with hl | hl <;> rw [upd_ne (ne_of_none hl nx), upd_ne (ne_of_none hl nd)])
      refine ⟨x, dx, l, b, ns, rfl, upd_same, hlx, hpr, ?_, fun H' ps hc hm' _ fr => ⟨rfl, ?_⟩⟩
      · cases b1
        · have := h60 (.inl rfl); omega
        · cases b2
          · have := h60 (.inr rfl); omega
          · have := hsm ⟨rfl, rfl⟩; omega
      · rw [hb] at hc
        exact k H' x ps (s1.trans (made_ch nx nd fr)) (s1.free nx) hc fun i => (hm' i).trans (hm i)
    refine ⟨_, rfl, a1, _, dx1, _, _, rfl, h1, T.cl_Chars, T.na_Chars_endless, chF_en _ _, b1, rfl, ?_⟩
    cases b1 with
    | true =>
      refine iteT ⟨_, rfl, a2, _, dx2, _, _, rfl, h3, T.cl_Chars, T.na_Chars_endless, chF_en _ _, _, rfl, _, rfl, tail b2 (by simp)⟩
    | false => exact iteF ⟨_, rfl, _, rfl, tail false (by simp)⟩
end
end Ef
/-! text C3a -/
set_option Elab.async false
set_option linter.all false
set_option maxRecDepth 100000
set_option maxHeartbeats 2000000
namespace Ef
open PySem PySem.Spec PyProof.Rows L2 EfB
def moS (m : Mo) : List Str := List.replicate m.1 ("x" : Str) ++ List.replicate m.2.1 ("y" : Str) ++ List.replicate m.2.2 ("z" : Str)
def moK (m : Mo) : List L2.Key := (moS m).map Sum.inr
def enc (ts : Po) : List (List L2.Key × V) := ts.map fun t => (moK t.1, V.int t.2)
theorem moK_kV (m : Mo) : (moK m).map kV = (moS m).map V.str := by
  unfold moK
  rw [List.map_map]
  rfl
theorem xy_ne : ¬ (("x" : Str) = "y") := by decide +kernel
theorem xz_ne : ¬ (("x" : Str) = "z") := by decide +kernel
theorem yz_ne : ¬ (("y" : Str) = "z") := by decide +kernel
theorem cnt_x (m : Mo) : (moS m).count ("x" : Str) = m.1 := by
  unfold moS
  simp [List.count_append, List.count_replicate, xy_ne, xz_ne, yz_ne, Ne.symm xy_ne, Ne.symm xz_ne, Ne.symm yz_ne]
theorem cnt_y (m : Mo) : (moS m).count ("y" : Str) = m.2.1 := by
  unfold moS
  simp [List.count_append, List.count_replicate, xy_ne, xz_ne, yz_ne, Ne.symm xy_ne, Ne.symm xz_ne, Ne.symm yz_ne]
theorem cnt_z (m : Mo) : (moS m).count ("z" : Str) = m.2.2 := by
  unfold moS
  simp [List.count_append, List.count_replicate, xy_ne, xz_ne, yz_ne, Ne.symm xy_ne, Ne.symm xz_ne, Ne.symm yz_ne]
theorem moS_len (m : Mo) : (moS m).length = dg m := by
  unfold moS dg
  simp
  omega
theorem moS_inj {m k : Mo} (h : moS m = moS k) : m = k := by
  have h1 := cnt_x m
  have h2 := cnt_y m
  have h3 := cnt_z m
  rw [h, cnt_x] at h1
  rw [h, cnt_y] at h2
  rw [h, cnt_z] at h3
  obtain ⟨a, b, c⟩ := m
  obtain ⟨a', b', c'⟩ := k
  dsimp only at h1 h2 h3
  subst h1 h2 h3
  rfl
theorem inr_inj {l r : List Str} (h : l.map (Sum.inr (α := Int)) = r.map Sum.inr) : l = r := (List.map_inj_right fun x y e => by injection e).mp h
theorem moK_inj {m k : Mo} (h : moK m = moK k) : m = k := moS_inj (inr_inj h)
theorem mem_moS {m : Mo} {s : Str} (h : s ∈ moS m) : s = "x" ∨ s = "y" ∨ s = "z" := by
  unfold moS at h
  simp only [List.mem_append, List.mem_replicate] at h
  rcases h with (h | h) | h
  · exact .inl h.2
  · exact .inr (.inl h.2)
  · exact .inr (.inr h.2)
theorem moS_0 : moS (0, 0, 0) = [] := by simp [moS]
theorem moS_x (a b c : Nat) : moS (a + 1, b, c) = ("x" : Str) :: moS (a, b, c) := by simp [moS, List.replicate_succ]
theorem moS_y (b c : Nat) : moS (0, b + 1, c) = ("y" : Str) :: moS (0, b, c) := by simp [moS, List.replicate_succ]
theorem moS_z (c : Nat) : moS (0, 0, c + 1) = ("z" : Str) :: moS (0, 0, c) := by simp [moS, List.replicate_succ]
theorem moS_of_sorted : ∀ ys : List Str, (∀ y ∈ ys, y = "x" ∨ y = "y" ∨ y = "z") → sortedS ys = true → ∃ m : Mo, ys = moS m
  | [], _, _ => ⟨(0, 0, 0), moS_0.symm⟩
  | y :: r, h, hs => by
    have hr : sortedS r = true := by
      cases r with
      | nil => rfl
      | cons z t =>
        have h1 : risingS y (z :: t) = true := hs
        unfold risingS at h1
        simp only [Bool.and_eq_true] at h1
        exact h1.2
    obtain ⟨⟨a, b, c⟩, e⟩ := moS_of_sorted r (fun z hz => h z (List.mem_cons_of_mem _ hz)) hr
    have hd : ∀ z t, r = z :: t → (!ltCps z.cps.toList y.cps.toList) = true := fun z t e => by
      subst e
      have h1 : risingS y (z :: t) = true := hs
      unfold risingS at h1
      simp only [Bool.and_eq_true] at h1
      exact h1.1
    rcases h y List.mem_cons_self with rfl | rfl | rfl
    · exact ⟨(a + 1, b, c), by rw [e, moS_x]⟩
    · cases a with
      | zero => exact ⟨(0, b + 1, c), by rw [e, moS_y]⟩
      | succ a => exact absurd (hd "x" (moS (a, b, c)) (by rw [e, moS_x])) (by decide +kernel)
    · cases a with
      | succ a => exact absurd (hd "x" (moS (a, b, c)) (by rw [e, moS_x])) (by decide +kernel)
      | zero =>
        cases b with
        | succ b => exact absurd (hd "y" (moS (0, b, c)) (by rw [e, moS_y])) (by decide +kernel)
        | zero => exact ⟨(0, 0, c + 1), by rw [e, moS_z]⟩
theorem sorted_mo {ys : List Str} {m k : Mo} (hp : ys.Perm (moS m ++ moS k)) (hs : sortedS ys = true) : ys = moS (moAdd m k) := by
  obtain ⟨q, e⟩ := moS_of_sorted ys (fun y hy => by
    rcases List.mem_append.mp (hp.mem_iff.mp hy) with h | h
    · exact mem_moS h
    · exact mem_moS h) hs
  subst e
  have h1 := hp.count_eq "x"
  have h2 := hp.count_eq "y"
  have h3 := hp.count_eq "z"
  rw [List.count_append, cnt_x, cnt_x, cnt_x] at h1
  rw [List.count_append, cnt_y, cnt_y, cnt_y] at h2
  rw [List.count_append, cnt_z, cnt_z, cnt_z] at h3
  obtain ⟨a, b, c⟩ := q
  dsimp only at h1 h2 h3
  subst h1 h2 h3
  rfl
/-! ### entries -/
def lk (d : Po) (m : Mo) : Option Int := (d.find? fun t => decide (t.1 = m)).map (·.2)
theorem valV_enc (d : Po) (m : Mo) : valV (enc d) (moK m) = (lk d m).map V.int := by
  induction d with
  | nil => rfl
  | cons t d ih =>
    by_cases h : t.1 = m
    · have e1 : valV (enc (t :: d)) (moK m) = some (V.int t.2) := valV_pos (p := (moK t.1, V.int t.2)) (by rw [h])
      rw [e1]
      unfold lk
      rw [List.find?_cons, decide_eq_true h]
      rfl
    · have e1 : valV (enc (t :: d)) (moK m) = valV (enc d) (moK m) := valV_neg (p := (moK t.1, V.int t.2)) (fun e => h (moK_inj e))
      rw [e1, ih]
      unfold lk
      rw [List.find?_cons, decide_eq_false h]
theorem putK_ne {κ : Type} [DecidableEq κ] {p : κ × V} {r : List (κ × V)} {k : κ} {v : V} (h : ¬ p.1 = k) : putK (p :: r) k v = p :: putK r k v := by
  unfold putK
  rw [List.any_cons, decide_eq_false h, Bool.false_or]
  split
  · rw [List.map_cons, if_neg h]
  · rfl
theorem putK_eq {κ : Type} [DecidableEq κ] {p : κ × V} {r : List (κ × V)} {k : κ} {v : V} (h : p.1 = k) (no : ∀ q ∈ r, ¬ q.1 = k) : putK (p :: r) k v = (p.1, v) :: r := by
  unfold putK
  rw [List.any_cons, decide_eq_true h, Bool.true_or, if_pos rfl, List.map_cons, if_pos h]
  congr 1
  conv => rhs; rw [← List.map_id r]
  exact List.map_congr_left fun q hq => if_neg (no q hq)
theorem put_enc {d : Po} (hd : (d.map (·.1)).Nodup) (m : Mo) (c : Int) : putK (enc d) (moK m) (V.int ((lk d m).getD 0 + c)) = enc (addT d m c) := by
  induction d with
  | nil => 
    show [(moK m, V.int (0 + c))] = [(moK m, V.int c)]
    rw [Int.zero_add]
  | cons t d ih =>
    rw [List.map_cons, List.nodup_cons] at hd
    by_cases h : t.1 = m
    · have e0 : lk (t :: d) m = some t.2 := by
        unfold lk
        rw [List.find?_cons, decide_eq_true h]
        rfl
      rw [e0]
      show putK ((moK t.1, V.int t.2) :: enc d) (moK m) _ = _
      rw [putK_eq (by rw [h]) (fun q hq e => ?_)]
      · unfold addT
        rw [if_pos h]
        rfl
      · obtain ⟨u, hu, rfl⟩ := List.mem_map.mp hq
        exact hd.1 (List.mem_map.mpr ⟨u, hu, by rw [h]; exact moK_inj e⟩)
    · have e0 : lk (t :: d) m = lk d m := by
        unfold lk
        rw [List.find?_cons, decide_eq_false h]
      rw [e0]
      show putK ((moK t.1, V.int t.2) :: enc d) (moK m) _ = _
      rw [putK_ne (fun e => h (moK_inj e)), ih hd.2]
      have e1 : addT (t :: d) m c = t :: addT d m c := by
        conv => lhs; unfold addT
        rw [if_neg h]
      rw [e1]
      rfl
/-- a new key goes behind -/
theorem put_new {d : Po} {m : Mo} {c : Int} (h : m ∉ d.map (·.1)) : putK (enc d) (moK m) (V.int c) = enc (d ++ [(m, c)]) := by
  induction d with
  | nil => rfl
  | cons t d ih =>
    rw [List.map_cons, List.mem_cons, not_or] at h
    show putK ((moK t.1, V.int t.2) :: enc d) (moK m) _ = _
    rw [putK_ne (fun e => h.1 (moK_inj e).symm), ih h.2]
    rfl
theorem enc_at {ts : Po} {i : Nat} {k : List L2.Key} {v : V} (h : (enc ts)[i]? = some (k, v)) : ∃ t, ts[i]? = some t ∧ k = moK t.1 ∧ v = V.int t.2 := by
  unfold enc at h
  rw [List.getElem?_map] at h
  cases e : ts[i]? with
  | none => rw [e] at h; cases h
  | some t =>
    rw [e] at h
    have h := Option.some.inj h
    injection h with h1 h2
    exact ⟨t, rfl, h1.symm, h2.symm⟩
theorem enc_len (ts : Po) : (enc ts).length = ts.length := List.length_map _
theorem lk_cf {d : Po} (hd : (d.map (·.1)).Nodup) (m : Mo) : (lk d m).getD 0 = cf d m := by
  induction d with
  | nil => rfl
  | cons t d ih =>
    rw [List.map_cons, List.nodup_cons] at hd
    by_cases h : t.1 = m
    · unfold lk
      rw [List.find?_cons, decide_eq_true h]
      show t.2 = (if t.1 = m then t.2 else 0) + cf d m
      rw [if_pos h, cf_of_not_mem (by rw [← h]; exact hd.1)]
      omega
    · unfold lk
      rw [List.find?_cons, decide_eq_false h]
      show (lk d m).getD 0 = (if t.1 = m then t.2 else 0) + cf d m
      rw [if_neg h, ih hd.2]
      omega
end Ef
/-! text C3 -/
set_option Elab.async false
set_option linter.all false
set_option maxRecDepth 100000
set_option maxHeartbeats 2000000
namespace Ef
open PySem PySem.Spec PyProof.Rows L2 EfB
/-- a list of pairs (names, number) -/
def TermsAt (H : Hp) (l : Addr) (ts : Po) : Prop := ∃ as : List Addr, H l = some (.lst (as.map V.ref)) ∧ PairsAt H as (enc ts)
theorem pairs_same {H H' : Hp} {as : List Addr} {kvs : List (List L2.Key × V)} (h : PairsAt H as kvs) (s : Same H H') : PairsAt H' as kvs := ⟨h.1, fun i t e => by
  obtain ⟨k, v, q, h1, h2, h3⟩ := h.2 i t e
  exact ⟨k, v, q, h1, s _ _ h2, s _ _ h3⟩⟩
theorem TermsAt.same {H H' : Hp} {l : Addr} {ts : Po} (h : TermsAt H l ts) (s : Same H H') : TermsAt H' l ts := let ⟨as, h1, h2⟩ := h; ⟨as, s _ _ h1, pairs_same h2 s⟩
theorem pairs_len {H : Hp} {ts : Po} {as : List Addr} (h : PairsAt H as (enc ts)) : as.length = ts.length := h.1.trans (enc_len ts)
theorem pairs_get {H : Hp} {as : List Addr} {ts : Po} (h : PairsAt H as (enc ts)) {i : Nat} {x : V} (e : (as.map V.ref)[i]? = some x) : ∃ (t : Addr) (u : Mo × Int) (q : Addr), x = .ref t ∧ ts[i]? = some u ∧ H t = some (.tup [.ref q, .int u.2]) ∧ H q = some (.tup ((moK u.1).map kV)) := by
  rw [List.getElem?_map] at e
  cases ea : as[i]? with
  | none => rw [ea] at e; cases e
  | some t =>
    rw [ea] at e
    obtain ⟨k, v, q, h1, h2, h3⟩ := h.2 i t ea
    obtain ⟨u, hu, rfl, rfl⟩ := enc_at h1
    exact ⟨t, u, q, (Option.some.inj e).symm, hu, h2, h3⟩
/-- a Many at a -/
def MnAt (K : PySem.W.Frag) (H : Hp) (a : Addr) (P : Po) : Prop := ∃ dx D od, H a = some (.ins (ga K "Many") dx (putF "terms" (.ref D) [])) ∧ H D = some (.frz od (.dT (enc P)))
theorem MnAt.same {K : PySem.W.Frag} {H H' : Hp} {a : Addr} {P : Po} (h : MnAt K H a P) (s : Same H H') : MnAt K H' a P := let ⟨dx, D, od, h1, h2⟩ := h; ⟨dx, D, od, s _ _ h1, s _ _ h2⟩
theorem te_at (D : V) : (putF "terms" D []).lookup ("terms" : Str) = some D := by rw [lookup_putF, if_pos rfl]
theorem gsum_take {ts : Po} {i : Nat} {u : Mo × Int} (h : ts[i]? = some u) : gsumA [] (ts.take (i + 1)) = addT (gsumA [] (ts.take i)) u.1 u.2 := by
  have g : ∀ (l d : Po), gsumA d (l ++ [u]) = addT (gsumA d l) u.1 u.2 := fun l => by
    induction l with
    | nil => exact fun d => rfl
    | cons t l ih => exact fun d => ih (addT d t.1 t.2)
  rw [List.take_add_one, h]
  exact g _ _
theorem nz_new {d : Po} {i : Nat} {u : Mo × Int} (hd : (d.map (·.1)).Nodup) (h : d[i]? = some u) : u.1 ∉ (nz (d.take i)).map (·.1) := fun hm => by
  obtain ⟨t, ht, e⟩ := List.mem_map.mp hm
  have ht := (List.mem_filter.mp ht).1
  have h1 : (d.take (i + 1)).map (·.1) = (d.take i).map (·.1) ++ [u.1] := by rw [List.take_add_one, h, List.map_append]; rfl
  have h2 : ((d.take (i + 1)).map (·.1)).Nodup := by
    rw [List.map_take]
    exact hd.sublist (List.take_sublist _ _)
  rw [h1, List.nodup_append] at h2
  exact h2.2.2 _ (List.mem_map.mpr ⟨t, ht, rfl⟩) _ List.mem_cons_self e
theorem nz_yes {d : Po} {u : Mo × Int} (h : u.2 ≠ 0) : nz (d ++ [u]) = nz d ++ [u] := by
  unfold nz
  rw [List.filter_append, List.filter_cons_of_pos (by simp [h]), List.filter_nil]
theorem nz_no {d : Po} {u : Mo × Int} (h : u.2 = 0) : nz (d ++ [u]) = nz d := by
  unfold nz
  rw [List.filter_append, List.filter_cons_of_neg (by simp [h]), List.filter_nil, List.append_nil]
theorem size_lt {n : Nat} (h : n < 16000) : n < sizeLine := by rw [sizeLine_eq]; omega
section
variable {P : Program} {w : World} {K : PySem.W.Frag} {mg : Str → Option Value} {base : Heap}
def sp_gathered : Sp := fun vs H Q _ => ∃ (l : Addr) (ts : Po), vs = [.ref l] ∧ TermsAt H l ts ∧ ts.length < 16000 ∧
  ∀ (H' : Hp) (D : Addr) (od : Obj), Same H H' → H D = none → H' D = some (.frz od (.dT (enc (gath ts)))) → Q (.ref D) H'
theorem sc_gathered : FnScope ["terms", "sums", "names", "coefficient"] ["terms"] (defScope s_gathered) := ⟨rfl, rfl, rfl, by decide +kernel, rfl, by decide +kernel, by decide +kernel⟩
theorem r_gathered (T : Ok K mg) : FnR P w K mg base CX0 1 (ga K "gathered") sp_gathered := by
  obtain ⟨fd, F⟩ := T.f_gathered
  refine frn F sc_gathered (fun _ _ _ _ _ _ us hl => match us, hl with | [_], _ => rfl) (fun vs H Q E h => ?_) (fun cdv A outer s H vs Q E hr h => ?_)
  · obtain ⟨l, ts, rfl, _⟩ := h
    rfl
  · obtain ⟨l, ts, rfl, ⟨as, hl, hp⟩, hn, k⟩ := h
    have hn' := pairs_len hp
    refine ⟨_, (pss_cons (ps_set (i := 1) sc_gathered.nd rfl (Or.inl rfl) pe_dnewT)
      (pss_cons (ps_for PassesOwn.never rfl (pi_listK (K := K) rfl (pv 0)) (pg_tupK (K := K) (n := 2) rfl rfl (pgs_cons (pg_name (i := 2) sc_gathered.nd rfl (Or.inl rfl)) (pgs_cons (pg_name (i := 3) sc_gathered.nd rfl (Or.inl rfl)) pgs_nil)))
        (pss_one (ps_dput (hu_of hr) (pv 1) (pv 2) (pe_op op_add (pe_dget2 (hu_of hr) (pv 1) (pv 2) pe_int ⟨rfl, rfl, rfl, rfl⟩) (pv 3)) rfl)))
      (pss_one (ps_ret (pe_frz (pe_dcT (own := [("names", 2), ("coefficient", 3)]) rfl (Room.units0 hr) sc_gathered.nd (pi_itemsT (pe_frz (pv 1))) (blkOk_by (own := [("names", 2), ("coefficient", 3)]) (N := ["terms", "sums", "names", "coefficient"]) (sc := (defScope s_gathered)) (by decide +kernel)) (fun _ _ _ _ _ => (pg_tupK (K := K) (n := 2) rfl rfl (pgs_cons (pg_name (i := 2) sc_gathered.nd rfl (Or.inl rfl)) (pgs_cons (pg_name (i := 3) sc_gathered.nd rfl (Or.inl rfl)) pgs_nil)))) (by exact fun _ _ _ _ _ => pts_one (pt_cmpR op_ne (pv 3) pe_int (nomark _))) (by exact fun _ _ _ _ _ => (pv 2)) (by exact fun _ _ _ _ _ => (pv 3)))))))), ?_⟩
    refine fun D hD => ?_
    refine ⟨_, rfl, l, rfl, ⟨_, SqL.of (by rw [upd_ne (ne_of_none hl hD)]; exact hl)⟩, ?_⟩
    refine for_it (walk_list (K := K) (a := l) (xs := as.map V.ref)) (fun i σ H' => ∃ n c, σ = [some (.ref l), some (.ref D), n, c] ∧ H' = upd H D (.dT (enc (gsumA [] (ts.take i))))) ⟨none, none, rfl, rfl⟩ (fun i σ H' _ ⟨_, _, _, e⟩ => by rw [e]; exact SqL.of (by rw [upd_ne (ne_of_none hl hD)]; exact hl)) ?_ ?_
    · rintro i x σ H' H'' hi ⟨n, c, rfl, rfl⟩ ⟨rfl, hx⟩
      obtain ⟨t, u, q, rfl, hu, ht, hq⟩ := pairs_get hp hx
      have nd := nodup_gsumA (ts := ts.take i) (d := []) List.nodup_nil
      refine ⟨t, _, rfl, SqT.of (by rw [upd_ne (ne_of_none ht hD)]; exact ht), rfl, _, _, rfl, _, _, rfl, rfl, ?_⟩
      refine ⟨_, rfl, D, rfl, .inr ⟨_, .inl upd_same⟩, _, rfl, _, DGet.t (k := moK u.1) upd_same (by rw [upd_ne (ne_of_none hq hD)]; exact hq), _, rfl, (lk (gsumA [] (ts.take i)) u.1).getD 0, _, ?_, rfl, ?_⟩
      · rw [valV_enc]
        cases lk (gsumA [] (ts.take i)) u.1 <;> rfl
      refine ⟨_, rfl, _, rfl, D, _, rfl, DPut.t (k := moK u.1) upd_same (by rw [upd_ne (ne_of_none hq hD)]; exact hq) ?_, _, _, rfl, ?_⟩
      · have h1 := len_gsumA (ts.take i) []
        rw [List.length_nil, Nat.zero_add, List.length_take] at h1
        rw [enc_len]
        exact size_lt (by omega)
      · rw [upd_upd, put_enc nd, ← gsum_take hu]
    · rintro σ H' ⟨n, c, rfl, rfl⟩
      rw [List.length_map, hn', List.take_length]
      have nd := nodup_gsumA (ts := ts) (d := []) List.nodup_nil
      have hz : (gsumA [] ts).length < 16000 := by
        have h1 := len_gsumA ts []
        rw [List.length_nil, Nat.zero_add] at h1
        omega
      generalize hg : gsumA [] ts = d at nd hz
      refine ⟨_, rfl, D, _, rfl, upd_same, trivial, fun od => ?_⟩
      refine ⟨D, od, _, rfl, upd_same, fun D2 hD2 => ?_⟩
      have d2 : D ≠ D2 := fun e => by rw [e, upd_same] at hD2; cases hD2
      have n2 : H D2 = none := by rw [upd_ne d2.symm, upd_ne d2.symm] at hD2; exact hD2
      refine dc_it (walkT (o := od)) (fun i H' => Same H H' ∧ H' D = some (.frz od (.dT (enc d))) ∧ H' D2 = some (.dT (enc (nz (d.take i))))) ⟨fun c o hc => ?_, ?_, upd_same⟩ (fun i H' _ p => p.2.1) ?_ ?_
      · rw [upd_ne (ne_of_none hc n2), upd_ne (ne_of_none hc hD), upd_ne (ne_of_none hc hD)]
        exact hc
      · rw [upd_ne d2, upd_same]
      · rintro i x H' H'' hi ⟨sm, hd, hd2⟩ ⟨T1, k1, v1, q, he, rfl, hT, hq, rfl⟩
        obtain ⟨u, hu, rfl, rfl⟩ := enc_at he
        refine ⟨T1, _, rfl, SqT.of upd_same, rfl, _, _, rfl, _, _, rfl, rfl, rfl, ?_⟩
        refine ⟨_, rfl, rfl, _, rfl, ?_⟩
        have tk : d.take (i + 1) = d.take i ++ [u] := by rw [List.take_add_one, hu]; rfl
        refine ifNe (fun h0 => ?_) fun h0 => ?_
        · refine ⟨_, rfl, _, rfl, _, moK u.1, q, rfl, by rw [upd_ne (ne_of_none hq hT)]; exact hq, by rw [upd_ne (ne_of_none hd2 hT)]; exact hd2, ?_, ?_, ?_, ?_⟩
          · have h1 := List.length_filter_le (fun t : Mo × Int => !decide (t.2 = 0)) (d.take i)
            rw [List.length_take] at h1
            rw [enc_len]
            exact size_lt (by unfold nz; omega)
          · exact Same.upd (Same.upd sm (sm.free hT)) n2
          · rw [upd_ne d2, upd_ne (ne_of_none hd hT)]
            exact hd
          · rw [upd_same, tk, put_new (nz_new nd hu), nz_yes h0]
        · refine ⟨Same.upd sm (sm.free hT), ?_, ?_⟩
          · rw [upd_ne (ne_of_none hd hT)]
            exact hd
          · rw [upd_ne (ne_of_none hd2 hT), tk, nz_no h0]
            exact hd2
      · rintro H' ⟨sm, hd, hd2⟩
        rw [enc_len, List.take_length] at hd2
        refine ⟨D2, _, rfl, hd2, trivial, fun od2 => ?_⟩
        refine k _ D2 od2 (Same.upd sm n2) n2 ?_
        rw [upd_same]
        unfold gath
        rw [hg]
end
end Ef
/-! text C3b -/
set_option Elab.async false
set_option linter.all false
set_option maxRecDepth 100000
set_option maxHeartbeats 2000000
namespace Ef
open PySem PySem.Spec PyProof.Rows L2 EfB
section
variable {P : Program} {w : World} {K : PySem.W.Frag} {mg : Str → Option Value} {base : Heap}
theorem terms_fresh {H : Hp} {l x dx : Addr} {ts : Po} {o o' : HO} (h : TermsAt H l ts) (nx : H x = none) (nd : H dx = none) : TermsAt (upd (upd H dx o) x o') l ts := h.same fun c u e => by
  rw [upd_ne (ne_of_none e nx), upd_ne (ne_of_none e nd)]
  exact e
def sp_Many_init (K : PySem.W.Frag) : Sp := fun vs H Q _ => ∃ (x dx l : Addr) (ts : Po), vs = [.ref x, .ref l] ∧ H x = some (.ins (ga K "Many") dx []) ∧ TermsAt H l ts ∧ ts.length < 16000 ∧
  ∀ H' : Hp, MnAt K H' x (gath ts) → (∀ c o, H c = some o → c ≠ x → H' c = some o) → Q .non H'
theorem sc_Many_init : FnScope ["self", "terms"] ["self", "terms"] (defScope s_Many_init) := ⟨rfl, rfl, rfl, by decide +kernel, rfl, by decide +kernel, by decide +kernel⟩
theorem r_Many_init (T : Ok K mg) : FnR P w K mg base CX0 2 (ma K "Many" "__init__") (sp_Many_init K) := by
  obtain ⟨fd, F⟩ := T.f_Many_init
  refine frn F sc_Many_init (fun _ _ _ _ _ _ us hl => match us, hl with | [_, _], _ => rfl) (fun vs H Q E h => ?_) (fun cdv A outer s H vs Q E hr h => ?_)
  · obtain ⟨x, dx, l, ts, rfl, _⟩ := h
    rfl
  · obtain ⟨x, dx, l, ts, rfl, hx, hl, hn, k⟩ := h
    refine ⟨_, (pss_one (ps_fld (pv 0) (pe_callR (r_gathered T) (hr.mono (by decide)) (kp_of T.f_gathered) rfl T.g_gathered pass0 (pa_cons (pv 1) pa_nil)) rfl)), ?_⟩
    refine ⟨_, rfl, l, ts, rfl, hl, hn, fun H1 D od sm hD0 hD => ?_⟩
    refine ⟨_, rfl, x, _, dx, _, rfl, sm _ _ hx, T.cl_Many, T.na_Many_terms, (by show 0 < 1000; decide), ?_⟩
    have Dx : D ≠ x := fun e => by rw [e, hx] at hD0; cases hD0
    exact k _ ⟨dx, D, od, upd_same, by rw [upd_ne Dx]; exact hD⟩ fun c o hc cx => by rw [upd_ne cx]; exact sm _ _ hc
theorem mkMany {H : Hp} {l : Addr} {ts : Po} {Q : VK} {E : XK} (hl : TermsAt H l ts) (hn : ts.length < 16000) (k : ∀ (H' : Hp) (a : Addr), Same H H' → H a = none → MnAt K H' a (gath ts) → Q (.ref a) H') :
    ∀ x dx, H x = none → H dx = none → dx ≠ x → sp_Many_init K [.ref x, .ref l] (upd (upd H dx (.own x)) x (.ins (ga K "Many") dx [])) (fun v H2 => v = .non ∧ Q (.ref x) H2) E := fun x dx nx nd ne =>
  ⟨x, dx, l, ts, rfl, upd_same, terms_fresh hl nx nd, hn, fun H' hm fr => ⟨rfl, k H' x (Same.made nx nd fr) nx hm⟩⟩
def sp_Many_number (K : PySem.W.Frag) : Sp := fun vs H Q _ => ∃ n : Int, vs = [.ref (ga K "Many"), .int n] ∧ ∀ (H' : Hp) (a : Addr), Same H H' → H a = none → MnAt K H' a (pnum n) → Q (.ref a) H'
theorem sc_Many_number : FnScope ["cls", "n"] ["cls", "n"] (defScope s_Many_number) := ⟨rfl, rfl, rfl, by decide +kernel, rfl, by decide +kernel, by decide +kernel⟩
theorem one_term {H : Hp} {q t l : Addr} {m : Mo} {c : Int} (hq : H q = none) (ht : upd H q (.tup ((moS m).map V.str)) t = none) (hl : upd (upd H q (.tup ((moS m).map V.str))) t (.tup [.ref q, .int c]) l = none) :
    TermsAt (upd (upd (upd H q (.tup ((moS m).map V.str))) t (.tup [.ref q, .int c])) l (.lst [.ref t])) l [(m, c)] := by
  have tq : t ≠ q := fun e => by rw [e, upd_same] at ht; cases ht
  have lt : l ≠ t := fun e => by rw [e, upd_same] at hl; cases hl
  have lq : l ≠ q := fun e => by rw [e, upd_ne tq.symm, upd_same] at hl; cases hl
  refine ⟨[t], upd_same, rfl, fun i a e => ?_⟩
  cases i with
  | succ i => cases e
  | zero =>
    cases e
    exact ⟨moK m, .int c, q, rfl, by rw [upd_ne lt.symm, upd_same], by rw [upd_ne lq.symm, upd_ne tq.symm, upd_same, moK_kV]⟩
theorem same3 {H : Hp} {q t l : Addr} {o1 o2 o3 : HO} (hq : H q = none) (ht : upd H q o1 t = none) (hl : upd (upd H q o1) t o2 l = none) : Same H (upd (upd (upd H q o1) t o2) l o3) := by
  have s1 : Same H (upd H q o1) := Same.upd (Same.refl H) hq
  have s2 : Same H (upd (upd H q o1) t o2) := Same.upd s1 (s1.free ht)
  exact Same.upd s2 (s2.free hl)
theorem r_Many_number (T : Ok K mg) : FnR P w K mg base CX0 4 (wa K "Many" "number") (sp_Many_number K) := by
  obtain ⟨fd, F⟩ := T.f_Many_number
  refine frn F sc_Many_number (fun _ _ _ _ _ _ us hl => match us, hl with | [_, _], _ => rfl) (fun vs H Q E h => ?_) (fun cdv A outer s H vs Q E hr h => ?_)
  · obtain ⟨n, rfl, _⟩ := h
    rfl
  · obtain ⟨n, rfl, k⟩ := h
    refine ⟨_, (pss_one (ps_ret (pe_makeL (i := 0) T.mk_Many (r_Many_init T) (hr.mono (by decide)) rfl (Or.inl rfl) pass0 (pa_cons (pe_lst (pa_cons (pe_tup (pa_cons (pe_tup pa_nil) (pa_cons (pv 1) pa_nil))) pa_nil)) pa_nil)))), ?_⟩
    refine ⟨rfl, Nat.zero_le _, fun q hq => ⟨_, rfl, ?_, fun t ht => ⟨?_, fun l hl => ?_⟩⟩⟩
    · show 2 ≤ _
      rw [sizeLine_eq]; decide
    · show 1 ≤ _
      rw [sizeLine_eq]; decide
    · have e0 : ([] : List V) = (moS (0, 0, 0)).map V.str := by rw [moS_0]; rfl
      rw [e0] at ht hl
      show ∀ x dx, upd (upd (upd H q (.tup [])) t _) l _ x = none → _
      rw [e0]
      refine mkMany (one_term hq ht hl) (by show 1 < 16000; decide) fun H' a sm na hm => k H' a ((same3 hq ht hl).trans sm) ((same3 hq ht hl).free na) hm
end
end Ef
/-! text C3c -/
set_option Elab.async false
set_option linter.all false
set_option maxRecDepth 100000
set_option maxHeartbeats 2000000
namespace Ef
open PySem PySem.Spec PyProof.Rows L2 EfB
section
variable {P : Program} {w : World} {K : PySem.W.Frag} {mg : Str → Option Value} {base : Heap}
def sp_Many_unknown (K : PySem.W.Frag) : Sp := fun vs H Q _ => ∃ (m : Mo) (s : Str), vs = [.ref (ga K "Many"), .str s] ∧ moS m = [s] ∧ ∀ (H' : Hp) (a : Addr), Same H H' → H a = none → MnAt K H' a (punk m) → Q (.ref a) H'
theorem sc_Many_unknown : FnScope ["cls", "name"] ["cls", "name"] (defScope s_Many_unknown) := ⟨rfl, rfl, rfl, by decide +kernel, rfl, by decide +kernel, by decide +kernel⟩
theorem r_Many_unknown (T : Ok K mg) : FnR P w K mg base CX0 4 (wa K "Many" "unknown") (sp_Many_unknown K) := by
  obtain ⟨fd, F⟩ := T.f_Many_unknown
  refine frn F sc_Many_unknown (fun _ _ _ _ _ _ us hl => match us, hl with | [_, _], _ => rfl) (fun vs H Q E h => ?_) (fun cdv A outer s H vs Q E hr h => ?_)
  · obtain ⟨m, s, rfl, _⟩ := h
    rfl
  · obtain ⟨m, s, rfl, hm, k⟩ := h
    refine ⟨_, (pss_one (ps_ret (pe_makeL (i := 0) T.mk_Many (r_Many_init T) (hr.mono (by decide)) rfl (Or.inl rfl) pass0 (pa_cons (pe_lst (pa_cons (pe_tup (pa_cons (pe_tup (pa_cons (pv 1) pa_nil)) (pa_cons pe_int pa_nil))) pa_nil)) pa_nil)))), ?_⟩
    refine ⟨rfl, _, rfl, ?_, fun q hq => ⟨?_, fun t ht => ⟨?_, fun l hl => ?_⟩⟩⟩
    · show 1 ≤ _
      rw [sizeLine_eq]; decide
    · show 2 ≤ _
      rw [sizeLine_eq]; decide
    · show 1 ≤ _
      rw [sizeLine_eq]; decide
    · have e0 : [V.str s] = (moS m).map V.str := by rw [hm]; rfl
      rw [e0] at ht hl
      show ∀ x dx, upd (upd (upd H q (.tup [.str s])) t _) l _ x = none → _
      rw [e0]
      refine mkMany (one_term hq ht hl) (by show 1 < 16000; decide) fun H' a sm na hm => k H' a ((same3 hq ht hl).trans sm) ((same3 hq ht hl).free na) hm
/-! ### lists of pairs that grow -/
theorem pairs_snoc {H : Hp} {as : List Addr} {ts : Po} {t q : Addr} {m : Mo} {c : Int} (h : PairsAt H as (enc ts)) (h1 : H t = some (.tup [.ref q, .int c])) (h2 : H q = some (.tup ((moK m).map kV))) : PairsAt H (as ++ [t]) (enc (ts ++ [(m, c)])) := by
  have hl := pairs_len h
  refine ⟨by rw [List.length_append, enc_len, List.length_append, hl]; rfl, fun i u e => ?_⟩
  by_cases hi : i < as.length
  · rw [List.getElem?_append_left hi] at e
    obtain ⟨k, v, q', e1, e2, e3⟩ := h.2 i u e
    refine ⟨k, v, q', ?_, e2, e3⟩
    show ((ts ++ [(m, c)]).map _)[i]? = _
    rw [List.map_append, List.getElem?_append_left (by rw [List.length_map, ← hl]; exact hi)]
    exact e1
  · rw [List.getElem?_append_right (by omega)] at e
    have hi0 : i - as.length = 0 := by
      cases e0 : i - as.length with
      | zero => rfl
      | succ n => rw [e0] at e; cases e
    rw [hi0] at e
    cases e
    refine ⟨moK m, .int c, q, ?_, h1, h2⟩
    show ((ts ++ [(m, c)]).map _)[i]? = _
    rw [List.map_append, List.getElem?_append_right (by rw [List.length_map, ← hl]; omega), List.length_map, ← hl, hi0]
    rfl
theorem pairs_append {H : Hp} {as bs : List Addr} {ts us : Po} (h : PairsAt H as (enc ts)) (g : PairsAt H bs (enc us)) : PairsAt H (as ++ bs) (enc (ts ++ us)) := by
  have hl := pairs_len h
  have gl := pairs_len g
  refine ⟨by rw [List.length_append, enc_len, List.length_append, hl, gl], fun i u e => ?_⟩
  by_cases hi : i < as.length
  · rw [List.getElem?_append_left hi] at e
    obtain ⟨k, v, q', e1, e2, e3⟩ := h.2 i u e
    refine ⟨k, v, q', ?_, e2, e3⟩
    show ((ts ++ us).map _)[i]? = _
    rw [List.map_append, List.getElem?_append_left (by rw [List.length_map, ← hl]; exact hi)]
    exact e1
  · rw [List.getElem?_append_right (by omega)] at e
    obtain ⟨k, v, q', e1, e2, e3⟩ := g.2 _ u e
    refine ⟨k, v, q', ?_, e2, e3⟩
    show ((ts ++ us).map _)[i]? = _
    rw [List.map_append, List.getElem?_append_right (by rw [List.length_map, ← hl]; omega), List.length_map, ← hl]
    exact e1
theorem pairs_lst {H : Hp} {as : List Addr} {kvs : List (List L2.Key × V)} {L : Addr} {xs : List V} {o : HO} (h : PairsAt H as kvs) (hL : H L = some (.lst xs)) : PairsAt (upd H L o) as kvs := ⟨h.1, fun i t e => by
  obtain ⟨k, v, q, h1, h2, h3⟩ := h.2 i t e
  exact ⟨k, v, q, h1, by rw [upd_ne (ne_of h2 hL (by intro z; cases z))]; exact h2, by rw [upd_ne (ne_of h3 hL (by intro z; cases z))]; exact h3⟩⟩
/-- D, new above H0, is a list of the pairs ts so far -/
def Bld (H0 : Hp) (D : Addr) (H' : Hp) (ts : Po) : Prop := Same H0 H' ∧ ∃ as : List Addr, H' D = some (.lst (as.map V.ref)) ∧ PairsAt H' as (enc ts)
theorem Bld.up {H0 H1 H2 : Hp} {D : Addr} {ts : Po} (h : Bld H0 D H1 ts) (s : Same H1 H2) : Bld H0 D H2 ts := ⟨h.1.trans s, let ⟨as, h1, h2⟩ := h.2; ⟨as, s _ _ h1, pairs_same h2 s⟩⟩
theorem bld_nil {H : Hp} {D : Addr} (h : H D = none) : Bld H D (upd H D (.lst [])) [] := ⟨Same.upd (Same.refl H) h, [], upd_same, rfl, fun i t e => (nomatch e)⟩
theorem bld_snoc {H0 H1 : Hp} {D t q : Addr} {ts : Po} {m : Mo} {c : Int} (hD : H0 D = none) (h : Bld H0 D H1 ts) (hn : ts.length < 16000) (h1 : H1 t = some (.tup [.ref q, .int c])) (h2 : H1 q = some (.tup ((moK m).map kV))) :
    ∃ acc, H1 D = some (.lst acc) ∧ acc.length < sizeLine ∧ Bld H0 D (upd H1 D (.lst (acc ++ [.ref t]))) (ts ++ [(m, c)]) := by
  obtain ⟨sm, as, ha, hp⟩ := h
  refine ⟨_, ha, by rw [List.length_map, pairs_len hp]; exact size_lt hn, Same.upd sm hD, as ++ [t], ?_, pairs_lst (pairs_snoc hp h1 h2) ha⟩
  rw [upd_same, List.map_append]
  rfl
theorem Bld.terms {H0 H1 : Hp} {D : Addr} {ts : Po} (h : Bld H0 D H1 ts) : TermsAt H1 D ts := h.2
/-! ### +, unary -, - -/
def sp_Many_add (K : PySem.W.Frag) : Sp := fun vs H Q _ => ∃ (a b : Addr) (P1 P2 : Po), vs = [.ref a, .ref b] ∧ MnAt K H a P1 ∧ MnAt K H b P2 ∧ P1.length + P2.length < 16000 ∧
  ∀ (H' : Hp) (c : Addr), Same H H' → H c = none → MnAt K H' c (padd P1 P2) → Q (.ref c) H'
theorem sc_Many_add : FnScope ["self", "other"] ["self", "other"] (defScope s_Many_add) := ⟨rfl, rfl, rfl, by decide +kernel, rfl, by decide +kernel, by decide +kernel⟩
theorem r_Many_add (T : Ok K mg) : FnR P w K mg base CX0 4 (ma K "Many" "__add__") (sp_Many_add K) := by
  obtain ⟨fd, F⟩ := T.f_Many_add
  refine frn F sc_Many_add (fun _ _ _ _ _ _ us hl => match us, hl with | [_, _], _ => rfl) (fun vs H Q E h => ?_) (fun cdv A outer s H vs Q E hr h => ?_)
  · obtain ⟨a, b, P1, P2, rfl, _⟩ := h
    rfl
  · obtain ⟨a, b, P1, P2, rfl, ⟨dx, D, od, h1, h2⟩, ⟨dy, D', od', h3, h4⟩, hn, k⟩ := h
    refine ⟨_, (pss_one (ps_ret (StX.pe_makeR T.mk_Many (r_Many_init T) (hr.mono (by decide)) rfl T.g_Many pass0 (pa_cons (pe_op op_cat (pe_listItemsT rfl (pe_fldK (K := K) rfl (pv 0) rfl) rfl T.n_list (by decide +kernel)) (pe_listItemsT rfl (pe_fldK (K := K) rfl (pv 1) rfl) rfl T.n_list (by decide +kernel))) pa_nil)))), ?_⟩
    refine ⟨_, rfl, a, _, dx, _, _, rfl, h1, T.cl_Many, T.na_Many_terms, te_at _, D, od, _, rfl, h2, fun H1 p as s1 np hp pa => ?_⟩
    refine ⟨_, rfl, b, _, dy, _, _, rfl, s1 _ _ h3, T.cl_Many, T.na_Many_terms, te_at _, D', od', _, rfl, s1 _ _ h4, fun H2 q bs s2 nq hq pb => ?_⟩
    refine ⟨p, q, _, _, rfl, rfl, s2 _ _ hp, hq, ?_, fun l nl => ?_⟩
    · rw [List.length_map, List.length_map, pairs_len pa, pairs_len pb, sizeLine_eq]
      omega
    · have tm : TermsAt (upd H2 l (.lst (as.map V.ref ++ bs.map V.ref))) l (P1 ++ P2) := ⟨as ++ bs, by rw [upd_same, List.map_append], pairs_same (pairs_append (pairs_same pa s2) pb) (Same.upd (Same.refl _) nl)⟩
      have s3 : Same H (upd H2 l (.lst (as.map V.ref ++ bs.map V.ref))) := Same.upd (s1.trans s2) ((s1.trans s2).free nl)
      refine mkMany tm (by rw [List.length_append]; exact hn) fun H' c sm na hm => k H' c (s3.trans sm) (s3.free na) hm
def sp_Many_neg (K : PySem.W.Frag) : Sp := fun vs H Q _ => ∃ (a : Addr) (P1 : Po), vs = [.ref a] ∧ MnAt K H a P1 ∧ P1.length < 16000 ∧
  ∀ (H' : Hp) (c : Addr), Same H H' → H c = none → MnAt K H' c (pneg P1) → Q (.ref c) H'
theorem sc_Many_neg : FnScope ["self", "names", "coefficient"] ["self"] (defScope s_Many_neg) := ⟨rfl, rfl, rfl, by decide +kernel, rfl, by decide +kernel, by decide +kernel⟩
theorem negT_take {P1 : Po} {i : Nat} {u : Mo × Int} (h : P1[i]? = some u) : pnegT (P1.take (i + 1)) = pnegT (P1.take i) ++ [(u.1, -u.2)] := by
  unfold pnegT
  rw [List.take_add_one, h, List.map_append]
  rfl
theorem r_Many_neg (T : Ok K mg) : FnR P w K mg base CX0 4 (ma K "Many" "__neg__") (sp_Many_neg K) := by
  obtain ⟨fd, F⟩ := T.f_Many_neg
  refine frn F sc_Many_neg (fun _ _ _ _ _ _ us hl => match us, hl with | [_], _ => rfl) (fun vs H Q E h => ?_) (fun cdv A outer s H vs Q E hr h => ?_)
  · obtain ⟨a, P1, rfl, _⟩ := h
    rfl
  · obtain ⟨a, P1, rfl, ⟨dx, D, od, h1, h2⟩, hn, k⟩ := h
    refine ⟨_, (pss_one (ps_ret (StX.pe_makeR T.mk_Many (r_Many_init T) (hr.mono (by decide)) rfl T.g_Many pass0 (pa_cons (pe_lc (own := [("names", 1), ("coefficient", 2)]) rfl sc_Many_neg.nd (pi_itemsT (pe_fldK (K := K) rfl (pv 0) rfl)) (blkOk_by (own := [("names", 1), ("coefficient", 2)]) (N := ["self", "names", "coefficient"]) (sc := (defScope s_Many_neg)) (by decide +kernel)) (fun _ _ _ _ _ => (pg_tupK (K := K) (n := 2) rfl rfl (pgs_cons (pg_name (i := 1) sc_Many_neg.nd rfl (Or.inl rfl)) (pgs_cons (pg_name (i := 2) sc_Many_neg.nd rfl (Or.inl rfl)) pgs_nil)))) (fun _ _ _ _ _ => pts_nil) (by exact fun _ _ _ _ _ => (pe_tup (pa_cons (pv 1) (pa_cons (pe_un un_neg (pv 2)) pa_nil))))) pa_nil)))), ?_⟩
    refine ⟨_, rfl, a, _, dx, _, _, rfl, h1, T.cl_Many, T.na_Many_terms, te_at _, D, od, _, rfl, h2, fun L hL => ?_⟩
    refine lc_it (walkT (o := od)) (fun i H' => Bld H L H' (pnegT (P1.take i))) (bld_nil hL) (fun i H' _ p => p.1 _ _ h2) ?_ ?_
    · rintro i x H' H'' hi bl ⟨T1, k1, v1, q, he, rfl, hT, hq, rfl⟩
      obtain ⟨u, hu, rfl, rfl⟩ := enc_at he
      refine ⟨T1, _, rfl, SqT.of upd_same, rfl, _, _, rfl, _, _, rfl, rfl, rfl, ?_⟩
      refine ⟨_, rfl, _, rfl, u.2, rfl, ?_, fun t ht => ?_⟩
      · show 2 ≤ _
        rw [sizeLine_eq]; decide
      · rw [negT_take hu]
        have s1 : Same H' (upd H' T1 (.tup [.ref q, .int u.2])) := Same.upd (Same.refl _) hT
        have s2 := Same.upd (o := .tup [.ref q, .int (-u.2)]) s1 (s1.free ht)
        refine bld_snoc hL (bl.up s2) ?_ upd_same (s2 _ _ hq)
        unfold pnegT
        rw [List.length_map, List.length_take]
        omega
    · rintro H' bl
      rw [enc_len, List.take_length] at bl
      refine mkMany bl.terms (by unfold pnegT; rw [List.length_map]; exact hn) fun H2 c sm na hm => k H2 c (bl.1.trans sm) (bl.1.free na) hm
def sp_Many_sub (K : PySem.W.Frag) : Sp := fun vs H Q _ => ∃ (a b : Addr) (P1 P2 : Po), vs = [.ref a, .ref b] ∧ MnAt K H a P1 ∧ MnAt K H b P2 ∧ P1.length + P2.length < 16000 ∧
  ∀ (H' : Hp) (c : Addr), Same H H' → H c = none → MnAt K H' c (psub P1 P2) → Q (.ref c) H'
theorem sc_Many_sub : FnScope ["self", "other"] ["self", "other"] (defScope s_Many_sub) := ⟨rfl, rfl, rfl, by decide +kernel, rfl, by decide +kernel, by decide +kernel⟩
theorem len_gath (ts : Po) : (gath ts).length ≤ ts.length := by
  have h1 := List.length_filter_le (fun t : Mo × Int => !decide (t.2 = 0)) (gsumA [] ts)
  have h2 := len_gsumA ts []
  rw [List.length_nil, Nat.zero_add] at h2
  exact Nat.le_trans h1 h2
theorem len_neg (P1 : Po) : (pneg P1).length ≤ P1.length := by
  have h := len_gath (pnegT P1)
  unfold pnegT at h
  rw [List.length_map] at h
  exact h
theorem r_Many_sub (T : Ok K mg) : FnR P w K mg base CX0 5 (ma K "Many" "__sub__") (sp_Many_sub K) := by
  obtain ⟨fd, F⟩ := T.f_Many_sub
  refine frn F sc_Many_sub (fun _ _ _ _ _ _ us hl => match us, hl with | [_, _], _ => rfl) (fun vs H Q E h => ?_) (fun cdv A outer s H vs Q E hr h => ?_)
  · obtain ⟨a, b, P1, P2, rfl, _⟩ := h
    rfl
  · obtain ⟨a, b, P1, P2, rfl, m1, m2, hn, k⟩ := h
    refine ⟨_, (pss_one (ps_ret (pe_op (op_bin T.sf_Many T.me_Many_add.at_ T.me_Many_add.fn (r_Many_add T) (hr.mono (by decide)) pass0) (pv 0) (pe_un (un_negO T.me_Many_neg.at_ T.me_Many_neg.fn (r_Many_neg T) (hr.mono (by decide)) pass0) (pv 1))))), ?_⟩
    obtain ⟨dx, D, od, h1, h2⟩ := id m1
    obtain ⟨dy, D', od', h3, h4⟩ := id m2
    refine ⟨_, rfl, _, rfl, b, dy, _, rfl, h3, b, P2, rfl, m2, by omega, fun H1 c s1 nc mc => ?_⟩
    obtain ⟨dz, D2, od2, h5, h6⟩ := id mc
    refine ⟨a, dx, _, c, dz, _, rfl, rfl, s1 _ _ h1, h5, a, c, P1, pneg P2, rfl, m1.same s1, mc, ?_, fun H2 e s2 ne me => k H2 e (s1.trans s2) (s1.free ne) me⟩
    have := len_neg P2
    omega
end
end Ef
/-! text C3d -/
set_option Elab.async false
set_option linter.all false
set_option maxRecDepth 100000
set_option maxHeartbeats 2000000
namespace Ef
open PySem PySem.Spec PyProof.Rows L2 EfB
section
variable {P : Program} {w : World} {K : PySem.W.Frag} {mg : Str → Option Value} {base : Heap}
/-! ### * -/
def sp_product (K : PySem.W.Frag) : Sp := fun vs H Q _ => ∃ (a b : Addr) (od od' : Obj) (P1 P2 : Po), vs = [.ref a, .ref b] ∧ H a = some (.frz od (.dT (enc P1))) ∧ H b = some (.frz od' (.dT (enc P2))) ∧ P1.length * P2.length < 16000 ∧
  (∀ t ∈ P1, dg t.1 < 30 ∧ t.2.natAbs < 2 ^ 60) ∧ (∀ t ∈ P2, dg t.1 < 30) ∧ ∀ (H' : Hp) (l : Addr), Same H H' → H l = none → TermsAt H' l (prodT P1 P2) → Q (.ref l) H'
theorem sc_product_terms : FnScope ["first", "second", "terms", "names", "coefficient", "more", "factor"] ["first", "second"] (defScope s_product_terms) := ⟨rfl, rfl, rfl, by decide +kernel, rfl, by decide +kernel, by decide +kernel⟩
def rowT (u : Mo × Int) (P2 : Po) : Po := P2.map fun b => (moAdd u.1 b.1, u.2 * b.2)
theorem rowT_take {u v : Mo × Int} {P2 : Po} {i : Nat} (h : P2[i]? = some v) : rowT u (P2.take (i + 1)) = rowT u (P2.take i) ++ [(moAdd u.1 v.1, u.2 * v.2)] := by
  unfold rowT
  rw [List.take_add_one, h, List.map_append]
  rfl
theorem prodT_take {P1 P2 : Po} {i : Nat} {u : Mo × Int} (h : P1[i]? = some u) : prodT (P1.take (i + 1)) P2 = prodT (P1.take i) P2 ++ rowT u P2 := by
  unfold prodT
  rw [List.take_add_one, h, List.flatMap_append]
  show _ ++ List.flatMap _ [u] = _
  rw [List.flatMap_cons, List.flatMap_nil, List.append_nil]
  rfl
theorem len_prodT (P1 P2 : Po) : (prodT P1 P2).length = P1.length * P2.length := by
  induction P1 with
  | nil => simp [prodT]
  | cons t r ih =>
    have e : prodT (t :: r) P2 = rowT t P2 ++ prodT r P2 := by
      unfold prodT
      rw [List.flatMap_cons]
      rfl
    rw [e, List.length_append, ih, List.length_cons, Nat.add_mul, Nat.one_mul]
    unfold rowT
    rw [List.length_map]
    omega
theorem len_part {P1 P2 : Po} {i j : Nat} {u : Mo × Int} (hi : i < P1.length) (hj : j < P2.length) : (prodT (P1.take i) P2 ++ rowT u (P2.take j)).length < P1.length * P2.length := by
  rw [List.length_append, len_prodT, List.length_take, show (rowT u (P2.take j)).length = min j P2.length by unfold rowT; rw [List.length_map, List.length_take]]
  have h1 : min i P1.length = i := by omega
  have h2 : min j P2.length = j := by omega
  rw [h1, h2]
  have h3 : (i + 1) * P2.length ≤ P1.length * P2.length := Nat.mul_le_mul_right _ hi
  rw [Nat.add_mul] at h3
  omega
theorem r_product_terms (T : Ok K mg) : FnR P w K mg base CX0 1 (ga K "product_terms") (sp_product K) := by
  obtain ⟨fd, F⟩ := T.f_product_terms
  refine frn F sc_product_terms (fun _ _ _ _ _ _ us hl => match us, hl with | [_, _], _ => rfl) (fun vs H Q E h => ?_) (fun cdv A outer s H vs Q E hr h => ?_)
  · obtain ⟨a, b, od, od', P1, P2, rfl, _⟩ := h
    rfl
  · obtain ⟨a, b, od, od', P1, P2, rfl, h1, h2, hn, b1, b2, k⟩ := h
    refine ⟨_, (pss_cons (ps_set (i := 2) sc_product_terms.nd rfl (Or.inl rfl) (pe_lst pa_nil))
      (pss_cons (ps_for PassesOwn.never rfl (pi_itemsT (pv 0)) (pg_tupK (K := K) (n := 2) rfl rfl (pgs_cons (pg_name (i := 3) sc_product_terms.nd rfl (Or.inl rfl)) (pgs_cons (pg_name (i := 4) sc_product_terms.nd rfl (Or.inl rfl)) pgs_nil)))
        (pss_one (ps_for PassesOwn.never rfl (pi_itemsT (pv 1)) (pg_tupK (K := K) (n := 2) rfl rfl (pgs_cons (pg_name (i := 5) sc_product_terms.nd rfl (Or.inl rfl)) (pgs_cons (pg_name (i := 6) sc_product_terms.nd rfl (Or.inl rfl)) pgs_nil)))
          (pss_one (ps_expr (pe_bm PySem.F.plainAttrs_list PySem.F.slot_list_append PySem.F.type_list_append mt_append (pv 2) (pa_cons (pe_tup (pa_cons (pe_callTy (call_tupK (K := K) rfl) (by rfl) T.n_tuple (by decide +kernel) (pa_cons (pe_callB (cr_sortedTx rfl) (by rfl) T.n_sorted (by decide +kernel) (pa_cons (pe_op op_catA (pv 3) (pv 5)) pa_nil)) pa_nil)) (pa_cons (pe_op op_mul (pv 4) (pv 6)) pa_nil))) pa_nil)))))))
      (pss_one (ps_ret (pv 2))))), ?_⟩
    refine ⟨Nat.zero_le _, fun L hL => ?_⟩
    refine ⟨_, rfl, a, od, _, rfl, by rw [upd_ne (ne_of_none h1 hL)]; exact h1, ?_⟩
    refine for_it (walkT (o := od)) (fun i σ H' => ∃ n c m f, σ = [some (.ref a), some (.ref b), some (.ref L), n, c, m, f] ∧ Bld H L H' (prodT (P1.take i) P2)) ⟨none, none, none, none, rfl, bld_nil hL⟩ (fun i σ H' _ ⟨_, _, _, _, _, p⟩ => p.1 _ _ h1) ?_ ?_
    · rintro i x σ H' H'' hi ⟨n, c, m, f, rfl, bl⟩ ⟨T1, k1, v1, q, he, rfl, hT, hq, rfl⟩
      obtain ⟨u, hu, rfl, rfl⟩ := enc_at he
      refine ⟨T1, _, rfl, SqT.of upd_same, rfl, _, _, rfl, _, _, rfl, rfl, ?_⟩
      have s1 : Same H' (upd H' T1 (.tup [.ref q, .int u.2])) := Same.upd (Same.refl _) hT
      refine ⟨_, rfl, b, od', _, rfl, (s1 _ _ (bl.1 _ _ h2)), ?_⟩
      have hi' : i < P1.length := by rw [← enc_len]; exact hi
      refine for_it (walkT (o := od')) (fun j σ H' => ∃ m f, σ = [some (.ref a), some (.ref b), some (.ref L), some (.ref q), some (.int u.2), m, f] ∧ Bld H L H' (prodT (P1.take i) P2 ++ rowT u (P2.take j)) ∧ H' q = some (.tup ((moK u.1).map kV))) ⟨m, f, rfl, ?_, s1 _ _ hq⟩ (fun i σ H' _ ⟨_, _, _, p, _⟩ => p.1 _ _ h2) ?_ ?_
      · have := bl.up s1
        rw [show rowT u (P2.take 0) = [] from rfl, List.append_nil]
        exact this
      · rintro j x σ H2 H3 hj ⟨m, f, rfl, bl2, hq2⟩ ⟨T2, k2, v2, r, he2, rfl, hT2, hr2, rfl⟩
        obtain ⟨v, hv, rfl, rfl⟩ := enc_at he2
        have hj' : j < P2.length := by rw [← enc_len]; exact hj
        refine ⟨T2, _, rfl, SqT.of upd_same, rfl, _, _, rfl, _, _, rfl, rfl, ?_⟩
        have s2 : Same H2 (upd H2 T2 (.tup [.ref r, .int v.2])) := Same.upd (Same.refl _) hT2
        refine ⟨_, rfl, ?_, ?_⟩
        · obtain ⟨as, ha, _⟩ := (bl2.up s2).2
          exact .inl ⟨rfl, _, SqL.of ha⟩
        have fin : ∀ y H5, Same H2 H5 → H5 y = some (.tup ((moS (moAdd u.1 v.1)).map V.str)) → ∀ t, H5 t = none → rAppend (V.ref L) [V.ref t] (upd H5 t (.tup [V.ref y, V.int (u.2 * v.2)])) fun _ H' => ∃ m f, [some (V.ref a), some (V.ref b), some (V.ref L), some (V.ref q), some (V.int u.2), some (V.ref r), some (V.int v.2)] = [some (V.ref a), some (V.ref b), some (V.ref L), some (V.ref q), some (V.int u.2), m, f] ∧ Bld H L H' (prodT (P1.take i) P2 ++ rowT u (P2.take (j + 1))) ∧ H' q = some (.tup ((moK u.1).map kV)) := by
          intro y H5 s5 hy t ht
          have s6 := Same.upd (o := .tup [V.ref y, V.int (u.2 * v.2)]) s5 (s5.free ht)
          have yt : y ≠ t := fun e => by rw [← e, hy] at ht; cases ht
          obtain ⟨acc, g1, g2, g3⟩ := bld_snoc (m := moAdd u.1 v.1) (c := u.2 * v.2) (t := t) (q := y) hL (bl2.up s6) (Nat.lt_of_lt_of_le (len_part hi' hj') (by omega)) upd_same (by rw [upd_ne yt, moK_kV]; exact hy)
          refine ⟨L, acc, _, rfl, rfl, g1, g2, _, _, rfl, ?_, ?_⟩
          · rw [rowT_take hv, ← List.append_assoc]
            exact g3
          · rw [upd_ne (ne_of (s6 _ _ hq2) g1 (by intro z; cases z))]
            exact s6 _ _ hq2
        have hq3 : (upd H2 T2 (.tup [V.ref r, V.int v.2])) q = some (.tup ((moS u.1).map V.str)) := by rw [← moK_kV]; exact s2 _ _ hq2
        have hr3 : (upd H2 T2 (.tup [V.ref r, V.int v.2])) r = some (.tup ((moS v.1).map V.str)) := by rw [← moK_kV]; exact s2 _ _ hr2
        have b3 := (b1 u (List.mem_of_getElem? hu))
        have b4 := b2 v (List.mem_of_getElem? hv)
        have hlen : (moS u.1 ++ moS v.1).length < 64 := by
          rw [List.length_append, moS_len, moS_len]
          omega
        refine ⟨_, rfl, _, rfl, q, r, _, _, rfl, rfl, SqT.of hq3, SqT.of hr3, ?_, fun z => ?_, fun z z2 => ?_, fun z z2 p hp => ?_⟩
        · rw [List.length_map, List.length_map, moS_len, moS_len, sizeLine_eq]
          omega
        · have z := List.map_eq_nil_iff.mp z
          refine ⟨r, rfl, .inl ⟨moS u.1 ++ moS v.1, SqT.of (by rw [z]; exact hr3), hlen, fun ys z hperm hsort hz => ?_⟩⟩
          rw [sorted_mo hperm hsort]
          refine ⟨z, _, rfl, .inl ⟨SqL.of upd_same, fun y hy => ?_⟩⟩
          have s7 := s2
          have s8 := Same.upd (o := .lst ((moS (moAdd u.1 v.1)).map V.str)) s7 (s7.free hz)
          have s9 := Same.upd (o := .tup ((moS (moAdd u.1 v.1)).map V.str)) s8 (s8.free hy)
          refine ⟨_, rfl, _, rfl, u.2, v.2, rfl, rfl, .inl ⟨by omega, by omega⟩, ?_, fin y _ s9 upd_same⟩
          show 2 ≤ _
          rw [sizeLine_eq]; decide
        · have z2 := List.map_eq_nil_iff.mp z2
          refine ⟨q, rfl, .inl ⟨moS u.1 ++ moS v.1, SqT.of (by rw [z2, List.append_nil]; exact hq3), hlen, fun ys z hperm hsort hz => ?_⟩⟩
          rw [sorted_mo hperm hsort]
          refine ⟨z, _, rfl, .inl ⟨SqL.of upd_same, fun y hy => ?_⟩⟩
          have s7 := s2
          have s8 := Same.upd (o := .lst ((moS (moAdd u.1 v.1)).map V.str)) s7 (s7.free hz)
          have s9 := Same.upd (o := .tup ((moS (moAdd u.1 v.1)).map V.str)) s8 (s8.free hy)
          refine ⟨_, rfl, _, rfl, u.2, v.2, rfl, rfl, .inl ⟨by omega, by omega⟩, ?_, fin y _ s9 upd_same⟩
          show 2 ≤ _
          rw [sizeLine_eq]; decide
        · skip
          refine ⟨p, rfl, .inl ⟨moS u.1 ++ moS v.1, SqT.of (by rw [upd_same, List.map_append]), hlen, fun ys z hperm hsort hz => ?_⟩⟩
          rw [sorted_mo hperm hsort]
          refine ⟨z, _, rfl, .inl ⟨SqL.of upd_same, fun y hy => ?_⟩⟩
          have s7 := Same.upd (o := .tup ((moS u.1).map V.str ++ (moS v.1).map V.str)) s2 (s2.free hp)
          have s8 := Same.upd (o := .lst ((moS (moAdd u.1 v.1)).map V.str)) s7 (s7.free hz)
          have s9 := Same.upd (o := .tup ((moS (moAdd u.1 v.1)).map V.str)) s8 (s8.free hy)
          refine ⟨_, rfl, _, rfl, u.2, v.2, rfl, rfl, .inl ⟨by omega, by omega⟩, ?_, fin y _ s9 upd_same⟩
          show 2 ≤ _
          rw [sizeLine_eq]; decide
      · rintro σ H2 ⟨m, f, rfl, bl2, _⟩
        rw [enc_len, List.take_length, ← prodT_take hu] at bl2
        exact ⟨_, _, _, _, rfl, bl2⟩
    · rintro σ H' ⟨n, c, m, f, rfl, bl⟩
      rw [enc_len, List.take_length] at bl
      exact ⟨_, rfl, k _ L bl.1 hL bl.terms⟩
end
end Ef
/-! text C3e -/
set_option Elab.async false
set_option linter.all false
set_option maxRecDepth 100000
set_option maxHeartbeats 2000000
namespace Ef
open PySem PySem.Spec PyProof.Rows L2 EfB
section
variable {P : Program} {w : World} {K : PySem.W.Frag} {mg : Str → Option Value} {base : Heap}
def sp_Many_mul (K : PySem.W.Frag) : Sp := fun vs H Q _ => ∃ (a b : Addr) (P1 P2 : Po), vs = [.ref a, .ref b] ∧ MnAt K H a P1 ∧ MnAt K H b P2 ∧ P1.length * P2.length < 16000 ∧
  (∀ t ∈ P1, dg t.1 < 30 ∧ t.2.natAbs < 2 ^ 60) ∧ (∀ t ∈ P2, dg t.1 < 30) ∧
  ∀ (H' : Hp) (c : Addr), Same H H' → H c = none → MnAt K H' c (pmul P1 P2) → Q (.ref c) H'
theorem sc_Many_mul : FnScope ["self", "other"] ["self", "other"] (defScope s_Many_mul) := ⟨rfl, rfl, rfl, by decide +kernel, rfl, by decide +kernel, by decide +kernel⟩
theorem r_Many_mul (T : Ok K mg) : FnR P w K mg base CX0 4 (ma K "Many" "__mul__") (sp_Many_mul K) := by
  obtain ⟨fd, F⟩ := T.f_Many_mul
  refine frn F sc_Many_mul (fun _ _ _ _ _ _ us hl => match us, hl with | [_, _], _ => rfl) (fun vs H Q E h => ?_) (fun cdv A outer s H vs Q E hr h => ?_)
  · obtain ⟨a, b, P1, P2, rfl, _⟩ := h
    rfl
  · obtain ⟨a, b, P1, P2, rfl, ⟨dx, D, od, h1, h2⟩, ⟨dy, D', od', h3, h4⟩, hn, b1, b2, k⟩ := h
    refine ⟨_, (pss_one (ps_ret (StX.pe_makeR T.mk_Many (r_Many_init T) (hr.mono (by decide)) rfl T.g_Many pass0 (pa_cons (pe_callR (r_product_terms T) (hr.mono (by decide)) (kp_of T.f_product_terms) rfl T.g_product_terms pass0 (pa_cons (pe_fldK (K := K) rfl (pv 0) rfl) (pa_cons (pe_fldK (K := K) rfl (pv 1) rfl) pa_nil))) pa_nil)))), ?_⟩
    refine ⟨_, rfl, a, _, dx, _, _, rfl, h1, T.cl_Many, T.na_Many_terms, te_at _, _, rfl, b, _, dy, _, _, rfl, h3, T.cl_Many, T.na_Many_terms, te_at _, ?_⟩
    refine ⟨D, D', od, od', P1, P2, rfl, h2, h4, hn, b1, b2, fun H1 l s1 nl tl => ?_⟩
    exact mkMany tl (by rw [len_prodT]; exact hn) fun H' c sm na hm => k H' c (s1.trans sm) (s1.free na) hm
/-! ### degree -/
def sp_Many_degree (K : PySem.W.Frag) : Sp := fun vs H Q _ => ∃ (a : Addr) (P1 : Po), vs = [.ref a] ∧ MnAt K H a P1 ∧ P1.length < 16000 ∧ (∀ t ∈ P1, dg t.1 < 30) ∧
  ∀ (H' : Hp) (d : Int), Same H H' → -1 ≤ d → (d = -1 ∨ ∃ t ∈ P1, d = dg t.1) → (∀ t ∈ P1, (dg t.1 : Int) ≤ d) → Q (.int d) H'
theorem sc_Many_degree : FnScope ["self", "names"] ["self"] (defScope s_Many_degree) := ⟨rfl, rfl, rfl, by decide +kernel, rfl, by decide +kernel, by decide +kernel⟩
theorem ints_snoc {H : Hp} {L : Addr} {xs : List V} : upd (upd H L (.lst xs)) L (.lst xs) = upd H L (.lst xs) := upd_upd
theorem r_Many_degree (T : Ok K mg) : FnR P w K mg base CX0 1 (ma K "Many" "degree") (sp_Many_degree K) := by
  obtain ⟨fd, F⟩ := T.f_Many_degree
  refine frn F sc_Many_degree (fun _ _ _ _ _ _ us hl => match us, hl with | [_], _ => rfl) (fun vs H Q E h => ?_) (fun cdv A outer s H vs Q E hr h => ?_)
  · obtain ⟨a, P1, rfl, _⟩ := h
    rfl
  · obtain ⟨a, P1, rfl, ⟨dx, D, od, h1, h2⟩, hn, hb, k⟩ := h
    refine ⟨_, (pss_one (ps_ret (pe_callB (cr_max rfl) (by rfl) T.n_max (by decide +kernel) (pa_cons (pe_op op_cat (pe_lst (pa_cons (pe_un un_neg pe_int) pa_nil)) (pe_lc (own := [("names", 1)]) rfl sc_Many_degree.nd (pi_keys (pe_fldK (K := K) rfl (pv 0) rfl)) (blkOk_by (own := [("names", 1)]) (N := ["self", "names"]) (sc := (defScope s_Many_degree)) (by decide +kernel)) (fun _ _ _ _ _ => (pg_name (i := 1) sc_Many_degree.nd rfl (Or.inl rfl))) (fun _ _ _ _ _ => pts_nil) (by exact fun _ _ _ _ _ => (pe_callB (call_lenK (K := K) rfl) (by rfl) T.n_len (by decide +kernel) (pa_cons (pv 1) pa_nil))))) pa_nil)))), ?_⟩
    refine ⟨1, rfl, ?_, fun L1 n1 => ?_⟩
    · show 1 ≤ _
      rw [sizeLine_eq]; decide
    refine ⟨_, rfl, a, _, dx, _, _, rfl, ?_, T.cl_Many, T.na_Many_terms, te_at _, D, od, rfl, .inr ⟨enc P1, ?_, fun L hL => ?_⟩⟩
    · rw [upd_ne (ne_of_none h1 n1)]; exact h1
    · rw [upd_ne (ne_of_none h2 n1)]; exact h2
    · have LL : L ≠ L1 := fun e => by rw [e, upd_same] at hL; cases hL
      have nL : H L = none := by rw [upd_ne LL] at hL; exact hL
      have s1 : Same H (upd H L1 (.lst [.int (-1)])) := Same.upd (Same.refl H) n1
      refine lc_it (walk_keysT (o := od)) (fun i H' => Same H H' ∧ H' L1 = some (.lst [.int (-1)]) ∧ H' L = some (.lst ((P1.take i).map fun t => V.int (dg t.1)))) ⟨Same.upd s1 nL, by rw [upd_ne LL.symm, upd_same], upd_same⟩ (fun i H' _ p => p.1 _ _ h2) ?_ ?_
      · rintro i x H' H'' hi ⟨sm, g1, g2⟩ ⟨rfl, k1, v1, q, he, rfl, hq⟩
        obtain ⟨u, hu, rfl, rfl⟩ := enc_at he
        refine ⟨rfl, ?_⟩
        refine ⟨_, rfl, _, _, rfl, .inr ⟨_, SqT.of hq, rfl⟩, _, g2, ?_, Same.upd sm nL, ?_, ?_⟩
        · rw [List.length_map, List.length_take]
          exact size_lt (by omega)
        · rw [upd_ne LL.symm]
          exact g1
        · rw [upd_same, List.take_add_one, hu, List.map_append, List.length_map, moK, List.length_map, moS_len]
          rfl
      · rintro H' ⟨sm, g1, g2⟩
        rw [enc_len, List.take_length] at g2
        refine ⟨L1, L, _, _, rfl, rfl, g1, g2, ?_, fun p hp => ?_⟩
        · rw [List.length_map, sizeLine_eq]
          show 1 + _ ≤ _
          omega
        · refine ⟨p, (-1 : Int) :: P1.map fun t => (dg t.1 : Int), rfl, SqL.of ?_, Nat.succ_pos _, fun m hm hmx => ?_⟩
          · rw [upd_same, List.map_cons, List.map_map]
            rfl
          · refine k _ m (Same.upd sm (sm.free hp)) (hmx _ List.mem_cons_self) ?_ fun t ht => hmx _ (List.mem_cons_of_mem _ (List.mem_map.mpr ⟨t, ht, rfl⟩))
            rcases List.mem_cons.mp hm with h | h
            · exact .inl h
            · obtain ⟨t, ht, rfl⟩ := List.mem_map.mp h
              exact .inr ⟨t, ht, rfl⟩
/-! ### content, vanishing -/
def sp_Many_content (K : PySem.W.Frag) : Sp := fun vs H Q _ => ∃ (a : Addr) (P1 : Po), vs = [.ref a] ∧ MnAt K H a P1 ∧ ∀ g : Int, IsGcd g (P1.map (·.2)) → Q (.int g) H
theorem sc_Many_content : FnScope ["self", "found", "coefficient"] ["self"] (defScope s_Many_content) := ⟨rfl, rfl, rfl, by decide +kernel, rfl, by decide +kernel, by decide +kernel⟩
theorem r_Many_content (T : Ok K mg) : FnR P w K mg base CX0 2 (ma K "Many" "content") (sp_Many_content K) := by
  obtain ⟨fd, F⟩ := T.f_Many_content
  refine frn F sc_Many_content (fun _ _ _ _ _ _ us hl => match us, hl with | [_], _ => rfl) (fun vs H Q E h => ?_) (fun cdv A outer s H vs Q E hr h => ?_)
  · obtain ⟨a, P1, rfl, _⟩ := h
    rfl
  · obtain ⟨a, P1, rfl, ⟨dx, D, od, h1, h2⟩, k⟩ := h
    refine ⟨_, (pss_cons (ps_set (i := 1) sc_Many_content.nd rfl (Or.inl rfl) pe_int)
      (pss_cons (ps_for PassesOwn.never rfl (pi_valuesT (pe_fldK (K := K) rfl (pv 0) rfl)) (pg_name (i := 2) sc_Many_content.nd rfl (Or.inl rfl))
        (pss_one (ps_set (i := 1) sc_Many_content.nd rfl (Or.inl rfl) (pe_callR (r_common T) (hr.mono (by decide)) (kp_of T.f_common) rfl T.g_common pass0 (pa_cons (pv 1) (pa_cons (pv 2) pa_nil))))))
      (pss_one (ps_ret (pv 1))))), ?_⟩
    refine ⟨_, rfl, a, _, dx, _, _, rfl, h1, T.cl_Many, T.na_Many_terms, te_at _, D, od, _, rfl, h2, ?_⟩
    refine for_it (walkVT (o := od)) (fun i σ H' => ∃ (g : Int) (c : Option V), σ = [some (.ref a), some (.int g), c] ∧ H' = H ∧ IsGcd g ((P1.take i).map (·.2))) ⟨0, none, rfl, rfl, isGcd_nil⟩ (fun i σ H' _ ⟨_, _, _, e, _⟩ => by rw [e]; exact h2) ?_ ?_
    · rintro i x σ H' H'' hi ⟨g, c, rfl, rfl, hg⟩ ⟨rfl, k1, he⟩
      obtain ⟨u, hu, rfl, rfl⟩ := enc_at he
      refine ⟨_, rfl, _, rfl, g, u.2, rfl, _, _, rfl, rfl, ?_⟩
      rw [List.take_add_one, hu, List.map_append]
      exact hg.snoc
    · rintro σ H' ⟨g, c, rfl, rfl, hg⟩
      rw [enc_len, List.take_length] at hg
      exact ⟨_, rfl, k g hg⟩
def sp_Many_vanishing (K : PySem.W.Frag) : Sp := fun vs H Q _ => ∃ (a : Addr) (P1 : Po), vs = [.ref a] ∧ MnAt K H a P1 ∧ (∀ t ∈ P1, t.2 ≠ 0 ∧ t.2.natAbs < 2 ^ 60) ∧
  ∀ (H' : Hp) (c : Addr) (g : Int) (b : Bool) (ps : List Int), Same H H' → H c = none → IsGcd g (P1.map (·.2)) → ChAt K H' c b ps → Zn g b ps → ChOk ps → Q (.ref c) H'
theorem sc_Many_vanishing : FnScope ["self"] ["self"] (defScope s_Many_vanishing) := ⟨rfl, rfl, rfl, by decide +kernel, rfl, by decide +kernel, by decide +kernel⟩
theorem gcd_small {P1 : Po} {g : Int} (hg : IsGcd g (P1.map (·.2))) (h : ∀ t ∈ P1, t.2 ≠ 0 ∧ t.2.natAbs < 2 ^ 60) : g.natAbs < 2 ^ 60 := by
  cases P1 with
  | nil =>
    have h0 : g = 0 := hg.zero.mpr fun c hc => (nomatch hc)
    rw [h0]
    decide
  | cons t r =>
    obtain ⟨h1, h2⟩ := h t List.mem_cons_self
    have h3 := hg.le (c := t.2) (by rw [List.map_cons]; exact List.mem_cons_self) h1
    have h4 := hg.1
    omega
theorem r_Many_vanishing (T : Ok K mg) : FnR P w K mg base CX0 5 (ma K "Many" "vanishing") (sp_Many_vanishing K) := by
  obtain ⟨fd, F⟩ := T.f_Many_vanishing
  refine frn F sc_Many_vanishing (fun _ _ _ _ _ _ us hl => match us, hl with | [_], _ => rfl) (fun vs H Q E h => ?_) (fun cdv A outer s H vs Q E hr h => ?_)
  · obtain ⟨a, P1, rfl, _⟩ := h
    rfl
  · obtain ⟨a, P1, rfl, m1, hb, k⟩ := h
    refine ⟨_, (pss_one (ps_ret (ClX.pe_cmeth (pe_glob (v := .ref (ga K "Chars")) rfl T.g_Chars rfl) T.rd_Chars T.cm_Chars_zero_of (r_Chars_zero_of T) (hr.mono (by decide)) pass0 (pa_cons (pe_methR0 (pv 0) T.cl_Many T.me_Many_content (r_Many_content T) (hr.mono (by decide)) pass0) pa_nil)))), ?_⟩
    obtain ⟨dx, D, od, h1, h2⟩ := id m1
    refine ⟨rfl, _, rfl, a, dx, _, rfl, h1, ?_, a, P1, rfl, m1, fun g hg => ?_⟩
    · rw [lookup_putF, if_neg (by decide +kernel)]
      rfl
    · refine ⟨g, rfl, gcd_small hg hb, fun H' c b ps sm nc hc hz ho => ?_⟩
      rw [show (b != false) = b by cases b <;> rfl] at hc
      exact k H' c g b ps sm nc hg hc hz ho
end
end Ef
/-! text C3f -/
set_option Elab.async false
set_option linter.all false
set_option maxRecDepth 100000
set_option maxHeartbeats 2000000
namespace Ef
open PySem PySem.Spec PyProof.Rows L2 EfB
section
variable {P : Program} {w : World} {K : PySem.W.Frag} {mg : Str → Option Value} {base : Heap}
theorem walk_any {J : It} {n : Nat} {G : Hp → Prop} {Y : Nat → Hp → V → Hp → Prop} (w : Walk J n G Y) {H0 : Hp} {Bd : V → Hp → (Hp → Prop) → Prop} {Qd : Hp → Prop} (Pv : Nat → Hp → Prop) (h0 : Pv 0 H0) (hG : ∀ i H, i ≤ n → Pv i H → G H)
    (hs : ∀ i x H H', i < n → Pv i H → Y i H x H' → Bd x H' (Pv (i + 1))) (hd : ∀ H, Pv n H → Qd H) :
    ∃ W : Nat → Nat → Hp → Prop, (∃ m, W 0 m H0) ∧ ∀ i m H, W i m H →
      (J.stop i H ∧ Qd H) ∨ (J.go i H ∧ ∃ Nx : Hp → Prop, (∀ H', Nx H' → ∃ m', m' < m ∧ W (i + 1) m' H') ∧ ∀ x H', J.yld i H x H' → Bd x H' Nx) := by
  refine ⟨fun i m H => m = n - i ∧ i ≤ n ∧ Pv i H, ⟨n, by simp, Nat.zero_le _, h0⟩, ?_⟩
  rintro i m H ⟨rfl, hi, p⟩
  have q := hG i H hi p
  by_cases hlt : i < n
  · exact .inr ⟨w.goes i H hlt q, Pv (i + 1), fun H' p' => ⟨n - (i + 1), by omega, rfl, hlt, p'⟩, fun x H' y => hs i x H H' hlt p (w.yields i H x H' hlt q y)⟩
  · obtain rfl : i = n := by omega
    exact .inl ⟨w.stops H q, hd H p⟩
theorem frnk {x qual : Str} {st : Stmt} {f : Addr} {fd : FuncData} {N ps : List Str} {k m : Nat} {ks : List Str} {sp : Sp} (F : Fun K x qual st f fd) (S : FnScope N ps (defScope st))
    (hb : ∀ (kV doc pm : Value) (an : Option Addr) (cdv ct : Value) (us ws : List Value), us.length = m → ws.length = ks.length → bindArgs (PySem.W.fnOf x qual (defArgs st) (defBody st) (defScope st) .none kV doc pm an cdv ct) ⟨us, ks.zip ws⟩ = pure (ps.zip (us ++ ws)))
    (len : ∀ vs H Q E, sp vs H Q E → vs.length = ps.length)
    (hbody : ∀ (cdv : Value) (A : Around) (outer : List Env) (s : Shared) (H : Hp) (vs : List V) (Q : VK) (E : XK), Room k (A.deeper (envOfC qual (defScope st) s.heap.objs.size f cdv)) → sp vs H Q E →
      ∃ t, PSs (cxOf CX0 P w K mg base N qual (defScope st) f cdv A outer s H E).nox (defBody st) t ∧ t { nx := fun _ H' => Q .non H', rt := Q } (start N vs) H) : FnRK P w K mg base CX0 (k + 1) f m ks sp := by
  have G := F.ok (P := P) (w := w) (mg := mg) (base := base) S len hbody
  refine fnrk_of G fun s us ws X l1 l2 => ?_
  obtain ⟨oc, od, kV, doc, pm, an, cdv, ct, osl, rfl, lk, hcd⟩ := F.ex
  exact BindsTo.of_eq (hb kV doc pm an cdv ct us ws l1 l2)
/-! ### names -/
def Let (s : Str) : Prop := s = "x" ∨ s = "y" ∨ s = "z"
def cntL (S : Str → Bool) : Nat := (S "x").toNat + (S "y").toNat + (S "z").toNat
theorem toNat_le1 (b : Bool) : b.toNat ≤ 1 := by cases b <;> decide
theorem cntL_le (S : Str → Bool) : cntL S ≤ 3 := by
  unfold cntL
  have := toNat_le1 (S "x")
  have := toNat_le1 (S "y")
  have := toNat_le1 (S "z")
  omega
theorem cntL_add {S : Str → Bool} {c : Str} (h : Let c) : cntL (fun j => S j || decide (j = c)) = if S c = true then cntL S else cntL S + 1 := by
  have g : ∀ b : Bool, ∀ n m : Nat, (b || true).toNat + n = if b = true then b.toNat + n else b.toNat + n + 1 := fun b n m => by
    cases b
    · rw [if_neg Bool.false_ne_true, Bool.false_or]
      show 1 + n = 0 + n + 1
      omega
    · rw [if_pos rfl]
      rfl
  have e : ∀ d : Str, cntL (fun j => S j || decide (j = d)) = (S "x" || decide (("x" : Str) = d)).toNat + (S "y" || decide (("y" : Str) = d)).toNat + (S "z" || decide (("z" : Str) = d)).toNat := fun d => rfl
  rw [e]
  unfold cntL
  rcases h with rfl | rfl | rfl
  · rw [decide_eq_true (rfl : (("x" : Str) = "x")), decide_eq_false (Ne.symm xy_ne), decide_eq_false (Ne.symm xz_ne), Bool.or_false, Bool.or_false, Nat.add_assoc, Nat.add_assoc, g _ _ 0]
  · rw [decide_eq_true (rfl : (("y" : Str) = "y")), decide_eq_false xy_ne, decide_eq_false (Ne.symm yz_ne), Bool.or_false, Bool.or_false]
    have := g (S "y") ((S "x").toNat + (S "z").toNat) 0
    by_cases hs : S "y" = true
    · rw [if_pos hs] at this ⊢; omega
    · rw [if_neg hs] at this ⊢; omega
  · rw [decide_eq_true (rfl : (("z" : Str) = "z")), decide_eq_false xz_ne, decide_eq_false yz_ne, Bool.or_false, Bool.or_false]
    have := g (S "z") ((S "x").toNat + (S "y").toNat) 0
    by_cases hs : S "z" = true
    · rw [if_pos hs] at this ⊢; omega
    · rw [if_neg hs] at this ⊢; omega
def sp_Many_names (K : PySem.W.Frag) : Sp := fun vs H Q _ => ∃ (a : Addr) (P1 : Po), vs = [.ref a] ∧ MnAt K H a P1 ∧
  ∀ (H' : Hp) (l : Addr) (ys : List Str), Same H H' → H l = none → H' l = some (.lst (ys.map V.str)) → (∀ y ∈ ys, Let y) → ys.length ≤ 3 → Q (.ref l) H'
theorem sc_Many_names : FnScope ["self", "names", "name"] ["self"] (defScope s_Many_names) := ⟨rfl, rfl, rfl, by decide +kernel, rfl, by decide +kernel, by decide +kernel⟩
theorem r_Many_names (T : Ok K mg) : FnR P w K mg base CX0 1 (ma K "Many" "names") (sp_Many_names K) := by
  obtain ⟨fd, F⟩ := T.f_Many_names
  refine frn F sc_Many_names (fun _ _ _ _ _ _ us hl => match us, hl with | [_], _ => rfl) (fun vs H Q E h => ?_) (fun cdv A outer s H vs Q E hr h => ?_)
  · obtain ⟨a, P1, rfl, _⟩ := h
    rfl
  · obtain ⟨a, P1, rfl, ⟨dx, D, od, h1, h2⟩, k⟩ := h
    refine ⟨_, (pss_one (ps_ret (pe_callB (cr_sortedTx rfl) (by rfl) T.n_sorted (by decide +kernel) (pa_cons (pe_sx2 (own := [("names", 1), ("name", 2)]) (vs1 := [2]) rfl sc_Many_names.nd (pi_keys (pe_fldK (K := K) rfl (pv 0) rfl)) (blkOk_by (own := [("names", 1), ("name", 2)]) (N := ["self", "names", "name"]) (sc := defScope s_Many_names) (by decide +kernel)) (by decide) (fun _ _ _ _ _ => (pg_name (i := 1) sc_Many_names.nd rfl (Or.inl rfl))) (fun _ _ _ _ _ => pts_nil) (fun _ _ _ _ _ => (pi_tupK (K := K) rfl (pv 1))) (fun _ _ _ _ _ => (pg_name (i := 2) sc_Many_names.nd rfl (Or.inl rfl))) (fun _ _ _ _ _ => pts_nil) (fun _ _ _ _ _ => (pv 2))) pa_nil)))), ?_⟩
    refine ⟨_, rfl, a, _, dx, _, _, rfl, h1, T.cl_Many, T.na_Many_terms, te_at _, D, od, rfl, .inr ⟨enc P1, h2, fun L hL => ?_⟩⟩
    refine walk_any (walk_keysT (o := od)) (fun i H' => ∃ S, H' = upd H L (SetXO w L S (cntL S)) ∧ ∀ k, S k = true → Let k) ⟨fun _ => false, rfl, fun k z => (nomatch z)⟩ (fun i H' _ ⟨S, e, _⟩ => by rw [e, upd_ne (ne_of_none h2 hL)]; exact h2) ?_ ?_
    · rintro i x H' H'' hi ⟨S, rfl, hS⟩ ⟨rfl, k1, v1, q, he, rfl, hq⟩
      obtain ⟨u, hu, rfl, rfl⟩ := enc_at he
      rw [moK_kV] at hq
      have qL : q ≠ L := fun e => by rw [e, upd_same] at hq; cases hq
      refine ⟨rfl, ?_⟩
      refine ⟨_, rfl, q, rfl, ⟨_, SqT.of hq⟩, ?_⟩
      refine walk_any (walk_tup (K := K) (a := q) (xs := (moS u.1).map V.str)) (fun i H' => ∃ S, H' = upd H L (SetXO w L S (cntL S)) ∧ ∀ k, S k = true → Let k) ⟨S, rfl, hS⟩ (fun i H' _ ⟨S', e, _⟩ => by rw [e]; exact SqT.of (by rw [upd_ne qL]; rw [upd_ne qL] at hq; exact hq)) ?_ ?_
      · rintro j x H3 H4 hj ⟨S, rfl, hS⟩ ⟨rfl, hx⟩
        rw [List.getElem?_map] at hx
        cases ec : (moS u.1)[j]? with
        | none => rw [ec] at hx; cases hx
        | some c =>
          rw [ec] at hx
          cases (Option.some.inj hx)
          have hc : Let c := mem_moS (List.mem_of_getElem? ec)
          refine ⟨rfl, ?_⟩
          refine ⟨_, rfl, c, S, cntL S, rfl, upd_same, ?_, ?_⟩
          · have := cntL_le S
            have : 4 < scanBound := by decide +kernel
            omega
          · refine ⟨fun j => S j || decide (j = c), ?_, fun k hk => ?_⟩
            · rw [upd_upd, ← cntL_add hc]
              rfl
            · rcases (Bool.or_eq_true _ _).mp (show (S k || decide (k = c)) = true from hk) with h | h
              · exact hS k h
              · rw [of_decide_eq_true h]
                exact hc
      · rintro H3 ⟨S, e, hS⟩
        exact ⟨S, e, hS⟩
    · rintro H' ⟨S, rfl, hS⟩
      refine ⟨L, rfl, .inr ⟨S, cntL S, upd_same, ?_, fun ys p hy hl hp => ?_⟩⟩
      · have := cntL_le S
        omega
      · have pL : p ≠ L := fun e => by rw [e, upd_same] at hp; cases hp
        have s1 : Same H (upd H L (SetXO w L S (cntL S))) := Same.upd (Same.refl H) hL
        exact k _ p ys (Same.upd s1 (s1.free hp)) (s1.free hp) upd_same (fun y h => hS y (hy y h)) (by rw [hl]; exact cntL_le S)
end
end Ef
/-! text C3g -/
set_option Elab.async false
set_option linter.all false
set_option maxRecDepth 100000
set_option maxHeartbeats 2000000
namespace Ef
open PySem PySem.Spec PyProof.Rows L2 EfB
section
variable {P : Program} {w : World} {K : PySem.W.Frag} {mg : Str → Option Value} {base : Heap}
/-! ### put, value -/
def vK (v : Pt) : List (L2.Key × V) := [(.inr "x", .int v.1), (.inr "y", .int v.2.1), (.inr "z", .int v.2.2)]
def lv (v : Pt) (s : Str) : Int := if s = "x" then v.1 else if s = "y" then v.2.1 else v.2.2
theorem inr_ne {a b : Str} (h : ¬ a = b) : ¬ (Sum.inr a : L2.Key) = Sum.inr b := fun e => h (by injection e)
theorem vK_at {v : Pt} {s : Str} (h : Let s) : valV (vK v) (.inr s) = some (.int (lv v s)) := by
  unfold vK lv
  rcases h with rfl | rfl | rfl
  · rw [valV_pos rfl, if_pos rfl]
  · rw [valV_neg (inr_ne xy_ne), valV_pos rfl, if_neg (Ne.symm xy_ne), if_pos rfl]
  · rw [valV_neg (inr_ne xz_ne), valV_neg (inr_ne yz_ne), valV_pos rfl, if_neg (Ne.symm xz_ne), if_neg (Ne.symm yz_ne)]
def accV (v : Pt) (c : Int) (l : List Str) : Int := l.foldl (fun c s => c * lv v s) c
theorem accV_rep (v : Pt) (s : Str) : ∀ (n : Nat) (c : Int), accV v c (List.replicate n s) = c * lv v s ^ n
  | 0, c => by simp [accV]
  | n + 1, c => by
    have h := accV_rep v s n (c * lv v s)
    unfold accV at h ⊢
    rw [List.replicate_succ, List.foldl_cons, h, Int.pow_succ, Int.mul_assoc, Int.mul_comm (lv v s)]
theorem accV_mo (v : Pt) (c : Int) (m : Mo) : accV v c (moS m) = c * mv m v := by
  have e : ∀ c l l', accV v c (l ++ l') = accV v (accV v c l) l' := fun c l l' => by unfold accV; rw [List.foldl_append]
  unfold moS
  rw [e, e, accV_rep, accV_rep, accV_rep]
  have h1 : lv v "x" = v.1 := if_pos rfl
  have h2 : lv v "y" = v.2.1 := by unfold lv; rw [if_neg (Ne.symm xy_ne), if_pos rfl]
  have h3 : lv v "z" = v.2.2 := by unfold lv; rw [if_neg (Ne.symm xz_ne), if_neg (Ne.symm yz_ne)]
  rw [h1, h2, h3]
  unfold mv
  rw [Int.mul_assoc, Int.mul_assoc, Int.mul_assoc]
theorem accV_take {v : Pt} {c : Int} {l : List Str} {i : Nat} {s : Str} (h : l[i]? = some s) : accV v c (l.take (i + 1)) = accV v c (l.take i) * lv v s := by
  unfold accV
  rw [List.take_add_one, h, List.foldl_append]
  rfl
def putT (v : Pt) (P1 : Po) : Po := P1.map fun t => ((0, 0, 0), t.2 * mv t.1 v)
theorem putT_take {v : Pt} {P1 : Po} {i : Nat} {u : Mo × Int} (h : P1[i]? = some u) : putT v (P1.take (i + 1)) = putT v (P1.take i) ++ [((0, 0, 0), u.2 * mv u.1 v)] := by
  unfold putT
  rw [List.take_add_one, h, List.map_append]
  rfl
theorem cf_putT (v : Pt) (P1 : Po) : cf (putT v P1) (0, 0, 0) = ev P1 v := by
  induction P1 with
  | nil => rfl
  | cons t r ih =>
    show (if ((0, 0, 0) : Mo) = (0, 0, 0) then t.2 * mv t.1 v else 0) + cf (putT v r) (0, 0, 0) = t.2 * mv t.1 v + ev r v
    rw [if_pos rfl, ih]
def PtS (v : Pt) : Prop := v.1.natAbs < 1000 ∧ v.2.1.natAbs < 1000 ∧ v.2.2.natAbs < 1000
theorem lv_small {v : Pt} (h : PtS v) (s : Str) : (lv v s).natAbs < 1000 := by
  unfold lv
  split
  · exact h.1
  · split
    · exact h.2.1
    · exact h.2.2
def sp_Many_put (K : PySem.W.Frag) : Sp := fun vs H Q _ => ∃ (a d : Addr) (P1 : Po) (v : Pt), vs = [.ref a, .ref d] ∧ MnAt K H a P1 ∧ H d = some (.dK (vK v)) ∧ P1.length < 16000 ∧ PtS v ∧
  ∀ (H' : Hp) (c : Addr), Same H H' → H c = none → MnAt K H' c (gath (putT v P1)) → Q (.ref c) H'
theorem sc_Many_put : FnScope ["self", "values", "terms", "names", "coefficient", "name"] ["self", "values"] (defScope s_Many_put) := ⟨rfl, rfl, rfl, by decide +kernel, rfl, by decide +kernel, by decide +kernel⟩
theorem r_Many_put (T : Ok K mg) : FnR P w K mg base CX0 4 (ma K "Many" "put") (sp_Many_put K) := by
  obtain ⟨fd, F⟩ := T.f_Many_put
  refine frn F sc_Many_put (fun _ _ _ _ _ _ us hl => match us, hl with | [_, _], _ => rfl) (fun vs H Q E h => ?_) (fun cdv A outer s H vs Q E hr h => ?_)
  · obtain ⟨a, d, P1, v, rfl, _⟩ := h
    rfl
  · obtain ⟨a, d, P1, v, rfl, ⟨dx, D, od, h1, h2⟩, hd, hn, hv, k⟩ := h
    refine ⟨_, (pss_cons (ps_set (i := 2) sc_Many_put.nd rfl (Or.inl rfl) (pe_lst pa_nil))
      (pss_cons (ps_for PassesOwn.never rfl (pi_itemsT (pe_fldK (K := K) rfl (pv 0) rfl)) (pg_tupK (K := K) (n := 2) rfl rfl (pgs_cons (pg_name (i := 3) sc_Many_put.nd rfl (Or.inl rfl)) (pgs_cons (pg_name (i := 4) sc_Many_put.nd rfl (Or.inl rfl)) pgs_nil)))
        (pss_cons (ps_for PassesOwn.never rfl (pi_tupK (K := K) rfl (pv 3)) (pg_name (i := 5) sc_Many_put.nd rfl (Or.inl rfl))
          (pss_one (ps_set (i := 4) sc_Many_put.nd rfl (Or.inl rfl) (pe_op op_mul (pv 4) (pe_dget2 (hu_of hr) (pv 1) (pv 5) pe_int ⟨rfl, rfl, rfl, rfl⟩)))))
        (pss_one (ps_expr (pe_bm PySem.F.plainAttrs_list PySem.F.slot_list_append PySem.F.type_list_append mt_append (pv 2) (pa_cons (pe_tup (pa_cons (pe_callTy (call_tupK (K := K) rfl) (by rfl) T.n_tuple (by decide +kernel) (pa_cons (pe_lc (own := [("name", 5)]) rfl sc_Many_put.nd (pi_tupK (K := K) rfl (pv 3)) (blkOk_by (own := [("name", 5)]) (N := ["self", "values", "terms", "names", "coefficient", "name"]) (sc := (defScope s_Many_put)) (by decide +kernel)) (fun _ _ _ _ _ => (pg_name (i := 5) sc_Many_put.nd rfl (Or.inl rfl))) (by exact fun _ _ _ _ _ => pts_one (pt_cmp (pc_dnotin (hu_of hr) (pv 5) (pv 1)))) (by exact fun _ _ _ _ _ => (pv 5))) pa_nil)) (pa_cons (pv 4) pa_nil))) pa_nil))))))
      (pss_one (ps_ret (StX.pe_makeR T.mk_Many (r_Many_init T) (hr.mono (by decide)) rfl T.g_Many pass0 (pa_cons (pv 2) pa_nil)))))), ?_⟩
    refine ⟨Nat.zero_le _, fun L hL => ?_⟩
    refine ⟨_, rfl, a, _, dx, _, _, rfl, by rw [upd_ne (ne_of_none h1 hL)]; exact h1, T.cl_Many, T.na_Many_terms, te_at _, D, od, _, rfl, by rw [upd_ne (ne_of_none h2 hL)]; exact h2, ?_⟩
    refine for_it (walkT (o := od)) (fun i σ H' => ∃ n c m, σ = [some (.ref a), some (.ref d), some (.ref L), n, c, m] ∧ Bld H L H' (putT v (P1.take i))) ⟨none, none, none, rfl, bld_nil hL⟩ (fun i σ H' _ ⟨_, _, _, _, p⟩ => p.1 _ _ h2) ?_ ?_
    · rintro i x σ H' H'' hi ⟨n, c, m, rfl, bl⟩ ⟨T1, k1, v1, q, he, rfl, hT, hq, rfl⟩
      obtain ⟨u, hu, rfl, rfl⟩ := enc_at he
      rw [moK_kV] at hq
      refine ⟨T1, _, rfl, SqT.of upd_same, rfl, _, _, rfl, _, _, rfl, rfl, ?_⟩
      have s1 : Same H' (upd H' T1 (.tup [.ref q, .int u.2])) := Same.upd (Same.refl _) hT
      have hq1 := s1 _ _ hq
      have bl1 := bl.up s1
      generalize upd H' T1 (.tup [.ref q, .int u.2]) = H1 at hq1 bl1 s1
      have hd1 : H1 d = some (.dK (vK v)) := bl1.1 _ _ hd
      have hi' : i < P1.length := by rw [← enc_len]; exact hi
      refine ⟨_, rfl, q, rfl, ⟨_, SqT.of hq1⟩, ?_⟩
      refine for_it (walk_tup (K := K) (a := q) (xs := (moS u.1).map V.str)) (fun j σ H' => ∃ m, σ = [some (.ref a), some (.ref d), some (.ref L), some (.ref q), some (.int (accV v u.2 ((moS u.1).take j))), m] ∧ H' = H1) ⟨m, rfl, rfl⟩ (fun i σ H' _ ⟨_, _, e⟩ => by rw [e]; exact SqT.of hq1) ?_ ?_
      · rintro j x σ H2 H3 hj ⟨m, rfl, rfl⟩ ⟨rfl, hx⟩
        rw [List.getElem?_map] at hx
        cases ec : (moS u.1)[j]? with
        | none => rw [ec] at hx; cases hx
        | some c =>
          rw [ec] at hx
          cases (Option.some.inj hx)
          have hc : Let c := mem_moS (List.mem_of_getElem? ec)
          have hl := lv_small hv c
          refine ⟨_, rfl, _, rfl, d, rfl, .inl ⟨_, .inl hd1⟩, _, rfl, some (.int (lv v c)), ?_, _, _, rfl, rfl, .inr ⟨by omega, by omega⟩, ?_⟩
          · rw [← vK_at hc]
            exact DGet.k (k := .inr c) hd1
          · refine ⟨some (.str c), ?_, rfl⟩
            rw [accV_take ec]
            rfl
      · rintro σ H2 ⟨m, rfl, rfl⟩
        rw [List.length_map, List.take_length, accV_mo]
        obtain ⟨as, ha, hpa⟩ := bl1.2
        refine ⟨_, rfl, .inl ⟨rfl, _, SqL.of ha⟩, ?_⟩
        refine ⟨_, rfl, q, rfl, ⟨_, SqT.of hq1⟩, fun M hM => ?_⟩
        refine lc_it (walk_tup (K := K) (a := q) (xs := (moS u.1).map V.str)) (fun j H' => H' = upd H2 M (.lst [])) rfl (fun j H' _ e => by rw [e]; exact SqT.of (by rw [upd_ne (ne_of_none hq1 hM)]; exact hq1)) ?_ ?_
        · rintro j x H3 H4 hj rfl ⟨rfl, hx⟩
          rw [List.getElem?_map] at hx
          cases ec : (moS u.1)[j]? with
          | none => rw [ec] at hx; cases hx
          | some c =>
            rw [ec] at hx
            cases (Option.some.inj hx)
            have hc : Let c := mem_moS (List.mem_of_getElem? ec)
            refine ⟨rfl, ?_⟩
            refine ⟨_, rfl, _, rfl, d, some (.int (lv v c)), rfl, ?_, _, rfl, ?_⟩
            · rw [← vK_at hc]
              exact DGet.k (k := .inr c) (by rw [upd_ne (ne_of_none hd1 hM)]; exact hd1)
            · exact iteF rfl
        · rintro H3 rfl
          have s2 : Same H2 (upd H2 M (.lst [])) := Same.upd (Same.refl _) hM
          refine ⟨M, _, rfl, .inl ⟨SqL.of upd_same, fun y hy => ?_⟩⟩
          have s3 := Same.upd (o := .tup []) s2 (s2.free hy)
          refine ⟨_, rfl, ?_, fun t ht => ?_⟩
          · show 2 ≤ _
            rw [sizeLine_eq]; decide
          · have s4 := Same.upd (o := .tup [.ref y, .int (u.2 * mv u.1 v)]) s3 (s3.free ht)
            have yt : y ≠ t := fun e => by rw [← e, upd_same] at ht; cases ht
            obtain ⟨acc, g1, g2, g3⟩ := bld_snoc (m := (0, 0, 0)) (c := u.2 * mv u.1 v) (t := t) (q := y) hL (bl1.up s4) (by unfold putT; rw [List.length_map, List.length_take]; omega) upd_same (by rw [upd_ne yt, upd_same, moK_kV, moS_0]; rfl)
            refine ⟨L, acc, _, rfl, rfl, g1, g2, _, _, _, rfl, ?_⟩
            rw [putT_take hu]
            exact g3
    · rintro σ H' ⟨n, c, m, rfl, bl⟩
      rw [enc_len, List.take_length] at bl
      refine ⟨_, rfl, ?_⟩
      refine mkMany bl.terms (by unfold putT; rw [List.length_map]; exact hn) fun H2 c sm na hm => k H2 c (bl.1.trans sm) (bl.1.free na) hm
end
end Ef
/-! text C3h -/
set_option Elab.async false
set_option linter.all false
set_option maxRecDepth 100000
set_option maxHeartbeats 2000000
namespace Ef
open PySem PySem.Spec PyProof.Rows L2 EfB
section
variable {P : Program} {w : World} {K : PySem.W.Frag} {mg : Str → Option Value} {base : Heap}
def sp_Many_value (K : PySem.W.Frag) : Sp := fun vs H Q _ => ∃ (a d : Addr) (P1 : Po) (v : Pt) (p : Int), vs = [.ref a, .ref d, .int p] ∧ MnAt K H a P1 ∧ H d = some (.dK (vK v)) ∧ P1.length < 16000 ∧ PtS v ∧ IsCh p ∧ p.natAbs < 2 ^ 60 ∧
  ∀ (H' : Hp) (r : Int), Same H H' → (r = 0 ↔ p ∣ ev P1 v) → (p = 0 → r = ev P1 v) → Q (.int r) H'
theorem sc_Many_value : FnScope ["self", "values", "p", "name", "found"] ["self", "values", "p"] (defScope s_Many_value) := ⟨rfl, rfl, rfl, by decide +kernel, rfl, by decide +kernel, by decide +kernel⟩
theorem len_putT (v : Pt) (P1 : Po) : (putT v P1).length = P1.length := List.length_map _
theorem lk_put (v : Pt) (P1 : Po) : (lk (gath (putT v P1)) (0, 0, 0)).getD 0 = ev P1 v := by
  rw [lk_cf (wf_gath _).1, cf_gath, cf_putT]
theorem r_Many_value (T : Ok K mg) : FnRK P w K mg base CX0 5 (ma K "Many" "value") 2 ["p"] (sp_Many_value K) := by
  obtain ⟨fd, F⟩ := T.f_Many_value
  refine frnk F sc_Many_value (fun _ _ _ _ _ _ us ws hl hw => match us, ws, hl, hw with | [_, _], [_], _, _ => rfl) (fun vs H Q E h => ?_) (fun cdv A outer s H vs Q E hr h => ?_)
  · obtain ⟨a, d, P1, v, p, rfl, _⟩ := h
    rfl
  · obtain ⟨a, d, P1, v, p, rfl, m1, hd, hn, hv, hp, hp60, k⟩ := h
    obtain ⟨dx, D, od, h1, h2⟩ := id m1
    refine ⟨_, (pss_cons (ps_expr (pe_callR (r_checked T) (hr.mono (by decide)) (kp_of T.f_checked) rfl T.g_checked pass0 (pa_cons (pv 2) pa_nil)))
      (pss_cons (ps_for PassesOwn.never rfl (pi_listK (K := K) rfl (pe_methR0 (pv 0) T.cl_Many T.me_Many_names (r_Many_names T) (hr.mono (by decide)) pass0)) (pg_name (i := 3) sc_Many_value.nd rfl (Or.inl rfl))
        (pss_one (ps_if (pt_cmp (pc_dnotin (hu_of hr) (pv 3) (pv 1)))
          (pss_one ps_never) pss_nil)))
      (pss_cons (ps_set (i := 4) sc_Many_value.nd rfl (Or.inl rfl) (pe_dget2 (hu_of hr) (pe_fldK (K := K) rfl (pe_methR (pv 0) T.cl_Many T.me_Many_put (r_Many_put T) (hr.mono (by decide)) pass0 (pa_cons (pv 1) pa_nil)) rfl) (pe_tup pa_nil) pe_int ⟨rfl, rfl, rfl, rfl⟩))
      (pss_one (ps_ret (pe_ifExp (pt_cmpR op_eq (pv 2) pe_int (nomark _)) (pv 4) (pe_op op_modN (pv 4) (pv 2)))))))), ?_⟩
    refine ⟨_, rfl, p, rfl, hp, hp60, ?_⟩
    refine ⟨_, rfl, a, dx, _, rfl, h1, by rw [lookup_putF, if_neg (by decide +kernel)]; rfl, a, P1, rfl, m1, fun H1 l ys s1 nl hl hy h3 => ?_⟩
    refine ⟨l, rfl, ⟨_, SqL.of hl⟩, ?_⟩
    refine for_it (walk_list (K := K) (a := l) (xs := ys.map V.str)) (fun i σ H' => ∃ n f, σ = [some (.ref a), some (.ref d), some (.int p), n, f] ∧ H' = H1) ⟨none, none, rfl, rfl⟩ (fun i σ H' _ ⟨_, _, _, e⟩ => by rw [e]; exact SqL.of hl) ?_ ?_
    · rintro i x σ H' H'' hi ⟨n, f, rfl, rfl⟩ ⟨rfl, hx⟩
      rw [List.getElem?_map] at hx
      cases ec : ys[i]? with
      | none => rw [ec] at hx; cases hx
      | some c =>
        rw [ec] at hx
        cases (Option.some.inj hx)
        have hc : Let c := hy c (List.mem_of_getElem? ec)
        refine ⟨_, rfl, _, rfl, d, some (.int (lv v c)), rfl, ?_, _, rfl, ?_⟩
        · rw [← vK_at hc]
          exact DGet.k (k := .inr c) (s1 _ _ hd)
        · exact iteF ⟨_, _, rfl, rfl⟩
    · rintro σ H' ⟨n, f, rfl, rfl⟩
      refine ⟨_, rfl, a, dx, _, rfl, s1 _ _ h1, by rw [lookup_putF, if_neg (by decide +kernel)]; rfl, _, rfl, ?_⟩
      refine ⟨a, d, P1, v, rfl, m1.same s1, s1 _ _ hd, hn, hv, fun H2 c s2 nc ⟨dy, D2, od2, h4, h5⟩ => ?_⟩
      refine ⟨c, _, dy, _, _, rfl, h4, T.cl_Many, T.na_Many_terms, te_at _, D2, rfl, .inr ⟨_, .inr ⟨_, h5⟩⟩, Nat.zero_le _, fun e he => ?_⟩
      refine ⟨(lk (gath (putT v P1)) (0, 0, 0)).map V.int, ?_, ?_⟩
      · rw [← valV_enc]
        have e0 : ([] : List V) = (moK (0, 0, 0)).map kV := by rw [moK_kV, moS_0]; rfl
        rw [e0]
        exact .inr ⟨_, _, e, .inr ⟨_, by rw [upd_ne (ne_of_none h5 he)]; exact h5⟩, rfl, upd_same, rfl⟩
      have ed : ((lk (gath (putT v P1)) (0, 0, 0)).map V.int).getD (.int 0) = .int (ev P1 v) := by
        rw [← lk_put]
        cases lk (gath (putT v P1)) (0, 0, 0) <;> rfl
      have s3 := (s1.trans s2)
      refine ⟨_, rfl, rfl, _, rfl, ifEq (fun h0 => ?_) fun h0 => ?_⟩
      · refine ⟨_, rfl, ?_⟩
        show Q _ _
        rw [ed]
        refine k _ _ (Same.upd s3 (s3.free he)) ?_ fun _ => rfl
        rw [h0]
        exact Int.zero_dvd.symm
      · refine ⟨_, rfl, _, rfl, ev P1 v, p, ed, rfl, ?_, ?_⟩
        · exact h0
        · refine k _ _ (Same.upd s3 (s3.free he)) ?_ fun z => absurd z h0
          exact fmod_zero_iff h0
end
end Ef
/-! text C4a -/
set_option Elab.async false
set_option linter.all false
set_option maxRecDepth 100000
set_option maxHeartbeats 2000000
namespace Ef
open PySem PySem.Spec PyProof.Rows L2 EfB
section
variable {P : Program} {w : World} {K : PySem.W.Frag} {mg : Str → Option Value} {base : Heap}
/-! ### matrices in the heap -/
def refV (n : Nat) (rs : Nat → Addr) : List V := (List.range n).map fun i => V.ref (rs i)
def rowV (n : Nat) (f : Nat → Int) : List V := (List.range n).map fun j => V.int (f j)
theorem rng_set {α : Type} {n t : Nat} (f : Nat → α) (x : α) : ((List.range n).map f).set t x = (List.range n).map fun i => if i = t then x else f i := by
  apply List.ext_getElem?
  intro i
  rw [List.getElem?_set]
  by_cases h : t = i
  · subst h
    rw [if_pos rfl, List.getElem?_map]
    by_cases hn : t < n
    · rw [if_pos (by rw [List.length_map, List.length_range]; exact hn), List.getElem?_range hn]
      simp
    · rw [if_neg (by rw [List.length_map, List.length_range]; exact hn), List.getElem?_eq_none (by rw [List.length_range]; omega)]
      rfl
  · rw [if_neg h, List.getElem?_map, List.getElem?_map]
    by_cases hn : i < n
    · rw [List.getElem?_range hn]
      simp [Ne.symm h]
    · rw [List.getElem?_eq_none (by rw [List.length_range]; omega)]
      rfl
theorem refV_len (n : Nat) (rs : Nat → Addr) : (refV n rs).length = n := by unfold refV; rw [List.length_map, List.length_range]
theorem rowV_len (n : Nat) (f : Nat → Int) : (rowV n f).length = n := by unfold rowV; rw [List.length_map, List.length_range]
theorem refV_at {n i : Nat} {rs : Nat → Addr} (h : i < n) : (refV n rs)[i]? = some (.ref (rs i)) := by unfold refV; rw [List.getElem?_map, List.getElem?_range h]; rfl
theorem rowV_at {n i : Nat} {f : Nat → Int} (h : i < n) : (rowV n f)[i]? = some (.int (f i)) := by unfold rowV; rw [List.getElem?_map, List.getElem?_range h]; rfl
theorem refV_set (n t : Nat) (rs : Nat → Addr) (p : Addr) : (refV n rs).set t (.ref p) = refV n (fun i => if i = t then p else rs i) := by
  unfold refV
  rw [rng_set]
  refine List.map_congr_left fun i _ => ?_
  show _ = V.ref (if i = t then p else rs i)
  split <;> rfl
theorem rowV_set (n t : Nat) (f : Nat → Int) (x : Int) : (rowV n f).set t (.int x) = rowV n (fun i => if i = t then x else f i) := by
  unfold rowV
  rw [rng_set]
  refine List.map_congr_left fun i _ => ?_
  show _ = V.int (if i = t then x else f i)
  split <;> rfl
theorem row_congr {n : Nat} {f g : Nat → Int} (h : ∀ j, j < n → f j = g j) : rowV n f = rowV n g := List.map_congr_left fun j hj => by rw [h j (List.mem_range.mp hj)]
theorem ref_congr {n : Nat} {f g : Nat → Addr} (h : ∀ j, j < n → f j = g j) : refV n f = refV n g := List.map_congr_left fun j hj => by rw [h j (List.mem_range.mp hj)]
theorem ixN_ref {n j : Nat} {rs : Nat → Addr} (h : j < n) : ixN (refV n rs).length (j : Nat) = some j := by rw [refV_len]; exact Evl.ixN_nat h
theorem ixN_row {n j : Nat} {f : Nat → Int} (h : j < n) : ixN (rowV n f).length (j : Nat) = some j := by rw [rowV_len]; exact Evl.ixN_nat h
/-- a list of n lists of n numbers, L its address, rs those of the rows -/
structure LM (H : Hp) (L : Addr) (rs : Nat → Addr) (n : Nat) (M : Mx) : Prop where
  top : H L = some (.lst (refV n rs))
  row : ∀ i, i < n → H (rs i) = some (.lst (rowV n (M i)))
  inj : ∀ i j, i < n → j < n → rs i = rs j → i = j
  neL : ∀ i, i < n → rs i ≠ L
theorem LM.same {H H' : Hp} {L : Addr} {rs : Nat → Addr} {n : Nat} {M : Mx} (h : LM H L rs n M) (s : Same H H') : LM H' L rs n M := ⟨s _ _ h.top, fun i hi => s _ _ (h.row i hi), h.inj, h.neL⟩
theorem LM.off {H : Hp} {L p : Addr} {rs : Nat → Addr} {n : Nat} {M : Mx} {o : HO} (h : LM H L rs n M) (h1 : p ≠ L) (h2 : ∀ i, i < n → p ≠ rs i) : LM (upd H p o) L rs n M :=
  ⟨by rw [upd_ne h1.symm]; exact h.top, fun i hi => by rw [upd_ne (h2 i hi).symm]; exact h.row i hi, h.inj, h.neL⟩
theorem LM.new {H : Hp} {L p : Addr} {rs : Nat → Addr} {n : Nat} {M : Mx} {o : HO} (h : LM H L rs n M) (hp : H p = none) : LM (upd H p o) L rs n M := h.same (Same.upd (Same.refl _) hp)
theorem LM.congr {H : Hp} {L : Addr} {rs : Nat → Addr} {n : Nat} {M M' : Mx} (h : LM H L rs n M) (e : ∀ i j, i < n → j < n → M i j = M' i j) : LM H L rs n M' :=
  ⟨h.top, fun i hi => by rw [← row_congr (f := M i) (fun j hj => e i j hi hj)]; exact h.row i hi, h.inj, h.neL⟩
theorem LM.setE {H : Hp} {L : Addr} {rs : Nat → Addr} {n i j : Nat} {M : Mx} {x : Int} (h : LM H L rs n M) (hi : i < n) : LM (upd H (rs i) (.lst ((rowV n (M i)).set j (.int x)))) L rs n (setE M i j x) := by
  refine ⟨by rw [upd_ne (h.neL i hi).symm]; exact h.top, fun k hk => ?_, h.inj, h.neL⟩
  by_cases e : k = i
  · subst e
    rw [upd_same, rowV_set]
    congr 2
    refine row_congr fun c _ => ?_
    unfold Ef.setE
    by_cases ec : c = j
    · rw [if_pos ec, if_pos ⟨rfl, ec⟩]
    · rw [if_neg ec, if_neg fun z => ec z.2]
  · rw [upd_ne (fun z => e (h.inj k i hk hi z)), h.row k hk]
    congr 2
    refine row_congr fun c _ => ?_
    unfold Ef.setE
    rw [if_neg fun z => e z.1]
/-- another row in its place -/
theorem LM.setRow {H : Hp} {L p : Addr} {rs : Nat → Addr} {n t : Nat} {M : Mx} {f : Nat → Int} (h : LM H L rs n M) (hp : H p = some (.lst (rowV n f))) (h1 : p ≠ L) (h2 : ∀ i, i < n → p ≠ rs i) :
    LM (upd H L (.lst ((refV n rs).set t (.ref p)))) L (fun i => if i = t then p else rs i) n (fun i j => if i = t then f j else M i j) := by
  refine ⟨by rw [upd_same, refV_set], fun i hi => ?_, fun i j hi hj e => ?_, fun i hi => ?_⟩
  · by_cases e : i = t
    · simp only [if_pos e]
      rw [upd_ne h1]
      exact hp
    · simp only [if_neg e]
      rw [upd_ne (h.neL i hi)]
      exact h.row i hi
  · by_cases e1 : i = t
    · by_cases e2 : j = t
      · rw [e1, e2]
      · simp only [if_pos e1, if_neg e2] at e
        exact absurd e (h2 j hj)
    · by_cases e2 : j = t
      · simp only [if_neg e1, if_pos e2] at e
        exact absurd e.symm (h2 i hi)
      · simp only [if_neg e1, if_neg e2] at e
        exact h.inj i j hi hj e
  · by_cases e1 : i = t
    · simp only [if_pos e1]; exact h1
    · simp only [if_neg e1]; exact h.neL i hi
/-- two rows in each other's place -/
theorem LM.swap {H : Hp} {L : Addr} {rs : Nat → Addr} {n r s : Nat} {M : Mx} (h : LM H L rs n M) (hr : r < n) (hs : s < n) :
    LM (upd H L (.lst (((refV n rs).set r (.ref (rs s))).set s (.ref (rs r))))) L (fun i => if i = s then rs r else if i = r then rs s else rs i) n (swapR M r s) := by
  refine ⟨by rw [upd_same, refV_set, refV_set], fun i hi => ?_, fun i j hi hj e => ?_, fun i hi => ?_⟩
  · unfold swapR
    by_cases e1 : i = s
    · simp only [if_pos e1]
      rw [upd_ne (h.neL r hr), h.row r hr]
      congr 2
      refine row_congr fun c _ => ?_
      by_cases e2 : i = r
      · rw [if_pos e2, ← e1, e2]
      · rw [if_neg e2]
    · simp only [if_neg e1]
      by_cases e2 : i = r
      · simp only [if_pos e2]
        rw [upd_ne (h.neL s hs)]
        exact h.row s hs
      · simp only [if_neg e2]
        rw [upd_ne (h.neL i hi)]
        exact h.row i hi
  · have g : ∀ k, (if k = s then rs r else if k = r then rs s else rs k) = rs (if k = s then r else if k = r then s else k) := fun k => by
      split
      · rfl
      · split <;> rfl
    have e : (if i = s then rs r else if i = r then rs s else rs i) = (if j = s then rs r else if j = r then rs s else rs j) := e
    rw [g, g] at e
    have lt : ∀ k, k < n → (if k = s then r else if k = r then s else k) < n := fun k hk => by
      split
      · exact hr
      · split
        · exact hs
        · exact hk
    have e := h.inj _ _ (lt i hi) (lt j hj) e
    split at e <;> (split at e <;> (try split at e)) <;> (try split at e) <;> omega
  · by_cases e1 : i = s
    · simp only [if_pos e1]; exact h.neL r hr
    · by_cases e2 : i = r
      · simp only [if_neg e1, if_pos e2]; exact h.neL s hs
      · simp only [if_neg e1, if_neg e2]; exact h.neL i hi
/-- a tuple of n tuples of n numbers -/
def TM (H : Hp) (t : Addr) (n : Nat) (M : Mx) : Prop := ∃ ts : Nat → Addr, H t = some (.tup (refV n ts)) ∧ ∀ i, i < n → H (ts i) = some (.tup (rowV n (M i)))
theorem TM.same {H H' : Hp} {t : Addr} {n : Nat} {M : Mx} (h : TM H t n M) (s : Same H H') : TM H' t n M := let ⟨ts, h1, h2⟩ := h; ⟨ts, s _ _ h1, fun i hi => s _ _ (h2 i hi)⟩
def mxF (t : Addr) (n : Nat) : List (Str × V) := putF "width" (.int n) (putF "height" (.int n) (putF "rows" (.ref t) []))
theorem mxF_rows (t : Addr) (n : Nat) : (mxF t n).lookup ("rows" : Str) = some (.ref t) := by
  unfold mxF
  rw [lookup_putF, if_neg (by decide +kernel), lookup_putF, if_neg (by decide +kernel), lookup_putF, if_pos rfl]
theorem mxF_h (t : Addr) (n : Nat) : (mxF t n).lookup ("height" : Str) = some (.int n) := by
  unfold mxF
  rw [lookup_putF, if_neg (by decide +kernel), lookup_putF, if_pos rfl]
theorem mxF_w (t : Addr) (n : Nat) : (mxF t n).lookup ("width" : Str) = some (.int n) := by
  unfold mxF
  rw [lookup_putF, if_pos rfl]
theorem mxF_det (t : Addr) (n : Nat) : (mxF t n).lookup ("determinant" : Str) = none := by
  unfold mxF
  rw [lookup_putF, if_neg (by decide +kernel), lookup_putF, if_neg (by decide +kernel), lookup_putF, if_neg (by decide +kernel)]
  rfl
/-- a square Matrix at a -/
def MxAt (K : PySem.W.Frag) (H : Hp) (a : Addr) (n : Nat) (M : Mx) : Prop := ∃ dx t, H a = some (.ins (ga K "Matrix") dx (mxF t n)) ∧ TM H t n M
theorem MxAt.same {K : PySem.W.Frag} {H H' : Hp} {a : Addr} {n : Nat} {M : Mx} (h : MxAt K H a n M) (s : Same H H') : MxAt K H' a n M := let ⟨dx, t, h1, h2⟩ := h; ⟨dx, t, s _ _ h1, h2.same s⟩
theorem TM.congr {H : Hp} {t : Addr} {n : Nat} {M M' : Mx} (h : TM H t n M) (e : ∀ i j, i < n → j < n → M i j = M' i j) : TM H t n M' := let ⟨ts, h1, h2⟩ := h
  ⟨ts, h1, fun i hi => by rw [← row_congr (f := M i) (fun j hj => e i j hi hj)]; exact h2 i hi⟩
/-- a sequence (list or tuple) of n sequences of n numbers -/
def QM (K : PySem.W.Frag) (H : Hp) (l : Addr) (n : Nat) (M : Mx) : Prop := ∃ rs : Nat → Addr, (H l = some (.lst (refV n rs)) ∨ H l = some (.tup (refV n rs))) ∧ ∀ i, i < n → H (rs i) = some (.lst (rowV n (M i))) ∨ H (rs i) = some (.tup (rowV n (M i)))
end
end Ef
/-! text C4b -/
set_option Elab.async false
set_option linter.all false
set_option maxRecDepth 100000
set_option maxHeartbeats 2000000
namespace Ef
open PySem PySem.Spec PyProof.Rows L2 EfB
section
variable {P : Program} {w : World} {K : PySem.W.Frag} {mg : Str → Option Value} {base : Heap}
theorem refV_succ (i : Nat) (ts : Nat → Addr) (t : Addr) : refV (i + 1) (fun j => if j = i then t else ts j) = refV i ts ++ [V.ref t] := by
  unfold refV
  rw [List.range_succ, List.map_append]
  congr 1
  · refine List.map_congr_left fun j hj => ?_
    have := List.mem_range.mp hj
    show V.ref (if j = i then t else ts j) = _
    rw [if_neg (by omega)]
  · show [V.ref (if i = i then t else ts i)] = _
    rw [if_pos rfl]
theorem rowV_succ (i : Nat) (f : Nat → Int) : rowV (i + 1) f = rowV i f ++ [V.int (f i)] := by
  unfold rowV
  rw [List.range_succ, List.map_append]
  rfl
theorem refV_get {n i : Nat} {rs : Nat → Addr} {x : V} (hi : i < n) (h : (refV n rs)[i]? = some x) : x = .ref (rs i) := by
  rw [refV_at hi] at h
  exact (Option.some.inj h).symm
theorem rowV_get {n i : Nat} {f : Nat → Int} {x : V} (hi : i < n) (h : (rowV n f)[i]? = some x) : x = .int (f i) := by
  rw [rowV_at hi] at h
  exact (Option.some.inj h).symm
def sp_Matrix_init (K : PySem.W.Frag) : Sp := fun vs H Q _ => ∃ (x dx l : Addr) (rs : Nat → Addr) (n : Nat) (M : Mx), vs = [.ref x, .ref l] ∧ H x = some (.ins (ga K "Matrix") dx []) ∧ LM H l rs n M ∧ 0 < n ∧ n < 100 ∧
  ∀ H' : Hp, MxAt K H' x n M → (∀ c o, H c = some o → c ≠ x → H' c = some o) → Q .non H'
theorem sc_Matrix_init : FnScope ["self", "rows", "row", "at"] ["self", "rows"] (defScope s_Matrix_init) := ⟨rfl, rfl, rfl, by decide +kernel, rfl, by decide +kernel, by decide +kernel⟩
theorem r_Matrix_init (T : Ok K mg) : FnR P w K mg base CX0 1 (ma K "Matrix" "__init__") (sp_Matrix_init K) := by
  obtain ⟨fd, F⟩ := T.f_Matrix_init
  refine frn F sc_Matrix_init (fun _ _ _ _ _ _ us hl => match us, hl with | [_, _], _ => rfl) (fun vs H Q E h => ?_) (fun cdv A outer s H vs Q E hr h => ?_)
  · obtain ⟨x, dx, l, rs, n, M, rfl, _⟩ := h
    rfl
  · obtain ⟨x, dx, l, rs, n, M, rfl, hx, hl, hn0, hn, k⟩ := h
    refine ⟨_, (pss_cons (ps_fld (pv 0) (pe_callTy (call_tupK (K := K) rfl) (by rfl) T.n_tuple (by decide +kernel) (pa_cons (pe_lc (own := [("row", 2)]) rfl sc_Matrix_init.nd (pi_listK (K := K) rfl (pv 1)) (blkOk_by (own := [("row", 2)]) (N := ["self", "rows", "row", "at"]) (sc := (defScope s_Matrix_init)) (by decide +kernel)) (fun _ _ _ _ _ => (pg_name (i := 2) sc_Matrix_init.nd rfl (Or.inl rfl))) (fun _ _ _ _ _ => pts_nil) (by exact fun _ _ _ _ _ => (pe_callTy (call_tupK (K := K) rfl) (by rfl) T.n_tuple (by decide +kernel) (pa_cons (pv 2) pa_nil)))) pa_nil)) rfl)
      (pss_cons (ps_fld (pv 0) (pe_callB (call_lenK (K := K) rfl) (by rfl) T.n_len (by decide +kernel) (pa_cons (pe_fldK (K := K) rfl (pv 0) rfl) pa_nil)) rfl)
      (pss_cons (ps_fld (pv 0) (pe_callB (call_lenK (K := K) rfl) (by rfl) T.n_len (by decide +kernel) (pa_cons (pe_ix (ix_tupK (K := K) rfl) (pe_fldK (K := K) rfl (pv 0) rfl) pe_int (fun _ _ => rfl)) pa_nil)) rfl)
      (pss_one (ps_for PassesOwn.never rfl (pi_enumT (by rfl) T.n_enumerate (pa_cons (pe_fldK (K := K) rfl (pv 0) rfl) pa_nil)) (pg_tupK (K := K) (n := 2) rfl rfl (pgs_cons (pg_name (i := 3) sc_Matrix_init.nd rfl (Or.inl rfl)) (pgs_cons (pg_name (i := 2) sc_Matrix_init.nd rfl (Or.inl rfl)) pgs_nil)))
        (pss_one (ps_if (pt_cmpR op_ne (pe_callB (call_lenK (K := K) rfl) (by rfl) T.n_len (by decide +kernel) (pa_cons (pv 2) pa_nil)) (pe_fldK (K := K) rfl (pv 0) rfl) (nomark _))
          (pss_one ps_never) pss_nil))))))), ?_⟩
    refine ⟨_, rfl, l, rfl, ⟨_, SqL.of hl.top⟩, fun D hD => ?_⟩
    refine lc_it (walk_list (K := K) (a := l) (xs := refV n rs)) (fun i H' => Same H H' ∧ ∃ ts : Nat → Addr, H' D = some (.lst (refV i ts)) ∧ ∀ j, j < i → H' (ts j) = some (.tup (rowV n (M j)))) ⟨Same.upd (Same.refl H) hD, fun _ => 0, upd_same, fun j hj => by omega⟩ (fun i H' _ p => SqL.of (p.1 _ _ hl.top)) ?_ ?_
    · rintro i y H' H'' hi ⟨sm, ts, g1, g2⟩ ⟨rfl, hy⟩
      rw [refV_len] at hi
      obtain rfl := refV_get hi hy
      refine ⟨rfl, ?_⟩
      refine ⟨_, rfl, _, _, rfl, .inl ⟨SqL.of (sm _ _ (hl.row i hi)), fun t ht => ?_⟩⟩
      refine ⟨_, by rw [upd_ne (ne_of_none g1 ht)]; exact g1, ?_, ?_⟩
      · rw [refV_len]
        exact size_lt (by omega)
      · have tD : t ≠ D := fun e => by rw [e, g1] at ht; cases ht
        refine ⟨Same.upd (Same.upd sm (sm.free ht)) hD, fun j => if j = i then t else ts j, ?_, fun j hj => ?_⟩
        · rw [upd_same, refV_succ]
        · by_cases e : j = i
          · subst e
            show upd _ D _ (if j = j then t else ts j) = _
            rw [if_pos rfl, upd_ne tD, upd_same]
          · simp only [if_neg e]
            have h3 := g2 j (by omega)
            rw [upd_ne (ne_of h3 g1 (by intro z; cases z)), upd_ne (ne_of_none h3 ht)]
            exact h3
    · rintro H1 ⟨sm, ts, g1, g2⟩
      rw [refV_len] at g1 g2
      refine ⟨D, _, rfl, .inl ⟨SqL.of g1, fun p hp => ?_⟩⟩
      have sm2 := Same.upd (o := .tup (refV n ts)) sm (sm.free hp)
      have hx2 := sm2 _ _ hx
      have g3 : ∀ j, j < n → upd H1 p (.tup (refV n ts)) (ts j) = some (.tup (rowV n (M j))) := fun j hj => by
        rw [upd_ne (ne_of_none (g2 j hj) hp)]
        exact g2 j hj
      have g4 : upd H1 p (.tup (refV n ts)) p = some (.tup (refV n ts)) := upd_same
      generalize upd H1 p (.tup (refV n ts)) = H2 at sm2 hx2 g3 g4
      have px : p ≠ x := fun e => by rw [e, hx2] at g4; cases g4
      have tx : ∀ j, j < n → ts j ≠ x := fun j hj e => by rw [← e, g3 j hj] at hx2; cases hx2
      have q1 : ∀ (a b : List (Str × V)), upd (upd H2 x (.ins (ga K "Matrix") dx a)) x (.ins (ga K "Matrix") dx b) = upd H2 x (.ins (ga K "Matrix") dx b) := fun a b => upd_upd
      have pp : ∀ a, upd H2 x a p = some (.tup (refV n ts)) := fun a => by rw [upd_ne px]; exact g4
      have tt : ∀ a j, j < n → upd H2 x a (ts j) = some (.tup (rowV n (M j))) := fun a j hj => by rw [upd_ne (tx j hj)]; exact g3 j hj
      refine ⟨_, rfl, x, _, dx, _, rfl, hx2, T.cl_Matrix, T.na_Matrix_rows, (by show 0 < 1000; decide), ?_⟩
      refine ⟨_, rfl, x, _, dx, _, _, rfl, upd_same, T.cl_Matrix, T.na_Matrix_rows, (by rw [lookup_putF, if_pos rfl]), (V.ref p), n, rfl, .inr ⟨_, SqT.of (pp _), (refV_len n ts).symm⟩, ?_⟩
      refine ⟨_, rfl, x, _, dx, _, rfl, upd_same, T.cl_Matrix, T.na_Matrix_height, (by show 1 < 1000; decide), ?_⟩
      rw [q1]
      refine ⟨_, rfl, x, _, dx, _, _, rfl, upd_same, T.cl_Matrix, T.na_Matrix_rows, (by rw [lookup_putF, if_neg (by decide +kernel), lookup_putF, if_pos rfl]), ?_⟩
      refine ⟨p, _, (0 : Nat), _, rfl, rfl, SqT.of (pp _), atI_nat (refV_at hn0), (V.ref (ts 0)), n, rfl, .inr ⟨_, SqT.of (tt _ 0 hn0), (rowV_len n _).symm⟩, ?_⟩
      refine ⟨_, rfl, x, _, dx, _, rfl, upd_same, T.cl_Matrix, T.na_Matrix_width, (by show 2 < 1000; decide), ?_⟩
      rw [q1]
      refine ⟨_, rfl, x, _, dx, _, _, rfl, upd_same, T.cl_Matrix, T.na_Matrix_rows, mxF_rows p n, p, _, rfl, pp _, ?_⟩
      refine for_it (walk_enumT (a := p) (xs := refV n ts)) (fun i σ H' => ∃ a b, σ = [some (.ref x), some (.ref l), a, b] ∧ Same (upd H2 x (.ins (ga K "Matrix") dx (mxF p n))) H') ⟨_, _, rfl, Same.refl _⟩ (fun i σ H' _ ⟨_, _, _, e⟩ => e _ _ (pp _)) ?_ ?_
      · rintro i y σ H' H'' hi ⟨a, b, rfl, sm3⟩ ⟨T1, u, v, rfl, hT, rfl, hu, hv⟩
        rw [refV_len] at hi
        obtain rfl := refV_get hi hv
        cases (Option.some.inj hu)
        have sm4 := Same.upd (o := .tup [.int (i : Nat), .ref (ts i)]) sm3 (sm3.free hT)
        refine ⟨T1, _, rfl, SqT.of upd_same, rfl, _, _, rfl, _, _, rfl, rfl, ?_⟩
        refine ⟨_, rfl, (V.ref (ts i)), n, rfl, .inr ⟨_, SqT.of (sm4 _ _ (tt _ i hi)), (rowV_len n _).symm⟩, ?_⟩
        refine ⟨_, rfl, x, _, dx, _, _, rfl, sm4 _ _ upd_same, T.cl_Matrix, T.na_Matrix_width, mxF_w p n, rfl, _, rfl, ?_⟩
        refine ifN (fun z => absurd rfl z) fun _ => ?_
        exact ⟨_, _, rfl, sm4⟩
      · rintro σ H' ⟨a, b, rfl, sm3⟩
        refine k H' ⟨dx, p, sm3 _ _ upd_same, ts, sm3 _ _ (pp _), fun i hi => sm3 _ _ (tt _ i hi)⟩ fun c o hc cx => sm3 _ _ ?_
        rw [upd_ne cx]
        exact sm2 _ _ hc
end
end Ef
/-! text C4c -/
set_option Elab.async false
set_option linter.all false
set_option maxRecDepth 100000
set_option maxHeartbeats 2000000
namespace Ef
open PySem PySem.Spec PyProof.Rows L2 EfB
section
variable {P : Program} {w : World} {K : PySem.W.Frag} {mg : Str → Option Value} {base : Heap}
theorem mkMx {H : Hp} {l : Addr} {rs : Nat → Addr} {n : Nat} {M : Mx} {Q : VK} {E : XK} (hl : LM H l rs n M) (h0 : 0 < n) (hn : n < 100) (k : ∀ (H' : Hp) (a : Addr), Same H H' → H a = none → MxAt K H' a n M → Q (.ref a) H') :
    ∀ x dx, H x = none → H dx = none → dx ≠ x → sp_Matrix_init K [.ref x, .ref l] (upd (upd H dx (.own x)) x (.ins (ga K "Matrix") dx [])) (fun v H2 => v = .non ∧ Q (.ref x) H2) E := fun x dx nx nd ne =>
  ⟨x, dx, l, rs, n, M, rfl, upd_same, hl.same (fun c u e => by rw [upd_ne (ne_of_none e nx), upd_ne (ne_of_none e nd)]; exact e), h0, hn, fun H' hm fr => ⟨rfl, k H' x (Same.made nx nd fr) nx hm⟩⟩
/-- the rows so far -/
structure LG (H0 H : Hp) (D : Addr) (rs : Nat → Addr) (n : Nat) (M : Mx) (i : Nat) : Prop where
  sm : Same H0 H
  top : H D = some (.lst (refV i rs))
  row : ∀ j, j < i → H (rs j) = some (.lst (rowV n (M j)))
  inj : ∀ a b, a < i → b < i → rs a = rs b → a = b
  neL : ∀ j, j < i → rs j ≠ D
  nw : ∀ j, j < i → H0 (rs j) = none
theorem lg_nil {H : Hp} {D : Addr} {n : Nat} {M : Mx} (h : H D = none) : LG H (upd H D (.lst [])) D (fun _ => 0) n M 0 :=
  ⟨Same.upd (Same.refl H) h, upd_same, fun j hj => by omega, fun a b h1 => by omega, fun j hj => by omega, fun j hj => by omega⟩
theorem LG.add {H0 H H1 : Hp} {D t : Addr} {rs : Nat → Addr} {n i : Nat} {M : Mx} (h : LG H0 H D rs n M i) (hD : H0 D = none) (hi : i < 100) (s : Same H H1) (ht : H t = none) (h1 : H1 t = some (.lst (rowV n (M i)))) :
    ∃ acc, H1 D = some (.lst acc) ∧ acc.length < sizeLine ∧ ∃ rs', LG H0 (upd H1 D (.lst (acc ++ [.ref t]))) D rs' n M (i + 1) := by
  have tD : t ≠ D := fun e => by rw [e, h.top] at ht; cases ht
  have tr : ∀ j, j < i → t ≠ rs j := fun j hj e => by rw [e, h.row j hj] at ht; cases ht
  refine ⟨_, s _ _ h.top, by rw [refV_len]; exact size_lt (by omega), fun j => if j = i then t else rs j, Same.upd (h.sm.trans s) hD, ?_, fun j hj => ?_, fun a b ha hb e => ?_, fun j hj => ?_, fun j hj => ?_⟩
  · rw [upd_same, refV_succ]
  · by_cases e : j = i
    · subst e
      show upd _ D _ (if j = j then t else rs j) = _
      rw [if_pos rfl, upd_ne tD]
      exact h1
    · show upd _ D _ (if j = i then t else rs j) = _
      rw [if_neg e, upd_ne (h.neL j (by omega))]
      exact s _ _ (h.row j (by omega))
  · have e : (if a = i then t else rs a) = (if b = i then t else rs b) := e
    by_cases e1 : a = i
    · by_cases e2 : b = i
      · omega
      · rw [if_pos e1, if_neg e2] at e
        exact absurd e (tr b (by omega))
    · by_cases e2 : b = i
      · rw [if_neg e1, if_pos e2] at e
        exact absurd e.symm (tr a (by omega))
      · rw [if_neg e1, if_neg e2] at e
        exact h.inj a b (by omega) (by omega) e
  · show (if j = i then t else rs j) ≠ D
    split
    · exact tD
    · exact h.neL j (by omega)
  · show H0 (if j = i then t else rs j) = none
    split
    · exact h.sm.free ht
    · exact h.nw j (by omega)
theorem LG.lm {H0 H : Hp} {D : Addr} {rs : Nat → Addr} {n : Nat} {M : Mx} (h : LG H0 H D rs n M n) : LM H D rs n M := ⟨h.top, h.row, h.inj, h.neL⟩
theorem rep_row (n : Nat) (x : Int) : (List.replicate n [V.int x]).flatten = rowV n (fun _ => x) := by
  unfold rowV
  rw [List.map_const', List.length_range]
  induction n with
  | zero => rfl
  | succ n ih => rw [List.replicate_succ, List.flatten_cons, ih, List.replicate_succ]; rfl
def oneM : Mx := fun i j => if i = j then 1 else 0
def oneP (k : Nat) : Mx := fun i j => if i = j ∧ i < k then 1 else 0
def sp_Matrix_diagonal (K : PySem.W.Frag) : Sp := fun vs H Q _ => ∃ (l : Addr) (n : Nat), vs = [.ref (ga K "Matrix"), .ref l, .int n, .int n] ∧ H l = some (.lst (rowV n (fun _ => 1))) ∧ 0 < n ∧ n < 100 ∧
  ∀ (H' : Hp) (a : Addr), Same H H' → H a = none → MxAt K H' a n oneM → Q (.ref a) H'
theorem sc_Matrix_diagonal : FnScope ["cls", "numbers", "height", "width", "rows", "i", "at", "number"] ["cls", "numbers", "height", "width"] (defScope s_Matrix_diagonal) := ⟨rfl, rfl, rfl, by decide +kernel, rfl, by decide +kernel, by decide +kernel⟩
theorem r_Matrix_diagonal (T : Ok K mg) : FnR P w K mg base CX0 3 (wa K "Matrix" "diagonal") (sp_Matrix_diagonal K) := by
  obtain ⟨fd, F⟩ := T.f_Matrix_diagonal
  refine frn F sc_Matrix_diagonal (fun _ _ _ _ _ _ us hl => match us, hl with | [_, _, _, _], _ => rfl) (fun vs H Q E h => ?_) (fun cdv A outer s H vs Q E hr h => ?_)
  · obtain ⟨l, n, rfl, _⟩ := h
    rfl
  · obtain ⟨l, n, rfl, hl, h0, hn, k⟩ := h
    refine ⟨_, (pss_cons (ps_setLc (i := 4) (own := [("i", 5)]) rfl sc_Matrix_diagonal.nd rfl rfl (sw_true rfl rfl rfl (by decide +kernel)) (pi_range1 (by rfl) T.n_range (pa_cons (pv 2) pa_nil)) (blkOk_by (own := [("i", 5)]) (N := ["cls", "numbers", "height", "width", "rows", "i", "at", "number"]) (sc := (defScope s_Matrix_diagonal)) (by decide +kernel)) (fun _ _ _ _ _ => (pg_name (i := 5) sc_Matrix_diagonal.nd rfl (Or.inl rfl))) (fun _ _ _ _ _ => pts_nil) (by exact fun _ _ _ _ _ => (pe_op op_rep (pe_lst (pa_cons pe_int pa_nil)) (pv 3))))
      (pss_cons (ps_for PassesOwn.never rfl (pi_enum (by rfl) T.n_enumerate (pa_cons (pv 1) pa_nil)) (pg_tupK (K := K) (n := 2) rfl rfl (pgs_cons (pg_name (i := 6) sc_Matrix_diagonal.nd rfl (Or.inl rfl)) (pgs_cons (pg_name (i := 7) sc_Matrix_diagonal.nd rfl (Or.inl rfl)) pgs_nil)))
        (pss_one (ps_asg (pv 7) (pg_sub (pe_ix (ix_listK (K := K) rfl) (pv 4) (pv 6) (fun _ _ => rfl)) (pv 6) set_list))))
      (pss_one (ps_ret (pe_makeL (i := 0) T.mk_Matrix (r_Matrix_init T) (hr.mono (by decide)) rfl (Or.inl rfl) pass0 (pa_cons (pv 4) pa_nil)))))), ?_⟩
    refine ⟨_, rfl, n, rfl, by omega, by omega, fun D hD => ?_⟩
    refine lc_it walk_range (fun i H' => ∃ rs, LG H H' D rs n (fun _ _ => 0) i) ⟨_, lg_nil hD⟩ (fun _ _ _ _ => trivial) ?_ ?_
    · rintro i y H' H'' hi ⟨rs, g⟩ ⟨rfl, rfl⟩
      have hi : i < n := by omega
      refine ⟨rfl, ?_⟩
      refine ⟨?_, fun p hp => ⟨_, rfl, p, n, _, rfl, rfl, upd_same, by omega, by omega, ?_, fun t ht => ?_⟩⟩
      · show 1 ≤ _
        rw [sizeLine_eq]; decide
      · show 1 * ((n : Nat) : Int).toNat ≤ _
        rw [sizeLine_eq]
        omega
      · have s1 := Same.upd (o := .lst [V.int 0]) (Same.refl H'') hp
        refine g.add hD (by omega) (Same.upd s1 (s1.free ht)) (s1.free ht) ?_
        rw [upd_same, show ((n : Nat) : Int).toNat = n by omega, rep_row]
    · rintro H1 ⟨rs, g⟩
      rw [show ((n : Nat) : Int).toNat = n by omega] at g
      refine ⟨_, rfl, l, _, rfl, SqL.of (g.sm _ _ hl), ?_⟩
      refine for_it (walk_enum (a := l) (xs := rowV n (fun _ => 1))) (fun i σ H' => ∃ a b c, σ = [some (.ref (ga K "Matrix")), some (.ref l), some (.int n), some (.int n), some (.ref D), a, b, c] ∧ Same H H' ∧ LM H' D rs n (oneP i)) ⟨_, _, _, rfl, g.sm, g.lm.congr fun i j _ _ => ?_⟩ (fun i σ H' _ ⟨_, _, _, _, e, _⟩ => SqL.of (e _ _ hl)) ?_ ?_
      · unfold oneP
        rw [if_neg (by omega)]
      · rintro i y σ H' H'' hi ⟨a, b, c, rfl, sm, lm⟩ ⟨T1, u, v, rfl, hT, rfl, hu, hv⟩
        rw [rowV_len] at hi
        obtain rfl := rowV_get hi hv
        cases (Option.some.inj hu)
        have lm1 := lm.new (o := .tup [.int (i : Nat), .int 1]) hT
        refine ⟨T1, _, rfl, SqT.of upd_same, rfl, _, _, rfl, _, _, rfl, rfl, ?_⟩
        refine ⟨_, rfl, _, rfl, _, rfl, _, _, _, _, rfl, rfl, SqL.of lm1.top, atI_nat (refV_at hi), _, rfl, rs i, _, _, i, rfl, rfl, lm1.row i hi, ixN_row hi, ?_⟩
        refine ⟨_, _, _, rfl, Same.upd (Same.upd sm (sm.free hT)) (g.nw i hi), (lm1.setE hi).congr fun r c _ _ => ?_⟩
        unfold setE oneP
        by_cases e : r = i ∧ c = i
        · rw [if_pos e, if_pos (by omega)]
        · rw [if_neg e]
          by_cases e2 : r = c ∧ r < i
          · rw [if_pos e2, if_pos (by omega)]
          · rw [if_neg e2, if_neg (by omega)]
      · rintro σ H' ⟨a, b, c, rfl, sm, lm⟩
        rw [rowV_len] at lm
        refine ⟨rfl, _, rfl, mkMx (lm.congr fun r c hr hc => ?_) h0 hn fun H2 x s2 nx hm => k H2 x (sm.trans s2) (sm.free nx) hm⟩
        unfold oneP oneM
        by_cases e : r = c
        · rw [if_pos e, if_pos (by omega)]
        · rw [if_neg e, if_neg (by omega)]
def sp_Matrix_unit (K : PySem.W.Frag) : Sp := fun vs H Q _ => ∃ n : Nat, vs = [.ref (ga K "Matrix"), .int n] ∧ 0 < n ∧ n < 100 ∧
  ∀ (H' : Hp) (a : Addr), Same H H' → H a = none → MxAt K H' a n oneM → Q (.ref a) H'
theorem sc_Matrix_unit : FnScope ["cls", "n"] ["cls", "n"] (defScope s_Matrix_unit) := ⟨rfl, rfl, rfl, by decide +kernel, rfl, by decide +kernel, by decide +kernel⟩
theorem r_Matrix_unit (T : Ok K mg) : FnR P w K mg base CX0 4 (wa K "Matrix" "unit") (sp_Matrix_unit K) := by
  obtain ⟨fd, F⟩ := T.f_Matrix_unit
  refine frn F sc_Matrix_unit (fun _ _ _ _ _ _ us hl => match us, hl with | [_, _], _ => rfl) (fun vs H Q E h => ?_) (fun cdv A outer s H vs Q E hr h => ?_)
  · obtain ⟨n, rfl, _⟩ := h
    rfl
  · obtain ⟨n, rfl, h0, hn, k⟩ := h
    refine ⟨_, (pss_one (ps_ret (ClX.pe_cmeth (pv 0) T.rd_Matrix T.cm_Matrix_diagonal (r_Matrix_diagonal T) (hr.mono (by decide)) pass0 (pa_cons (pe_op op_rep (pe_lst (pa_cons pe_int pa_nil)) (pv 1)) (pa_cons (pv 1) (pa_cons (pv 1) pa_nil)))))), ?_⟩
    refine ⟨_, rfl, rfl, ?_, fun p hp => ⟨_, rfl, p, n, _, rfl, rfl, upd_same, by omega, by omega, ?_, fun t ht => ?_⟩⟩
    · show 1 ≤ _
      rw [sizeLine_eq]; decide
    · show 1 * ((n : Nat) : Int).toNat ≤ _
      rw [sizeLine_eq]
      omega
    · have s1 := Same.upd (o := .lst [V.int 1]) (Same.refl H) hp
      have s2 := Same.upd (o := .lst (List.replicate ((n : Nat) : Int).toNat [V.int 1]).flatten) s1 (s1.free ht)
      refine ⟨_, rfl, _, rfl, t, n, rfl, ?_, h0, hn, fun H' a sm na hm => k H' a (s2.trans sm) (s2.free na) hm⟩
      rw [upd_same, show ((n : Nat) : Int).toNat = n by omega, rep_row]
end
end Ef
/-! text C4d -/
set_option Elab.async false
set_option linter.all false
set_option maxRecDepth 100000
set_option maxHeartbeats 2000000
namespace Ef
open PySem PySem.Spec PyProof.Rows L2 EfB
section
variable {P : Program} {w : World} {K : PySem.W.Frag} {mg : Str → Option Value} {base : Heap}
theorem dec_eqI (a b : Int) : decide (V.int a = V.int b) = decide (a = b) := by
  by_cases h : a = b
  · rw [h, decide_eq_true rfl, decide_eq_true rfl]
  · rw [decide_eq_false h, decide_eq_false fun e => h (by injection e)]
theorem elimP_end (M : Mx) (k : Nat) (b : Int) (n i0 : Nat) : ∀ i j, i < n → j < n → elimP M k b i0 n i j = elimP M k b (i0 + 1) (k + 1) i j := fun i j hi hj => by
  unfold elimP
  by_cases h : k < i ∧ k < j ∧ (i < i0 ∨ (i = i0 ∧ j < n))
  · rw [if_pos h, if_pos (by omega)]
  · rw [if_neg h, if_neg (by omega)]
theorem yfn0 {c : Nat} {y : V} (h : y = V.int (0 + (c : Int))) : y = .int ((c : Nat) : Int) := by rw [h, Int.zero_add]
theorem yfn1 {k c : Nat} {y : V} (h : y = V.int ((k : Int) + 1 + (c : Int))) : y = .int ((k + 1 + c : Nat) : Int) := by
  rw [h]
  congr 1
theorem cmul_of {a b : Int} (h : a.natAbs ≤ 134217728) : CMul a b := .inl ⟨by omega, by omega⟩
theorem two_size {a b : V} : ([a, b] : List V).length ≤ sizeLine := by
  show 2 ≤ _
  rw [sizeLine_eq]; decide
def sp_det_of (K : PySem.W.Frag) : Sp := fun vs H Q _ => ∃ (t : Addr) (n : Nat) (M : Mx), vs = [.ref t] ∧ TM H t n M ∧ (n = 2 ∨ n = 3) ∧ (∀ i j, i < n → j < n → (M i j).natAbs ≤ 8192) ∧ ∀ H' : Hp, Same H H' → Q (.int (detn n M)) H'
theorem sc_determinant_of : FnScope ["rows", "left", "row", "size", "sign", "before", "at", "place", "i", "j"] ["rows"] (defScope s_determinant_of) := ⟨rfl, rfl, rfl, by decide +kernel, rfl, by decide +kernel, by decide +kernel⟩
theorem r_determinant_of (T : Ok K mg) : FnR P w K mg base CX0 1 (ga K "determinant_of") (sp_det_of K) := by
  obtain ⟨fd, F⟩ := T.f_determinant_of
  refine frn F sc_determinant_of (fun _ _ _ _ _ _ us hl => match us, hl with | [_], _ => rfl) (fun vs H Q E h => ?_) (fun cdv A outer s H vs Q E hr h => ?_)
  · obtain ⟨t, n, M, rfl, _⟩ := h
    rfl
  · obtain ⟨t, n, M, rfl, ⟨ts, ht, htr⟩, hn, hM, k⟩ := h
    refine ⟨_, (pss_cons (ps_setLc (i := 1) (own := [("row", 2)]) rfl sc_determinant_of.nd rfl rfl (sw_true rfl rfl rfl (by decide +kernel)) (pi_tupK (K := K) rfl (pv 0)) (blkOk_by (own := [("row", 2)]) (N := ["rows", "left", "row", "size", "sign", "before", "at", "place", "i", "j"]) (sc := (defScope s_determinant_of)) (by decide +kernel)) (fun _ _ _ _ _ => (pg_name (i := 2) sc_determinant_of.nd rfl (Or.inl rfl))) (fun _ _ _ _ _ => pts_nil) (by exact fun _ _ _ _ _ => (pe_callTy (call_lstK (K := K) rfl) (by rfl) T.n_list (by decide +kernel) (pa_cons (pv 2) pa_nil))))
      (pss_cons (ps_set (i := 3) sc_determinant_of.nd rfl (Or.inl rfl) (pe_callB (call_lenK (K := K) rfl) (by rfl) T.n_len (by decide +kernel) (pa_cons (pv 1) pa_nil)))
      (pss_cons (ps_set (i := 4) sc_determinant_of.nd rfl (Or.inl rfl) pe_int)
      (pss_cons (ps_set (i := 5) sc_determinant_of.nd rfl (Or.inl rfl) pe_int)
      (pss_cons (ps_for PassesOwn.never rfl (pi_range1 (by rfl) T.n_range (pa_cons (pe_op op_sub (pv 3) pe_int) pa_nil)) (pg_name (i := 6) sc_determinant_of.nd rfl (Or.inl rfl))
        (pss_cons (ps_set (i := 7) sc_determinant_of.nd rfl (Or.inl rfl) (pv 6))
        (Evl.pss_cut (ps_while PassesOwn.never (PW.pt (pw_and (pt_cmpR op_lt (pv 7) (pv 3) (nomark _)) (pw_and1 (pt_cmpR op_eq (pe_ix (ix_listK (K := K) rfl) (pe_ix (ix_listK (K := K) rfl) (pv 1) (pv 7) (fun _ _ => rfl)) (pv 6) (fun _ _ => rfl)) pe_int (nomark _)))))
          (pss_one (ps_aug (i := 7) sc_determinant_of.nd rfl (Or.inl rfl) pe_int ip_add)))
        (pss_cons (ps_if (pt_cmpR op_eq (pv 7) (pv 3) (nomark _))
          (pss_one (ps_ret pe_int)) pss_nil)
        (Evl.pss_cut (ps_if (pt_cmpR op_ne (pv 7) (pv 6) (nomark _))
          (pss_cons (ps_asg (pe_tup (pa_cons (pe_ix (ix_listK (K := K) rfl) (pv 1) (pv 7) (fun _ _ => rfl)) (pa_cons (pe_ix (ix_listK (K := K) rfl) (pv 1) (pv 6) (fun _ _ => rfl)) pa_nil))) (pg_tupK (K := K) (n := 2) rfl rfl (pgs_cons (pg_sub (pv 1) (pv 6) set_list) (pgs_cons (pg_sub (pv 1) (pv 7) set_list) pgs_nil))))
          (pss_one (ps_set (i := 4) sc_determinant_of.nd rfl (Or.inl rfl) (pe_un un_neg (pv 4))))) pss_nil)
        (Evl.pss_cut (ps_for PassesOwn.never rfl (pi_range2 (by rfl) T.n_range (pa_cons (pe_op op_add (pv 6) pe_int) (pa_cons (pv 3) pa_nil))) (pg_name (i := 8) sc_determinant_of.nd rfl (Or.inl rfl))
          (pss_one (ps_for PassesOwn.never rfl (pi_range2 (by rfl) T.n_range (pa_cons (pe_op op_add (pv 6) pe_int) (pa_cons (pv 3) pa_nil))) (pg_name (i := 9) sc_determinant_of.nd rfl (Or.inl rfl))
            (pss_one (ps_asg (pe_op op_fdivG (pe_op op_sub (pe_op op_mul (pe_ix (ix_listK (K := K) rfl) (pe_ix (ix_listK (K := K) rfl) (pv 1) (pv 8) (fun _ _ => rfl)) (pv 9) (fun _ _ => rfl)) (pe_ix (ix_listK (K := K) rfl) (pe_ix (ix_listK (K := K) rfl) (pv 1) (pv 6) (fun _ _ => rfl)) (pv 6) (fun _ _ => rfl))) (pe_op op_mul (pe_ix (ix_listK (K := K) rfl) (pe_ix (ix_listK (K := K) rfl) (pv 1) (pv 8) (fun _ _ => rfl)) (pv 6) (fun _ _ => rfl)) (pe_ix (ix_listK (K := K) rfl) (pe_ix (ix_listK (K := K) rfl) (pv 1) (pv 6) (fun _ _ => rfl)) (pv 9) (fun _ _ => rfl)))) (pv 5)) (pg_sub (pe_ix (ix_listK (K := K) rfl) (pv 1) (pv 8) (fun _ _ => rfl)) (pv 9) set_list))))))
        (pss_one (ps_set (i := 5) sc_determinant_of.nd rfl (Or.inl rfl) (pe_ix (ix_listK (K := K) rfl) (pe_ix (ix_listK (K := K) rfl) (pv 1) (pv 6) (fun _ _ => rfl)) (pv 6) (fun _ _ => rfl))))))))))
      (pss_one (ps_ret (pe_op op_mul (pv 4) (pe_ix (ix_listK (K := K) rfl) (pe_ix (ix_listK (K := K) rfl) (pv 1) (pe_op op_sub (pv 3) pe_int) (fun _ _ => rfl)) (pe_op op_sub (pv 3) pe_int) (fun _ _ => rfl)))))))))), ?_⟩
    refine ⟨_, rfl, t, rfl, ⟨_, SqT.of ht⟩, fun L hL => ?_⟩
    have hn3 : 2 ≤ n ∧ n ≤ 3 := by omega
    refine lc_it (walk_tup (K := K) (a := t) (xs := refV n ts)) (fun i H' => ∃ rs, LG H H' L rs n M i) ⟨_, lg_nil hL⟩ (fun i H' _ ⟨_, g⟩ => SqT.of (g.sm _ _ ht)) ?_ ?_
    · rintro i y H' H'' hi ⟨rs, g⟩ ⟨rfl, hy⟩
      rw [refV_len] at hi
      obtain rfl := refV_get hi hy
      refine ⟨rfl, ?_⟩
      refine ⟨_, rfl, _, _, rfl, .inr (SqT.of (g.sm _ _ (htr i hi))), fun q hq => ?_⟩
      exact g.add hL (by omega) (Same.upd (Same.refl _) hq) hq upd_same
    · rintro H1 ⟨rs, g⟩
      rw [refV_len] at g
      refine ⟨_, rfl, (V.ref L), n, rfl, .inl ⟨_, SqL.of g.top, (refV_len n rs).symm⟩, ?_⟩
      refine ⟨_, rfl, n, 1, rfl, rfl, _, rfl, by omega, by omega, ?_⟩
      rw [show ((n : Nat) : Int) - 1 = ((n - 1 : Nat) : Int) by omega, show (((n - 1 : Nat) : Int)).toNat = n - 1 by omega]
      refine for_it walk_range (fun at_ σ H' => ∃ (a p i j : Option V) (sg bf : Int) (rs : Nat → Addr) (M' : Mx), σ = [some (.ref t), some (.ref L), none, some (.int n), some (.int sg), some (.int bf), a, p, i, j] ∧ BInv n at_ M' sg bf (detn n M) 8192 ∧ LM H' L rs n M' ∧ Same H H' ∧ ∀ j, j < n → H (rs j) = none)
        ⟨none, none, none, none, 1, 1, rs, M, rfl, bInv_ini hn hM (by decide), g.lm, g.sm, g.nw⟩ (fun _ _ _ _ _ => trivial) ?_ ?_
      · rintro c y σ H2 H3 hc ⟨a, p, i, j, sg, bf, rs, M', rfl, B, lm, sm, nw⟩ ⟨rfl, hy⟩
        have hc1 : c + 1 < n := by omega
        obtain rfl := yfn0 hy
        refine ⟨_, rfl, ?_⟩
        refine ⟨fun σ H' => ∃ q : Nat, q ≤ n ∧ c ≤ q ∧ σ = [some (.ref t), some (.ref L), none, some (.int n), some (.int sg), some (.int bf), some (.int (c : Nat)), some (.int (q : Nat)), i, j] ∧ H' = H3 ∧ (∀ r, c ≤ r → r < q → M' r c = 0) ∧ (q = n ∨ M' q c ≠ 0), ?_, ?_⟩
        · refine ⟨fun m σ H' => ∃ q : Nat, q ≤ n ∧ c ≤ q ∧ σ = [some (.ref t), some (.ref L), none, some (.int n), some (.int sg), some (.int bf), some (.int (c : Nat)), some (.int (q : Nat)), i, j] ∧ H' = H3 ∧ (∀ r, c ≤ r → r < q → M' r c = 0) ∧ m = n - q, ⟨_, c, by omega, Nat.le_refl _, rfl, rfl, fun r h1 h2 => by omega, rfl⟩, ?_⟩
          rintro m σ H' ⟨q, hq, hcq, rfl, rfl, hz, rfl⟩
          refine ⟨_, rfl, _, rfl, _, _, rfl, rfl, _, rfl, ?_⟩
          refine ifD (fun h => ?_) fun h => ?_
          · have hqn : q < n := by omega
            have hcn : c < n := by omega
            refine ⟨_, rfl, _, rfl, _, _, _, _, rfl, rfl, SqL.of (lm).top, atI_nat (refV_at hqn), _, rfl, _, _, _, _, rfl, rfl, SqL.of ((lm).row _ hqn), atI_nat (rowV_at hcn), rfl, _, rfl, ifEq (fun h0 => ?_) fun h0 => ?_⟩
            · refine ⟨fun σ' H'' => ∃ q' : Nat, q' ≤ n ∧ c ≤ q' ∧ σ' = [some (.ref t), some (.ref L), none, some (.int n), some (.int sg), some (.int bf), some (.int (c : Nat)), some (.int (q' : Nat)), i, j] ∧ H'' = H' ∧ (∀ r, c ≤ r → r < q' → M' r c = 0) ∧ n - q' < n - q, fun σ' H'' ⟨q', e1, e2, e3, e4, e5, e6⟩ => ⟨_, e6, q', e1, e2, e3, e4, e5, rfl⟩, ?_⟩
              refine ⟨_, rfl, _, _, rfl, rfl, q + 1, by omega, by omega, rfl, rfl, fun r h1 h2 => ?_, by omega⟩
              by_cases e : r = q
              · rw [e]; exact h0
              · exact hz r h1 (by omega)
            · exact ⟨q, hq, hcq, rfl, rfl, hz, .inr h0⟩
          · exact ⟨q, hq, hcq, rfl, rfl, hz, .inl (by omega)⟩
        · rintro _ _ ⟨q, hq, hcq, rfl, rfl, hz, hend⟩
          refine ⟨_, rfl, _, rfl, rfl, _, rfl, ifEq (fun h0 => ?_) fun h0 => ?_⟩
          · have e := B.none hc1 fun i h1 h2 => hz i h1 (by omega)
            have := k _ sm
            rw [e] at this
            exact this
          have hqn : q < n := by omega
          have hcn : c < n := by omega
          have hpv : M' q c ≠ 0 := hend.resolve_left (by omega)
          refine ⟨fun σ H' => ∃ (p : Option V) (sg : Int) (rs : Nat → Addr) (M' : Mx), σ = [some (.ref t), some (.ref L), none, some (.int n), some (.int sg), some (.int bf), some (.int (c : Nat)), p, i, j] ∧ BInv n c M' sg bf (detn n M) 8192 ∧ M' c c ≠ 0 ∧ LM H' L rs n M' ∧ Same H H' ∧ ∀ j, j < n → H (rs j) = none, ?_, ?_⟩
          · refine ⟨_, rfl, _, rfl, rfl, _, rfl, ifNe (fun h1 => ?_) fun h1 => ?_⟩
            · refine ⟨_, rfl, _, rfl, L, _, q, _, rfl, rfl, SqL.of lm.top, atI_nat (refV_at hqn), _, rfl, _, rfl, L, _, c, _, rfl, rfl, SqL.of lm.top, atI_nat (refV_at hcn), two_size, fun z hz1 => ?_⟩
              refine ⟨z, _, rfl, SqT.of upd_same, rfl, _, _, rfl, _, rfl, _, rfl, L, _, c, c, rfl, rfl, (lm.new hz1).top, ixN_ref hcn, _, _, rfl, _, rfl, _, rfl, L, _, q, q, rfl, rfl, upd_same, by rw [List.length_set]; exact ixN_ref hqn, rfl, ?_⟩
              refine ⟨_, rfl, sg, rfl, _, -sg, (fun i => if i = q then rs c else if i = c then rs q else rs i), swapR M' c q, rfl, B.swap hc1 (by omega) hqn, ?_, ?_, Same.upd (Same.upd (Same.upd sm (sm.free hz1)) hL) hL, ?_⟩
              · unfold swapR
                rw [if_pos rfl]
                exact hpv
              · rw [upd_upd]
                exact (lm.new hz1).swap hcn hqn
              · intro j hj
                show H (if j = q then rs c else if j = c then rs q else rs j) = none
                split
                · exact nw c hcn
                · split
                  · exact nw q hqn
                  · exact nw j hj
            · have e : q = c := by omega
              subst e
              exact ⟨_, sg, rs, M', rfl, B, hpv, lm, sm, nw⟩
          · rintro _ H4 ⟨p, sg, rs, M', rfl, B, hpv, lm, sm, nw⟩
            have sml := B.small (by decide) hc1
            have bf0 := B.bf0 hc1
            refine ⟨fun σ H' => ∃ i j, σ = [some (.ref t), some (.ref L), none, some (.int n), some (.int sg), some (.int bf), some (.int (c : Nat)), p, i, j] ∧ LM H' L rs n (elimP M' c bf n (c + 1)) ∧ Same H H', ?_, ?_⟩
            · refine ⟨_, rfl, _, _, rfl, rfl, _, rfl, _, _, rfl, ⟨by omega, by omega, by omega, by omega⟩, ?_⟩
              rw [show ((n : Nat) : Int) - ((c : Nat) + 1) = ((n - (c + 1) : Nat) : Int) by omega, show (((n - (c + 1) : Nat) : Int)).toNat = n - (c + 1) by omega]
              refine for_it walk_range (fun i0 σ H' => ∃ i j, σ = [some (.ref t), some (.ref L), none, some (.int n), some (.int sg), some (.int bf), some (.int (c : Nat)), p, i, j] ∧ LM H' L rs n (elimP M' c bf (c + 1 + i0) (c + 1)) ∧ Same H H') ⟨i, j, rfl, by rw [Nat.add_zero, elimP_start]; exact lm, sm⟩ (fun _ _ _ _ _ => trivial) ?_ ?_
              · rintro i0 y σ H5 H6 hi0 ⟨i, j, rfl, lm5, sm5⟩ ⟨rfl, hy⟩
                obtain rfl := yfn1 hy
                have hi1 : c + 1 + i0 < n := by omega
                refine ⟨_, rfl, _, _, rfl, rfl, _, rfl, _, _, rfl, ⟨by omega, by omega, by omega, by omega⟩, ?_⟩
                rw [show ((n : Nat) : Int) - ((c : Nat) + 1) = ((n - (c + 1) : Nat) : Int) by omega, show (((n - (c + 1) : Nat) : Int)).toNat = n - (c + 1) by omega]
                refine for_it walk_range (fun j0 σ H' => ∃ j, σ = [some (.ref t), some (.ref L), none, some (.int n), some (.int sg), some (.int bf), some (.int (c : Nat)), p, some (.int ((c + 1 + i0 : Nat) : Int)), j] ∧ LM H' L rs n (elimP M' c bf (c + 1 + i0) (c + 1 + j0)) ∧ Same H H') ⟨j, rfl, by rw [Nat.add_zero]; exact lm5, sm5⟩ (fun _ _ _ _ _ => trivial) ?_ ?_
                · rintro j0 y σ H7 H8 hj0 ⟨j, rfl, lm7, sm7⟩ ⟨rfl, hy⟩
                  obtain rfl := yfn1 hy
                  have hj1 : c + 1 + j0 < n := by omega
                  have g1 : elimP M' c bf (c + 1 + i0) (c + 1 + j0) (c + 1 + i0) (c + 1 + j0) = M' (c + 1 + i0) (c + 1 + j0) := elimP_get _ _ _ (by omega)
                  have g2 : elimP M' c bf (c + 1 + i0) (c + 1 + j0) c c = M' c c := elimP_get _ _ _ (by omega)
                  have g3 : elimP M' c bf (c + 1 + i0) (c + 1 + j0) (c + 1 + i0) c = M' (c + 1 + i0) c := elimP_get _ _ _ (by omega)
                  have g4 : elimP M' c bf (c + 1 + i0) (c + 1 + j0) c (c + 1 + j0) = M' c (c + 1 + j0) := elimP_get _ _ _ (by omega)
                  refine ⟨_, rfl, _, rfl, _, _, _, _, rfl, rfl, SqL.of (lm7).top, atI_nat (refV_at hi1), _, rfl, _, _, _, _, rfl, rfl, SqL.of ((lm7).row _ hi1), atI_nat (rowV_at hj1), _, rfl, _, rfl, _, _, _, _, rfl, rfl, SqL.of (lm7).top, atI_nat (refV_at hcn), _, rfl, _, _, _, _, rfl, rfl, SqL.of ((lm7).row _ hcn), atI_nat (rowV_at hcn), _, _, rfl, rfl, cmul_of (by rw [g1]; exact sml _ _ hi1 hj1), _, rfl, _, rfl, _, _, _, _, rfl, rfl, SqL.of (lm7).top, atI_nat (refV_at hi1), _, rfl, _, _, _, _, rfl, rfl, SqL.of ((lm7).row _ hi1), atI_nat (rowV_at hcn), _, rfl, _, rfl, _, _, _, _, rfl, rfl, SqL.of (lm7).top, atI_nat (refV_at hcn), _, rfl, _, _, _, _, rfl, rfl, SqL.of ((lm7).row _ hcn), atI_nat (rowV_at hj1), _, _, rfl, rfl, cmul_of (by rw [g3]; exact sml _ _ hi1 hcn), _, _, rfl, rfl, _, rfl, _, _, rfl, rfl, ⟨bf0.1, log_small (by omega)⟩, ?_⟩
                  rw [g1, g2, g3, g4]
                  refine ⟨_, rfl, _, rfl, _, _, _, _, rfl, rfl, SqL.of lm7.top, atI_nat (refV_at hi1), _, rfl, _, _, _, _, rfl, rfl, lm7.row _ hi1, ixN_row hj1, ?_⟩
                  refine ⟨_, rfl, ?_, Same.upd sm7 (nw _ hi1)⟩
                  have := lm7.setE (j := c + 1 + j0) (x := elimV M' c bf (c + 1 + i0) (c + 1 + j0)) hi1
                  rw [elimP_set M' c bf (by omega) (by omega)] at this
                  exact this
                · rintro σ H7 ⟨j, rfl, lm7, sm7⟩
                  refine ⟨_, _, rfl, lm7.congr fun r s hr hs => ?_, sm7⟩
                  rw [show c + 1 + (n - (c + 1)) = n by omega]
                  exact elimP_end M' c bf n (c + 1 + i0) r s hr hs
              · rintro σ H5 ⟨i, j, rfl, lm5, sm5⟩
                rw [show c + 1 + (n - (c + 1)) = n by omega] at lm5
                exact ⟨_, _, rfl, lm5, sm5⟩
            · rintro _ H5 ⟨i, j, rfl, lm5, sm5⟩
              refine ⟨_, rfl, _, rfl, _, _, _, _, rfl, rfl, SqL.of (lm5).top, atI_nat (refV_at hcn), _, rfl, _, _, _, _, rfl, rfl, SqL.of ((lm5).row _ hcn), atI_nat (rowV_at hcn), ?_⟩
              rw [elimP_get M' c bf (by omega)]
              exact ⟨_, _, _, _, sg, M' c c, rs, _, rfl, B.turn hc1 hpv, lm5, sm5, nw⟩
      · rintro σ H2 ⟨a, p, i, j, sg, bf, rs, M', rfl, B, lm, sm, nw⟩
        have hl1 : n - 1 < n := by omega
        have e := B.fin (by omega)
        have hs := B.sgn
        have en : ((n : Nat) : Int) - 1 = ((n - 1 : Nat) : Int) := by omega
        refine ⟨_, rfl, _, rfl, _, rfl, n, 1, rfl, rfl, L, _, (n : Int) - 1, V.ref (rs (n - 1)), rfl, rfl, SqL.of lm.top, by rw [en]; exact atI_nat (refV_at hl1), _, rfl, n, 1, rfl, rfl, rs (n - 1), _, (n : Int) - 1, V.int (M' (n - 1) (n - 1)), rfl, rfl, SqL.of (lm.row _ hl1), by rw [en]; exact atI_nat (rowV_at hl1), _, _, rfl, rfl, .inl ⟨by omega, by omega⟩, ?_⟩
        show Q (V.int (sg * M' (n - 1) (n - 1))) H2
        rw [e]
        exact k _ sm
end
end Ef
/-! text C5a -/
set_option Elab.async false
set_option linter.all false
set_option maxRecDepth 100000
set_option maxHeartbeats 2000000
namespace Ef
open PySem PySem.Spec PyProof.Rows L2 EfB
section
variable {P : Program} {w : World} {K : PySem.W.Frag} {mg : Str → Option Value} {base : Heap}
def sp_Matrix_det (K : PySem.W.Frag) : Sp := fun vs H Q _ => ∃ (a : Addr) (n : Nat) (M : Mx), vs = [.ref a] ∧ MxAt K H a n M ∧ (n = 2 ∨ n = 3) ∧ (∀ i j, i < n → j < n → (M i j).natAbs ≤ 8192) ∧ ∀ H' : Hp, Same H H' → Q (.int (detn n M)) H'
theorem sc_Matrix_determinant : FnScope ["self"] ["self"] (defScope s_Matrix_determinant) := ⟨rfl, rfl, rfl, by decide +kernel, rfl, by decide +kernel, by decide +kernel⟩
theorem r_Matrix_determinant (T : Ok K mg) : FnR P w K mg base CX0 2 (ma K "Matrix" "determinant") (sp_Matrix_det K) := by
  obtain ⟨fd, F⟩ := T.f_Matrix_determinant
  refine frn F sc_Matrix_determinant (fun _ _ _ _ _ _ us hl => match us, hl with | [_], _ => rfl) (fun vs H Q E h => ?_) (fun cdv A outer s H vs Q E hr h => ?_)
  · obtain ⟨a, n, M, rfl, _⟩ := h
    rfl
  · obtain ⟨a, n, M, rfl, ⟨dx, t, h1, h2⟩, hn, hM, k⟩ := h
    refine ⟨_, (pss_cons (ps_if (pt_cmpR op_ne (pe_fldK (K := K) rfl (pv 0) rfl) (pe_fldK (K := K) rfl (pv 0) rfl) (nomark _))
        (pss_one ps_never) pss_nil)
      (pss_one (ps_ret (pe_callR (r_determinant_of T) (hr.mono (by decide)) (kp_of T.f_determinant_of) rfl T.g_determinant_of pass0 (pa_cons (pe_fldK (K := K) rfl (pv 0) rfl) pa_nil))))), ?_⟩
    refine ⟨_, rfl, a, _, dx, _, _, rfl, h1, T.cl_Matrix, T.na_Matrix_height, mxF_h t n, _, rfl, a, _, dx, _, _, rfl, h1, T.cl_Matrix, T.na_Matrix_width, mxF_w t n, rfl, _, rfl, ?_⟩
    refine ifN (fun z => absurd rfl z) fun _ => ?_
    exact ⟨_, rfl, a, _, dx, _, _, rfl, h1, T.cl_Matrix, T.na_Matrix_rows, mxF_rows t n, t, n, M, rfl, h2, hn, hM, k⟩
/-! ### what a step of one list of lists leaves -/
structure St1 (L : Addr) (n : Nat) (rs : Nat → Addr) (H : Hp) (rs' : Nat → Addr) (H' : Hp) : Prop where
  kp : ∀ c o, H c = some o → c ≠ L → (∀ i, i < n → c ≠ rs i) → H' c = some o
  mon : ∀ c, H' c = none → H c = none
  nw : ∀ i, i < n → (∃ j, j < n ∧ rs' i = rs j) ∨ H (rs' i) = none
theorem St1.refl (L : Addr) (n : Nat) (rs : Nat → Addr) (H : Hp) : St1 L n rs H rs H := ⟨fun _ _ h _ _ => h, fun _ h => h, fun i hi => .inl ⟨i, hi, rfl⟩⟩
theorem St1.trans {L : Addr} {n : Nat} {r r' r'' : Nat → Addr} {H H' H'' : Hp} (a : St1 L n r H r' H') (b : St1 L n r' H' r'' H'') : St1 L n r H r'' H'' := by
  refine ⟨fun c o h h1 h2 => b.kp c o (a.kp c o h h1 h2) h1 fun i hi e => ?_, fun c h => a.mon c (b.mon c h), fun i hi => ?_⟩
  · rcases a.nw i hi with ⟨j, hj, e2⟩ | e2
    · exact h2 j hj (e.trans e2)
    · rw [← e, h] at e2; cases e2
  · rcases b.nw i hi with ⟨j, hj, e⟩ | e
    · rw [e]; exact a.nw j hj
    · exact .inr (a.mon _ e)
theorem mon_upd {H : Hp} {p c : Addr} {o : HO} (h : upd H p o c = none) : H c = none := by
  by_cases e : c = p
  · rw [e, upd_same] at h; cases h
  · rwa [upd_ne e] at h
theorem St1.new {L : Addr} {n : Nat} {r : Nat → Addr} {H : Hp} {p : Addr} {o : HO} (h : H p = none) : St1 L n r H r (upd H p o) :=
  ⟨fun c u hc _ _ => by rw [upd_ne (ne_of_none hc h)]; exact hc, fun c => mon_upd, fun i hi => .inl ⟨i, hi, rfl⟩⟩
theorem St1.top {L : Addr} {n : Nat} {r r' : Nat → Addr} {H : Hp} {o : HO} (h : ∀ i, i < n → (∃ j, j < n ∧ r' i = r j) ∨ H (r' i) = none) : St1 L n r H r' (upd H L o) :=
  ⟨fun c u hc h1 _ => by rw [upd_ne h1]; exact hc, fun c => mon_upd, h⟩
theorem St1.row {L : Addr} {n i : Nat} {r : Nat → Addr} {H : Hp} {o : HO} (hi : i < n) : St1 L n r H r (upd H (r i) o) :=
  ⟨fun c u hc _ h2 => by rw [upd_ne (h2 i hi)]; exact hc, fun c => mon_upd, fun i hi => .inl ⟨i, hi, rfl⟩⟩
/-! ### rows and columns -/
def sp_added_row : Sp := fun vs H Q _ => ∃ (L : Addr) (rs : Nat → Addr) (n t s : Nat) (f : Int) (M : Mx), vs = [.ref L, .int t, .int s, .int f] ∧ LM H L rs n M ∧ t < n ∧ s < n ∧ n < 100 ∧ (∀ j, j < n → IntMulOk f (M s j)) ∧
  ∀ (H' : Hp) (rs' : Nat → Addr), LM H' L rs' n (addR M t s f) → St1 L n rs H rs' H' → Q .non H'
theorem sc_added_row : FnScope ["rows", "target", "source", "factor", "i", "j"] ["rows", "target", "source", "factor"] (defScope s_added_row) := ⟨rfl, rfl, rfl, by decide +kernel, rfl, by decide +kernel, by decide +kernel⟩
theorem r_added_row (T : Ok K mg) : FnR P w K mg base CX0 1 (ga K "added_row") sp_added_row := by
  obtain ⟨fd, F⟩ := T.f_added_row
  refine frn F sc_added_row (fun _ _ _ _ _ _ us hl => match us, hl with | [_, _, _, _], _ => rfl) (fun vs H Q E h => ?_) (fun cdv A outer s H vs Q E hr h => ?_)
  · obtain ⟨L, rs, n, t, s, f, M, rfl, _⟩ := h
    rfl
  · obtain ⟨L, rs, n, t, s, f, M, rfl, lm, ht, hs, hn, hf, k⟩ := h
    refine ⟨_, (pss_one (ps_asg (pe_lc (own := [("i", 4), ("j", 5)]) rfl sc_added_row.nd (pi_zipK (K := K) rfl (by rfl) T.n_zip (pa_cons (pe_ix (ix_listK (K := K) rfl) (pv 0) (pv 1) (fun _ _ => rfl)) (pa_cons (pe_ix (ix_listK (K := K) rfl) (pv 0) (pv 2) (fun _ _ => rfl)) pa_nil))) (blkOk_by (own := [("i", 4), ("j", 5)]) (N := ["rows", "target", "source", "factor", "i", "j"]) (sc := (defScope s_added_row)) (by decide +kernel)) (fun _ _ _ _ _ => (pg_tupK (K := K) (n := 2) rfl rfl (pgs_cons (pg_name (i := 4) sc_added_row.nd rfl (Or.inl rfl)) (pgs_cons (pg_name (i := 5) sc_added_row.nd rfl (Or.inl rfl)) pgs_nil)))) (fun _ _ _ _ _ => pts_nil) (by exact fun _ _ _ _ _ => (pe_op op_add (pv 4) (pe_op op_mulG (pv 3) (pv 5))))) (pg_sub (pv 0) (pv 1) set_list))), ?_⟩
    refine ⟨_, rfl, _, rfl, L, _, t, _, rfl, rfl, SqL.of lm.top, atI_nat (refV_at ht), _, rfl, _, rfl, L, _, s, _, rfl, rfl, SqL.of lm.top, atI_nat (refV_at hs), ?_⟩
    refine ⟨_, _, _, _, rfl, SqL.of (lm.row t ht), SqL.of (lm.row s hs), fun D hD => ?_⟩
    refine lc_it (walk_zip (K := K) (a := rs t) (b := rs s) (xs := rowV n (M t)) (ys := rowV n (M s)) (n := n) (by rw [rowV_len, rowV_len]; omega)) (fun i H' => Same H H' ∧ H' D = some (.lst (rowV i fun j => M t j + f * M s j))) ⟨Same.upd (Same.refl H) hD, upd_same⟩ (fun i H' _ p => ⟨SqL.of (p.1 _ _ (lm.row t ht)), SqL.of (p.1 _ _ (lm.row s hs))⟩) ?_ ?_
    · rintro i y H' H'' hi ⟨sm, g⟩ ⟨T1, u, v, rfl, hT, rfl, hu, hv⟩
      obtain rfl := rowV_get hi hu
      obtain rfl := rowV_get hi hv
      have sm2 := Same.upd (o := .tup [.int (M t i), .int (M s i)]) sm (sm.free hT)
      refine ⟨T1, _, rfl, SqT.of upd_same, rfl, _, _, rfl, _, _, rfl, rfl, rfl, ?_⟩
      refine ⟨_, rfl, _, rfl, _, rfl, _, _, rfl, rfl, hf i hi, _, _, rfl, rfl, _, by rw [upd_ne (ne_of_none g hT)]; exact g, ?_, Same.upd sm2 hD, ?_⟩
      · rw [rowV_len]
        exact size_lt (by omega)
      · rw [upd_same, rowV_succ]
    · rintro H' ⟨sm, g⟩
      have tD : ∀ i, i < n → D ≠ rs i := fun i hi e => by rw [e, lm.row i hi] at hD; cases hD
      have LD : D ≠ L := fun e => by rw [e, lm.top] at hD; cases hD
      have lm2 := lm.same sm
      refine ⟨_, rfl, _, rfl, L, _, t, t, rfl, rfl, lm2.top, ixN_ref ht, ?_⟩
      refine k _ _ ((lm2.setRow (t := t) g LD tD).congr fun i j hi hj => ?_) ⟨fun c o hc c1 c2 => ?_, fun c hc => ?_, fun i hi => ?_⟩
      · unfold addR
        rfl
      · rw [upd_ne c1]
        exact sm _ _ hc
      · exact sm.free (mon_upd hc)
      · show (∃ j, j < n ∧ (if i = t then D else rs i) = rs j) ∨ H (if i = t then D else rs i) = none
        split
        · exact .inr hD
        · exact .inl ⟨i, hi, rfl⟩
end
end Ef
/-! text C5b -/
set_option Elab.async false
set_option linter.all false
set_option maxRecDepth 100000
set_option maxHeartbeats 2000000
namespace Ef
open PySem PySem.Spec PyProof.Rows L2 EfB
section
variable {P : Program} {w : World} {K : PySem.W.Frag} {mg : Str → Option Value} {base : Heap}
def colP (M : Mx) (t s : Nat) (f : Int) (i0 : Nat) : Mx := fun r c => if r < i0 ∧ c = t then M r t + f * M r s else M r c
theorem colP_0 (M : Mx) (t s : Nat) (f : Int) : colP M t s f 0 = M := by
  funext r c
  unfold colP
  rw [if_neg (by omega)]
theorem colP_set (M : Mx) (t s : Nat) (f : Int) (i : Nat) : setE (colP M t s f i) i t (M i t + f * M i s) = colP M t s f (i + 1) := by
  funext r c
  unfold setE colP
  by_cases e : r = i ∧ c = t
  · obtain ⟨rfl, rfl⟩ := e
    rw [if_pos ⟨rfl, rfl⟩, if_pos (by omega)]
  · rw [if_neg e]
    by_cases e2 : r < i ∧ c = t
    · rw [if_pos e2, if_pos (by omega)]
    · rw [if_neg e2, if_neg (by omega)]
theorem colP_i (M : Mx) (t s : Nat) (f : Int) (i c : Nat) : colP M t s f i i c = M i c := by
  unfold colP
  rw [if_neg (by omega)]
def sp_added_col : Sp := fun vs H Q _ => ∃ (L : Addr) (rs : Nat → Addr) (n t s : Nat) (f : Int) (M : Mx), vs = [.ref L, .int t, .int s, .int f] ∧ LM H L rs n M ∧ t < n ∧ s < n ∧ n < 100 ∧ (∀ j, j < n → IntMulOk f (M j s)) ∧
  ∀ (H' : Hp), LM H' L rs n (addC M t s f) → St1 L n rs H rs H' → Q .non H'
theorem sc_added_column : FnScope ["rows", "target", "source", "factor", "row"] ["rows", "target", "source", "factor"] (defScope s_added_column) := ⟨rfl, rfl, rfl, by decide +kernel, rfl, by decide +kernel, by decide +kernel⟩
theorem r_added_column (T : Ok K mg) : FnR P w K mg base CX0 1 (ga K "added_column") sp_added_col := by
  obtain ⟨fd, F⟩ := T.f_added_column
  refine frn F sc_added_column (fun _ _ _ _ _ _ us hl => match us, hl with | [_, _, _, _], _ => rfl) (fun vs H Q E h => ?_) (fun cdv A outer s H vs Q E hr h => ?_)
  · obtain ⟨L, rs, n, t, s, f, M, rfl, _⟩ := h
    rfl
  · obtain ⟨L, rs, n, t, s, f, M, rfl, lm, ht, hs, hn, hf, k⟩ := h
    refine ⟨_, (pss_one (ps_for PassesOwn.never rfl (pi_listK (K := K) rfl (pv 0)) (pg_name (i := 4) sc_added_column.nd rfl (Or.inl rfl))
        (pss_one (ps_augS (pv 4) (pv 1) get_list (pe_op op_mulG (pv 3) (pe_ix (ix_listK (K := K) rfl) (pv 4) (pv 2) (fun _ _ => rfl))) ip_add set_list)))), ?_⟩
    refine ⟨_, rfl, L, rfl, ⟨_, SqL.of lm.top⟩, ?_⟩
    refine for_it (walk_list (K := K) (a := L) (xs := refV n rs)) (fun i σ H' => ∃ r, σ = [some (.ref L), some (.int t), some (.int s), some (.int f), r] ∧ LM H' L rs n (colP M t s f i) ∧ St1 L n rs H rs H') ⟨none, rfl, by rw [colP_0]; exact lm, St1.refl _ _ _ _⟩ (fun i σ H' _ ⟨_, _, l, _⟩ => SqL.of l.top) ?_ ?_
    · rintro i y σ H' H'' hi ⟨r, rfl, l, st⟩ ⟨rfl, hy⟩
      rw [refV_len] at hi
      obtain rfl := refV_get hi hy
      refine ⟨_, rfl, _, rfl, rs i, _, t, _, rfl, rfl, SqL.of (l.row i hi), rowV_at ht, _, rfl, _, rfl, _, rfl, rs i, _, s, _, rfl, rfl, SqL.of (l.row i hi), atI_nat (rowV_at hs), _, _, rfl, rfl, ?_, _, _, rfl, rfl, rs i, _, t, t, rfl, rfl, l.row i hi, ixN_row ht, ?_⟩
      · rw [colP_i]; exact hf i hi
      · rw [colP_i, colP_i]
        refine ⟨_, rfl, ?_, st.trans (St1.row hi)⟩
        rw [← colP_set]
        exact l.setE hi
    · rintro σ H' ⟨r, rfl, l, st⟩
      rw [refV_len] at l
      refine k H' (l.congr fun r c hr hc => ?_) st
      unfold colP addC
      by_cases e : c = t
      · rw [if_pos ⟨hr, e⟩, if_pos e]
      · rw [if_neg (fun z => e z.2), if_neg e]
def swpP (M : Mx) (t s i0 : Nat) : Mx := fun r c => if r < i0 then swapC M t s r c else M r c
def sp_exch_cols : Sp := fun vs H Q _ => ∃ (L : Addr) (rs : Nat → Addr) (n t s : Nat) (M : Mx), vs = [.ref L, .int t, .int s] ∧ LM H L rs n M ∧ t < n ∧ s < n ∧ n < 100 ∧
  ∀ (H' : Hp), LM H' L rs n (swapC M t s) → St1 L n rs H rs H' → Q .non H'
theorem sc_exchanged_columns : FnScope ["rows", "first", "second", "row"] ["rows", "first", "second"] (defScope s_exchanged_columns) := ⟨rfl, rfl, rfl, by decide +kernel, rfl, by decide +kernel, by decide +kernel⟩
theorem r_exchanged_columns (T : Ok K mg) : FnR P w K mg base CX0 1 (ga K "exchanged_columns") sp_exch_cols := by
  obtain ⟨fd, F⟩ := T.f_exchanged_columns
  refine frn F sc_exchanged_columns (fun _ _ _ _ _ _ us hl => match us, hl with | [_, _, _], _ => rfl) (fun vs H Q E h => ?_) (fun cdv A outer s H vs Q E hr h => ?_)
  · obtain ⟨L, rs, n, t, s, M, rfl, _⟩ := h
    rfl
  · obtain ⟨L, rs, n, t, s, M, rfl, lm, ht, hs, hn, k⟩ := h
    refine ⟨_, (pss_one (ps_for PassesOwn.never rfl (pi_listK (K := K) rfl (pv 0)) (pg_name (i := 3) sc_exchanged_columns.nd rfl (Or.inl rfl))
        (pss_one (ps_asg (pe_tup (pa_cons (pe_ix (ix_listK (K := K) rfl) (pv 3) (pv 2) (fun _ _ => rfl)) (pa_cons (pe_ix (ix_listK (K := K) rfl) (pv 3) (pv 1) (fun _ _ => rfl)) pa_nil))) (pg_tupK (K := K) (n := 2) rfl rfl (pgs_cons (pg_sub (pv 3) (pv 1) set_list) (pgs_cons (pg_sub (pv 3) (pv 2) set_list) pgs_nil))))))), ?_⟩
    refine ⟨_, rfl, L, rfl, ⟨_, SqL.of lm.top⟩, ?_⟩
    refine for_it (walk_list (K := K) (a := L) (xs := refV n rs)) (fun i σ H' => ∃ r, σ = [some (.ref L), some (.int t), some (.int s), r] ∧ LM H' L rs n (swpP M t s i) ∧ St1 L n rs H rs H') ⟨none, rfl, lm.congr fun r c _ _ => ?_, St1.refl _ _ _ _⟩ (fun i σ H' _ ⟨_, _, l, _⟩ => SqL.of l.top) ?_ ?_
    · unfold swpP
      rw [if_neg (by omega)]
    · rintro i y σ H' H'' hi ⟨r, rfl, l, st⟩ ⟨rfl, hy⟩
      rw [refV_len] at hi
      obtain rfl := refV_get hi hy
      refine ⟨_, rfl, _, rfl, rs i, _, s, _, rfl, rfl, SqL.of (l.row i hi), atI_nat (rowV_at hs), _, rfl, _, rfl, rs i, _, t, _, rfl, rfl, SqL.of (l.row i hi), atI_nat (rowV_at ht), two_size, fun z hz => ?_⟩
      have lz := l.new (o := .tup [.int (swpP M t s i i s), .int (swpP M t s i i t)]) hz
      have l1 := lz.setE (j := t) (x := swpP M t s i i s) hi
      have l2 := l1.setE (j := s) (x := swpP M t s i i t) hi
      refine ⟨z, _, rfl, SqT.of upd_same, rfl, _, _, rfl, _, rfl, _, rfl, rs i, _, t, t, rfl, rfl, lz.row i hi, ixN_row ht, _, _, rfl, _, rfl, _, rfl, rs i, _, s, s, rfl, rfl, l1.row i hi, ixN_row hs, rfl, ?_⟩
      refine ⟨_, rfl, l2.congr fun r c hr hc => ?_, st.trans ((St1.new hz).trans ((St1.row hi).trans (St1.row hi)))⟩
      have e0 : ∀ c, swpP M t s i i c = M i c := fun c => by
        unfold swpP
        rw [if_neg (by omega)]
      rw [e0, e0]
      unfold setE swpP swapC
      by_cases e : r = i
      · subst e
        rw [if_pos (show r < r + 1 by omega)]
        by_cases e1 : c = s
        · rw [if_pos ⟨rfl, e1⟩]
          by_cases e2 : c = t
          · rw [if_pos e2, ← e1, e2]
          · rw [if_neg e2, if_pos e1]
        · rw [if_neg (fun z => e1 z.2), if_neg (show ¬ r < r by omega)]
          by_cases e2 : c = t
          · rw [if_pos ⟨rfl, e2⟩, if_pos e2]
          · rw [if_neg (fun z => e2 z.2), if_neg e2, if_neg e1]
      · rw [if_neg (fun z => e z.1), if_neg (fun z => e z.1)]
        by_cases e2 : r < i
        · rw [if_pos e2, if_pos (show r < i + 1 by omega)]
        · rw [if_neg e2, if_neg (show ¬ r < i + 1 by omega)]
    · rintro σ H' ⟨r, rfl, l, st⟩
      rw [refV_len] at l
      refine k H' (l.congr fun r c hr hc => ?_) st
      unfold swpP
      rw [if_pos hr]
end
end Ef
/-! text C5c -/
set_option Elab.async false
set_option linter.all false
set_option maxRecDepth 100000
set_option maxHeartbeats 2000000
namespace Ef
open PySem PySem.Spec PyProof.Rows L2 EfB
section
variable {P : Program} {w : World} {K : PySem.W.Frag} {mg : Str → Option Value} {base : Heap}
theorem ref_ne_row {n : Nat} {rs : Nat → Addr} {f : Nat → Int} (h : 0 < n) : refV n rs ≠ rowV n f := fun e => by
  have h1 := refV_at (rs := rs) h
  have h2 := rowV_at (f := f) h
  rw [e, h2] at h1
  cases h1
def up3 {α : Type} (f : Nat → α) (t : Nat) (x : α) : Nat → α := fun t' => if t' = t then x else f t'
theorem up3_eq {α : Type} (f : Nat → α) (t : Nat) (x : α) : up3 f t x t = x := if_pos rfl
theorem up3_ne {α : Type} {f : Nat → α} {t t' : Nat} {x : α} (h : t' ≠ t) : up3 f t x t' = f t' := if_neg h
structure WS (H : Hp) (L : Nat → Addr) (r : Nat → Nat → Addr) (n : Nat) (X : Nat → Mx) : Prop where
  lm : ∀ t, t < 3 → LM H (L t) (r t) n (X t)
  sepL : ∀ t t', t < 3 → t' < 3 → L t = L t' → t = t'
  sepR : ∀ t t' i j, t < 3 → t' < 3 → i < n → j < n → r t i = r t' j → t = t'
structure St3 (L : Nat → Addr) (n : Nat) (r : Nat → Nat → Addr) (H : Hp) (r' : Nat → Nat → Addr) (H' : Hp) : Prop where
  kp : ∀ c o, H c = some o → (∀ t, t < 3 → c ≠ L t) → (∀ t i, t < 3 → i < n → c ≠ r t i) → H' c = some o
  mon : ∀ c, H' c = none → H c = none
  nw : ∀ t i, t < 3 → i < n → (∃ j, j < n ∧ r' t i = r t j) ∨ H (r' t i) = none
theorem St3.refl (L : Nat → Addr) (n : Nat) (r : Nat → Nat → Addr) (H : Hp) : St3 L n r H r H := ⟨fun _ _ h _ _ => h, fun _ h => h, fun t i ht hi => .inl ⟨i, hi, rfl⟩⟩
theorem St3.trans {L : Nat → Addr} {n : Nat} {r r' r'' : Nat → Nat → Addr} {H H' H'' : Hp} (a : St3 L n r H r' H') (b : St3 L n r' H' r'' H'') : St3 L n r H r'' H'' := by
  refine ⟨fun c o h h1 h2 => b.kp c o (a.kp c o h h1 h2) h1 fun t i ht hi e => ?_, fun c h => a.mon c (b.mon c h), fun t i ht hi => ?_⟩
  · rcases a.nw t i ht hi with ⟨j, hj, e2⟩ | e2
    · exact h2 t j ht hj (e.trans e2)
    · rw [← e, h] at e2; cases e2
  · rcases b.nw t i ht hi with ⟨j, hj, e⟩ | e
    · rw [e]; exact a.nw t j ht hj
    · exact .inr (a.mon _ e)
theorem St3.same {L : Nat → Addr} {n : Nat} {r : Nat → Nat → Addr} {H H' : Hp} (s : Same H H') : St3 L n r H r H' := ⟨fun c o h _ _ => s c o h, fun c h => s.free h, fun t i ht hi => .inl ⟨i, hi, rfl⟩⟩
theorem WS.same {H H' : Hp} {L : Nat → Addr} {r : Nat → Nat → Addr} {n : Nat} {X : Nat → Mx} (W : WS H L r n X) (s : Same H H') : WS H' L r n X := ⟨fun t ht => (W.lm t ht).same s, W.sepL, W.sepR⟩
theorem WS.step {H H' : Hp} {L : Nat → Addr} {r : Nat → Nat → Addr} {n t : Nat} {X : Nat → Mx} {M' : Mx} {rs' : Nat → Addr} (W : WS H L r n X) (ht : t < 3) (lm : LM H' (L t) rs' n M') (st : St1 (L t) n (r t) H rs' H') :
    WS H' L (up3 r t rs') n (up3 X t M') ∧ St3 L n r H (up3 r t rs') H' := by
  have nw : ∀ t' i, t' < 3 → i < n → (∃ j, j < n ∧ up3 r t rs' t' i = r t' j) ∨ H (up3 r t rs' t' i) = none := fun t' i h3 hi => by
    by_cases e : t' = t
    · subst e
      rw [up3_eq]
      exact st.nw i hi
    · rw [up3_ne e]
      exact .inl ⟨i, hi, rfl⟩
  refine ⟨⟨fun t' h3 => ?_, W.sepL, fun t1 t2 i j h1 h2 hi hj e => ?_⟩, ⟨fun c o h h1 h2 => st.kp c o h (h1 t ht) fun i hi => h2 t i ht hi, st.mon, nw⟩⟩
  · by_cases e : t' = t
    · subst e
      rw [up3_eq, up3_eq]
      exact lm
    · rw [up3_ne e, up3_ne e]
      have a := W.lm t' h3
      have b := W.lm t ht
      refine ⟨st.kp _ _ a.top (fun z => e (W.sepL _ _ h3 ht z)) fun i hi z => ?_, fun i hi => st.kp _ _ (a.row i hi) (fun z => ?_) fun j hj z => e (W.sepR _ _ _ _ h3 ht hi hj z), a.inj, a.neL⟩
      · have h1 := a.top
        rw [z, b.row i hi] at h1
        injection h1 with h1
        injection h1 with h1
        exact ref_ne_row (by omega) h1.symm
      · have h1 := a.row i hi
        rw [z, b.top] at h1
        injection h1 with h1
        injection h1 with h1
        exact ref_ne_row (by omega) h1
  · have key : ∀ t1 t2 i j, t1 < 3 → t2 < 3 → i < n → j < n → up3 r t rs' t1 i = r t2 j → t1 = t2 := fun t1 t2 i j h1 h2 hi hj e => by
      rcases nw t1 i h1 hi with ⟨k, hk, e2⟩ | e2
      · exact W.sepR _ _ _ _ h1 h2 hk hj (e2.symm.trans e)
      · rw [e, (W.lm t2 h2).row j hj] at e2; cases e2
    by_cases e1 : t1 = t
    · by_cases e2 : t2 = t
      · omega
      · rw [up3_ne e2] at e
        exact key t1 t2 i j h1 h2 hi hj e
    · rw [up3_ne e1] at e
      exact (key t2 t1 j i h2 h1 hj hi e.symm).symm
/-- what is no list is kept -/
theorem St3.keep {L : Nat → Addr} {n : Nat} {r r' : Nat → Nat → Addr} {H H' : Hp} {X : Nat → Mx} (s : St3 L n r H r' H') (W : WS H L r n X) {c : Addr} {o : HO} (h : H c = some o) (nl : ∀ xs, o ≠ .lst xs) : H' c = some o := by
  refine s.kp c o h (fun t ht e => ?_) fun t i ht hi e => ?_
  · rw [e, (W.lm t ht).top] at h
    exact nl _ (Option.some.inj h).symm
  · rw [e, (W.lm t ht).row i hi] at h
    exact nl _ (Option.some.inj h).symm
def wkF (L : Nat → Addr) : List (Str × V) := putF "last" (.ref (L 2)) (putF "middle" (.ref (L 1)) (putF "first" (.ref (L 0)) []))
theorem wkF_0 (L : Nat → Addr) : (wkF L).lookup ("first" : Str) = some (.ref (L 0)) := by
  unfold wkF
  rw [lookup_putF, if_neg (by decide +kernel), lookup_putF, if_neg (by decide +kernel), lookup_putF, if_pos rfl]
theorem wkF_1 (L : Nat → Addr) : (wkF L).lookup ("middle" : Str) = some (.ref (L 1)) := by
  unfold wkF
  rw [lookup_putF, if_neg (by decide +kernel), lookup_putF, if_pos rfl]
theorem wkF_2 (L : Nat → Addr) : (wkF L).lookup ("last" : Str) = some (.ref (L 2)) := by
  unfold wkF
  rw [lookup_putF, if_pos rfl]
theorem wkF_no (L : Nat → Addr) {m : Str} (h1 : ¬ m = "last") (h2 : ¬ m = "middle") (h3 : ¬ m = "first") : (wkF L).lookup m = none := by
  unfold wkF
  rw [lookup_putF, if_neg h1, lookup_putF, if_neg h2, lookup_putF, if_neg h3]
  rfl
def WA (K : PySem.W.Frag) (H : Hp) (a : Addr) (L : Nat → Addr) : Prop := ∃ dx, H a = some (.ins (ga K "Work") dx (wkF L))
theorem WA.keep {K : PySem.W.Frag} {H H' : Hp} {a : Addr} {L : Nat → Addr} {n : Nat} {r r' : Nat → Nat → Addr} {X : Nat → Mx} (h : WA K H a L) (W : WS H L r n X) (s : St3 L n r H r' H') : WA K H' a L := let ⟨dx, h⟩ := h; ⟨dx, s.keep W h fun _ z => nomatch z⟩
/-- the three at the start -/
def X0 (A : Mx) : Nat → Mx := fun t => if t = 1 then A else oneM
def sp_Work_init (K : PySem.W.Frag) : Sp := fun vs H Q _ => ∃ (x dx m : Addr) (n : Nat) (A : Mx), vs = [.ref x, .ref m] ∧ H x = some (.ins (ga K "Work") dx []) ∧ MxAt K H m n A ∧ 0 < n ∧ n < 100 ∧
  ∀ (H' : Hp) (L : Nat → Addr) (r : Nat → Nat → Addr), WA K H' x L → WS H' L r n (X0 A) → (∀ c o, H c = some o → c ≠ x → H' c = some o) → (∀ t, t < 3 → H (L t) = none) → (∀ t i, t < 3 → i < n → H (r t i) = none) → Q .non H'
theorem sc_Work_init : FnScope ["self", "matrix", "row"] ["self", "matrix"] (defScope s_Work_init) := ⟨rfl, rfl, rfl, by decide +kernel, rfl, by decide +kernel, by decide +kernel⟩
theorem r_Work_init (T : Ok K mg) : FnR P w K mg base CX0 5 (ma K "Work" "__init__") (sp_Work_init K) := by
  obtain ⟨fd, F⟩ := T.f_Work_init
  refine frn F sc_Work_init (fun _ _ _ _ _ _ us hl => match us, hl with | [_, _], _ => rfl) (fun vs H Q E h => ?_) (fun cdv A outer s H vs Q E hr h => ?_)
  · obtain ⟨x, dx, m, n, A, rfl, _⟩ := h
    rfl
  · obtain ⟨x, dx, m, n, A, rfl, hx, hm, h0, hn, k⟩ := h
    refine ⟨_, (pss_cons (ps_fld (pv 0) (pe_lc (own := [("row", 2)]) rfl sc_Work_init.nd (pi_tupK (K := K) rfl (pe_fldK (K := K) rfl (ClX.pe_cmeth (pe_glob (v := .ref (ga K "Matrix")) rfl T.g_Matrix rfl) T.rd_Matrix T.cm_Matrix_unit (r_Matrix_unit T) (hr.mono (by decide)) pass0 (pa_cons (pe_fldK (K := K) rfl (pv 1) rfl) pa_nil)) rfl)) (blkOk_by (own := [("row", 2)]) (N := ["self", "matrix", "row"]) (sc := (defScope s_Work_init)) (by decide +kernel)) (fun _ _ _ _ _ => (pg_name (i := 2) sc_Work_init.nd rfl (Or.inl rfl))) (fun _ _ _ _ _ => pts_nil) (by exact fun _ _ _ _ _ => (pe_callTy (call_lstK (K := K) rfl) (by rfl) T.n_list (by decide +kernel) (pa_cons (pv 2) pa_nil)))) rfl)
      (pss_cons (ps_fld (pv 0) (pe_lc (own := [("row", 2)]) rfl sc_Work_init.nd (pi_tupK (K := K) rfl (pe_fldK (K := K) rfl (pv 1) rfl)) (blkOk_by (own := [("row", 2)]) (N := ["self", "matrix", "row"]) (sc := (defScope s_Work_init)) (by decide +kernel)) (fun _ _ _ _ _ => (pg_name (i := 2) sc_Work_init.nd rfl (Or.inl rfl))) (fun _ _ _ _ _ => pts_nil) (by exact fun _ _ _ _ _ => (pe_callTy (call_lstK (K := K) rfl) (by rfl) T.n_list (by decide +kernel) (pa_cons (pv 2) pa_nil)))) rfl)
      (pss_one (ps_fld (pv 0) (pe_lc (own := [("row", 2)]) rfl sc_Work_init.nd (pi_tupK (K := K) rfl (pe_fldK (K := K) rfl (ClX.pe_cmeth (pe_glob (v := .ref (ga K "Matrix")) rfl T.g_Matrix rfl) T.rd_Matrix T.cm_Matrix_unit (r_Matrix_unit T) (hr.mono (by decide)) pass0 (pa_cons (pe_fldK (K := K) rfl (pv 1) rfl) pa_nil)) rfl)) (blkOk_by (own := [("row", 2)]) (N := ["self", "matrix", "row"]) (sc := (defScope s_Work_init)) (by decide +kernel)) (fun _ _ _ _ _ => (pg_name (i := 2) sc_Work_init.nd rfl (Or.inl rfl))) (fun _ _ _ _ _ => pts_nil) (by exact fun _ _ _ _ _ => (pe_callTy (call_lstK (K := K) rfl) (by rfl) T.n_list (by decide +kernel) (pa_cons (pv 2) pa_nil)))) rfl)))), ?_⟩
    obtain ⟨dm, tm, hm1, ta, hm2, hm3⟩ := hm
    have mx : m ≠ x := fun e => by
      rw [e, hx] at hm1
      injection hm1 with z
      injection z with _ _ z
      have := mxF_rows tm n
      rw [← z] at this
      cases this
    refine ⟨rfl, _, rfl, m, _, dm, _, _, rfl, hm1, T.cl_Matrix, T.na_Matrix_height, mxF_h tm n, n, rfl, h0, hn, fun H1 u s1 nu ⟨du, tu, hu1, tb, hu2, hu3⟩ => ?_⟩
    refine ⟨u, _, du, _, _, rfl, hu1, T.cl_Matrix, T.na_Matrix_rows, mxF_rows tu n, tu, rfl, ⟨_, SqT.of hu2⟩, fun D0 hD0 => ?_⟩
    refine lc_it (walk_tup (K := K) (a := tu) (xs := refV n tb)) (fun i H' => ∃ rs, LG H1 H' D0 rs n (oneM) i) ⟨_, lg_nil hD0⟩ (fun i H' _ ⟨_, g⟩ => SqT.of (g.sm _ _ hu2)) ?_ ?_
    · rintro i y H' H'' hi ⟨rs, g⟩ ⟨rfl, hy⟩
      rw [refV_len] at hi
      obtain rfl := refV_get hi hy
      refine ⟨rfl, ?_⟩
      refine ⟨_, rfl, _, _, rfl, .inr (SqT.of (g.sm _ _ (hu3 i hi))), fun q hq => ?_⟩
      exact g.add hD0 (by omega) (Same.upd (Same.refl _) hq) hq upd_same
    · rintro H2 ⟨r0, g0⟩
      rw [refV_len] at g0
      have lx := (s1.trans g0.sm) _ _ hx
      refine ⟨_, rfl, x, _, dx, _, rfl, lx, T.cl_Work, T.na_Work_first, (by show 0 < 1000; decide), ?_⟩
      have nx : ∀ xs, HO.ins (ga K "Work") dx xs ≠ HO.lst (refV n r0) := fun xs z => nomatch z
      have x0 : x ≠ D0 := fun e => by rw [e, g0.top] at lx; cases lx
      have x1 : ∀ i, i < n → x ≠ r0 i := fun i hi e => by rw [e, g0.row i hi] at lx; cases lx
      have l0 := g0.lm.off (o := .ins (ga K "Work") dx (putF "first" (.ref D0) [])) x0 x1
      have k3 : ∀ c o, H c = some o → c ≠ x → upd H2 x (.ins (ga K "Work") dx (putF "first" (.ref D0) [])) c = some o := fun c o h e => by rw [upd_ne e]; exact (s1.trans g0.sm) c o h
      have m3 : ∀ c, upd H2 x (.ins (ga K "Work") dx (putF "first" (.ref D0) [])) c = none → H c = none := fun c h => (s1.trans g0.sm).free (mon_upd h)
      have hx3 : upd H2 x (.ins (ga K "Work") dx (putF "first" (.ref D0) [])) x = some (.ins (ga K "Work") dx (putF "first" (.ref D0) [])) := upd_same
      have nD0 : H D0 = none := s1.free hD0
      have nr0 : ∀ i, i < n → H (r0 i) = none := fun i hi => s1.free (g0.nw i hi)
      generalize upd H2 x (.ins (ga K "Work") dx (putF "first" (.ref D0) [])) = H3 at l0 k3 m3 hx3
      have b0 := l0
      have tx : tm ≠ x := fun e => by rw [e, hx] at hm2; cases hm2
      have tax : ∀ i, i < n → ta i ≠ x := fun i hi e => by have := hm3 i hi; rw [e, hx] at this; cases this
      have hm13 := k3 _ _ hm1 mx
      have hm23 := k3 _ _ hm2 tx
      have hm33 : ∀ i, i < n → H3 (ta i) = some (.tup (rowV n (A i))) := fun i hi => k3 _ _ (hm3 i hi) (tax i hi)
      refine ⟨_, rfl, m, _, dm, _, _, rfl, hm13, T.cl_Matrix, T.na_Matrix_rows, mxF_rows tm n, tm, rfl, ⟨_, SqT.of hm23⟩, fun D1 hD1 => ?_⟩
      refine lc_it (walk_tup (K := K) (a := tm) (xs := refV n ta)) (fun i H' => ∃ rs, LG H3 H' D1 rs n (A) i) ⟨_, lg_nil hD1⟩ (fun i H' _ ⟨_, g⟩ => SqT.of (g.sm _ _ hm23)) ?_ ?_
      · rintro i y H' H'' hi ⟨rs, g⟩ ⟨rfl, hy⟩
        rw [refV_len] at hi
        obtain rfl := refV_get hi hy
        refine ⟨rfl, ?_⟩
        refine ⟨_, rfl, _, _, rfl, .inr (SqT.of (g.sm _ _ (hm33 i hi))), fun q hq => ?_⟩
        exact g.add hD1 (by omega) (Same.upd (Same.refl _) hq) hq upd_same
      · rintro H4 ⟨r1, g1⟩
        rw [refV_len] at g1
        have lx := g1.sm _ _ hx3
        refine ⟨_, rfl, x, _, dx, _, rfl, lx, T.cl_Work, T.na_Work_middle, (by show 1 < 1000; decide), ?_⟩
        have y0 : x ≠ D1 := fun e => by rw [e, g1.top] at lx; cases lx
        have y1 : ∀ i, i < n → x ≠ r1 i := fun i hi e => by rw [e, g1.row i hi] at lx; cases lx
        have l1 := g1.lm.off (o := .ins (ga K "Work") dx (putF "middle" (.ref D1) (putF "first" (.ref D0) []))) y0 y1
        have l0 := (l0.same g1.sm).off (o := .ins (ga K "Work") dx (putF "middle" (.ref D1) (putF "first" (.ref D0) []))) x0 x1
        have k5 : ∀ c o, H c = some o → c ≠ x → upd H4 x (.ins (ga K "Work") dx (putF "middle" (.ref D1) (putF "first" (.ref D0) []))) c = some o := fun c o h e => by rw [upd_ne e]; exact g1.sm c o (k3 c o h e)
        have m5 : ∀ c, upd H4 x (.ins (ga K "Work") dx (putF "middle" (.ref D1) (putF "first" (.ref D0) []))) c = none → H c = none := fun c h => m3 c (g1.sm.free (mon_upd h))
        have hx5 : upd H4 x (.ins (ga K "Work") dx (putF "middle" (.ref D1) (putF "first" (.ref D0) []))) x = some (.ins (ga K "Work") dx (putF "middle" (.ref D1) (putF "first" (.ref D0) []))) := upd_same
        have nD1 : H D1 = none := m3 _ hD1
        have nr1 : ∀ i, i < n → H (r1 i) = none := fun i hi => m3 _ (g1.nw i hi)
        have d01 : D0 ≠ D1 := fun e => by have h3 := b0.top; rw [e, hD1] at h3; cases h3
        have r01 : ∀ i j, i < n → j < n → r0 i ≠ r1 j := fun i j hi hj e => by have h3 := b0.row i hi; rw [e, g1.nw j hj] at h3; cases h3
        generalize upd H4 x (.ins (ga K "Work") dx (putF "middle" (.ref D1) (putF "first" (.ref D0) []))) = H5 at l0 l1 k5 m5 hx5
        have hm15 := k5 _ _ hm1 mx
        refine ⟨rfl, _, rfl, m, _, dm, _, _, rfl, hm15, T.cl_Matrix, T.na_Matrix_width, mxF_w tm n, n, rfl, h0, hn, fun H6 v s2 nv ⟨dv, tv, hv1, tc, hv2, hv3⟩ => ?_⟩
        refine ⟨v, _, dv, _, _, rfl, hv1, T.cl_Matrix, T.na_Matrix_rows, mxF_rows tv n, tv, rfl, ⟨_, SqT.of hv2⟩, fun D2 hD2 => ?_⟩
        refine lc_it (walk_tup (K := K) (a := tv) (xs := refV n tc)) (fun i H' => ∃ rs, LG H6 H' D2 rs n (oneM) i) ⟨_, lg_nil hD2⟩ (fun i H' _ ⟨_, g⟩ => SqT.of (g.sm _ _ hv2)) ?_ ?_
        · rintro i y H' H'' hi ⟨rs, g⟩ ⟨rfl, hy⟩
          rw [refV_len] at hi
          obtain rfl := refV_get hi hy
          refine ⟨rfl, ?_⟩
          refine ⟨_, rfl, _, _, rfl, .inr (SqT.of (g.sm _ _ (hv3 i hi))), fun q hq => ?_⟩
          exact g.add hD2 (by omega) (Same.upd (Same.refl _) hq) hq upd_same
        · rintro H7 ⟨r2, g2⟩
          rw [refV_len] at g2
          have s7 := s2.trans g2.sm
          have lx := s7 _ _ hx5
          refine ⟨_, rfl, x, _, dx, _, rfl, lx, T.cl_Work, T.na_Work_last, (by show 2 < 1000; decide), ?_⟩
          have z0 : x ≠ D2 := fun e => by rw [e, g2.top] at lx; cases lx
          have z1 : ∀ i, i < n → x ≠ r2 i := fun i hi e => by rw [e, g2.row i hi] at lx; cases lx
          have l2 := g2.lm.off (o := .ins (ga K "Work") dx (putF "last" (.ref D2) (putF "middle" (.ref D1) (putF "first" (.ref D0) [])))) z0 z1
          have b0' := l0
          have b1' := l1
          have l0 := (l0.same s7).off (o := .ins (ga K "Work") dx (putF "last" (.ref D2) (putF "middle" (.ref D1) (putF "first" (.ref D0) [])))) x0 x1
          have l1 := (l1.same s7).off (o := .ins (ga K "Work") dx (putF "last" (.ref D2) (putF "middle" (.ref D1) (putF "first" (.ref D0) [])))) y0 y1
          have nD2' : H5 D2 = none := s2.free hD2
          have nr2' : ∀ i, i < n → H5 (r2 i) = none := fun i hi => s2.free (g2.nw i hi)
          have d02 : D0 ≠ D2 := fun e => by have h3 := b0'.top; rw [e, nD2'] at h3; cases h3
          have d12 : D1 ≠ D2 := fun e => by have h3 := b1'.top; rw [e, nD2'] at h3; cases h3
          have r02 : ∀ i j, i < n → j < n → r0 i ≠ r2 j := fun i j hi hj e => by have h3 := b0'.row i hi; rw [e, nr2' j hj] at h3; cases h3
          have r12 : ∀ i j, i < n → j < n → r1 i ≠ r2 j := fun i j hi hj e => by have h3 := b1'.row i hi; rw [e, nr2' j hj] at h3; cases h3
          refine k _ (fun t => if t = 0 then D0 else if t = 1 then D1 else D2) (fun t => if t = 0 then r0 else if t = 1 then r1 else r2) ⟨dx, upd_same⟩ ⟨fun t ht => ?_, fun t t' ht ht' e => ?_, fun t t' i j ht ht' hi hj e => ?_⟩ (fun c o h e => by rw [upd_ne e]; exact s7 _ _ (k5 c o h e)) (fun t ht => ?_) fun t i ht hi => ?_
          · rcases (show t = 0 ∨ t = 1 ∨ t = 2 by omega) with rfl | rfl | rfl
            · exact l0
            · exact l1
            · exact l2
          · rcases (show t = 0 ∨ t = 1 ∨ t = 2 by omega) with rfl | rfl | rfl <;> rcases (show t' = 0 ∨ t' = 1 ∨ t' = 2 by omega) with rfl | rfl | rfl <;> first | rfl | exact absurd e d01 | exact absurd e.symm d01 | exact absurd e d02 | exact absurd e.symm d02 | exact absurd e d12 | exact absurd e.symm d12
          · rcases (show t = 0 ∨ t = 1 ∨ t = 2 by omega) with rfl | rfl | rfl <;> rcases (show t' = 0 ∨ t' = 1 ∨ t' = 2 by omega) with rfl | rfl | rfl <;> first | rfl | exact absurd e (r01 _ _ hi hj) | exact absurd e.symm (r01 _ _ hj hi) | exact absurd e (r02 _ _ hi hj) | exact absurd e.symm (r02 _ _ hj hi) | exact absurd e (r12 _ _ hi hj) | exact absurd e.symm (r12 _ _ hj hi)
          · rcases (show t = 0 ∨ t = 1 ∨ t = 2 by omega) with rfl | rfl | rfl
            · exact nD0
            · exact nD1
            · exact m5 _ nD2'
          · rcases (show t = 0 ∨ t = 1 ∨ t = 2 by omega) with rfl | rfl | rfl
            · exact nr0 i hi
            · exact nr1 i hi
            · exact m5 _ (nr2' i hi)
end
end Ef
/-! text C5d -/
set_option Elab.async false
set_option linter.all false
set_option maxRecDepth 100000
set_option maxHeartbeats 2000000
namespace Ef
open PySem PySem.Spec PyProof.Rows L2 EfB
section
variable {P : Program} {w : World} {K : PySem.W.Frag} {mg : Str → Option Value} {base : Heap}
theorem WS.congr {H : Hp} {L : Nat → Addr} {r : Nat → Nat → Addr} {n : Nat} {X Y : Nat → Mx} (W : WS H L r n X) (e : ∀ t, t < 3 → X t = Y t) : WS H L r n Y := ⟨fun t ht => by rw [← e t ht]; exact W.lm t ht, W.sepL, W.sepR⟩
theorem swap_stm {D : Ends} {σ : L2.St} {H : Hp} {L : Nat → Addr} {r : Nat → Nat → Addr} {n t k i a b c : Nat} {X : Nat → Mx} (ha : σ[a]? = some (some (.ref (L t)))) (hb : σ[b]? = some (some (.int (i : Nat)))) (hc : σ[c]? = some (some (.int (k : Nat))))
    (W : WS H L r n X) (ht : t < 3) (hk : k < n) (hi : i < n) (kk : ∀ H' r', WS H' L r' n (up3 X t (swapR (X t) k i)) → St3 L n r H r' H' → D.nx σ H') :
    tAsg (tTup (tCons (tOp (rIxL K) (tVar a) (tVar b)) (tCons (tOp (rIxL K) (tVar a) (tVar c)) tNil))) (gTup K 2 (gCons (gSub (tVar a) (tVar c) rSetL) (gCons (gSub (tVar a) (tVar b) rSetL) gNil))) D σ H := by
  have lm := W.lm t ht
  refine ⟨_, ha, _, hb, L t, _, i, _, rfl, rfl, SqL.of lm.top, atI_nat (refV_at hi), _, ha, _, hc, L t, _, k, _, rfl, rfl, SqL.of lm.top, atI_nat (refV_at hk), two_size, fun z hz => ?_⟩
  have lz := lm.new (o := .tup [.ref (r t i), .ref (r t k)]) hz
  refine ⟨z, _, rfl, SqT.of upd_same, rfl, _, _, rfl, _, ha, _, hc, L t, _, k, k, rfl, rfl, lz.top, ixN_ref hk, _, _, rfl, _, ha, _, hb, L t, _, i, i, rfl, rfl, upd_same, by rw [List.length_set]; exact ixN_ref hi, rfl, ?_⟩
  rw [upd_upd]
  have l2 := lz.swap hk hi
  obtain ⟨W2, S2⟩ := W.step ht l2 ((St1.new hz).trans (St1.top fun j hj => .inl (by
    by_cases e1 : j = i
    · exact ⟨k, hk, if_pos e1⟩
    · by_cases e2 : j = k
      · exact ⟨i, hi, by show (if j = i then _ else if j = k then _ else _) = _; rw [if_neg e1, if_pos e2]⟩
      · exact ⟨j, hj, by show (if j = i then _ else if j = k then _ else _) = _; rw [if_neg e1, if_neg e2]⟩)))
  exact kk _ _ W2 S2
def brX (X : Nat → Mx) (k i j : Nat) : Nat → Mx := fun t => if t = 1 then bringM (X 1) k i j else if t = 0 then swapR (X 0) k i else swapC (X 2) k j
def sp_bring (K : PySem.W.Frag) : Sp := fun vs H Q _ => ∃ (a p : Addr) (L : Nat → Addr) (r : Nat → Nat → Addr) (n k i j : Nat) (X : Nat → Mx), vs = [.ref a, .int k, .ref p] ∧ WA K H a L ∧ WS H L r n X ∧ k < n ∧ i < n ∧ j < n ∧ n < 100 ∧ H p = some (.tup [.int i, .int j]) ∧
  ∀ (H' : Hp) (r' : Nat → Nat → Addr), WS H' L r' n (brX X k i j) → St3 L n r H r' H' → Q .non H'
theorem sc_Work_bring : FnScope ["self", "at", "place", "i", "j", "rows"] ["self", "at", "place"] (defScope s_Work_bring) := ⟨rfl, rfl, rfl, by decide +kernel, rfl, by decide +kernel, by decide +kernel⟩
theorem r_Work_bring (T : Ok K mg) : FnR P w K mg base CX0 2 (ma K "Work" "bring") (sp_bring K) := by
  obtain ⟨fd, F⟩ := T.f_Work_bring
  refine frn F sc_Work_bring (fun _ _ _ _ _ _ us hl => match us, hl with | [_, _, _], _ => rfl) (fun vs H Q E h => ?_) (fun cdv A outer s H vs Q E hr h => ?_)
  · obtain ⟨a, p, L, r, n, k, i, j, X, rfl, _⟩ := h
    rfl
  · obtain ⟨a, p, L, r, n, k, i, j, X, rfl, wa, W, hk, hi, hj, hn, hp, kk⟩ := h
    obtain ⟨dx, hx⟩ := id wa
    refine ⟨_, (pss_cons (ps_asg (pv 2) (pg_tupK (K := K) (n := 2) rfl rfl (pgs_cons (pg_name (i := 3) sc_Work_bring.nd rfl (Or.inl rfl)) (pgs_cons (pg_name (i := 4) sc_Work_bring.nd rfl (Or.inl rfl)) pgs_nil))))
      (pss_cons (ps_for PassesOwn.never rfl (pi_listK (K := K) rfl (pe_lst (pa_cons (pe_fldK (K := K) rfl (pv 0) rfl) (pa_cons (pe_fldK (K := K) rfl (pv 0) rfl) pa_nil)))) (pg_name (i := 5) sc_Work_bring.nd rfl (Or.inl rfl))
        (pss_one (ps_asg (pe_tup (pa_cons (pe_ix (ix_listK (K := K) rfl) (pv 5) (pv 3) (fun _ _ => rfl)) (pa_cons (pe_ix (ix_listK (K := K) rfl) (pv 5) (pv 1) (fun _ _ => rfl)) pa_nil))) (pg_tupK (K := K) (n := 2) rfl rfl (pgs_cons (pg_sub (pv 5) (pv 1) set_list) (pgs_cons (pg_sub (pv 5) (pv 3) set_list) pgs_nil))))))
      (pss_one (ps_for PassesOwn.never rfl (pi_listK (K := K) rfl (pe_lst (pa_cons (pe_fldK (K := K) rfl (pv 0) rfl) (pa_cons (pe_fldK (K := K) rfl (pv 0) rfl) pa_nil)))) (pg_name (i := 5) sc_Work_bring.nd rfl (Or.inl rfl))
        (pss_one (ps_expr (pe_callR (r_exchanged_columns T) (hr.mono (by decide)) (kp_of T.f_exchanged_columns) rfl T.g_exchanged_columns pass0 (pa_cons (pv 5) (pa_cons (pv 1) (pa_cons (pv 4) pa_nil)))))))))), ?_⟩
    refine ⟨_, rfl, p, _, rfl, SqT.of hp, rfl, _, _, rfl, _, _, rfl, rfl, ?_⟩
    refine ⟨_, rfl, a, _, dx, _, _, rfl, hx, T.cl_Work, T.na_Work_middle, wkF_1 L, _, rfl, a, _, dx, _, _, rfl, hx, T.cl_Work, T.na_Work_first, wkF_0 L, two_size, fun q hq => ?_⟩
    have Wq : WS (upd H q (.lst [.ref (L 1), .ref (L 0)])) L r n X := W.same (Same.upd (Same.refl _) hq)
    have Sq : St3 L n r H r (upd H q (.lst [.ref (L 1), .ref (L 0)])) := St3.same (Same.upd (Same.refl _) hq)
    have qL : ∀ t, t < 3 → q ≠ L t := fun t ht e => by rw [e, (W.lm t ht).top] at hq; cases hq
    have qr : ∀ t i, t < 3 → i < n → q ≠ r t i := fun t i ht hi e => by rw [e, (W.lm t ht).row i hi] at hq; cases hq
    have hq' : upd H q (.lst [.ref (L 1), .ref (L 0)]) q = some (.lst [.ref (L 1), .ref (L 0)]) := upd_same
    generalize upd H q (.lst [.ref (L 1), .ref (L 0)]) = Hq at Wq Sq hq'
    refine ⟨q, rfl, ⟨_, SqL.of hq'⟩, ?_⟩
    refine for_it (walk_list (K := K) (a := q) (xs := [.ref (L 1), .ref (L 0)])) (fun c σ H' => ∃ rv r', σ = [some (.ref a), some (.int k), some (.ref p), some (.int i), some (.int j), rv] ∧ WS H' L r' n (if c = 0 then X else if c = 1 then up3 X 1 (swapR (X 1) k i) else up3 (up3 X 1 (swapR (X 1) k i)) 0 (swapR (X 0) k i)) ∧ St3 L n r Hq r' H') ⟨none, r, rfl, Wq, St3.refl _ _ _ _⟩ (fun c σ H' _ ⟨_, _, _, _, S⟩ => SqL.of (S.kp _ _ hq' qL qr)) ?_ ?_
    · rintro c y σ H' H'' hc ⟨rv, r', rfl, W1, S1⟩ ⟨rfl, hy⟩
      have hc : c < 2 := hc
      rcases (show c = 0 ∨ c = 1 by omega) with rfl | rfl
      · cases hy
        exact swap_stm rfl rfl rfl W1 (by decide) hk hi fun H2 r2 W2 S2 => ⟨_, r2, rfl, W2, S1.trans S2⟩
      · cases hy
        exact swap_stm rfl rfl rfl W1 (by decide) hk hi fun H2 r2 W2 S2 => ⟨_, r2, rfl, W2, S1.trans S2⟩
    · rintro σ H1 ⟨rv, r1, rfl, W1, S1⟩
      have W1 : WS H1 L r1 n (up3 (up3 X 1 (swapR (X 1) k i)) 0 (swapR (X 0) k i)) := W1
      have S01 := Sq.trans S1
      have hx1 := S01.keep W hx (fun _ z => nomatch z)
      refine ⟨_, rfl, a, _, dx, _, _, rfl, hx1, T.cl_Work, T.na_Work_middle, wkF_1 L, _, rfl, a, _, dx, _, _, rfl, hx1, T.cl_Work, T.na_Work_last, wkF_2 L, two_size, fun q2 hq2 => ?_⟩
      have Wq2 : WS (upd H1 q2 (.lst [.ref (L 1), .ref (L 2)])) L r1 n _ := W1.same (Same.upd (Same.refl _) hq2)
      have Sq2 : St3 L n r1 H1 r1 (upd H1 q2 (.lst [.ref (L 1), .ref (L 2)])) := St3.same (Same.upd (Same.refl _) hq2)
      have qL2 : ∀ t, t < 3 → q2 ≠ L t := fun t ht e => by rw [e, (W1.lm t ht).top] at hq2; cases hq2
      have qr2 : ∀ t i, t < 3 → i < n → q2 ≠ r1 t i := fun t i ht hi e => by rw [e, (W1.lm t ht).row i hi] at hq2; cases hq2
      have hq2' : upd H1 q2 (.lst [.ref (L 1), .ref (L 2)]) q2 = some (.lst [.ref (L 1), .ref (L 2)]) := upd_same
      generalize upd H1 q2 (.lst [.ref (L 1), .ref (L 2)]) = Hq2 at Wq2 Sq2 hq2'
      generalize hY : up3 (up3 X 1 (swapR (X 1) k i)) 0 (swapR (X 0) k i) = Y at W1 Wq2
      refine ⟨q2, rfl, ⟨_, SqL.of hq2'⟩, ?_⟩
      refine for_it (walk_list (K := K) (a := q2) (xs := [.ref (L 1), .ref (L 2)])) (fun c σ H' => ∃ rv r', σ = [some (.ref a), some (.int k), some (.ref p), some (.int i), some (.int j), rv] ∧ WS H' L r' n (if c = 0 then Y else if c = 1 then up3 Y 1 (swapC (Y 1) k j) else up3 (up3 Y 1 (swapC (Y 1) k j)) 2 (swapC (Y 2) k j)) ∧ St3 L n r1 Hq2 r' H') ⟨_, r1, rfl, Wq2, St3.refl _ _ _ _⟩ (fun c σ H' _ ⟨_, _, _, _, S⟩ => SqL.of (S.kp _ _ hq2' qL2 qr2)) ?_ ?_
      · rintro c y σ H' H'' hc ⟨rv, r', rfl, W1, S1⟩ ⟨rfl, hy⟩
        have hc : c < 2 := hc
        rcases (show c = 0 ∨ c = 1 by omega) with rfl | rfl
        · cases hy
          refine ⟨_, rfl, _, rfl, _, rfl, L 1, r' 1, n, k, j, _, rfl, W1.lm 1 (by decide), hk, hj, hn, fun H2 l2 s2 => ?_⟩
          obtain ⟨W2, S2⟩ := W1.step (by decide) l2 s2
          exact ⟨_, _, rfl, W2, S1.trans S2⟩
        · cases hy
          refine ⟨_, rfl, _, rfl, _, rfl, L 2, r' 2, n, k, j, _, rfl, W1.lm 2 (by decide), hk, hj, hn, fun H2 l2 s2 => ?_⟩
          obtain ⟨W2, S2⟩ := W1.step (by decide) l2 s2
          exact ⟨_, _, rfl, W2, S1.trans S2⟩
      · rintro σ H2 ⟨rv, r2, rfl, W2, S2⟩
        have W2 : WS H2 L r2 n (up3 (up3 Y 1 (swapC (Y 1) k j)) 2 (swapC (Y 2) k j)) := W2
        refine kk H2 r2 (W2.congr fun t ht => ?_) (S01.trans (Sq2.trans S2))
        subst hY
        rcases (show t = 0 ∨ t = 1 ∨ t = 2 by omega) with rfl | rfl | rfl <;> rfl
end
end Ef
/-! text C5e -/
set_option Elab.async false
set_option linter.all false
set_option maxRecDepth 100000
set_option maxHeartbeats 2000000
namespace Ef
open PySem PySem.Spec PyProof.Rows L2 EfB
section
variable {P : Program} {w : World} {K : PySem.W.Frag} {mg : Str → Option Value} {base : Heap}
/-- scanned: rows ahead of i0 from k on, and row i0 ahead of column j0 -/
def Sc (k n i0 j0 i j : Nat) : Prop := k ≤ i ∧ k ≤ j ∧ i < n ∧ j < n ∧ (i < i0 ∨ (i = i0 ∧ j < j0))
/-- what least_place has found so far -/
def Fd (H : Hp) (v : V) (M : Mx) (k n i0 j0 : Nat) : Prop :=
  (v = .non ∧ ∀ i j, Sc k n i0 j0 i j → M i j = 0) ∨
  ∃ (p : Addr) (a b : Nat), v = .ref p ∧ H p = some (.tup [.int a, .int b]) ∧ Sc k n i0 j0 a b ∧ M a b ≠ 0 ∧ (∀ i j, Sc k n i0 j0 i j → M i j ≠ 0 → (M a b).natAbs ≤ (M i j).natAbs) ∧ ∀ i j, Sc k n i0 j0 i j → (i < a ∨ (i = a ∧ j < b)) → M i j ≠ 0 → (M a b).natAbs < (M i j).natAbs
theorem Fd.same {H H' : Hp} {v : V} {M : Mx} {k n i0 j0 : Nat} (h : Fd H v M k n i0 j0) (s : Same H H') : Fd H' v M k n i0 j0 := h.imp id fun ⟨p, a, b, h1, h2, h3⟩ => ⟨p, a, b, h1, s _ _ h2, h3⟩
theorem sc_step {k n i0 j0 i j : Nat} (h : Sc k n i0 (j0 + 1) i j) : Sc k n i0 j0 i j ∨ (i = i0 ∧ j = j0) := by
  obtain ⟨h1, h2, h3, h4, h5⟩ := h
  by_cases e : i = i0 ∧ j = j0
  · exact .inr e
  · exact .inl ⟨h1, h2, h3, h4, by omega⟩
theorem sc_up {k n i0 j0 i j : Nat} (h : Sc k n i0 j0 i j) : Sc k n i0 (j0 + 1) i j := ⟨h.1, h.2.1, h.2.2.1, h.2.2.2.1, by have := h.2.2.2.2; omega⟩
theorem Fd.skip {H : Hp} {v : V} {M : Mx} {k n i0 j0 : Nat} (h : Fd H v M k n i0 j0) (h0 : M i0 j0 = 0) : Fd H v M k n i0 (j0 + 1) := by
  rcases h with ⟨e, h⟩ | ⟨p, a, b, e, hp, hs, hne, h1, h2⟩
  · refine .inl ⟨e, fun i j hs => ?_⟩
    rcases sc_step hs with h3 | ⟨rfl, rfl⟩
    · exact h i j h3
    · exact h0
  · refine .inr ⟨p, a, b, e, hp, sc_up hs, hne, fun i j hs h3 => ?_, fun i j hs h3 h4 => ?_⟩
    · rcases sc_step hs with h5 | ⟨rfl, rfl⟩
      · exact h1 i j h5 h3
      · exact absurd h0 h3
    · rcases sc_step hs with h5 | ⟨rfl, rfl⟩
      · exact h2 i j h5 h3 h4
      · exact absurd h0 h4
theorem Fd.keep {H : Hp} {p a b : Nat} {M : Mx} {k n i0 j0 : Nat} (hp : H p = some (.tup [.int (a : Nat), .int (b : Nat)])) (hs : Sc k n i0 j0 a b) (hne : M a b ≠ 0) (h1 : ∀ i j, Sc k n i0 j0 i j → M i j ≠ 0 → (M a b).natAbs ≤ (M i j).natAbs)
    (h2 : ∀ i j, Sc k n i0 j0 i j → (i < a ∨ (i = a ∧ j < b)) → M i j ≠ 0 → (M a b).natAbs < (M i j).natAbs) (hge : (M a b).natAbs ≤ (M i0 j0).natAbs) : Fd H (.ref p) M k n i0 (j0 + 1) := by
  refine .inr ⟨p, a, b, rfl, hp, sc_up hs, hne, fun i j hs' h3 => ?_, fun i j hs' h3 h4 => ?_⟩
  · rcases sc_step hs' with h5 | ⟨rfl, rfl⟩
    · exact h1 i j h5 h3
    · exact hge
  · rcases sc_step hs' with h5 | ⟨rfl, rfl⟩
    · exact h2 i j h5 h3 h4
    · have := hs.2.2.2.2
      omega
theorem Fd.take {H : Hp} {p : Addr} {v : V} {M : Mx} {k n i0 j0 : Nat} (hp : H p = some (.tup [.int i0, .int j0])) (h : Fd H v M k n i0 j0) (b1 : k ≤ i0) (b2 : k ≤ j0) (b3 : i0 < n) (b4 : j0 < n) (hne : M i0 j0 ≠ 0)
    (hlt : v = .non ∨ ∃ (p : Addr) (a b : Nat), v = .ref p ∧ H p = some (.tup [.int a, .int b]) ∧ (M i0 j0).natAbs < (M a b).natAbs ∧ ∀ i j, Sc k n i0 j0 i j → M i j ≠ 0 → (M a b).natAbs ≤ (M i j).natAbs) : Fd H (.ref p) M k n i0 (j0 + 1) := by
  have key : ∀ i j, Sc k n i0 j0 i j → M i j ≠ 0 → (M i0 j0).natAbs < (M i j).natAbs := fun i j hs h0 => by
    rcases hlt with e | ⟨p', a, b, e, hp', hl, hg⟩
    · rcases h with ⟨_, h⟩ | ⟨p', a, b, e2, _⟩
      · exact absurd (h i j hs) h0
      · rw [e] at e2; cases e2
    · exact Nat.lt_of_lt_of_le hl (hg i j hs h0)
  refine .inr ⟨p, i0, j0, rfl, hp, ⟨b1, b2, b3, b4, by omega⟩, hne, fun i j hs h3 => ?_, fun i j hs h3 h4 => ?_⟩
  · rcases sc_step hs with h5 | ⟨rfl, rfl⟩
    · exact Nat.le_of_lt (key i j h5 h3)
    · exact Nat.le_refl _
  · rcases sc_step hs with h5 | ⟨rfl, rfl⟩
    · exact key i j h5 h4
    · omega
theorem Fd.row {H : Hp} {v : V} {M : Mx} {k n i0 : Nat} (h : Fd H v M k n i0 n) : Fd H v M k n (i0 + 1) k := by
  have e : ∀ i j, Sc k n (i0 + 1) k i j ↔ Sc k n i0 n i j := fun i j => ⟨fun ⟨a, b, c, d, f⟩ => ⟨a, b, c, d, by omega⟩, fun ⟨a, b, c, d, f⟩ => ⟨a, b, c, d, by omega⟩⟩
  rcases h with ⟨h0, h⟩ | ⟨p, a, b, h0, hp, hs, hne, h1, h2⟩
  · exact .inl ⟨h0, fun i j hs => h i j ((e i j).1 hs)⟩
  · exact .inr ⟨p, a, b, h0, hp, (e a b).2 hs, hne, fun i j hs => h1 i j ((e i j).1 hs), fun i j hs => h2 i j ((e i j).1 hs)⟩
theorem yfnk {k c : Nat} {y : V} (h : y = V.int ((k : Int) + (c : Int))) : y = .int ((k + c : Nat) : Int) := by
  rw [h]
  congr 1
def sp_least (K : PySem.W.Frag) : Sp := fun vs H Q _ => ∃ (a : Addr) (L : Nat → Addr) (r : Nat → Nat → Addr) (n k : Nat) (X : Nat → Mx), vs = [.ref a, .int k] ∧ WA K H a L ∧ WS H L r n X ∧ k < n ∧ n < 100 ∧
  ∀ (H' : Hp) (v : V), Same H H' → ((v = .non ∧ ∀ i j, k ≤ i → k ≤ j → i < n → j < n → X 1 i j = 0) ∨ ∃ (p : Addr) (i j : Nat), v = .ref p ∧ H' p = some (.tup [.int i, .int j]) ∧ LPl (X 1) n k i j) → Q v H'
theorem sc_Work_least_place : FnScope ["self", "start", "found", "i", "j", "item"] ["self", "start"] (defScope s_Work_least_place) := ⟨rfl, rfl, rfl, by decide +kernel, rfl, by decide +kernel, by decide +kernel⟩
theorem r_Work_least_place (T : Ok K mg) : FnR P w K mg base CX0 1 (ma K "Work" "least_place") (sp_least K) := by
  obtain ⟨fd, F⟩ := T.f_Work_least_place
  refine frn F sc_Work_least_place (fun _ _ _ _ _ _ us hl => match us, hl with | [_, _], _ => rfl) (fun vs H Q E h => ?_) (fun cdv A outer s H vs Q E hr h => ?_)
  · obtain ⟨a, L, r, n, k, X, rfl, _⟩ := h
    rfl
  · obtain ⟨a, L, r, n, k, X, rfl, ⟨dx, hx⟩, W, hk, hn, kk⟩ := h
    have lm := W.lm 1 (by decide)
    generalize X 1 = M at lm kk
    refine ⟨_, (pss_cons (ps_set (i := 2) sc_Work_least_place.nd rfl (Or.inl rfl) pe_non)
      (pss_cons (ps_for PassesOwn.never rfl (pi_range2 (by rfl) T.n_range (pa_cons (pv 1) (pa_cons (pe_callB (call_lenK (K := K) rfl) (by rfl) T.n_len (by decide +kernel) (pa_cons (pe_fldK (K := K) rfl (pv 0) rfl) pa_nil)) pa_nil))) (pg_name (i := 3) sc_Work_least_place.nd rfl (Or.inl rfl))
        (pss_one (ps_for PassesOwn.never rfl (pi_range2 (by rfl) T.n_range (pa_cons (pv 1) (pa_cons (pe_callB (call_lenK (K := K) rfl) (by rfl) T.n_len (by decide +kernel) (pa_cons (pe_ix (ix_listK (K := K) rfl) (pe_fldK (K := K) rfl (pv 0) rfl) pe_int (fun _ _ => rfl)) pa_nil)) pa_nil))) (pg_name (i := 4) sc_Work_least_place.nd rfl (Or.inl rfl))
          (pss_cons (ps_set (i := 5) sc_Work_least_place.nd rfl (Or.inl rfl) (pe_callB call_abs (by rfl) T.n_abs (by decide +kernel) (pa_cons (pe_ix (ix_listK (K := K) rfl) (pe_ix (ix_listK (K := K) rfl) (pe_fldK (K := K) rfl (pv 0) rfl) (pv 3) (fun _ _ => rfl)) (pv 4) (fun _ _ => rfl)) pa_nil)))
          (pss_one (ps_if (PW.pt (pw_and (pt_cmpR op_ne (pv 5) pe_int (nomark _)) (pw_and1 (PW.pt (pw_or (pt_cmpR op_isN (pv 2) pe_non (nomark _)) (pw_or1 (pt_cmpR op_lt (pv 5) (pe_callB call_abs (by rfl) T.n_abs (by decide +kernel) (pa_cons (pe_ix (ix_listK (K := K) rfl) (pe_ix (ix_listK (K := K) rfl) (pe_fldK (K := K) rfl (pv 0) rfl) (pe_ix (ix_tupK (K := K) rfl) (pv 2) pe_int (fun _ _ => rfl)) (fun _ _ => rfl)) (pe_ix (ix_tupK (K := K) rfl) (pv 2) pe_int (fun _ _ => rfl)) (fun _ _ => rfl)) pa_nil)) (nomark _))))))))
            (pss_one (ps_set (i := 2) sc_Work_least_place.nd rfl (Or.inl rfl) (pe_tup (pa_cons (pv 3) (pa_cons (pv 4) pa_nil))))) pss_nil))))))
      (pss_one (ps_ret (pv 2))))), ?_⟩
    refine ⟨_, rfl, _, rfl, a, _, dx, _, _, rfl, hx, T.cl_Work, T.na_Work_middle, wkF_1 L, (V.ref (L 1)), n, rfl, .inl ⟨_, SqL.of lm.top, (refV_len _ _).symm⟩, _, _, rfl, ⟨by omega, by omega, by omega, by omega⟩, ?_⟩
    rw [show ((n : Nat) : Int) - (k : Nat) = ((n - k : Nat) : Int) by omega, show (((n - k : Nat) : Int)).toNat = n - k by omega]
    refine for_it walk_range (fun i0 σ H' => ∃ v x y z, σ = [some (.ref a), some (.int k), some v, x, y, z] ∧ Same H H' ∧ Fd H' v M k n (k + i0) k) ⟨_, none, none, none, rfl, Same.refl H, .inl ⟨rfl, fun i j hs => by have := hs.2.2.2.2; have := hs.1; have := hs.2.1; omega⟩⟩ (fun _ _ _ _ _ => trivial) ?_ ?_
    · rintro i0 y σ H1 H2 hi0 ⟨v, x1, x2, x3, rfl, sm, fd⟩ ⟨rfl, hy⟩
      obtain rfl := yfnk hy
      have hi1 : k + i0 < n := by omega
      have hx2 := sm _ _ hx
      have lm2 := lm.same sm
      refine ⟨_, rfl, _, rfl, a, _, dx, _, _, rfl, hx2, T.cl_Work, T.na_Work_middle, wkF_1 L, L 1, _, (0 : Nat), _, rfl, rfl, SqL.of lm2.top, atI_nat (refV_at (by omega)), (V.ref (r 1 0)), n, rfl, .inl ⟨_, SqL.of (lm2.row 0 (by omega)), (rowV_len _ _).symm⟩, _, _, rfl, ⟨by omega, by omega, by omega, by omega⟩, ?_⟩
      rw [show ((n : Nat) : Int) - (k : Nat) = ((n - k : Nat) : Int) by omega, show (((n - k : Nat) : Int)).toNat = n - k by omega]
      refine for_it walk_range (fun j0 σ H' => ∃ v y z, σ = [some (.ref a), some (.int k), some v, some (.int ((k + i0 : Nat) : Int)), y, z] ∧ Same H H' ∧ Fd H' v M k n (k + i0) (k + j0)) ⟨v, x2, x3, rfl, sm, fd⟩ (fun _ _ _ _ _ => trivial) ?_ ?_
      · rintro j0 y σ H3 H4 hj0 ⟨v, x2, x3, rfl, sm3, fd3⟩ ⟨rfl, hy⟩
        obtain rfl := yfnk hy
        have hj1 : k + j0 < n := by omega
        have hx3 := sm3 _ _ hx
        have lm3 := lm.same sm3
        refine ⟨_, rfl, a, _, dx, _, _, rfl, hx3, T.cl_Work, T.na_Work_middle, wkF_1 L, _, rfl, L 1, _, _, _, rfl, rfl, SqL.of lm3.top, atI_nat (refV_at hi1), _, rfl, _, _, _, _, rfl, rfl, SqL.of (lm3.row _ hi1), atI_nat (rowV_at hj1), _, rfl, ?_⟩
        rw [abs_eq]
        refine ⟨_, rfl, rfl, _, rfl, ifNe (fun h0 => ?_) fun h0 => ?_⟩
        · have take : ∀ p : Addr, H4 p = none → (v = .non ∨ ∃ (p : Addr) (a b : Nat), v = .ref p ∧ H4 p = some (.tup [.int a, .int b]) ∧ (M (k + i0) (k + j0)).natAbs < (M a b).natAbs ∧ ∀ i j, Sc k n (k + i0) (k + j0) i j → M i j ≠ 0 → (M a b).natAbs ≤ (M i j).natAbs) →
              ∃ v' y z, [some (V.ref a), some (V.int k), some (V.ref p), some (V.int ((k + i0 : Nat) : Int)), some (V.int ((k + j0 : Nat) : Int)), some (V.int ((M (k + i0) (k + j0)).natAbs : Int))] = [some (V.ref a), some (V.int k), some v', some (V.int ((k + i0 : Nat) : Int)), y, z] ∧ Same H (upd H4 p (.tup [.int ((k + i0 : Nat) : Int), .int ((k + j0 : Nat) : Int)])) ∧ Fd (upd H4 p (.tup [.int ((k + i0 : Nat) : Int), .int ((k + j0 : Nat) : Int)])) v' M k n (k + i0) (k + (j0 + 1)) := fun p hp hlt => by
            have s5 := Same.upd (o := .tup [.int ((k + i0 : Nat) : Int), .int ((k + j0 : Nat) : Int)]) (Same.refl H4) hp
            refine ⟨_, _, _, rfl, sm3.trans s5, Fd.take (i0 := k + i0) (j0 := k + j0) upd_same (fd3.same s5) (by omega) (by omega) hi1 hj1 (by omega) ?_⟩
            rcases hlt with e | ⟨p', a', b', e, h1, h2, h3⟩
            · exact .inl e
            · exact .inr ⟨p', a', b', e, s5 _ _ h1, h2, h3⟩
          rcases id fd3 with ⟨rfl, _⟩ | ⟨p, a', b', rfl, hp, hs, hne, h1, h2⟩
          · refine ⟨_, rfl, rfl, _, rfl, ?_⟩
            exact ⟨_, rfl, _, rfl, two_size, fun p hp => take p hp (.inl rfl)⟩
          · refine ⟨_, rfl, rfl, _, rfl, ?_⟩
            have ha' : a' < n := hs.2.2.1
            have hb' : b' < n := hs.2.2.2.1
            refine ⟨_, rfl, _, rfl, a, _, dx, _, _, rfl, hx3, T.cl_Work, T.na_Work_middle, wkF_1 L, _, rfl, p, _, (0 : Nat), _, rfl, rfl, SqT.of hp, atI_nat (j := 0) rfl, L 1, _, _, _, rfl, rfl, SqL.of lm3.top, atI_nat (refV_at ha'), _, rfl, p, _, (1 : Nat), _, rfl, rfl, SqT.of hp, atI_nat (j := 1) rfl, _, _, _, _, rfl, rfl, SqL.of (lm3.row _ ha'), atI_nat (rowV_at hb'), _, rfl, _, _, rfl, rfl, _, rfl, ?_⟩
            rw [abs_eq]
            refine ifD (fun hlt => ?_) fun hlt => ?_
            · exact ⟨_, rfl, _, rfl, two_size, fun p2 hp2 => take p2 hp2 (.inr ⟨p, a', b', rfl, hp, by omega, h1⟩)⟩
            · exact ⟨_, _, _, rfl, sm3, Fd.keep (i0 := k + i0) (j0 := k + j0) hp hs hne h1 h2 (by omega)⟩
        · exact iteF ⟨v, _, _, rfl, sm3, fd3.skip (by omega)⟩
      · rintro σ H3 ⟨v, x2, x3, rfl, sm3, fd3⟩
        rw [show k + (n - k) = n by omega] at fd3
        exact ⟨v, _, _, _, rfl, sm3, fd3.row⟩
    · rintro σ H1 ⟨v, x1, x2, x3, rfl, sm, fd⟩
      rw [show k + (n - k) = n by omega] at fd
      refine ⟨_, rfl, kk H1 v sm ?_⟩
      rcases fd with ⟨h0, h⟩ | ⟨p, i, j, h0, hp, hs, hne, h1, h2⟩
      · exact .inl ⟨h0, fun i j h1 h2 h3 h4 => h i j ⟨h1, h2, h3, h4, by omega⟩⟩
      · exact .inr ⟨p, i, j, h0, hp, hs.1, hs.2.1, hs.2.2.1, hs.2.2.2.1, hne, fun i' j' a1 a2 a3 a4 => h1 i' j' ⟨a1, a2, a3, a4, by omega⟩, fun i' j' a1 a2 a3 a4 a5 => h2 i' j' ⟨a1, a2, a3, a4, by omega⟩ a5⟩
end
end Ef
/-! text C5f -/
set_option Elab.async false
set_option linter.all false
set_option maxRecDepth 100000
set_option maxHeartbeats 2000000
namespace Ef
open PySem PySem.Spec PyProof.Rows L2 EfB
section
variable {P : Program} {w : World} {K : PySem.W.Frag} {mg : Str → Option Value} {base : Heap}
theorem bits_le {a : Int} {x : Nat} (h : a.natAbs < 2 ^ x) : Builtin.Int.intBits a ≤ x := by
  unfold Builtin.Int.intBits
  split
  · exact Nat.zero_le _
  · rename_i h0
    have h1 : a.natAbs ≠ 0 := fun e => h0 (by
      have : a = 0 := Int.natAbs_eq_zero.mp e
      rw [this]; rfl)
    exact (Nat.log2_lt h1).mpr h
theorem mulOk {a b : Int} {x y : Nat} (ha : a.natAbs < 2 ^ x) (hb : b.natAbs < 2 ^ y) (h : x + y ≤ 134217728) : IntMulOk a b := by
  unfold IntMulOk
  have e : Builtin.Int.intTooBig ((Builtin.Int.intBits a : Int) + (Builtin.Int.intBits b : Int)) = false := by
    unfold Builtin.Int.intTooBig
    rw [decide_eq_false_iff_not]
    have h1 := bits_le ha
    have h2 := bits_le hb
    have h3 : (bitsLine : Int) = 134217728 := by decide +kernel
    rw [h3]
    omega
  intro hc
  simp only [Bool.and_eq_true] at hc
  rw [e] at hc
  exact Bool.false_ne_true hc.2
theorem log_bd {a : Int} {x : Nat} (h : a.natAbs < 2 ^ x) (hx : x ≤ 8000) : a.natAbs.log2 < 9000 := by
  by_cases e : a.natAbs = 0
  · rw [e]
    decide +kernel
  · have := (Nat.log2_lt e).mpr h
    omega
theorem pow_up {x y : Nat} (h : x ≤ y) : (2 : Nat) ^ x ≤ 2 ^ y := Nat.pow_le_pow_right (by decide) h
theorem madd {a f c : Int} {u b : Nat} (ha : a.natAbs < 2 ^ u) (hf : f.natAbs < 2 ^ b) (hc : c.natAbs < 2 ^ u) : (a + f * c).natAbs < 2 ^ (u + b + 1) := by
  have h1 : (f * c).natAbs ≤ 2 ^ b * 2 ^ u := by
    rw [Int.natAbs_mul]
    exact Nat.mul_le_mul (Nat.le_of_lt hf) (Nat.le_of_lt hc)
  have h2 : (2 : Nat) ^ u ≤ 2 ^ (u + b) := pow_up (by omega)
  have h3 : (2 : Nat) ^ b * 2 ^ u = 2 ^ (u + b) := by rw [← Nat.pow_add, Nat.add_comm]
  have h4 : (2 : Nat) ^ (u + b + 1) = 2 ^ (u + b) + 2 ^ (u + b) := by rw [Nat.pow_succ]; omega
  have h5 := Int.natAbs_add_le a (f * c)
  omega
def XX (A F Z : Mx) : Nat → Mx := fun t => if t = 1 then A else if t = 0 then F else Z
theorem xx1 (A F Z A' : Mx) : up3 (XX A F Z) 1 A' = XX A' F Z := by
  funext t
  unfold up3 XX
  by_cases e : t = 1
  · rw [if_pos e, if_pos e]
  · rw [if_neg e, if_neg e, if_neg e]
theorem xx0 (A F Z F' : Mx) : up3 (XX A F Z) 0 F' = XX A F' Z := by
  funext t
  unfold up3 XX
  by_cases e : t = 0
  · rw [if_pos e, if_neg (by omega), if_pos e]
  · rw [if_neg e, if_neg e, if_neg e]
theorem WS.xx2 {H : Hp} {L : Nat → Addr} {r : Nat → Nat → Addr} {n : Nat} {A F Z Z' : Mx} (W : WS H L r n (up3 (XX A F Z) 2 Z')) : WS H L r n (XX A F Z') := W.congr fun t ht => by
  rcases (show t = 0 ∨ t = 1 ∨ t = 2 by omega) with rfl | rfl | rfl <;> rfl
/-! ### clear -/
def sp_clear (K : PySem.W.Frag) : Sp := fun vs H Q _ => ∃ (a : Addr) (L : Nat → Addr) (r : Nat → Nat → Addr) (n k b u : Nat) (A F Z : Mx), vs = [.ref a, .int k] ∧ WA K H a L ∧ WS H L r n (XX A F Z) ∧ k < n ∧ n < 100 ∧ A k k ≠ 0 ∧ BdM b n A ∧ BdM u n F ∧ BdM u n Z ∧ b ≤ 8000 ∧ b + u + 2 ≤ 134217728 ∧
  ∀ (H' : Hp) (r' : Nat → Nat → Addr) (F' Z' : Mx) (c : Bool), WS H' L r' n (XX (clrM A k n) F' Z') → St3 L n r H r' H' → BdM (u + b + 1) n F' → BdM (u + b + 1) n Z' → (c = true ↔ Clean (clrM A k n) k n) → Q (.bl c) H'
theorem sc_Work_clear : FnScope ["self", "at", "pivot", "clean", "i", "quotient", "j"] ["self", "at"] (defScope s_Work_clear) := ⟨rfl, rfl, rfl, by decide +kernel, rfl, by decide +kernel, by decide +kernel⟩
theorem clrR_rem {A : Mx} {k n b i : Nat} (h0 : A k k ≠ 0) (hA : BdM b n A) (hk : k < n) (hi : i < n) : (clrR A k n i k).natAbs < 2 ^ b := by
  unfold clrR
  by_cases e : k < i ∧ i < n
  · rw [if_pos e, fmod_eq']
    have h1 := fmod_rng (A i k) h0
    have h2 := hA k k hk hk
    omega
  · rw [if_neg e]
    exact hA i k hi hk
theorem r_Work_clear (T : Ok K mg) : FnR P w K mg base CX0 2 (ma K "Work" "clear") (sp_clear K) := by
  obtain ⟨fd, F⟩ := T.f_Work_clear
  refine frn F sc_Work_clear (fun _ _ _ _ _ _ us hl => match us, hl with | [_, _], _ => rfl) (fun vs H Q E h => ?_) (fun cdv A outer s H vs Q E hr h => ?_)
  · obtain ⟨a, L, r, n, k, b, u, A, F, Z, rfl, _⟩ := h
    rfl
  · obtain ⟨a, L, r, n, k, b, u, A, Fm, Z, rfl, wa, W, hk, hn, h0, hA, hF, hZ, hb, hu, kk⟩ := h
    obtain ⟨dx, hx⟩ := id wa
    refine ⟨_, (pss_cons (ps_set (i := 2) sc_Work_clear.nd rfl (Or.inl rfl) (pe_ix (ix_listK (K := K) rfl) (pe_ix (ix_listK (K := K) rfl) (pe_fldK (K := K) rfl (pv 0) rfl) (pv 1) (fun _ _ => rfl)) (pv 1) (fun _ _ => rfl)))
      (pss_cons (ps_set (i := 3) sc_Work_clear.nd rfl (Or.inl rfl) pe_bl)
      (Evl.pss_cut (ps_for PassesOwn.never rfl (pi_range2 (by rfl) T.n_range (pa_cons (pe_op op_add (pv 1) pe_int) (pa_cons (pe_callB (call_lenK (K := K) rfl) (by rfl) T.n_len (by decide +kernel) (pa_cons (pe_fldK (K := K) rfl (pv 0) rfl) pa_nil)) pa_nil))) (pg_name (i := 4) sc_Work_clear.nd rfl (Or.inl rfl))
        (pss_cons (ps_set (i := 5) sc_Work_clear.nd rfl (Or.inl rfl) (pe_op op_fdivG (pe_ix (ix_listK (K := K) rfl) (pe_ix (ix_listK (K := K) rfl) (pe_fldK (K := K) rfl (pv 0) rfl) (pv 4) (fun _ _ => rfl)) (pv 1) (fun _ _ => rfl)) (pv 2)))
        (pss_cons (ps_expr (pe_callR (r_added_row T) (hr.mono (by decide)) (kp_of T.f_added_row) rfl T.g_added_row pass0 (pa_cons (pe_fldK (K := K) rfl (pv 0) rfl) (pa_cons (pv 4) (pa_cons (pv 1) (pa_cons (pe_un un_neg (pv 5)) pa_nil))))))
        (pss_cons (ps_expr (pe_callR (r_added_row T) (hr.mono (by decide)) (kp_of T.f_added_row) rfl T.g_added_row pass0 (pa_cons (pe_fldK (K := K) rfl (pv 0) rfl) (pa_cons (pv 4) (pa_cons (pv 1) (pa_cons (pe_un un_neg (pv 5)) pa_nil))))))
        (pss_one (ps_set (i := 3) sc_Work_clear.nd rfl (Or.inl rfl) (pe_and (pv 3) (pe_one (pe_cmpR op_eq (pe_ix (ix_listK (K := K) rfl) (pe_ix (ix_listK (K := K) rfl) (pe_fldK (K := K) rfl (pv 0) rfl) (pv 4) (fun _ _ => rfl)) (pv 1) (fun _ _ => rfl)) pe_int (nomark _))))))))))
      (pss_cons (ps_for PassesOwn.never rfl (pi_range2 (by rfl) T.n_range (pa_cons (pe_op op_add (pv 1) pe_int) (pa_cons (pe_callB (call_lenK (K := K) rfl) (by rfl) T.n_len (by decide +kernel) (pa_cons (pe_ix (ix_listK (K := K) rfl) (pe_fldK (K := K) rfl (pv 0) rfl) pe_int (fun _ _ => rfl)) pa_nil)) pa_nil))) (pg_name (i := 6) sc_Work_clear.nd rfl (Or.inl rfl))
        (pss_cons (ps_set (i := 5) sc_Work_clear.nd rfl (Or.inl rfl) (pe_op op_fdivG (pe_ix (ix_listK (K := K) rfl) (pe_ix (ix_listK (K := K) rfl) (pe_fldK (K := K) rfl (pv 0) rfl) (pv 1) (fun _ _ => rfl)) (pv 6) (fun _ _ => rfl)) (pv 2)))
        (pss_cons (ps_expr (pe_callR (r_added_column T) (hr.mono (by decide)) (kp_of T.f_added_column) rfl T.g_added_column pass0 (pa_cons (pe_fldK (K := K) rfl (pv 0) rfl) (pa_cons (pv 6) (pa_cons (pv 1) (pa_cons (pe_un un_neg (pv 5)) pa_nil))))))
        (pss_cons (ps_expr (pe_callR (r_added_column T) (hr.mono (by decide)) (kp_of T.f_added_column) rfl T.g_added_column pass0 (pa_cons (pe_fldK (K := K) rfl (pv 0) rfl) (pa_cons (pv 6) (pa_cons (pv 1) (pa_cons (pe_un un_neg (pv 5)) pa_nil))))))
        (pss_one (ps_set (i := 3) sc_Work_clear.nd rfl (Or.inl rfl) (pe_and (pv 3) (pe_one (pe_cmpR op_eq (pe_ix (ix_listK (K := K) rfl) (pe_ix (ix_listK (K := K) rfl) (pe_fldK (K := K) rfl (pv 0) rfl) (pv 1) (fun _ _ => rfl)) (pv 6) (fun _ _ => rfl)) pe_int (nomark _))))))))))
      (pss_one (ps_ret (pv 3))))))), ?_⟩
    have lm := W.lm 1 (by decide)
    refine ⟨_, rfl, a, _, dx, _, _, rfl, hx, T.cl_Work, T.na_Work_middle, wkF_1 L, _, rfl, L 1, _, _, _, rfl, rfl, SqL.of lm.top, atI_nat (refV_at hk), _, rfl, _, _, _, _, rfl, rfl, SqL.of (lm.row k hk), atI_nat (rowV_at hk), ?_⟩
    have hpk : (A k k).natAbs < 2 ^ b := hA k k hk hk
    have hlg := log_bd hpk hb
    refine ⟨fun σ H' => ∃ x4 x5 r' F' c, σ = [some (.ref a), some (.int k), some (.int (A k k)), some (.bl c), x4, x5, none] ∧ WS H' L r' n (XX (clrR A k n) F' Z) ∧ St3 L n r H r' H' ∧ BdM (u + b + 1) n F' ∧ (c = true ↔ ∀ i, k < i → i < n → clrR A k n i k = 0), ?_, ?_⟩
    · refine ⟨_, rfl, _, _, rfl, rfl, _, rfl, a, _, dx, _, _, rfl, hx, T.cl_Work, T.na_Work_middle, wkF_1 L, (V.ref (L 1)), n, rfl, .inl ⟨_, SqL.of lm.top, (refV_len _ _).symm⟩, _, _, rfl, ⟨by omega, by omega, by omega, by omega⟩, ?_⟩
      rw [show ((n : Nat) : Int) - ((k : Nat) + 1) = ((n - (k + 1) : Nat) : Int) by omega, show (((n - (k + 1) : Nat) : Int)).toNat = n - (k + 1) by omega]
      refine for_it walk_range (fun i0 σ H' => ∃ x4 x5 r' F' c, σ = [some (.ref a), some (.int k), some (.int (A k k)), some (.bl c), x4, x5, none] ∧ WS H' L r' n (XX (clrR A k (k + 1 + i0)) F' Z) ∧ St3 L n r H r' H' ∧ (∀ i j, i < n → j < n → (F' i j).natAbs < 2 ^ (u + b + 1) ∧ (¬ (k < i ∧ i < k + 1 + i0) → (F' i j).natAbs < 2 ^ u)) ∧ (c = true ↔ ∀ i, k < i → i < k + 1 + i0 → clrR A k (k + 1 + i0) i k = 0))
        ⟨none, none, r, Fm, true, rfl, by rw [Nat.add_zero, clrR_start]; exact W, St3.refl _ _ _ _, fun i j hi hj => ⟨Nat.lt_of_lt_of_le (hF i j hi hj) (pow_up (by omega)), fun _ => hF i j hi hj⟩, ⟨fun _ i h1 h2 => by omega, fun _ => rfl⟩⟩ (fun _ _ _ _ _ => trivial) ?_ ?_
      · rintro i0 y σ H1 H2 hi0 ⟨x4, x5, r1, F1, c1, rfl, W1, S1, B1, hc1⟩ ⟨rfl, hy⟩
        obtain rfl := yfn1 hy
        have hi1 : k + 1 + i0 < n := by omega
        generalize hii : k + 1 + i0 = i1 at W1 B1 hc1 hi1
        have hki : k < i1 := by omega
        have hx1 := S1.keep W hx (fun _ z => nomatch z)
        have lm1 : LM H2 (L 1) (r1 1) n (clrR A k i1) := W1.lm 1 (by decide)
        have ek : clrR A k i1 k k = A k k := clrR_k _ _ _ _
        have eq : clrR A k i1 i1 k = A i1 k := clrR_out _ _ _ _ (by omega)
        refine ⟨_, rfl, a, _, dx, _, _, rfl, hx1, T.cl_Work, T.na_Work_middle, wkF_1 L, _, rfl, L 1, _, _, _, rfl, rfl, SqL.of lm1.top, atI_nat (refV_at hi1), _, rfl, _, _, _, _, rfl, rfl, SqL.of (lm1.row _ hi1), atI_nat (rowV_at hk), _, rfl, _, _, rfl, rfl, ⟨h0, hlg⟩, ?_⟩
        generalize hq : (clrR A k i1 i1 k).fdiv (A k k) = q
        have hqb : (-q).natAbs < 2 ^ b := by
          have h1 := fdiv_le (clrR A k i1 i1 k) h0
          rw [hq, eq] at h1
          have h2 := hA i1 k hi1 hk
          omega
        refine ⟨_, rfl, a, _, dx, _, _, rfl, hx1, T.cl_Work, T.na_Work_middle, wkF_1 L, _, rfl, _, rfl, _, rfl, q, congrArg V.int hq, L 1, r1 1, n, i1, k, -q, _, rfl, lm1, hi1, hk, hn, fun j hj => mulOk hqb (by rw [clrR_k]; exact hA k j hk hj) (by omega), fun H3 rs3 lm3 st3 => ?_⟩
        obtain ⟨W3, S3⟩ := W1.step (by decide) lm3 st3
        rw [xx1] at W3
        have st := clrR_step A k hki
        rw [ek, hq] at st
        rw [st] at W3
        have S13 := S1.trans S3
        have hx3 := S13.keep W hx (fun _ z => nomatch z)
        generalize up3 r1 1 rs3 = r3 at W3 S3 S13
        have l0 : LM H3 (L 0) (r3 0) n F1 := W3.lm 0 (by decide)
        refine ⟨_, rfl, a, _, dx, _, _, rfl, hx3, T.cl_Work, T.na_Work_first, wkF_0 L, _, rfl, _, rfl, _, rfl, q, congrArg V.int hq, L 0, r3 0, n, i1, k, -q, _, rfl, l0, hi1, hk, hn, fun j hj => mulOk hqb ((B1 k j hk hj).2 (by omega)) (by omega), fun H4 rs4 lm4 st4 => ?_⟩
        obtain ⟨W4, S4⟩ := W3.step (by decide) lm4 st4
        rw [xx0] at W4
        have S14 := S13.trans S4
        have hx4 := S14.keep W hx (fun _ z => nomatch z)
        generalize up3 r3 0 rs4 = r4 at W4 S4 S14
        have l1 : LM H4 (L 1) (r4 1) n (clrR A k (i1 + 1)) := W4.lm 1 (by decide)
        have e5 : k + 1 + (i0 + 1) = i1 + 1 := by omega
        have nB : ∀ i j, i < n → j < n → (addR F1 i1 k (-q) i j).natAbs < 2 ^ (u + b + 1) ∧ (¬ (k < i ∧ i < i1 + 1) → (addR F1 i1 k (-q) i j).natAbs < 2 ^ u) := fun i j hi hj => by
          unfold addR
          by_cases e : i = i1
          · subst e
            rw [if_pos rfl]
            exact ⟨madd ((B1 i j hi hj).2 (by omega)) hqb ((B1 k j hk hj).2 (by omega)), fun z => absurd ⟨hki, by omega⟩ z⟩
          · rw [if_neg e]
            exact ⟨(B1 i j hi hj).1, fun z => (B1 i j hi hj).2 (by omega)⟩
        have mono : ∀ i, i < i1 → clrR A k (i1 + 1) i k = clrR A k i1 i k := fun i hi => by
          unfold clrR
          by_cases e : k < i ∧ i < i1
          · rw [if_pos e, if_pos (by omega)]
          · rw [if_neg e, if_neg (by omega)]
        refine ⟨_, rfl, c1, rfl, ifB (fun hc => ?_) fun hc => ?_⟩
        · refine ⟨_, rfl, a, _, dx, _, _, rfl, hx4, T.cl_Work, T.na_Work_middle, wkF_1 L, _, rfl, L 1, _, _, _, rfl, rfl, SqL.of l1.top, atI_nat (refV_at hi1), _, rfl, _, _, _, _, rfl, rfl, SqL.of (l1.row _ hi1), atI_nat (rowV_at hk), rfl, ?_⟩
          refine ⟨_, _, r4, _, _, rfl, by rw [e5]; exact W4, S14, by rw [e5]; exact nB, ?_⟩
          rw [e5, dec_eqI, decide_eq_true_eq]
          refine ⟨fun z i h1 h2 => ?_, fun z => z i1 hki (by omega)⟩
          by_cases e : i = i1
          · rw [e]; exact z
          · rw [mono i (by omega)]
            exact hc1.1 hc i h1 (by omega)
        · refine ⟨_, _, r4, _, _, rfl, by rw [e5]; exact W4, S14, by rw [e5]; exact nB, ?_⟩
          rw [e5]
          refine ⟨fun z => (nomatch z), fun z => ?_⟩
          have := hc1.2 fun i h1 h2 => by rw [← mono i h2]; exact z i h1 (by omega)
          rw [hc] at this
          exact this
      · rintro σ H1 ⟨x4, x5, r1, F1, c1, rfl, W1, S1, B1, hc1⟩
        rw [show k + 1 + (n - (k + 1)) = n by omega] at W1 B1 hc1
        exact ⟨_, _, r1, F1, c1, rfl, W1, S1, fun i j hi hj => (B1 i j hi hj).1, hc1⟩
    · rintro _ H1 ⟨x4, x5, r1, F1, c1, rfl, W1, S1, B1, hc1⟩
      have hx1 := S1.keep W hx (fun _ z => nomatch z)
      have lm1 : LM H1 (L 1) (r1 1) n (clrR A k n) := W1.lm 1 (by decide)
      refine ⟨_, rfl, _, _, rfl, rfl, _, rfl, a, _, dx, _, _, rfl, hx1, T.cl_Work, T.na_Work_middle, wkF_1 L, L 1, _, (0 : Nat), _, rfl, rfl, SqL.of lm1.top, atI_nat (refV_at (by omega)), (V.ref (r1 1 0)), n, rfl, .inl ⟨_, SqL.of (lm1.row 0 (by omega)), (rowV_len _ _).symm⟩, _, _, rfl, ⟨by omega, by omega, by omega, by omega⟩, ?_⟩
      rw [show ((n : Nat) : Int) - ((k : Nat) + 1) = ((n - (k + 1) : Nat) : Int) by omega, show (((n - (k + 1) : Nat) : Int)).toNat = n - (k + 1) by omega]
      have R0 : ∀ j, clrR A k n k j = A k j := fun j => clrR_k _ _ _ _
      refine for_it walk_range (fun j0 σ H' => ∃ x4 x5 x6 r' Z' c, σ = [some (.ref a), some (.int k), some (.int (A k k)), some (.bl c), x4, x5, x6] ∧ WS H' L r' n (XX (clrC (clrR A k n) k (k + 1 + j0)) F1 Z') ∧ St3 L n r H r' H' ∧ (∀ i j, i < n → j < n → (Z' i j).natAbs < 2 ^ (u + b + 1) ∧ (¬ (k < j ∧ j < k + 1 + j0) → (Z' i j).natAbs < 2 ^ u)) ∧ (c = true ↔ c1 = true ∧ ∀ j, k < j → j < k + 1 + j0 → clrC (clrR A k n) k (k + 1 + j0) k j = 0))
        ⟨_, _, none, r1, Z, c1, rfl, by rw [Nat.add_zero, clrC_start]; exact W1, S1, fun i j hi hj => ⟨Nat.lt_of_lt_of_le (hZ i j hi hj) (pow_up (by omega)), fun _ => hZ i j hi hj⟩, ⟨fun z => ⟨z, fun i h1 h2 => by omega⟩, fun z => z.1⟩⟩ (fun _ _ _ _ _ => trivial) ?_ ?_
      · rintro j0 y σ H2 H3 hj0 ⟨x4, x5, x6, r2, Z2, c2, rfl, W2, S2, B2, hc2⟩ ⟨rfl, hy⟩
        obtain rfl := yfn1 hy
        have hj1 : k + 1 + j0 < n := by omega
        generalize hjj : k + 1 + j0 = j1 at W2 B2 hc2 hj1
        have hkj : k < j1 := by omega
        have hx2 := S2.keep W hx (fun _ z => nomatch z)
        have lm2 : LM H3 (L 1) (r2 1) n (clrC (clrR A k n) k j1) := W2.lm 1 (by decide)
        have ek : clrC (clrR A k n) k j1 k k = A k k := by rw [clrC_k, R0]
        have eq : clrC (clrR A k n) k j1 k j1 = A k j1 := by rw [clrC_out _ _ _ _ (by omega), R0]
        refine ⟨_, rfl, a, _, dx, _, _, rfl, hx2, T.cl_Work, T.na_Work_middle, wkF_1 L, _, rfl, L 1, _, _, _, rfl, rfl, SqL.of lm2.top, atI_nat (refV_at hk), _, rfl, _, _, _, _, rfl, rfl, SqL.of (lm2.row _ hk), atI_nat (rowV_at hj1), _, rfl, _, _, rfl, rfl, ⟨h0, hlg⟩, ?_⟩
        generalize hq : (clrC (clrR A k n) k j1 k j1).fdiv (A k k) = q
        have hqb : (-q).natAbs < 2 ^ b := by
          have h1 := fdiv_le (clrC (clrR A k n) k j1 k j1) h0
          rw [hq, eq] at h1
          have h2 := hA k j1 hk hj1
          omega
        refine ⟨_, rfl, a, _, dx, _, _, rfl, hx2, T.cl_Work, T.na_Work_middle, wkF_1 L, _, rfl, _, rfl, _, rfl, q, congrArg V.int hq, L 1, r2 1, n, j1, k, -q, _, rfl, lm2, hj1, hk, hn, fun j hj => mulOk hqb (by rw [clrC_k]; exact clrR_rem h0 hA hk hj) (by omega), fun H4 lm4 st4 => ?_⟩
        obtain ⟨W4, S4⟩ := W2.step (by decide) lm4 st4
        rw [xx1] at W4
        have st := clrC_step (clrR A k n) k hkj
        rw [ek, hq] at st
        rw [st] at W4
        have S24 := S2.trans S4
        have hx4 := S24.keep W hx (fun _ z => nomatch z)
        generalize up3 r2 1 (r2 1) = r4 at W4 S4 S24
        have l2 : LM H4 (L 2) (r4 2) n Z2 := W4.lm 2 (by decide)
        refine ⟨_, rfl, a, _, dx, _, _, rfl, hx4, T.cl_Work, T.na_Work_last, wkF_2 L, _, rfl, _, rfl, _, rfl, q, congrArg V.int hq, L 2, r4 2, n, j1, k, -q, _, rfl, l2, hj1, hk, hn, fun j hj => mulOk hqb ((B2 j k hj hk).2 (by omega)) (by omega), fun H5 lm5 st5 => ?_⟩
        obtain ⟨W5, S5⟩ := W4.step (by decide) lm5 st5
        have W5 := W5.xx2
        have S25 := S24.trans S5
        have hx5 := S25.keep W hx (fun _ z => nomatch z)
        generalize up3 r4 2 (r4 2) = r5 at W5 S5 S25
        have l1 : LM H5 (L 1) (r5 1) n (clrC (clrR A k n) k (j1 + 1)) := W5.lm 1 (by decide)
        have e5 : k + 1 + (j0 + 1) = j1 + 1 := by omega
        have nB : ∀ i j, i < n → j < n → (addC Z2 j1 k (-q) i j).natAbs < 2 ^ (u + b + 1) ∧ (¬ (k < j ∧ j < j1 + 1) → (addC Z2 j1 k (-q) i j).natAbs < 2 ^ u) := fun i j hi hj => by
          unfold addC
          by_cases e : j = j1
          · subst e
            rw [if_pos rfl]
            exact ⟨madd ((B2 i j hi hj).2 (by omega)) hqb ((B2 i k hi hk).2 (by omega)), fun z => absurd ⟨hkj, by omega⟩ z⟩
          · rw [if_neg e]
            exact ⟨(B2 i j hi hj).1, fun z => (B2 i j hi hj).2 (by omega)⟩
        have mono : ∀ j, j < j1 → clrC (clrR A k n) k (j1 + 1) k j = clrC (clrR A k n) k j1 k j := fun i hi => by
          unfold clrC
          by_cases e : k < i ∧ i < j1
          · rw [if_pos e, if_pos (by omega)]
          · rw [if_neg e, if_neg (by omega)]
        refine ⟨_, rfl, c2, rfl, ifB (fun hc => ?_) fun hc => ?_⟩
        · refine ⟨_, rfl, a, _, dx, _, _, rfl, hx5, T.cl_Work, T.na_Work_middle, wkF_1 L, _, rfl, L 1, _, _, _, rfl, rfl, SqL.of l1.top, atI_nat (refV_at hk), _, rfl, _, _, _, _, rfl, rfl, SqL.of (l1.row _ hk), atI_nat (rowV_at hj1), rfl, ?_⟩
          refine ⟨_, _, _, r5, _, _, rfl, by rw [e5]; exact W5, S25, by rw [e5]; exact nB, ?_⟩
          rw [e5, dec_eqI, decide_eq_true_eq]
          refine ⟨fun z => ⟨(hc2.1 hc).1, fun i h1 h2 => ?_⟩, fun z => z.2 j1 hkj (by omega)⟩
          by_cases e : i = j1
          · rw [e]; exact z
          · rw [mono i (by omega)]
            exact (hc2.1 hc).2 i h1 (by omega)
        · refine ⟨_, _, _, r5, _, _, rfl, by rw [e5]; exact W5, S25, by rw [e5]; exact nB, ?_⟩
          rw [e5]
          refine ⟨fun z => (nomatch z), fun z => ?_⟩
          have := hc2.2 ⟨z.1, fun i h1 h2 => by rw [← mono i h2]; exact z.2 i h1 (by omega)⟩
          rw [hc] at this
          exact this
      · rintro σ H2 ⟨x4, x5, x6, r2, Z2, c2, rfl, W2, S2, B2, hc2⟩
        rw [show k + 1 + (n - (k + 1)) = n by omega] at W2 B2 hc2
        refine ⟨_, rfl, kk H2 r2 F1 Z2 c2 W2 S2 B1 (fun i j hi hj => (B2 i j hi hj).1) ?_⟩
        rw [hc2, hc1]
        unfold Clean clrM
        refine ⟨fun z i h1 h2 => ⟨by rw [clrC_k]; exact z.1 i h1 h2, z.2 i h1 h2⟩, fun z => ⟨fun i h1 h2 => by have := (z i h1 h2).1; rw [clrC_k] at this; exact this, fun j h1 h2 => (z j h1 h2).2⟩⟩
end
end Ef
/-! text C5g -/
set_option Elab.async false
set_option linter.all false
set_option maxRecDepth 100000
set_option maxHeartbeats 2000000
namespace Ef
open PySem PySem.Spec PyProof.Rows L2 EfB
section
variable {P : Program} {w : World} {K : PySem.W.Frag} {mg : Str → Option Value} {base : Heap}

theorem mul_one {x : Int} : IntMulOk 1 x := .of_left (intBits_le_64 (by decide) (by decide))
def sp_spread (K : PySem.W.Frag) : Sp := fun vs H Q _ => ∃ (a : Addr) (L : Nat → Addr) (r : Nat → Nat → Addr) (n k : Nat) (A F Z : Mx), vs = [.ref a, .int k] ∧ WA K H a L ∧ WS H L r n (XX A F Z) ∧ k < n ∧ n < 100 ∧ A k k ≠ 0 ∧ (A k k).natAbs.log2 < 9000 ∧
  (∀ (H' : Hp) (r' : Nat → Nat → Addr) (i : Nat), WS H' L r' n (XX (addR A k i 1) (addR F k i 1) Z) → St3 L n r H r' H' → Spr A k n i → Q (.bl false) H') ∧ (∀ H' : Hp, Same H H' → NoSpr A k n → Q (.bl true) H')
theorem sc_Work_spread : FnScope ["self", "at", "pivot", "i", "item"] ["self", "at"] (defScope s_Work_spread) := ⟨rfl, rfl, rfl, by decide +kernel, rfl, by decide +kernel, by decide +kernel⟩
theorem r_Work_spread (T : Ok K mg) : FnR P w K mg base CX0 2 (ma K "Work" "spread") (sp_spread K) := by
  obtain ⟨fd, F⟩ := T.f_Work_spread
  refine frn F sc_Work_spread (fun _ _ _ _ _ _ us hl => match us, hl with | [_, _], _ => rfl) (fun vs H Q E h => ?_) (fun cdv A outer s H vs Q E hr h => ?_)
  · obtain ⟨a, L, r, n, k, A, F, Z, rfl, _⟩ := h
    rfl
  · obtain ⟨a, L, r, n, k, A, Fm, Z, rfl, wa, W, hk, hn, h0, hlg, kf, kt⟩ := h
    obtain ⟨dx, hx⟩ := id wa
    refine ⟨_, (pss_cons (ps_set (i := 2) sc_Work_spread.nd rfl (Or.inr rfl) (pe_ix (ix_listK (K := K) rfl) (pe_ix (ix_listK (K := K) rfl) (pe_fldK (K := K) rfl (pv 0) rfl) (pv 1) (fun _ _ => rfl)) (pv 1) (fun _ _ => rfl)))
      (pss_cons (ps_for PassesOwn.never rfl (pi_range2 (by rfl) T.n_range (pa_cons (pe_op op_add (pv 1) pe_int) (pa_cons (pe_callB (call_lenK (K := K) rfl) (by rfl) T.n_len (by decide +kernel) (pa_cons (pe_fldK (K := K) rfl (pv 0) rfl) pa_nil)) pa_nil))) (pg_name (i := 3) sc_Work_spread.nd rfl (Or.inl rfl))
        (pss_one (ps_if (pt_val (pe_callB (cr_any rfl) (by rfl) T.n_any (by decide +kernel) (pa_cons (pe_lc (own := [("item", 4)]) rfl sc_Work_spread.nd (pi_listK (K := K) rfl (pe_ix (ix_listK (K := K) rfl) (pe_fldK (K := K) rfl (pv 0) rfl) (pv 3) (fun _ _ => rfl))) (blkOk_by (own := [("item", 4)]) (N := ["self", "at", "pivot", "i", "item"]) (sc := (defScope s_Work_spread)) (by decide +kernel)) (fun _ _ _ _ _ => (pg_name (i := 4) sc_Work_spread.nd rfl (Or.inl rfl))) (fun _ _ _ _ _ => pts_nil) (by exact fun _ _ _ _ _ => (pe_cmpR op_ne (pe_op op_modN (pv 4) (pv 2)) pe_int (nomark _)))) pa_nil)))
          (pss_cons (ps_expr (pe_callR (r_added_row T) (hr.mono (by decide)) (kp_of T.f_added_row) rfl T.g_added_row pass0 (pa_cons (pe_fldK (K := K) rfl (pv 0) rfl) (pa_cons (pv 1) (pa_cons (pv 3) (pa_cons pe_int pa_nil))))))
          (pss_cons (ps_expr (pe_callR (r_added_row T) (hr.mono (by decide)) (kp_of T.f_added_row) rfl T.g_added_row pass0 (pa_cons (pe_fldK (K := K) rfl (pv 0) rfl) (pa_cons (pv 1) (pa_cons (pv 3) (pa_cons pe_int pa_nil))))))
          (pss_one (ps_ret pe_bl)))) pss_nil)))
      (pss_one (ps_ret pe_bl)))), ?_⟩
    have lm : LM H (L 1) (r 1) n A := W.lm 1 (by decide)
    refine ⟨_, rfl, a, _, dx, _, _, rfl, hx, T.cl_Work, T.na_Work_middle, wkF_1 L, _, rfl, L 1, _, _, _, rfl, rfl, SqL.of lm.top, atI_nat (refV_at hk), _, rfl, _, _, _, _, rfl, rfl, SqL.of (lm.row k hk), atI_nat (rowV_at hk), ?_⟩
    refine ⟨_, rfl, _, _, rfl, rfl, _, rfl, a, _, dx, _, _, rfl, hx, T.cl_Work, T.na_Work_middle, wkF_1 L, (V.ref (L 1)), n, rfl, .inl ⟨_, SqL.of lm.top, (refV_len _ _).symm⟩, _, _, rfl, ⟨by omega, by omega, by omega, by omega⟩, ?_⟩
    rw [show ((n : Nat) : Int) - ((k : Nat) + 1) = ((n - (k + 1) : Nat) : Int) by omega, show (((n - (k + 1) : Nat) : Int)).toNat = n - (k + 1) by omega]
    refine for_it walk_range (fun i0 σ H' => ∃ x3 x4, σ = [some (.ref a), some (.int k), some (.int (A k k)), x3, x4] ∧ Same H H' ∧ ∀ i, k < i → i < k + 1 + i0 → ∀ c, c < n → A k k ∣ A i c) ⟨none, none, rfl, Same.refl H, fun i h1 h2 => by omega⟩ (fun _ _ _ _ _ => trivial) ?_ ?_
    · rintro i0 y σ H1 H2 hi0 ⟨x3, x4, rfl, sm, hd⟩ ⟨rfl, hy⟩
      obtain rfl := yfn1 hy
      have hi1 : k + 1 + i0 < n := by omega
      generalize hii : k + 1 + i0 = i1 at hd hi1
      have lm2 := lm.same sm
      have hx2 := sm _ _ hx
      refine ⟨_, rfl, a, _, dx, _, _, rfl, hx2, T.cl_Work, T.na_Work_middle, wkF_1 L, _, rfl, L 1, _, _, _, rfl, rfl, SqL.of lm2.top, atI_nat (refV_at hi1), r 1 i1, rfl, ⟨_, SqL.of (lm2.row i1 hi1)⟩, fun D hD => ?_⟩
      refine lc_it (walk_list (K := K) (a := r 1 i1) (xs := rowV n (A i1))) (fun c H' => Same H2 H' ∧ H' D = some (.lst (((List.range c).map fun j => !decide ((A i1 j).fmod (A k k) = 0)).map V.bl))) ⟨Same.upd (Same.refl _) hD, upd_same⟩ (fun c H' _ p => SqL.of (p.1 _ _ (lm2.row i1 hi1))) ?_ ?_
      · rintro c y H3 H4 hc ⟨sm3, g⟩ ⟨rfl, hy⟩
        rw [rowV_len] at hc
        obtain rfl := rowV_get hc hy
        refine ⟨rfl, ?_⟩
        refine ⟨_, rfl, _, rfl, _, _, rfl, rfl, h0, rfl, _, g, ?_, Same.upd sm3 hD, ?_⟩
        · rw [List.length_map, List.length_map, List.length_range]
          exact size_lt (by omega)
        · rw [upd_same, List.range_succ, List.map_append, List.map_append, dec_eqI]
          rfl
      · rintro H3 ⟨sm3, g⟩
        rw [rowV_len] at g
        refine ⟨D, _, rfl, SqL.of g, _, rfl, ifB (fun hb => ?_) fun hb => ?_⟩
        · obtain ⟨z, hz, hzt⟩ := List.any_eq_true.mp hb
          obtain ⟨c, hc, rfl⟩ := List.mem_map.mp hz
          have hc := List.mem_range.mp hc
          have spr : Spr A k n i1 := ⟨by omega, hi1, c, hc, fun hdv => by
            have hzt : (!decide ((A i1 c).fmod (A k k) = 0)) = true := hzt
            rw [decide_eq_true ((fmod_zero_iff h0).mpr hdv)] at hzt
            cases hzt⟩
          have sm13 := sm.trans sm3
          have W3 := W.same sm13
          have hx3 := sm13 _ _ hx
          have S3 : St3 L n r H r H3 := St3.same sm13
          refine ⟨_, rfl, a, _, dx, _, _, rfl, hx3, T.cl_Work, T.na_Work_middle, wkF_1 L, _, rfl, _, rfl, L 1, r 1, n, k, i1, 1, A, rfl, W3.lm 1 (by decide), hk, hi1, hn, fun _ _ => mul_one, fun H4 rs4 lm4 st4 => ?_⟩
          obtain ⟨W4, S4⟩ := W3.step (by decide) lm4 st4
          rw [xx1] at W4
          have S14 := S3.trans S4
          have hx4 := S14.keep W hx (fun _ z => nomatch z)
          generalize up3 r 1 rs4 = r4 at W4 S4 S14
          refine ⟨_, rfl, a, _, dx, _, _, rfl, hx4, T.cl_Work, T.na_Work_first, wkF_0 L, _, rfl, _, rfl, L 0, r4 0, n, k, i1, 1, Fm, rfl, W4.lm 0 (by decide), hk, hi1, hn, fun _ _ => mul_one, fun H5 rs5 lm5 st5 => ?_⟩
          obtain ⟨W5, S5⟩ := W4.step (by decide) lm5 st5
          rw [xx0] at W5
          exact kf H5 _ i1 W5 (S14.trans S5) spr
        · refine ⟨_, _, rfl, sm.trans sm3, fun i h1 h2 c hc => ?_⟩
          by_cases e : i = i1
          · subst e
            have := List.any_eq_false.mp hb (!decide ((A i c).fmod (A k k) = 0)) (List.mem_map.mpr ⟨c, List.mem_range.mpr hc, rfl⟩)
            refine (fmod_zero_iff h0).mp ?_
            apply Classical.byContradiction
            intro hne
            exact this (by show (!decide _) = true; rw [decide_eq_false hne]; rfl)
          · exact hd i h1 (by omega) c hc
    · rintro σ H1 ⟨x3, x4, rfl, sm, hd⟩
      exact kt H1 sm fun i h1 h2 c hc => hd i h1 (by omega) c hc
def sp_turn (K : PySem.W.Frag) : Sp := fun vs H Q _ => ∃ (a : Addr) (L : Nat → Addr) (r : Nat → Nat → Addr) (n k : Nat) (A F Z : Mx), vs = [.ref a, .int k] ∧ WA K H a L ∧ WS H L r n (XX A F Z) ∧ k < n ∧ n < 100 ∧
  (WS H L r n (XX A F Z) → Q .non H) ∧ (∀ (H' : Hp) (r' : Nat → Nat → Addr), WS H' L r' n (XX (negR A k) (negR F k) Z) → St3 L n r H r' H' → Q .non H')
theorem sc_Work_turn_sign : FnScope ["self", "at", "item"] ["self", "at"] (defScope s_Work_turn_sign) := ⟨rfl, rfl, rfl, by decide +kernel, rfl, by decide +kernel, by decide +kernel⟩
theorem r_Work_turn_sign (T : Ok K mg) : FnR P w K mg base CX0 1 (ma K "Work" "turn_sign") (sp_turn K) := by
  obtain ⟨fd, F⟩ := T.f_Work_turn_sign
  refine frn F sc_Work_turn_sign (fun _ _ _ _ _ _ us hl => match us, hl with | [_, _], _ => rfl) (fun vs H Q E h => ?_) (fun cdv A outer s H vs Q E hr h => ?_)
  · obtain ⟨a, L, r, n, k, A, F, Z, rfl, _⟩ := h
    rfl
  · obtain ⟨a, L, r, n, k, A, Fm, Z, rfl, wa, W, hk, hn, k0, k1⟩ := h
    obtain ⟨dx, hx⟩ := id wa
    refine ⟨_, (pss_one (ps_if (pt_cmpR op_lt (pe_ix (ix_listK (K := K) rfl) (pe_ix (ix_listK (K := K) rfl) (pe_fldK (K := K) rfl (pv 0) rfl) (pv 1) (fun _ _ => rfl)) (pv 1) (fun _ _ => rfl)) pe_int (nomark _))
        (pss_cons (ps_asg (pe_lc (own := [("item", 2)]) rfl sc_Work_turn_sign.nd (pi_listK (K := K) rfl (pe_ix (ix_listK (K := K) rfl) (pe_fldK (K := K) rfl (pv 0) rfl) (pv 1) (fun _ _ => rfl))) (blkOk_by (own := [("item", 2)]) (N := ["self", "at", "item"]) (sc := (defScope s_Work_turn_sign)) (by decide +kernel)) (fun _ _ _ _ _ => (pg_name (i := 2) sc_Work_turn_sign.nd rfl (Or.inl rfl))) (fun _ _ _ _ _ => pts_nil) (by exact fun _ _ _ _ _ => (pe_un un_neg (pv 2)))) (pg_sub (pe_fldK (K := K) rfl (pv 0) rfl) (pv 1) set_list))
        (pss_one (ps_asg (pe_lc (own := [("item", 2)]) rfl sc_Work_turn_sign.nd (pi_listK (K := K) rfl (pe_ix (ix_listK (K := K) rfl) (pe_fldK (K := K) rfl (pv 0) rfl) (pv 1) (fun _ _ => rfl))) (blkOk_by (own := [("item", 2)]) (N := ["self", "at", "item"]) (sc := (defScope s_Work_turn_sign)) (by decide +kernel)) (fun _ _ _ _ _ => (pg_name (i := 2) sc_Work_turn_sign.nd rfl (Or.inl rfl))) (fun _ _ _ _ _ => pts_nil) (by exact fun _ _ _ _ _ => (pe_un un_neg (pv 2)))) (pg_sub (pe_fldK (K := K) rfl (pv 0) rfl) (pv 1) set_list)))) pss_nil)), ?_⟩
    have lm : LM H (L 1) (r 1) n A := W.lm 1 (by decide)
    refine ⟨_, rfl, a, _, dx, _, _, rfl, hx, T.cl_Work, T.na_Work_middle, wkF_1 L, _, rfl, L 1, _, _, _, rfl, rfl, SqL.of lm.top, atI_nat (refV_at hk), _, rfl, _, _, _, _, rfl, rfl, SqL.of (lm.row k hk), atI_nat (rowV_at hk), _, _, rfl, rfl, _, rfl, ifD (fun hneg => ?_) fun _ => k0 W⟩
    have neg : ∀ (H0 : Hp) (t : Nat) (r0 : Nat → Nat → Addr) (Y : Nat → Mx) (D : Addr) (H' : Hp), t < 3 → WS H0 L r0 n Y → Same H0 H' → H0 D = none → H' D = some (.lst (rowV n fun j => - Y t k j)) → 
        LM (upd H' (L t) (.lst ((refV n (r0 t)).set k (.ref D)))) (L t) (fun i => if i = k then D else r0 t i) n (negR (Y t) k) ∧ St1 (L t) n (r0 t) H0 (fun i => if i = k then D else r0 t i) (upd H' (L t) (.lst ((refV n (r0 t)).set k (.ref D)))) := fun H0 t r0 Y D H' ht W0 sm nD g => by
      have l := W0.lm t ht
      have tD : ∀ i, i < n → D ≠ r0 t i := fun i hi e => by rw [e, l.row i hi] at nD; cases nD
      have LD : D ≠ L t := fun e => by rw [e, l.top] at nD; cases nD
      refine ⟨((l.same sm).setRow (t := k) g LD tD).congr fun i j hi hj => ?_, ⟨fun c o hc c1 c2 => ?_, fun c hc => sm.free (mon_upd hc), fun i hi => ?_⟩⟩
      · unfold negR
        by_cases e : i = k
        · rw [if_pos e, if_pos e, e]
        · rw [if_neg e, if_neg e]
      · rw [upd_ne c1]
        exact sm _ _ hc
      · show (∃ j, j < n ∧ (if i = k then D else r0 t i) = r0 t j) ∨ H0 (if i = k then D else r0 t i) = none
        split
        · exact .inr nD
        · exact .inl ⟨i, hi, rfl⟩
    refine ⟨_, rfl, a, _, dx, _, _, rfl, hx, T.cl_Work, T.na_Work_middle, wkF_1 L, _, rfl, L 1, _, _, _, rfl, rfl, SqL.of lm.top, atI_nat (refV_at hk), r 1 k, rfl, ⟨_, SqL.of (lm.row k hk)⟩, fun D hD => ?_⟩
    refine lc_it (walk_list (K := K) (a := r 1 k) (xs := rowV n (A k))) (fun c H' => Same H H' ∧ H' D = some (.lst (rowV c fun j => - A k j))) ⟨Same.upd (Same.refl _) hD, upd_same⟩ (fun c H' _ p => SqL.of (p.1 _ _ (lm.row k hk))) ?_ ?_
    · rintro c y H3 H4 hc ⟨sm3, g⟩ ⟨rfl, hy⟩
      rw [rowV_len] at hc
      obtain rfl := rowV_get hc hy
      refine ⟨rfl, ?_⟩
      refine ⟨_, rfl, _, rfl, _, g, ?_, Same.upd sm3 hD, ?_⟩
      · rw [rowV_len]; exact size_lt (by omega)
      · rw [upd_same, rowV_succ]
    · rintro H1 ⟨sm, g⟩
      rw [rowV_len] at g
      have hx1 := sm _ _ hx
      have lm1 := lm.same sm
      refine ⟨_, rfl, a, _, dx, _, _, rfl, hx1, T.cl_Work, T.na_Work_middle, wkF_1 L, _, rfl, L 1, _, k, k, rfl, rfl, lm1.top, ixN_ref hk, ?_⟩
      obtain ⟨l2, s2⟩ := neg H 1 r (XX A Fm Z) D H1 (by decide) W sm hD g
      obtain ⟨W2, S2⟩ := W.step (by decide) l2 s2
      rw [xx1] at W2
      have hx2 := S2.keep W hx (fun _ z => nomatch z)
      generalize upd H1 (L 1) (.lst ((refV n (r 1)).set k (.ref D))) = H2 at W2 S2 hx2
      generalize up3 r 1 (fun i => if i = k then D else r 1 i) = r2 at W2 S2
      have lmf : LM H2 (L 0) (r2 0) n Fm := W2.lm 0 (by decide)
      refine ⟨_, rfl, a, _, dx, _, _, rfl, hx2, T.cl_Work, T.na_Work_first, wkF_0 L, _, rfl, L 0, _, _, _, rfl, rfl, SqL.of lmf.top, atI_nat (refV_at hk), r2 0 k, rfl, ⟨_, SqL.of (lmf.row k hk)⟩, fun D2 hD2 => ?_⟩
      refine lc_it (walk_list (K := K) (a := r2 0 k) (xs := rowV n (Fm k))) (fun c H' => Same H2 H' ∧ H' D2 = some (.lst (rowV c fun j => - Fm k j))) ⟨Same.upd (Same.refl _) hD2, upd_same⟩ (fun c H' _ p => SqL.of (p.1 _ _ (lmf.row k hk))) ?_ ?_
      · rintro c y H3 H4 hc ⟨sm3, g⟩ ⟨rfl, hy⟩
        rw [rowV_len] at hc
        obtain rfl := rowV_get hc hy
        refine ⟨rfl, ?_⟩
        refine ⟨_, rfl, _, rfl, _, g, ?_, Same.upd sm3 hD2, ?_⟩
        · rw [rowV_len]; exact size_lt (by omega)
        · rw [upd_same, rowV_succ]
      · rintro H3 ⟨sm3, g3⟩
        rw [rowV_len] at g3
        have hx3 := sm3 _ _ hx2
        have lm3 := lmf.same sm3
        refine ⟨_, rfl, a, _, dx, _, _, rfl, hx3, T.cl_Work, T.na_Work_first, wkF_0 L, _, rfl, L 0, _, k, k, rfl, rfl, lm3.top, ixN_ref hk, ?_⟩
        obtain ⟨l4, s4⟩ := neg H2 0 r2 (XX (negR A k) Fm Z) D2 H3 (by decide) W2 sm3 hD2 g3
        obtain ⟨W4, S4⟩ := W2.step (by decide) l4 s4
        rw [xx0] at W4
        exact k1 _ _ W4 (S2.trans S4)
end
end Ef
/-! text C5h -/
set_option Elab.async false
set_option linter.all false
set_option maxRecDepth 100000
set_option maxHeartbeats 2000000
namespace Ef
open PySem PySem.Spec PyProof.Rows L2 EfB
section
variable {P : Program} {w : World} {K : PySem.W.Frag} {mg : Str → Option Value} {base : Heap}
theorem fresh2 {H : Hp} {x dx : Addr} {o o' : HO} (nx : H x = none) (nd : H dx = none) : Same H (upd (upd H dx o) x o') := fun c u e => by
  rw [upd_ne (ne_of_none e nx), upd_ne (ne_of_none e nd)]
  exact e
/-- H0 is kept, the rows are newer -/
structure Out (H0 : Hp) (L : Nat → Addr) (n : Nat) (r : Nat → Nat → Addr) (H : Hp) : Prop where
  sm : Same H0 H
  nL : ∀ t, t < 3 → H0 (L t) = none
  nR : ∀ t i, t < 3 → i < n → H0 (r t i) = none
theorem Out.step {H0 H H' : Hp} {L : Nat → Addr} {n : Nat} {r r' : Nat → Nat → Addr} (o : Out H0 L n r H) (s : St3 L n r H r' H') : Out H0 L n r' H' := by
  refine ⟨fun c u h => s.kp c u (o.sm c u h) (fun t ht e => ?_) fun t i ht hi e => ?_, o.nL, fun t i ht hi => ?_⟩
  · rw [e, o.nL t ht] at h
    cases h
  · rw [e, o.nR t i ht hi] at h
    cases h
  · rcases s.nw t i ht hi with ⟨j, hj, e⟩ | e
    · rw [e]; exact o.nR t j ht hj
    · exact o.sm.free e
theorem clrM_kk (M : Mx) (k n : Nat) : clrM M k n k k = M k k := by
  unfold clrM
  rw [clrC_k, clrR_k]
theorem bd_negR {b n : Nat} {M : Mx} (h : BdM b n M) (k : Nat) : BdM b n (negR M k) := bd_neg h k
theorem wk_no {L : Nat → Addr} {m : Str} (h : (decide (m = "last") || (decide (m = "middle") || decide (m = "first"))) = false) : (wkF L).lookup m = none := by
  simp only [Bool.or_eq_false_iff, decide_eq_false_iff_not] at h
  exact wkF_no L h.1 h.2.1 h.2.2
theorem bring_kk (M : Mx) (k i j : Nat) : bringM M k i j k k = M i j := by
  unfold bringM swapC swapR
  rw [if_pos rfl, if_pos rfl]
theorem swapR_bd {b n k i : Nat} {M : Mx} (h : BdM b n M) (hk : k < n) (hi : i < n) : BdM b n (swapR M k i) := fun x y hx hy => by
  unfold swapR
  split
  · exact h _ _ hi hy
  · split
    · exact h _ _ hk hy
    · exact h _ _ hx hy
theorem swapC_bd {b n k i : Nat} {M : Mx} (h : BdM b n M) (hk : k < n) (hi : i < n) : BdM b n (swapC M k i) := fun x y hx hy => by
  unfold swapC
  split
  · exact h _ _ hx hi
  · split
    · exact h _ _ hx hk
    · exact h _ _ hx hy
theorem BdM.mono {b c n : Nat} {M : Mx} (h : BdM b n M) (hc : b ≤ c) : BdM c n M := fun i j hi hj => Nat.lt_of_lt_of_le (h i j hi hj) (pow_up hc)
theorem addR_bd {b n k i : Nat} {M : Mx} (h : BdM b n M) (hi : i < n) : BdM (b + 1) n (addR M k i 1) := fun x y hx hy => by
  unfold addR
  have e : (2 : Nat) ^ (b + 1) = 2 ^ b + 2 ^ b := by rw [Nat.pow_succ]; omega
  split
  · rename_i e1
    have h1 := h x y hx hy
    rw [e1] at h1
    have h2 := h i y hi hy
    have h3 := Int.natAbs_add_le (M k y) (1 * M i y)
    rw [Int.one_mul] at h3 ⊢
    omega
  · have := h x y hx hy
    omega
theorem WS.br {H : Hp} {L : Nat → Addr} {r : Nat → Nat → Addr} {n k i j : Nat} {A F Z : Mx} (W : WS H L r n (brX (XX A F Z) k i j)) : WS H L r n (XX (bringM A k i j) (swapR F k i) (swapC Z k j)) := W.congr fun t ht => by
  rcases (show t = 0 ∨ t = 1 ∨ t = 2 by omega) with rfl | rfl | rfl <;> rfl
def sp_diagM (K : PySem.W.Frag) : Sp := fun vs H Q _ => ∃ (m : Addr) (n : Nat) (A : Mx) (D : Int), vs = [.ref m] ∧ MxAt K H m n A ∧ 0 < n ∧ n < 100 ∧ Nonempty (Run n A D) ∧
  ∀ (H' : Hp) (p f d z : Addr) (M : Mx), Same H H' → H' p = some (.tup [.ref f, .ref d, .ref z]) → MxAt K H' d n M → Cor n n M D → Q (.ref p) H'
theorem sc_diagonal : FnScope ["matrix", "work", "at", "place"] ["matrix"] (defScope s_diagonal) := ⟨rfl, rfl, rfl, by decide +kernel, rfl, by decide +kernel, by decide +kernel⟩
theorem r_diagonal (T : Ok K mg) : FnR P w K mg base CX0 7 (ga K "diagonal") (sp_diagM K) := by
  obtain ⟨fd, F⟩ := T.f_diagonal
  refine frn F sc_diagonal (fun _ _ _ _ _ _ us hl => match us, hl with | [_], _ => rfl) (fun vs H Q E h => ?_) (fun cdv A outer s H vs Q E hr h => ?_)
  · obtain ⟨m, n, A, D, rfl, _⟩ := h
    rfl
  · obtain ⟨m, n, A, D, rfl, mx, h0, hn, ⟨ru⟩, kk⟩ := h
    refine ⟨_, (pss_cons (ps_set (i := 1) sc_diagonal.nd rfl (Or.inl rfl) (StX.pe_makeR T.mk_Work (r_Work_init T) (hr.mono (by decide)) rfl T.g_Work pass0 (pa_cons (pv 0) pa_nil)))
      (pss_cons (ps_for PassesOwn.never rfl (pi_range1 (by rfl) T.n_range (pa_cons (pe_callB (call_min2 rfl) (by rfl) T.n_min (by decide +kernel) (pa_cons (pe_fldK (K := K) rfl (pv 0) rfl) (pa_cons (pe_fldK (K := K) rfl (pv 0) rfl) pa_nil))) pa_nil)) (pg_name (i := 2) sc_diagonal.nd rfl (Or.inl rfl))
        (pss_cons (ps_set (i := 3) sc_diagonal.nd rfl (Or.inl rfl) (pe_methR (pv 1) T.cl_Work T.me_Work_least_place (r_Work_least_place T) (hr.mono (by decide)) pass0 (pa_cons (pv 2) pa_nil)))
        (pss_one (ps_while PassesOwn.never (pt_cmpR op_notN (pv 3) pe_non (nomark _))
          (pss_cons (ps_expr (pe_methR (pv 1) T.cl_Work T.me_Work_bring (r_Work_bring T) (hr.mono (by decide)) pass0 (pa_cons (pv 2) (pa_cons (pv 3) pa_nil))))
          (pss_cons (ps_if (PW.pt (pw_and (pt_val (pe_methR (pv 1) T.cl_Work T.me_Work_clear (r_Work_clear T) (hr.mono (by decide)) pass0 (pa_cons (pv 2) pa_nil))) (pw_and1 (pt_val (pe_methR (pv 1) T.cl_Work T.me_Work_spread (r_Work_spread T) (hr.mono (by decide)) pass0 (pa_cons (pv 2) pa_nil))))))
            (pss_cons (ps_expr (pe_methR (pv 1) T.cl_Work T.me_Work_turn_sign (r_Work_turn_sign T) (hr.mono (by decide)) pass0 (pa_cons (pv 2) pa_nil)))
            (pss_one ps_break)) pss_nil)
          (pss_one (ps_set (i := 3) sc_diagonal.nd rfl (Or.inl rfl) (pe_methR (pv 1) T.cl_Work T.me_Work_least_place (r_Work_least_place T) (hr.mono (by decide)) pass0 (pa_cons (pv 2) pa_nil))))))))))
      (pss_one (ps_ret (pe_tup (pa_cons (StX.pe_makeR T.mk_Matrix (r_Matrix_init T) (hr.mono (by decide)) rfl T.g_Matrix pass0 (pa_cons (pe_fldK (K := K) rfl (pv 1) rfl) pa_nil)) (pa_cons (StX.pe_makeR T.mk_Matrix (r_Matrix_init T) (hr.mono (by decide)) rfl T.g_Matrix pass0 (pa_cons (pe_fldK (K := K) rfl (pv 1) rfl) pa_nil)) (pa_cons (StX.pe_makeR T.mk_Matrix (r_Matrix_init T) (hr.mono (by decide)) rfl T.g_Matrix pass0 (pa_cons (pe_fldK (K := K) rfl (pv 1) rfl) pa_nil)) pa_nil)))))))), ?_⟩
    refine ⟨_, rfl, fun x dx nx nd ne => ?_⟩
    have s0 : Same H (upd (upd H dx (.own x)) x (.ins (ga K "Work") dx [])) := fun c o h => by rw [upd_ne (ne_of_none h nx), upd_ne (ne_of_none h nd)]; exact h
    refine ⟨x, dx, m, n, A, rfl, upd_same, mx.same s0, h0, hn, fun H1 L r wa W kp1 nL nR => ⟨rfl, ?_⟩⟩
    have sm1 : Same H H1 := Same.made nx nd kp1
    have out1 : Out H L n r H1 := ⟨sm1, fun t ht => s0.free (nL t ht), fun t i ht hi => s0.free (nR t i ht hi)⟩
    obtain ⟨dm, tm, hm1, hm2⟩ := mx.same sm1
    refine ⟨_, rfl, m, _, dm, _, _, rfl, hm1, T.cl_Matrix, T.na_Matrix_height, mxF_h tm n, _, rfl, m, _, dm, _, _, rfl, hm1, T.cl_Matrix, T.na_Matrix_width, mxF_w tm n, _, _, rfl, _, rfl, ?_⟩
    rw [show (if ((n : Nat) : Int) < (n : Nat) then ((n : Nat) : Int) else (n : Nat)) = (n : Nat) by rw [if_neg (by omega)]]
    refine ⟨by omega, by omega, ?_⟩
    rw [show (((n : Nat) : Int)).toNat = n by omega]
    have wno : ∀ {m' : Str}, (decide (m' = "last") || (decide (m' = "middle") || decide (m' = "first"))) = false → (wkF L).lookup m' = none := fun h => wk_no h
    refine for_it walk_range (fun c σ H' => ∃ x2 x3 r' M F Z, σ = [some (.ref m), some (.ref x), x2, x3] ∧ WA K H' x L ∧ WS H' L r' n (XX M F Z) ∧ Out H L n r' H' ∧ BdM (ru.u c) n F ∧ BdM (ru.u c) n Z ∧ ((c < n ∧ ∃ mm, mm ≤ ru.N c ∧ ru.R c mm M) ∨ (c = n ∧ ru.E (n - 1) M))) ⟨none, none, r, A, oneM, oneM, rfl, wa, W.congr (fun t ht => by rcases (show t = 0 ∨ t = 1 ∨ t = 2 by omega) with rfl | rfl | rfl <;> rfl), out1, ?_, ?_, .inl ⟨h0, ru.ini⟩⟩ (fun _ _ _ _ _ => trivial) ?_ ?_
    · exact (show BdM 1 n oneM from fun i j _ _ => by unfold oneM; split <;> decide).mono ru.u0
    · exact (show BdM 1 n oneM from fun i j _ _ => by unfold oneM; split <;> decide).mono ru.u0
    · rintro c y σ H2 H3 hc ⟨x2, x3, r2, M, F, Z, rfl, wa2, W2, o2, bF, bZ, hst⟩ ⟨rfl, hy⟩
      obtain rfl := yfn0 hy
      obtain ⟨mm, hmm, hR⟩ : ∃ mm, mm ≤ ru.N c ∧ ru.R c mm M := by
        rcases hst with ⟨_, h⟩ | ⟨h, _⟩
        · exact h
        · omega
      have stg := ru.stg c hc
      have hus := ru.us c hc
      have hlim := ru.lim c hc
      have fin : ∀ (H' : Hp) (r' : Nat → Nat → Addr) (M F Z : Mx) (x3 : Option V) (ub : Nat), WA K H' x L → WS H' L r' n (XX M F Z) → Out H L n r' H' → BdM ub n F → BdM ub n Z → ub ≤ ru.u (c + 1) → ru.E c M →
          ∃ x2' x3' r' M F Z, [some (V.ref m), some (V.ref x), some (V.int (c : Nat)), x3] = [some (V.ref m), some (V.ref x), x2', x3'] ∧ WA K H' x L ∧ WS H' L r' n (XX M F Z) ∧ Out H L n r' H' ∧ BdM (ru.u (c + 1)) n F ∧ BdM (ru.u (c + 1)) n Z ∧ ((c + 1 < n ∧ ∃ mm, mm ≤ ru.N (c + 1) ∧ ru.R (c + 1) mm M) ∨ (c + 1 = n ∧ ru.E (n - 1) M)) := fun H' r' M F Z x3 ub w1 w2 w3 b1 b2 hub hE => by
        refine ⟨_, _, r', M, F, Z, rfl, w1, w2, w3, b1.mono hub, b2.mono hub, ?_⟩
        by_cases e : c + 1 = n
        · exact .inr ⟨e, by rw [show n - 1 = c by omega]; exact hE⟩
        · exact .inl ⟨by omega, ru.nxt c (by omega) M hE⟩
      obtain ⟨dw, hw2⟩ := id wa2
      refine ⟨_, rfl, x, dw, _, rfl, hw2, wno (by decide +kernel), _, rfl, x, L, r2, n, c, _, rfl, wa2, W2, hc, hn, fun H4 v sm4 hv => ?_⟩
      refine ⟨fun ms σ H' => ∃ (v : V) (r' : Nat → Nat → Addr) (M F Z : Mx) (tn : Nat), σ = [some (.ref m), some (.ref x), some (.int (c : Nat)), some v] ∧ WA K H' x L ∧ WS H' L r' n (XX M F Z) ∧ Out H L n r' H' ∧ tn + ms ≤ ru.N c ∧ ru.R c ms M ∧ BdM (ru.u c + tn * (ru.b c + 3)) n F ∧ BdM (ru.u c + tn * (ru.b c + 3)) n Z ∧
          ((v = .non ∧ ∀ i j, c ≤ i → c ≤ j → i < n → j < n → M i j = 0) ∨ ∃ (p : Addr) (i j : Nat), v = .ref p ∧ H' p = some (.tup [.int i, .int j]) ∧ LPl M n c i j),
        ⟨mm, v, r2, M, F, Z, 0, rfl, wa2.keep W2 (St3.same sm4), W2.same sm4, o2.step (St3.same sm4), by omega, hR, by rw [Nat.zero_mul, Nat.add_zero]; exact bF, by rw [Nat.zero_mul, Nat.add_zero]; exact bZ, hv⟩, ?_⟩
      rintro ms σ H5 ⟨v, r5, M, F, Z, tn, rfl, wa5, W5, o5, htn, hR, bF, bZ, hv⟩
      have hub : ru.u c + tn * (ru.b c + 3) + (ru.b c + 3) ≤ ru.u (c + 1) := by
        have h1 : (tn + 1) * (ru.b c + 3) ≤ (ru.N c + 1) * (ru.b c + 3) := Nat.mul_le_mul_right _ (by omega)
        rw [Nat.add_mul, Nat.one_mul] at h1
        omega
      have eub : ru.u c + (tn + 1) * (ru.b c + 3) = ru.u c + tn * (ru.b c + 3) + (ru.b c + 3) := by rw [Nat.add_mul, Nat.one_mul]; omega
      generalize ru.u c + tn * (ru.b c + 3) = ub at bF bZ hub eub
      refine ⟨_, rfl, rfl, _, rfl, ?_⟩
      rcases hv with ⟨rfl, hz⟩ | ⟨p, i, j, rfl, hp, lp⟩
      · refine iteF ?_
        exact fin H5 r5 M F Z _ ub wa5 W5 o5 bF bZ (by omega) (stg.none ms M hR hz)
      · refine iteT ?_
        refine ⟨fun σ H' => ∃ m', m' < ms ∧ ∃ (v : V) (r' : Nat → Nat → Addr) (M F Z : Mx) (tn : Nat), σ = [some (.ref m), some (.ref x), some (.int (c : Nat)), some v] ∧ WA K H' x L ∧ WS H' L r' n (XX M F Z) ∧ Out H L n r' H' ∧ tn + m' ≤ ru.N c ∧ ru.R c m' M ∧ BdM (ru.u c + tn * (ru.b c + 3)) n F ∧ BdM (ru.u c + tn * (ru.b c + 3)) n Z ∧
          ((v = .non ∧ ∀ i j, c ≤ i → c ≤ j → i < n → j < n → M i j = 0) ∨ ∃ (p : Addr) (i j : Nat), v = .ref p ∧ H' p = some (.tup [.int i, .int j]) ∧ LPl M n c i j), fun σ' H' z => z, ?_⟩
        obtain ⟨dw5, hw5⟩ := id wa5
        refine ⟨_, rfl, x, dw5, _, rfl, hw5, wno (by decide +kernel), _, rfl, _, rfl, x, p, L, r5, n, c, i, j, _, rfl, wa5, W5, hc, lp.ni, lp.nj, hn, hp, fun H6 r6 W6 S6 => ?_⟩
        have W6 := W6.br
        have wa6 := wa5.keep W5 S6
        have o6 := o5.step S6
        have bM := stg.bd ms M hR
        have bM1 : BdM (ru.b c) n (bringM M c i j) := swapC_bd (swapR_bd bM hc lp.ni) hc lp.nj
        have p1 : bringM M c i j c c ≠ 0 := by rw [bring_kk]; exact lp.ne
        obtain ⟨dw6, hw6⟩ := id wa6
        refine ⟨_, rfl, x, dw6, _, rfl, hw6, wno (by decide +kernel), _, rfl, x, L, r6, n, c, ru.b c, ub, _, _, _, rfl, wa6, W6, hc, hn, p1, bM1, swapR_bd bF hc lp.ni, swapC_bd bZ hc lp.nj, hlim.1, by omega, fun H7 r7 F7 Z7 cl W7 S7 bF7 bZ7 hcl => ?_⟩
        have wa7 := wa6.keep W6 S7
        have o7 := o6.step S7
        obtain ⟨dw7, hw7⟩ := id wa7
        have again : ∀ (H' : Hp) (r' : Nat → Nat → Addr) (M' F' Z' : Mx) (m' : Nat), m' < ms → ru.R c m' M' → WA K H' x L → WS H' L r' n (XX M' F' Z') → Out H L n r' H' → BdM (ub + (ru.b c + 3)) n F' → BdM (ub + (ru.b c + 3)) n Z' → ∀ (v : V) (H'' : Hp), Same H' H'' → ((v = .non ∧ ∀ i j, c ≤ i → c ≤ j → i < n → j < n → M' i j = 0) ∨ ∃ (p : Addr) (i j : Nat), v = .ref p ∧ H'' p = some (.tup [.int i, .int j]) ∧ LPl M' n c i j) →
            ∃ m', m' < ms ∧ ∃ (v' : V) (r' : Nat → Nat → Addr) (M F Z : Mx) (tn : Nat), [some (V.ref m), some (V.ref x), some (V.int (c : Nat)), some v] = [some (V.ref m), some (V.ref x), some (V.int (c : Nat)), some v'] ∧ WA K H'' x L ∧ WS H'' L r' n (XX M F Z) ∧ Out H L n r' H'' ∧ tn + m' ≤ ru.N c ∧ ru.R c m' M ∧ BdM (ru.u c + tn * (ru.b c + 3)) n F ∧ BdM (ru.u c + tn * (ru.b c + 3)) n Z ∧
              ((v' = .non ∧ ∀ i j, c ≤ i → c ≤ j → i < n → j < n → M i j = 0) ∨ ∃ (p : Addr) (i j : Nat), v' = .ref p ∧ H'' p = some (.tup [.int i, .int j]) ∧ LPl M n c i j) := fun H' r' M' F' Z' m' hm' hR' w1 w2 w3 b1 b2 v H'' sm hv => by
          exact ⟨m', hm', v, r', M', F', Z', tn + 1, rfl, w1.keep w2 (St3.same sm), w2.same sm, w3.step (St3.same sm), by omega, hR', by rw [eub]; exact b1, by rw [eub]; exact b2, hv⟩
        refine ⟨cl, rfl, ifB (fun hc1 => ?_) fun hc1 => ?_⟩
        · have clean := hcl.1 hc1
          have p2 : clrM (bringM M c i j) c n c c ≠ 0 := by rw [clrM_kk]; exact p1
          refine ⟨_, rfl, x, dw7, _, rfl, hw7, wno (by decide +kernel), _, rfl, x, L, r7, n, c, _, _, _, rfl, wa7, W7, hc, hn, p2, by rw [clrM_kk]; exact log_bd (bM1 c c hc hc) hlim.1, fun H8 r8 i8 W8 S8 spr => ?_, fun H8 sm8 nos => ?_⟩
          · obtain ⟨m', hm', hR'⟩ := stg.spr ms M i j i8 hR lp clean spr
            have wa8 := wa7.keep W7 S8
            obtain ⟨dw8, hw8⟩ := id wa8
            refine ⟨false, rfl, iteF ?_⟩
            refine ⟨_, rfl, x, dw8, _, rfl, hw8, wno (by decide +kernel), _, rfl, x, L, r8, n, c, _, rfl, wa8, W8, hc, hn, fun H9 v sm9 hv => ?_⟩
            exact again H8 r8 _ _ _ m' hm' hR' wa8 W8 (o7.step S8) ((addR_bd bF7 spr.hi).mono (by omega)) (bZ7.mono (by omega)) v H9 sm9 hv
          · have hE := stg.fin ms M i j hR lp clean nos
            have W8 := W7.same sm8
            have wa8 := wa7.keep W7 (St3.same sm8)
            have o8 := o7.step (St3.same sm8)
            obtain ⟨dw8, hw8⟩ := id wa8
            refine ⟨true, rfl, iteT ?_⟩
            refine ⟨_, rfl, x, dw8, _, rfl, hw8, wno (by decide +kernel), _, rfl, x, L, r7, n, c, _, _, _, rfl, wa8, W8, hc, hn, fun _ => ?_, fun H9 r9 W9 S9 => ?_⟩
            · exact fin H8 r7 _ _ _ _ (ub + ru.b c + 1) wa8 W8 o8 bF7 bZ7 (by omega) hE
            · exact fin H9 r9 _ _ _ _ (ub + ru.b c + 1) (wa8.keep W8 S9) W9 (o8.step S9) (bd_negR bF7 c) bZ7 (by omega) (stg.neg _ hE)
        · have ncl : ¬ Clean (clrM (bringM M c i j) c n) c n := fun z => by rw [hcl.2 z] at hc1; cases hc1
          obtain ⟨m', hm', hR'⟩ := stg.more ms M i j hR lp ncl
          refine iteF ?_
          refine ⟨_, rfl, x, dw7, _, rfl, hw7, wno (by decide +kernel), _, rfl, x, L, r7, n, c, _, rfl, wa7, W7, hc, hn, fun H9 v sm9 hv => ?_⟩
          exact again H7 r7 _ _ _ m' hm' hR' wa7 W7 o7 (bF7.mono (by omega)) (bZ7.mono (by omega)) v H9 sm9 hv
    · rintro σ H2 ⟨x2, x3, r2, M, F, Z, rfl, wa2, W2, o2, bF, bZ, hst⟩
      have hE : ru.E (n - 1) M := by
        rcases hst with ⟨h, _⟩ | ⟨_, h⟩
        · omega
        · exact h
      have cor := ru.fin M hE
      obtain ⟨dw, hw⟩ := wa2
      refine ⟨_, rfl, x, _, dw, _, _, rfl, hw, T.cl_Work, T.na_Work_first, wkF_0 L, fun f y2 nf n2 n3 => ⟨f, y2, L 0, r2 0, n, _, rfl, upd_same, (W2.lm 0 (by decide)).same (fresh2 nf n2), h0, hn, fun H3 mf fr => ⟨rfl, ?_⟩⟩⟩
      have s3 := Same.made nf n2 fr
      refine ⟨_, rfl, x, _, dw, _, _, rfl, s3 _ _ hw, T.cl_Work, T.na_Work_middle, wkF_1 L, fun d y2 nd n2 n3 => ⟨d, y2, L 1, r2 1, n, _, rfl, upd_same, ((W2.lm 1 (by decide)).same s3).same (fresh2 nd n2), h0, hn, fun H4 md fr => ⟨rfl, ?_⟩⟩⟩
      have s4 := Same.made nd n2 fr
      have s34 := s3.trans s4
      refine ⟨_, rfl, x, _, dw, _, _, rfl, s34 _ _ hw, T.cl_Work, T.na_Work_last, wkF_2 L, fun z y2 nz n2 n3 => ⟨z, y2, L 2, r2 2, n, _, rfl, upd_same, ((W2.lm 2 (by decide)).same s34).same (fresh2 nz n2), h0, hn, fun H5 mz fr => ⟨rfl, ?_⟩⟩⟩
      have s5 := Same.made nz n2 fr
      refine ⟨?_, fun p hp => ?_⟩
      · show 3 ≤ _
        rw [sizeLine_eq]; decide
      · have s6 := Same.upd (o := .tup [.ref f, .ref d, .ref z]) (Same.refl H5) hp
        exact kk _ p f d z M (o2.sm.trans (s34.trans (s5.trans s6))) upd_same (md.same (s5.trans s6)) cor
end
end Ef
/-! text C5i -/
set_option Elab.async false
set_option linter.all false
set_option maxRecDepth 100000
set_option maxHeartbeats 2000000
namespace Ef
open PySem PySem.Spec PyProof.Rows L2 EfB
section
variable {P : Program} {w : World} {K : PySem.W.Frag} {mg : Str → Option Value} {base : Heap}
def dgL (n : Nat) (M : Mx) : List Int := ((List.range n).map fun i => M i i).filter fun x => !decide (x = 0)
def sp_divisors (K : PySem.W.Frag) : Sp := fun vs H Q _ => ∃ (m : Addr) (n : Nat) (A : Mx) (D : Int), vs = [.ref m] ∧ MxAt K H m n A ∧ 0 < n ∧ n < 100 ∧ Nonempty (Run n A D) ∧
  ∀ (H' : Hp) (l : Addr) (M : Mx), Same H H' → H l = none → H' l = some (.lst ((dgL n M).map V.int)) → Cor n n M D → Q (.ref l) H'
theorem sc_divisors : FnScope ["matrix", "middle", "numbers", "at", "number"] ["matrix"] (defScope s_divisors) := ⟨rfl, rfl, rfl, by decide +kernel, rfl, by decide +kernel, by decide +kernel⟩
theorem r_divisors (T : Ok K mg) : FnR P w K mg base CX0 8 (ga K "divisors") (sp_divisors K) := by
  obtain ⟨fd, F⟩ := T.f_divisors
  refine frn F sc_divisors (fun _ _ _ _ _ _ us hl => match us, hl with | [_], _ => rfl) (fun vs H Q E h => ?_) (fun cdv A outer s H vs Q E hr h => ?_)
  · obtain ⟨m, n, A, D, rfl, _⟩ := h
    rfl
  · obtain ⟨m, n, A, D, rfl, mx, h0, hn, ru, kk⟩ := h
    refine ⟨_, (pss_cons (ps_set (i := 1) sc_divisors.nd rfl (Or.inr rfl) (pe_ix (ix_tupK (K := K) rfl) (pe_callR (r_diagonal T) (hr.mono (by decide)) (kp_of T.f_diagonal) rfl T.g_diagonal pass0 (pa_cons (pv 0) pa_nil)) pe_int (fun _ _ => rfl)))
      (pss_cons (ps_setLc (i := 2) (own := [("at", 3)]) rfl sc_divisors.nd rfl rfl (sw_true rfl rfl rfl (by decide +kernel)) (pi_range1 (by rfl) T.n_range (pa_cons (pe_callB (call_min2 rfl) (by rfl) T.n_min (by decide +kernel) (pa_cons (pe_fldK (K := K) rfl (pv 0) rfl) (pa_cons (pe_fldK (K := K) rfl (pv 0) rfl) pa_nil))) pa_nil)) (blkOk_by (own := [("at", 3)]) (N := ["matrix", "middle", "numbers", "at", "number"]) (sc := (defScope s_divisors)) (by decide +kernel)) (fun _ _ _ _ _ => (pg_name (i := 3) sc_divisors.nd rfl (Or.inl rfl))) (fun _ _ _ _ _ => pts_nil) (by exact fun _ _ _ _ _ => (pe_ix (ix_tupK (K := K) rfl) (pe_ix (ix_tupK (K := K) rfl) (pe_fldK (K := K) rfl (pv 1) rfl) (pv 3) (fun _ _ => rfl)) (pv 3) (fun _ _ => rfl))))
      (pss_one (ps_ret (pe_lc (own := [("number", 4)]) rfl sc_divisors.nd (pi_listK (K := K) rfl (pv 2)) (blkOk_by (own := [("number", 4)]) (N := ["matrix", "middle", "numbers", "at", "number"]) (sc := (defScope s_divisors)) (by decide +kernel)) (fun _ _ _ _ _ => (pg_name (i := 4) sc_divisors.nd rfl (Or.inl rfl))) (by exact fun _ _ _ _ _ => pts_one (pt_cmpR op_ne (pv 4) pe_int (nomark _))) (by exact fun _ _ _ _ _ => (pv 4))))))), ?_⟩
    refine ⟨_, rfl, m, n, A, D, rfl, mx, h0, hn, ru, fun H1 p f d z M s1 hp ⟨dd, td, hd1, tb, hd2, hd3⟩ cor => ?_⟩
    refine ⟨p, _, (1 : Nat), _, rfl, rfl, SqT.of hp, atI_nat (j := 1) rfl, ?_⟩
    obtain ⟨dm, tm, hm1, hm2⟩ := mx.same s1
    refine ⟨_, rfl, m, _, dm, _, _, rfl, hm1, T.cl_Matrix, T.na_Matrix_height, mxF_h tm n, _, rfl, m, _, dm, _, _, rfl, hm1, T.cl_Matrix, T.na_Matrix_width, mxF_w tm n, _, _, rfl, _, rfl, ?_⟩
    rw [show (if ((n : Nat) : Int) < (n : Nat) then ((n : Nat) : Int) else (n : Nat)) = (n : Nat) by rw [if_neg (by omega)]]
    refine ⟨by omega, by omega, ?_⟩
    rw [show (((n : Nat) : Int)).toNat = n by omega]
    refine fun L hL => ?_
    refine lc_it walk_range (fun c H' => H' = upd H1 L (.lst (((List.range c).map fun i => M i i).map V.int))) rfl (fun _ _ _ _ => trivial) ?_ ?_
    · rintro c y H3 H4 hc rfl ⟨rfl, hy⟩
      obtain rfl := yfn0 hy
      have sL := Same.upd (o := .lst (((List.range c).map fun i => M i i).map V.int)) (Same.refl H1) hL
      refine ⟨rfl, ?_⟩
      refine ⟨_, rfl, d, _, dd, _, _, rfl, sL _ _ hd1, T.cl_Matrix, T.na_Matrix_rows, mxF_rows td n, _, rfl, td, _, c, _, rfl, rfl, SqT.of (sL _ _ hd2), atI_nat (refV_at hc), _, rfl, tb c, _, c, _, rfl, rfl, SqT.of (sL _ _ (hd3 c hc)), atI_nat (rowV_at hc), _, upd_same, ?_, ?_⟩
      · rw [List.length_map, List.length_map, List.length_range]
        exact size_lt (by omega)
      · rw [upd_upd, List.range_succ, List.map_append, List.map_append]
        rfl
    · rintro H2 rfl
      have sL := Same.upd (o := .lst (((List.range n).map fun i => M i i).map V.int)) (Same.refl H1) hL
      refine ⟨_, rfl, L, rfl, ⟨_, SqL.of upd_same⟩, fun L2 hL2 => ?_⟩
      have LL : L ≠ L2 := fun e => by rw [e, upd_same] at hL2; cases hL2
      refine lc_it (walk_list (K := K) (a := L) (xs := ((List.range n).map fun i => M i i).map V.int)) (fun c H' => H' = upd (upd H1 L (.lst (((List.range n).map fun i => M i i).map V.int))) L2 (.lst (((((List.range n).map fun i => M i i).take c).filter fun x => !decide (x = 0)).map V.int))) rfl (fun c H' _ e => by rw [e]; exact SqL.of (by rw [upd_ne LL, upd_same])) ?_ ?_
      · rintro c y H3 H4 hc rfl ⟨rfl, hy⟩
        obtain ⟨x, hx, rfl⟩ := map_int_at hy
        refine ⟨rfl, ?_⟩
        refine ⟨_, rfl, rfl, _, rfl, ifNe (fun hne => ?_) fun he => ?_⟩
        · refine ⟨_, rfl, _, upd_same, ?_, ?_⟩
          · rw [List.length_map]
            have h1 := List.length_filter_le (fun x : Int => !decide (x = 0)) (((List.range n).map fun i => M i i).take c)
            rw [List.length_take, List.length_map, List.length_range] at h1
            exact size_lt (by omega)
          · rw [upd_upd, List.take_add_one, hx, List.filter_append, List.map_append]
            show _ = upd _ L2 (.lst (_ ++ List.map V.int (List.filter _ [x])))
            rw [List.filter_cons_of_pos (by simp [hne])]
            rfl
        · rw [List.take_add_one, hx, List.filter_append]
          show _ = upd _ L2 (.lst ((_ ++ List.filter _ [x]).map V.int))
          rw [List.filter_cons_of_neg (by simp [he]), List.filter_nil, List.append_nil]
      · rintro H2 rfl
        rw [List.length_map, List.take_length]
        have s2 := Same.upd (o := .lst ((dgL n M).map V.int)) sL (sL.free hL2)
        exact kk _ L2 M (s1.trans s2) (s1.free (sL.free hL2)) upd_same cor
def cntU (p : Int) (ns : List Int) : Nat := (ns.filter fun x => !decide (p ∣ x)).length
def sp_count : Sp := fun vs H Q _ => ∃ (l : Addr) (ns : List Int) (p : Int), vs = [.ref l, .int p] ∧ H l = some (.lst (ns.map V.int)) ∧ ns.length < 1000 ∧ IsCh p ∧ p.natAbs < 2 ^ 60 ∧ ∀ H' : Hp, Same H H' → Q (.int (cntU p ns)) H'
theorem sc_count_units : FnScope ["numbers", "p", "n"] ["numbers", "p"] (defScope s_count_units) := ⟨rfl, rfl, rfl, by decide +kernel, rfl, by decide +kernel, by decide +kernel⟩
theorem r_count_units (T : Ok K mg) : FnR P w K mg base CX0 4 (ga K "count_units") sp_count := by
  obtain ⟨fd, F⟩ := T.f_count_units
  refine frn F sc_count_units (fun _ _ _ _ _ _ us hl => match us, hl with | [_, _], _ => rfl) (fun vs H Q E h => ?_) (fun cdv A outer s H vs Q E hr h => ?_)
  · obtain ⟨l, ns, p, rfl, _⟩ := h
    rfl
  · obtain ⟨l, ns, p, rfl, hl, hn, hp, hp60, kk⟩ := h
    refine ⟨_, (pss_one (ps_ret (pe_callB (call_lenK (K := K) rfl) (by rfl) T.n_len (by decide +kernel) (pa_cons (pe_lc (own := [("n", 2)]) rfl sc_count_units.nd (pi_listK (K := K) rfl (pv 0)) (blkOk_by (own := [("n", 2)]) (N := ["numbers", "p", "n"]) (sc := (defScope s_count_units)) (by decide +kernel)) (fun _ _ _ _ _ => (pg_name (i := 2) sc_count_units.nd rfl (Or.inl rfl))) (by exact fun _ _ _ _ _ => pts_one (pt_not (pt_val (pe_callR (r_is_zero T) (hr.mono (by decide)) (kp_of T.f_is_zero) rfl T.g_is_zero pass0 (pa_cons (pv 2) (pa_cons (pv 1) pa_nil)))))) (by exact fun _ _ _ _ _ => (pv 2))) pa_nil)))), ?_⟩
    refine ⟨_, rfl, l, rfl, ⟨_, SqL.of hl⟩, fun L hL => ?_⟩
    refine lc_it (walk_list (K := K) (a := l) (xs := ns.map V.int)) (fun c H' => H' = upd H L (.lst (((ns.take c).filter fun x => !decide (p ∣ x)).map V.int))) rfl (fun c H' _ e => by rw [e]; exact SqL.of (by rw [upd_ne (ne_of_none hl hL)]; exact hl)) ?_ ?_
    · rintro c y H3 H4 hc rfl ⟨rfl, hy⟩
      obtain ⟨x, hx, rfl⟩ := map_int_at hy
      refine ⟨rfl, ?_⟩
      refine ⟨_, rfl, _, rfl, x, p, rfl, hp, hp60, fun b hb => ?_⟩
      refine ⟨b, rfl, ?_⟩
      have eb : b = decide (p ∣ x) := by
        rw [Bool.eq_iff_iff, decide_eq_true_eq]
        exact hb
      subst eb
      refine ifN (fun hne => ?_) fun he => ?_
      · refine ⟨_, rfl, _, upd_same, ?_, ?_⟩
        · rw [List.length_map]
          have h1 := List.length_filter_le (fun x : Int => !decide (p ∣ x)) (ns.take c)
          rw [List.length_take] at h1
          exact size_lt (by omega)
        · rw [upd_upd, List.take_add_one, hx, List.filter_append, List.map_append]
          show _ = upd _ L (.lst (_ ++ List.map V.int (List.filter _ [x])))
          rw [List.filter_cons_of_pos (by rw [decide_eq_false hne]; rfl)]
          rfl
      · rw [List.take_add_one, hx, List.filter_append]
        show _ = upd _ L (.lst ((_ ++ List.filter _ [x]).map V.int))
        rw [List.filter_cons_of_neg (by rw [decide_eq_true he]; exact Bool.false_ne_true), List.filter_nil, List.append_nil]
    · rintro H2 rfl
      rw [List.length_map, List.take_length]
      refine ⟨(V.ref L), cntU p ns, rfl, .inl ⟨_, SqL.of upd_same, by rw [List.length_map]; rfl⟩, ?_⟩
      exact kk _ (Same.upd (Same.refl H) hL)
theorem filter_all {ns : List Int} {q : Int → Bool} : (ns.filter q).length = ns.length ↔ ∀ x ∈ ns, q x = true := by
  rw [List.length_filter_eq_length_iff]
theorem cnt_dgL {n : Nat} {M : Mx} {D p : Int} (cor : Cor n n M D) (hn : n = 2 ∨ n = 3) (hp : IsCh p) : ((cntU p (dgL n M) : Nat) : Int) = n ↔ ¬ p ∣ D := by
  rw [← cor.diag hn fun a b => hp.dvd_mul]
  have e1 : cntU p (dgL n M) = (((List.range n).map fun i => M i i).filter fun x => !decide (p ∣ x)).length := by
    unfold cntU dgL
    rw [List.filter_filter]
    congr 1
    refine List.filter_congr fun x _ => ?_
    by_cases h : x = 0
    · subst h
      rw [decide_eq_true (Int.dvd_zero p)]
      rfl
    · rw [decide_eq_false h]
      simp
  rw [e1]
  have e2 : ((((List.range n).map fun i => M i i).filter fun x => !decide (p ∣ x)).length : Int) = n ↔ (((List.range n).map fun i => M i i).filter fun x => !decide (p ∣ x)).length = ((List.range n).map fun i => M i i).length := by
    rw [List.length_map (as := List.range n), List.length_range]
    omega
  rw [e2, filter_all]
  constructor
  · intro h i hi hd
    have := h (M i i) (List.mem_map.mpr ⟨i, List.mem_range.mpr hi, rfl⟩)
    rw [decide_eq_true hd] at this
    cases this
  · intro h x hx
    obtain ⟨i, hi, rfl⟩ := List.mem_map.mp hx
    rw [decide_eq_false (h i (List.mem_range.mp hi))]
    rfl
def sp_rank (K : PySem.W.Frag) : Sp := fun vs H Q _ => ∃ (m : Addr) (n : Nat) (A : Mx) (D p : Int), vs = [.ref m, .int p] ∧ MxAt K H m n A ∧ (n = 2 ∨ n = 3) ∧ Nonempty (Run n A D) ∧ IsCh p ∧ p.natAbs < 2 ^ 60 ∧
  ∀ (H' : Hp) (r : Int), Same H H' → (r = n ↔ ¬ p ∣ D) → Q (.int r) H'
theorem sc_rank : FnScope ["matrix", "p"] ["matrix", "p"] (defScope s_rank) := ⟨rfl, rfl, rfl, by decide +kernel, rfl, by decide +kernel, by decide +kernel⟩
theorem r_rank (T : Ok K mg) : FnRK P w K mg base CX0 9 (ga K "rank") 1 ["p"] (sp_rank K) := by
  obtain ⟨fd, F⟩ := T.f_rank
  refine frnk F sc_rank (fun _ _ _ _ _ _ us ws hl hw => match us, ws, hl, hw with | [_], [_], _, _ => rfl) (fun vs H Q E h => ?_) (fun cdv A outer s H vs Q E hr h => ?_)
  · obtain ⟨m, n, A, D, p, rfl, _⟩ := h
    rfl
  · obtain ⟨m, n, A, D, p, rfl, mx, hn, ru, hp, hp60, kk⟩ := h
    refine ⟨_, (pss_cons (ps_expr (pe_callR (r_checked T) (hr.mono (by decide)) (kp_of T.f_checked) rfl T.g_checked pass0 (pa_cons (pv 1) pa_nil)))
      (pss_one (ps_ret (pe_callR (r_count_units T) (hr.mono (by decide)) (kp_of T.f_count_units) rfl T.g_count_units pass0 (pa_cons (pe_callR (r_divisors T) (hr.mono (by decide)) (kp_of T.f_divisors) rfl T.g_divisors pass0 (pa_cons (pv 0) pa_nil)) (pa_cons (pv 1) pa_nil)))))), ?_⟩
    refine ⟨_, rfl, p, rfl, hp, hp60, ?_⟩
    refine ⟨_, rfl, m, n, A, D, rfl, mx, by omega, by omega, ru, fun H1 l M s1 nl hl cor => ?_⟩
    refine ⟨_, rfl, l, _, p, rfl, hl, ?_, hp, hp60, fun H2 s2 => kk H2 _ (s1.trans s2) (cnt_dgL cor hn hp)⟩
    have h1 := List.length_filter_le (fun x : Int => !decide (x = 0)) ((List.range n).map fun i => M i i)
    rw [List.length_map, List.length_range] at h1
    unfold dgL
    omega
def sp_invertible (K : PySem.W.Frag) : Sp := fun vs H Q _ => ∃ (m : Addr) (n : Nat) (A : Mx), vs = [.ref m] ∧ MxAt K H m n A ∧ (n = 2 ∨ n = 3) ∧ (∀ i j, i < n → j < n → (A i j).natAbs ≤ 8192) ∧ (detn n A).natAbs < 2 ^ 60 ∧
  ∀ (H' : Hp) (c : Addr) (b : Bool) (ps : List Int), Same H H' → ChAt K H' c (!b) ps → Zn (detn n A) b ps → ChOk ps → Q (.ref c) H'
theorem sc_invertible : FnScope ["matrix"] ["matrix"] (defScope s_invertible) := ⟨rfl, rfl, rfl, by decide +kernel, rfl, by decide +kernel, by decide +kernel⟩
theorem r_invertible (T : Ok K mg) : FnR P w K mg base CX0 6 (ga K "invertible") (sp_invertible K) := by
  obtain ⟨fd, F⟩ := T.f_invertible
  refine frn F sc_invertible (fun _ _ _ _ _ _ us hl => match us, hl with | [_], _ => rfl) (fun vs H Q E h => ?_) (fun cdv A outer s H vs Q E hr h => ?_)
  · obtain ⟨m, n, A, rfl, _⟩ := h
    rfl
  · obtain ⟨m, n, A, rfl, mx, hn, hA, hd, kk⟩ := h
    refine ⟨_, (pss_one (ps_ret (ClX.pe_cmeth (pe_glob (v := .ref (ga K "Chars")) rfl T.g_Chars rfl) T.rd_Chars T.cm_Chars_unit_of (r_Chars_unit_of T) (hr.mono (by decide)) pass0 (pa_cons (pe_methR0 (pv 0) T.cl_Matrix T.me_Matrix_determinant (r_Matrix_determinant T) (hr.mono (by decide)) pass0) pa_nil)))), ?_⟩
    obtain ⟨dm, tm, h1, h2⟩ := id mx
    refine ⟨rfl, _, rfl, m, dm, _, rfl, h1, mxF_det tm n, m, n, A, rfl, mx, hn, hA, fun H1 s1 => ?_⟩
    refine ⟨_, rfl, hd, fun H2 c b ps s2 nc hc hz ho => ?_⟩
    rw [show (b != true) = !b by cases b <;> rfl] at hc
    exact kk H2 c b ps (s1.trans s2) hc hz ho
end
end Ef
/-! text C6a -/
set_option Elab.async false
set_option linter.all false
set_option maxRecDepth 100000
set_option maxHeartbeats 2000000
namespace Ef
open PySem PySem.Spec PyProof.Rows L2 EfB
section
variable {P : Program} {w : World} {K : PySem.W.Frag} {mg : Str → Option Value} {base : Heap}
/-! ### the law's pool -/
def PoolAt (H : Hp) (p : Addr) : Prop := ∃ (c i : Int) (g : Bool), H p = some (.lst [.int c, .int i, .bl g])
/-- all but p is kept -/
structure Ex1 (p : Addr) (H H' : Hp) : Prop where
  kp : ∀ c o, H c = some o → c ≠ p → H' c = some o
  mon : ∀ c, H' c = none → H c = none
  pool : PoolAt H' p
theorem Ex1.trans {p : Addr} {H H' H'' : Hp} (a : Ex1 p H H') (b : Ex1 p H' H'') : Ex1 p H H'' := ⟨fun c o h e => b.kp c o (a.kp c o h e) e, fun c h => a.mon c (b.mon c h), b.pool⟩
theorem PoolAt.same {p : Addr} {H H' : Hp} (h : PoolAt H p) (s : Same H H') : PoolAt H' p := let ⟨c, i, g, h⟩ := h; ⟨c, i, g, s _ _ h⟩
theorem Ex1.of {p : Addr} {H H' : Hp} (h : PoolAt H p) (s : Same H H') : Ex1 p H H' := ⟨fun c o e _ => s c o e, fun c e => s.free e, h.same s⟩
theorem ne_lst {H : Hp} {a p : Addr} {o : HO} (h : H a = some o) (hp : PoolAt H p) (nl : ∀ xs, o ≠ .lst xs) : a ≠ p := fun e => by
  obtain ⟨c, i, g, hp⟩ := hp
  rw [e, hp] at h
  exact nl _ (Option.some.inj h).symm
theorem MnAt.ex {K : PySem.W.Frag} {H H' : Hp} {a p : Addr} {P : Po} (h : MnAt K H a P) (hp : PoolAt H p) (e : Ex1 p H H') : MnAt K H' a P := by
  obtain ⟨dx, D, od, h1, h2⟩ := h
  exact ⟨dx, D, od, e.kp _ _ h1 (ne_lst h1 hp fun _ z => nomatch z), e.kp _ _ h2 (ne_lst h2 hp fun _ z => nomatch z)⟩
def sp_pool : Sp := fun vs H Q _ => ∃ c : Int, vs = [.int c] ∧ ∀ (H' : Hp) (p : Addr), Same H H' → H p = none → PoolAt H' p → Q (.ref p) H'
theorem sc_law_pool : FnScope ["_law_cell_here"] ["_law_cell_here"] (defScope s_law_pool) := ⟨rfl, rfl, rfl, by decide +kernel, rfl, by decide +kernel, by decide +kernel⟩
theorem r_law_pool (T : Ok K mg) : FnR P w K mg base CX0 1 (ga K "_law_pool") sp_pool := by
  obtain ⟨fd, F⟩ := T.f_law_pool
  refine frn F sc_law_pool (fun _ _ _ _ _ _ us hl => match us, hl with | [_], _ => rfl) (fun vs H Q E h => ?_) (fun cdv A outer s H vs Q E hr h => ?_)
  · obtain ⟨c, rfl, _⟩ := h
    rfl
  · obtain ⟨c, rfl, k⟩ := h
    refine ⟨_, (pss_one (ps_ret (pe_lst (pa_cons (pv 0) (pa_cons pe_int (pa_cons (pe_cmpR op_ge (pv 0) (pe_op op_pow pe_int pe_int) (nomark _)) pa_nil)))))), ?_⟩
    refine ⟨_, rfl, _, rfl, 10, 18, rfl, rfl, ⟨by decide, by decide, by decide⟩, _, _, rfl, rfl, ?_, fun p hp => ?_⟩
    · show 3 ≤ _
      rw [sizeLine_eq]; decide
    · exact k _ p (Same.upd (Same.refl H) hp) hp ⟨_, _, _, upd_same⟩
def sp_take : Sp := fun vs H Q _ => ∃ (p : Addr) (m : Int), vs = [.ref p, .int m] ∧ PoolAt H p ∧ 0 < m ∧ m < 1000 ∧ ∀ (H' : Hp) (v : Nat), Ex1 p H H' → (v : Int) < m → Q (.int v) H'
theorem sc_law_take : FnScope ["_law_pool_here", "_law_limit", "_law_drawn", "_law_mixed"] ["_law_pool_here", "_law_limit"] (defScope s_law_take) := ⟨rfl, rfl, rfl, by decide +kernel, rfl, by decide +kernel, by decide +kernel⟩
theorem pool_upd {H : Hp} {p : Addr} {c i : Int} {g : Bool} : Ex1 p H (upd H p (.lst [.int c, .int i, .bl g])) := ⟨fun d o h e => by rw [upd_ne e]; exact h, fun d => mon_upd, ⟨c, i, g, upd_same⟩⟩
theorem r_law_take (T : Ok K mg) : FnR P w K mg base CX0 1 (ga K "_law_take") sp_take := by
  obtain ⟨fd, F⟩ := T.f_law_take
  refine frn F sc_law_take (fun _ _ _ _ _ _ us hl => match us, hl with | [_, _], _ => rfl) (fun vs H Q E h => ?_) (fun cdv A outer s H vs Q E hr h => ?_)
  · obtain ⟨p, m, rfl, _⟩ := h
    rfl
  · obtain ⟨p, m, rfl, ⟨c, i, g, hp⟩, h0, h1, k⟩ := h
    refine ⟨_, (pss_cons (ps_asg (pe_op op_add (pe_ix (ix_listK (K := K) rfl) (pv 0) pe_int (fun _ _ => rfl)) pe_int) (pg_sub (pv 0) pe_int set_list))
      (pss_cons (ps_if (pt_val (pe_ix (ix_listK (K := K) rfl) (pv 0) pe_int (fun _ _ => rfl)))
        (pss_cons (ps_set (i := 2) sc_law_take.nd rfl (Or.inl rfl) (pe_op op_modN (pe_callTy call_int1 (by rfl) T.n_int (by decide +kernel) (pa_cons (pe_ix (ix_listK (K := K) rfl) (pv 0) pe_int (fun _ _ => rfl)) pa_nil)) (pv 1)))
        (pss_cons (ps_asg (pe_op op_fdivG (pe_callTy call_int1 (by rfl) T.n_int (by decide +kernel) (pa_cons (pe_ix (ix_listK (K := K) rfl) (pv 0) pe_int (fun _ _ => rfl)) pa_nil)) (pv 1)) (pg_sub (pv 0) pe_int set_list))
        (pss_one (ps_ret (pv 2))))) pss_nil)
      (pss_cons (ps_set (i := 3) sc_law_take.nd rfl (Or.inl rfl) (pe_op op_modN (pe_callTy call_int1 (by rfl) T.n_int (by decide +kernel) (pa_cons (pe_op op_add (pe_op op_add (pe_op op_mul (pe_ix (ix_listK (K := K) rfl) (pv 0) pe_int (fun _ _ => rfl)) pe_int) (pe_op op_mul (pe_ix (ix_listK (K := K) rfl) (pv 0) pe_int (fun _ _ => rfl)) pe_int)) pe_int) pa_nil)) pe_int))
      (pss_one (ps_ret (pe_op op_modN (pe_op op_fdivG (pe_callTy call_int1 (by rfl) T.n_int (by decide +kernel) (pa_cons (pe_op op_modN (pe_op op_pow (pv 3) pe_int) pe_int) pa_nil)) pe_int) (pv 1))))))), ?_⟩
    refine ⟨_, rfl, p, _, (1 : Nat), _, rfl, rfl, SqL.of hp, atI_nat (j := 1) rfl, _, _, rfl, rfl, _, rfl, p, _, 1, 1, rfl, rfl, hp, rfl, ?_⟩
    have hp1 : upd H p (.lst ([V.int c, V.int i, V.bl g].set 1 (V.int (i + 1)))) p = some (.lst [.int c, .int (i + 1), .bl g]) := upd_same
    have e1 : Ex1 p H (upd H p (.lst ([V.int c, V.int i, V.bl g].set 1 (V.int (i + 1))))) := pool_upd
    generalize upd H p (.lst ([V.int c, V.int i, V.bl g].set 1 (V.int (i + 1)))) = H1 at hp1 e1
    have lg : m.natAbs.log2 < 9000 := log_small (by omega)
    have fin : ∀ (x : Int) (H' : Hp), Ex1 p H H' → Q (.int (x.fmod m)) H' := fun x H' e => by
      rw [fmod_pos h0]
      have h2 := Int.emod_nonneg x (show m ≠ 0 by omega)
      have h3 := Int.emod_lt_of_pos x h0
      have h4 : x % m = (((x % m).toNat : Nat) : Int) := by omega
      rw [h4]
      exact k H' _ e (by omega)
    have l17 : (17 : Int).natAbs.log2 < 9000 := by decide +kernel
    cases g with
    | true =>
      refine ⟨_, rfl, p, _, (2 : Nat), _, rfl, rfl, SqL.of hp1, atI_nat (j := 2) rfl, true, rfl, iteT ?_⟩
      refine ⟨_, rfl, p, _, (0 : Nat), _, rfl, rfl, SqL.of hp1, atI_nat (j := 0) rfl, .inl ⟨c, rfl, _, rfl, _, _, rfl, rfl, by omega, ?_⟩⟩
      refine ⟨_, rfl, p, _, (0 : Nat), _, rfl, rfl, SqL.of hp1, atI_nat (j := 0) rfl, .inl ⟨c, rfl, _, rfl, _, _, rfl, rfl, ⟨by omega, lg⟩, _, rfl, p, _, 0, 0, rfl, rfl, hp1, rfl, _, rfl, ?_⟩⟩
      exact fin c _ (e1.trans pool_upd)
    | false =>
      refine ⟨_, rfl, p, _, (2 : Nat), _, rfl, rfl, SqL.of hp1, atI_nat (j := 2) rfl, false, rfl, iteF ?_⟩
      refine ⟨_, rfl, p, _, (0 : Nat), _, rfl, rfl, SqL.of hp1, atI_nat (j := 0) rfl, _, _, rfl, rfl, .inr ⟨by decide, by decide⟩, _, rfl, p, _, (1 : Nat), _, rfl, rfl, SqL.of hp1, atI_nat (j := 1) rfl, _, _, rfl, rfl, .inr ⟨by decide, by decide⟩, _, _, rfl, rfl, _, _, rfl, rfl, .inl ⟨_, rfl, _, _, rfl, rfl, (show (2147483647 : Int) ≠ 0 by decide), ?_⟩⟩
      generalize hx : (c * 7919 + (i + 1) * 104729 + 13).fmod 2147483647 = x
      have hb : x.natAbs < 2 ^ 64 := by
        rw [fmod_pos (by decide)] at hx
        have h2 := Int.emod_nonneg (c * 7919 + (i + 1) * 104729 + 13) (show (2147483647 : Int) ≠ 0 by decide)
        have h3 := Int.emod_lt_of_pos (c * 7919 + (i + 1) * 104729 + 13) (show (0 : Int) < 2147483647 by decide)
        omega
      refine ⟨_, rfl, x, 5, congrArg V.int hx, rfl, ⟨by decide, by decide, hb⟩, _, _, rfl, rfl, (show (2147483647 : Int) ≠ 0 by decide), .inl ⟨_, rfl, _, _, rfl, rfl, ⟨by decide, l17⟩, _, rfl, _, _, rfl, rfl, by omega, ?_⟩⟩
      exact fin _ H1 e1
/-! ### a cell of the script, primes -/
def sp_cell (K : PySem.W.Frag) : Sp := fun vs H Q _ => ∃ (l : Addr) (ns : List Int) (j : Nat), vs = [.ref l, .int j] ∧ SqL K H l (ns.map V.int) ∧ ∀ c : Int, Q (.int c) H
theorem sc_law_cell : FnScope ["_law_script", "_law_k"] ["_law_script", "_law_k"] (defScope s_law_cell) := ⟨rfl, rfl, rfl, by decide +kernel, rfl, by decide +kernel, by decide +kernel⟩
theorem r_law_cell (T : Ok K mg) : FnR P w K mg base CX0 1 (ga K "_law_cell") (sp_cell K) := by
  obtain ⟨fd, F⟩ := T.f_law_cell
  refine frn F sc_law_cell (fun _ _ _ _ _ _ us hl => match us, hl with | [_, _], _ => rfl) (fun vs H Q E h => ?_) (fun cdv A outer s H vs Q E hr h => ?_)
  · obtain ⟨l, ns, j, rfl, _⟩ := h
    rfl
  · obtain ⟨l, ns, j, rfl, hl, k⟩ := h
    refine ⟨_, (pss_cons (ps_if (pt_cmpR op_lt (pv 1) (pe_callB (call_lenK (K := K) rfl) (by rfl) T.n_len (by decide +kernel) (pa_cons (pv 0) pa_nil)) (nomark _))
        (pss_one (ps_ret (pe_ix (ix_listK (K := K) rfl) (pv 0) (pv 1) (fun _ _ => rfl)))) pss_nil)
      (pss_one (ps_ret pe_int))), ?_⟩
    refine ⟨_, rfl, _, rfl, (V.ref l), (ns.map V.int).length, rfl, .inl ⟨_, hl, rfl⟩, _, _, rfl, rfl, _, rfl, ifD (fun hj => ?_) fun _ => ?_⟩
    · rw [List.length_map] at hj
      have hj2 : j < ns.length := by omega
      exact ⟨_, rfl, _, rfl, l, _, j, V.int ns[j], rfl, rfl, hl, atI_nat (by rw [List.getElem?_map, List.getElem?_eq_getElem hj2]; rfl), k _⟩
    · exact k 0
theorem sc_law_is_prime : FnScope ["_law_n", "_law_k"] ["_law_n"] (defScope s_law_is_prime) := ⟨rfl, rfl, rfl, by decide +kernel, rfl, by decide +kernel, by decide +kernel⟩
theorem r_law_is_prime (T : Ok K mg) : FnR P w K mg base CX0 1 (ga K "_law_is_prime") sp_is_prime := by
  obtain ⟨fd, F⟩ := T.f_law_is_prime
  refine frn F sc_law_is_prime (fun _ _ _ _ _ _ us hl => match us, hl with | [_], _ => rfl) (fun vs H Q E h => ?_) (fun cdv A outer s H vs Q E hr h => ?_)
  · obtain ⟨n, rfl, _⟩ := h
    rfl
  · obtain ⟨n, rfl, hb, k⟩ := h
    refine ⟨_, (pss_cons (ps_if (pt_cmpR op_lt (pv 0) pe_int (nomark _))
        (pss_one (ps_ret pe_bl)) pss_nil)
      (pss_cons (ps_set (i := 1) sc_law_is_prime.nd rfl (Or.inl rfl) pe_int)
      (pss_cons (ps_while PassesOwn.never (pt_cmpR op_le (pe_op op_mul (pv 1) (pv 1)) (pv 0) (nomark _))
        (pss_cons (ps_if (pt_cmpR op_eq (pe_op op_modN (pv 0) (pv 1)) pe_int (nomark _))
          (pss_one (ps_ret pe_bl)) pss_nil)
        (pss_one (ps_set (i := 1) sc_law_is_prime.nd rfl (Or.inl rfl) (pe_op op_add (pv 1) pe_int)))))
      (pss_one (ps_ret pe_bl))))), ?_⟩
    refine ⟨_, rfl, _, _, rfl, rfl, _, rfl, ifD (fun h2 => ?_) fun h2 => ?_⟩
    · exact k false ⟨fun z => (nomatch z), fun z => absurd z.1 (by omega)⟩
    have h2 : 2 ≤ n := by omega
    refine ⟨fun m σ H' => ∃ d : Int, H' = H ∧ σ = [some (.int n), some (.int d)] ∧ 2 ≤ d ∧ d ≤ n + 1 ∧ (∀ e : Int, 2 ≤ e → e < d → ¬ e ∣ n) ∧ m = (n + 1 - d).toNat, ⟨_, 2, rfl, rfl, by omega, by omega, fun e h1 h2 => by omega, rfl⟩, ?_⟩
    rintro m σ H' ⟨d, rfl, rfl, hd2, hdn, no, rfl⟩
    refine ⟨_, rfl, _, rfl, _, _, rfl, rfl, .inl ⟨by omega, by omega⟩, _, rfl, _, _, rfl, rfl, _, rfl, ifD (fun h3 => ?_) fun h3 => ?_⟩
    · refine ⟨fun σ' H'' => ∃ d' : Int, H'' = H' ∧ σ' = [some (.int n), some (.int d')] ∧ 2 ≤ d' ∧ d' ≤ n + 1 ∧ (∀ e : Int, 2 ≤ e → e < d' → ¬ e ∣ n) ∧ (n + 1 - d').toNat < (n + 1 - d).toNat, ?_, ?_⟩
      · rintro σ' H'' ⟨d', rfl, rfl, h4, h5, h6, h7⟩
        exact ⟨_, h7, d', rfl, rfl, h4, h5, h6, rfl⟩
      · have hle : d ≤ n := by
          have := Int.mul_le_mul_of_nonneg_left (a := 1) (b := d) (c := d) (by omega) (by omega)
          omega
        refine ⟨_, rfl, _, rfl, _, _, rfl, rfl, (by omega), rfl, _, rfl, ifEq (fun h4 => ?_) fun h4 => ?_⟩
        · refine k false ⟨fun z => (nomatch z), fun z => ?_⟩
          refine absurd z (not_isPr_of hd2 h3 ?_)
          rw [fmod_pos (by omega)] at h4
          exact Int.dvd_of_emod_eq_zero h4
        · refine ⟨_, rfl, _, _, rfl, rfl, d + 1, rfl, rfl, by omega, by omega, fun e h5 h6 => ?_, by omega⟩
          by_cases e1 : e = d
          · subst e1
            intro hdv
            apply h4
            rw [fmod_pos (by omega)]
            exact Int.emod_eq_zero_of_dvd hdv
          · exact no e h5 (by omega)
    · exact k true ⟨fun _ => isPr_of_loop h2 (by omega) hd2 no, fun _ => rfl⟩
theorem pr101 : IsPr 101 := by
  refine ⟨by decide, fun d h1 h2 hd => ?_⟩
  have h3 : d ≤ 10 := by
    apply Classical.byContradiction
    intro h
    have := Int.mul_le_mul (a := 11) (b := 11) (c := d) (d := d) (by omega) (by omega) (by omega) (by omega)
    omega
  obtain ⟨k, hk⟩ := hd
  rcases (show d = 2 ∨ d = 3 ∨ d = 4 ∨ d = 5 ∨ d = 6 ∨ d = 7 ∨ d = 8 ∨ d = 9 ∨ d = 10 by omega) with rfl | rfl | rfl | rfl | rfl | rfl | rfl | rfl | rfl <;> omega
def sp_next : Sp := fun vs H Q _ => ∃ n : Nat, vs = [.int n] ∧ n < 100 ∧ ∀ p : Int, IsPr p → p ≤ 101 → Q (.int p) H
theorem sc_law_next_prime : FnScope ["_law_n", "_law_found"] ["_law_n"] (defScope s_law_next_prime) := ⟨rfl, rfl, rfl, by decide +kernel, rfl, by decide +kernel, by decide +kernel⟩
theorem r_law_next_prime (T : Ok K mg) : FnR P w K mg base CX0 2 (ga K "_law_next_prime") sp_next := by
  obtain ⟨fd, F⟩ := T.f_law_next_prime
  refine frn F sc_law_next_prime (fun _ _ _ _ _ _ us hl => match us, hl with | [_], _ => rfl) (fun vs H Q E h => ?_) (fun cdv A outer s H vs Q E hr h => ?_)
  · obtain ⟨n, rfl, _⟩ := h
    rfl
  · obtain ⟨n, rfl, hn, k⟩ := h
    refine ⟨_, (pss_cons (ps_set (i := 1) sc_law_next_prime.nd rfl (Or.inl rfl) (pe_callB (call_max2 rfl) (by rfl) T.n_max (by decide +kernel) (pa_cons pe_int (pa_cons (pv 0) pa_nil))))
      (pss_cons (ps_while PassesOwn.never (pt_not (pt_val (pe_callR (r_law_is_prime T) (hr.mono (by decide)) (kp_of T.f_law_is_prime) rfl T.g_law_is_prime pass0 (pa_cons (pv 1) pa_nil))))
        (pss_one (ps_set (i := 1) sc_law_next_prime.nd rfl (Or.inl rfl) (pe_op op_add (pv 1) pe_int))))
      (pss_one (ps_ret (pv 1))))), ?_⟩
    refine ⟨_, rfl, _, _, rfl, ?_⟩
    refine ⟨fun m σ H' => ∃ x : Int, H' = H ∧ σ = [some (.int n), some (.int x)] ∧ 2 ≤ x ∧ x ≤ 101 ∧ m = (101 - x).toNat, ⟨_, (if ((n : Nat) : Int) > 2 then ((n : Nat) : Int) else 2), rfl, rfl, by split <;> omega, by split <;> omega, rfl⟩, ?_⟩
    rintro m σ H' ⟨x, rfl, rfl, h1, h2, rfl⟩
    refine ⟨_, rfl, x, rfl, by omega, fun b hb => ⟨b, rfl, ?_⟩⟩
    cases b with
    | true => exact iteF ⟨_, rfl, k x (hb.1 rfl) h2⟩
    | false =>
      refine iteT ?_
      have hx : x ≠ 101 := fun e => by
        have := hb.2 (by rw [e]; exact pr101)
        cases this
      refine ⟨fun σ' H'' => ∃ x' : Int, H'' = H' ∧ σ' = [some (.int n), some (.int x')] ∧ 2 ≤ x' ∧ x' ≤ 101 ∧ (101 - x').toNat < (101 - x).toNat, fun σ' H'' ⟨x', e1, e2, e3, e4, e5⟩ => ⟨_, e5, x', e1, e2, e3, e4, rfl⟩, ?_⟩
      exact ⟨_, rfl, _, _, rfl, rfl, x + 1, rfl, rfl, by omega, by omega, by omega⟩
end
end Ef
/-! text C6b -/
set_option Elab.async false
set_option linter.all false
set_option maxRecDepth 100000
set_option maxHeartbeats 2000000
namespace Ef
open PySem PySem.Spec PyProof.Rows L2 EfB
section
variable {P : Program} {w : World} {K : PySem.W.Frag} {mg : Str → Option Value} {base : Heap}
/-! ### items of the law's rows -/
theorem len_mul (P Q : Po) : (pmul P Q).length ≤ P.length * Q.length := by
  have h := len_gath (prodT P Q)
  rw [len_prodT] at h
  exact h
theorem len_add (P Q : Po) : (padd P Q).length ≤ P.length + Q.length := by
  have h := len_gath (P ++ Q)
  rw [List.length_append] at h
  exact h
theorem len_sub (P Q : Po) : (psub P Q).length ≤ P.length + Q.length := Nat.le_trans (len_add _ _) (Nat.add_le_add_left (len_neg Q) _)
theorem len_num (n : Int) : (pnum n).length ≤ 1 := len_gath _
theorem len_unk (m : Mo) : (punk m).length ≤ 1 := len_gath _
theorem Good.mulOk {P : Po} {n d : Nat} (h : Good P n d) (hn : n < 2 ^ 60) (hd : d < 30) : ∀ t ∈ P, dg t.1 < 30 ∧ t.2.natAbs < 2 ^ 60 := fun t ht => ⟨Nat.lt_of_le_of_lt (h.dl t ht) hd, Nat.lt_of_le_of_lt (Nat.le_trans (coef_le ht) h.nr) hn⟩
theorem Good.dgOk {P : Po} {n d : Nat} (h : Good P n d) (hd : d < 30) : ∀ t ∈ P, dg t.1 < 30 := fun t ht => Nat.lt_of_le_of_lt (h.dl t ht) hd
def letS (v : Nat) : Str := if v = 0 then "x" else if v = 1 then "y" else "z"
def letM (v : Nat) : Mo := if v = 0 then (1, 0, 0) else if v = 1 then (0, 1, 0) else (0, 0, 1)
theorem letM_S (v : Nat) : moS (letM v) = [letS v] := by
  unfold letM letS
  split
  · rw [moS_x, moS_0]
  · split
    · rw [moS_y, moS_0]
    · rw [moS_z, moS_0]
theorem letM_dg (v : Nat) : dg (letM v) = 1 := by
  unfold letM
  split
  · rfl
  · split <;> rfl
theorem let_at {v : Nat} (h : v < 3) : ([V.str "x", V.str "y", V.str "z"] : List V)[v]? = some (.str (letS v)) := by
  rcases (show v = 0 ∨ v = 1 ∨ v = 2 by omega) with rfl | rfl | rfl <;> rfl
theorem num_at {v : Nat} (h : v < 6) : ∃ c : Int, ([V.int 1, V.int (-1), V.int 2, V.int 3, V.int 0, V.int 6] : List V)[v]? = some (.int c) ∧ c.natAbs ≤ 6 := by
  rcases (show v = 0 ∨ v = 1 ∨ v = 2 ∨ v = 3 ∨ v = 4 ∨ v = 5 by omega) with rfl | rfl | rfl | rfl | rfl | rfl
  · exact ⟨1, rfl, by decide⟩
  · exact ⟨-1, rfl, by decide⟩
  · exact ⟨2, rfl, by decide⟩
  · exact ⟨3, rfl, by decide⟩
  · exact ⟨0, rfl, by decide⟩
  · exact ⟨6, rfl, by decide⟩
theorem size_of {xs : List V} (h : xs.length < 1000) : xs.length ≤ sizeLine := by rw [sizeLine_eq]; omega
theorem pool_ne {H : Hp} {p l : Addr} (hp : PoolAt H p) (hl : H l = none) : l ≠ p := fun e => by
  obtain ⟨c, i, g, h⟩ := hp
  rw [e, h] at hl
  cases hl
def sp_item (K : PySem.W.Frag) : Sp := fun vs H Q _ => ∃ p : Addr, vs = [.ref p] ∧ PoolAt H p ∧ ∀ (H' : Hp) (a : Addr) (P1 : Po), Ex1 p H H' → MnAt K H' a P1 → Good P1 6 2 → P1.length ≤ 1 → Q (.ref a) H'
theorem sc_law_item : FnScope ["_law_pool_here", "_law_names", "_law_item_here", "_law_count"] ["_law_pool_here"] (defScope s_law_item) := ⟨rfl, rfl, rfl, by decide +kernel, rfl, by decide +kernel, by decide +kernel⟩
theorem r_law_item (T : Ok K mg) : FnR P w K mg base CX0 5 (ga K "_law_item") (sp_item K) := by
  obtain ⟨fd, F⟩ := T.f_law_item
  refine frn F sc_law_item (fun _ _ _ _ _ _ us hl => match us, hl with | [_], _ => rfl) (fun vs H Q E h => ?_) (fun cdv A outer s H vs Q E hr h => ?_)
  · obtain ⟨p, rfl, _⟩ := h
    rfl
  · obtain ⟨p, rfl, hp, k⟩ := h
    refine ⟨_, (pss_cons (ps_set (i := 1) sc_law_item.nd rfl (Or.inl rfl) (pe_lst (pa_cons pe_str (pa_cons pe_str (pa_cons pe_str pa_nil)))))
      (pss_cons (ps_set (i := 2) sc_law_item.nd rfl (Or.inl rfl) (ClX.pe_cmeth (pe_glob (v := .ref (ga K "Many")) rfl T.g_Many rfl) T.rd_Many T.cm_Many_number (r_Many_number T) (hr.mono (by decide)) pass0 (pa_cons (pe_ix (ix_listK (K := K) rfl) (pe_lst (pa_cons pe_int (pa_cons (pe_un un_neg pe_int) (pa_cons pe_int (pa_cons pe_int (pa_cons pe_int (pa_cons pe_int pa_nil))))))) (pe_callR (r_law_take T) (hr.mono (by decide)) (kp_of T.f_law_take) rfl T.g_law_take pass0 (pa_cons (pv 0) (pa_cons pe_int pa_nil))) (fun _ _ => rfl)) pa_nil)))
      (pss_cons (ps_for PassesOwn.never rfl (pi_range1 (by rfl) T.n_range (pa_cons (pe_callR (r_law_take T) (hr.mono (by decide)) (kp_of T.f_law_take) rfl T.g_law_take pass0 (pa_cons (pv 0) (pa_cons pe_int pa_nil))) pa_nil)) (pg_name (i := 3) sc_law_item.nd rfl (Or.inl rfl))
        (pss_one (ps_set (i := 2) sc_law_item.nd rfl (Or.inl rfl) (pe_op (op_bin T.sf_Many T.me_Many_mul.at_ T.me_Many_mul.fn (r_Many_mul T) (hr.mono (by decide)) pass0) (pv 2) (ClX.pe_cmeth (pe_glob (v := .ref (ga K "Many")) rfl T.g_Many rfl) T.rd_Many T.cm_Many_unknown (r_Many_unknown T) (hr.mono (by decide)) pass0 (pa_cons (pe_ix (ix_listK (K := K) rfl) (pv 1) (pe_callR (r_law_take T) (hr.mono (by decide)) (kp_of T.f_law_take) rfl T.g_law_take pass0 (pa_cons (pv 0) (pa_cons pe_int pa_nil))) (fun _ _ => rfl)) pa_nil))))))
      (pss_one (ps_ret (pv 2)))))), ?_⟩
    refine ⟨size_of (by show 3 < 1000; decide), fun L hL => ?_⟩
    have s1 : Same H (upd H L (.lst [.str "x", .str "y", .str "z"])) := Same.upd (Same.refl H) hL
    have Lp : L ≠ p := pool_ne hp hL
    have e1 : Ex1 p H (upd H L (.lst [.str "x", .str "y", .str "z"])) := Ex1.of hp s1
    have l1 : upd H L (.lst [V.str "x", V.str "y", V.str "z"]) L = some (.lst [.str "x", .str "y", .str "z"]) := upd_same
    generalize upd H L (.lst [V.str "x", V.str "y", V.str "z"]) = H1 at s1 e1 l1
    refine ⟨rfl, 1, rfl, size_of (by show 6 < 1000; decide), fun L2 hL2 => ?_⟩
    have s2 : Same H1 (upd H1 L2 (.lst [.int 1, .int (-1), .int 2, .int 3, .int 0, .int 6])) := Same.upd (Same.refl _) hL2
    have L2p : L2 ≠ p := pool_ne e1.pool hL2
    refine ⟨_, rfl, p, 6, rfl, e1.pool.same s2, by decide, by decide, fun H2 v e2 hv => ?_⟩
    obtain ⟨c, hc, hcb⟩ := num_at (v := v) (by omega)
    have l2 := e2.kp L2 _ upd_same L2p
    refine ⟨L2, _, v, .int c, rfl, rfl, SqL.of l2, atI_nat hc, ?_⟩
    refine ⟨c, rfl, fun H3 a s3 na ma => ?_⟩
    have e12 := (e1.trans (Ex1.of e1.pool s2)).trans e2
    have e13 := e12.trans (Ex1.of e2.pool s3)
    have l13 : H3 L = some (.lst [.str "x", .str "y", .str "z"]) := s3 _ _ (e2.kp L _ (s2 _ _ l1) Lp)
    refine ⟨_, rfl, p, 3, rfl, e13.pool, by decide, by decide, fun H4 v2 e4 hv2 => ?_⟩
    have e14 := e13.trans e4
    refine ⟨_, rfl, by omega, by omega, ?_⟩
    have hg : Good (pnum c) 6 0 := (good_num c).mono hcb (Nat.le_refl 0)
    refine for_it walk_range (fun i σ H' => ∃ (a : Addr) (P1 : Po) (x : Option V), σ = [some (.ref p), some (.ref L), some (.ref a), x] ∧ Ex1 p H H' ∧ H' L = some (.lst [.str "x", .str "y", .str "z"]) ∧ MnAt K H' a P1 ∧ Good P1 6 i ∧ P1.length ≤ 1) ⟨a, pnum c, none, rfl, e14, e4.kp _ _ l13 Lp, ma.ex e13.pool e4, hg, len_num c⟩ (fun _ _ _ _ _ => trivial) ?_ ?_
    · rintro i y σ H5 H6 hi ⟨a, P1, x, rfl, e5, l5, m5, g5, n5⟩ ⟨rfl, hy⟩
      have hi2 : i < 2 := by omega
      refine ⟨_, rfl, rfl, _, rfl, _, rfl, p, 3, rfl, e5.pool, by decide, by decide, fun H7 v3 e7 hv3 => ?_⟩
      have l7 := e7.kp _ _ l5 Lp
      refine ⟨L, _, v3, .str (letS v3), rfl, rfl, SqL.of l7, atI_nat (let_at (by omega)), ?_⟩
      refine ⟨letM v3, letS v3, rfl, letM_S v3, fun H8 b s8 nb mb => ?_⟩
      have m7 := (m5.ex e5.pool e7).same s8
      obtain ⟨dx, D, od, h1, h2⟩ := id m7
      obtain ⟨dy, D', od', h3, h4⟩ := id mb
      have gu : Good (punk (letM v3)) 1 1 := by have := good_unk (letM v3); rw [letM_dg] at this; exact this
      have lu := len_unk (letM v3)
      have ll : P1.length * (punk (letM v3)).length ≤ 1 * 1 := Nat.mul_le_mul n5 lu
      refine ⟨a, dx, _, b, dy, _, rfl, rfl, h1, h3, a, b, P1, punk (letM v3), rfl, m7, mb, by omega, g5.mulOk (by decide) (by omega), gu.dgOk (by omega), fun H9 c' s9 nc mc => ?_⟩
      have e9 := (e5.trans e7).trans (Ex1.of e7.pool (s8.trans s9))
      refine ⟨c', _, _, rfl, e9, s9 _ _ (s8 _ _ l7), mc, ?_, Nat.le_trans (len_mul _ _) ll⟩
      exact (good_mul g5 gu).mono (by omega) (Nat.le_refl _)
    · rintro σ H5 ⟨a, P1, x, rfl, e5, l5, m5, g5, n5⟩
      exact ⟨_, rfl, k H5 a P1 e5 m5 (g5.mono (Nat.le_refl _) (by omega)) n5⟩
end
end Ef
/-! text C6c -/
set_option Elab.async false
set_option linter.all false
set_option maxRecDepth 100000
set_option maxHeartbeats 2000000
namespace Ef
open PySem PySem.Spec PyProof.Rows L2 EfB
section
variable {P : Program} {w : World} {K : PySem.W.Frag} {mg : Str → Option Value} {base : Heap}
/-- a list of n lists of n Many -/
structure PR (K : PySem.W.Frag) (H : Hp) (L : Addr) (rs : Nat → Addr) (ms : Nat → Nat → Addr) (n : Nat) (P : Nat → Nat → Po) : Prop where
  top : H L = some (.lst (refV n rs))
  row : ∀ i, i < n → H (rs i) = some (.lst (refV n (ms i)))
  ent : ∀ i j, i < n → j < n → MnAt K H (ms i j) (P i j)
theorem PR.same {K : PySem.W.Frag} {H H' : Hp} {L : Addr} {rs : Nat → Addr} {ms : Nat → Nat → Addr} {n : Nat} {P : Nat → Nat → Po} (h : PR K H L rs ms n P) (s : Same H H') : PR K H' L rs ms n P :=
  ⟨s _ _ h.top, fun i hi => s _ _ (h.row i hi), fun i j hi hj => (h.ent i j hi hj).same s⟩
def sp_values (K : PySem.W.Frag) : Sp := fun vs H Q _ => ∃ (L d : Addr) (rs : Nat → Addr) (ms : Nat → Nat → Addr) (n : Nat) (P1 : Nat → Nat → Po) (v : Pt), vs = [.ref L, .ref d] ∧ PR K H L rs ms n P1 ∧ 0 < n ∧ n < 100 ∧ (∀ i j, i < n → j < n → (P1 i j).length < 16000) ∧ H d = some (.dK (vK v)) ∧ PtS v ∧
  ∀ (H' : Hp) (a : Addr), Same H H' → MxAt K H' a n (fun i j => ev (P1 i j) v) → Q (.ref a) H'
theorem sc_law_values : FnScope ["_law_rows", "_law_choice", "_law_found", "_law_row", "_law_item_here"] ["_law_rows", "_law_choice"] (defScope s_law_values) := ⟨rfl, rfl, rfl, by decide +kernel, rfl, by decide +kernel, by decide +kernel⟩
theorem r_law_values (T : Ok K mg) : FnR P w K mg base CX0 6 (ga K "_law_values") (sp_values K) := by
  obtain ⟨fd, F⟩ := T.f_law_values
  refine frn F sc_law_values (fun _ _ _ _ _ _ us hl => match us, hl with | [_, _], _ => rfl) (fun vs H Q E h => ?_) (fun cdv A outer s H vs Q E hr h => ?_)
  · obtain ⟨L, d, rs, ms, n, P1, v, rfl, _⟩ := h
    rfl
  · obtain ⟨L, d, rs, ms, n, P1, v, rfl, pr, h0, hn, hl, hd, hv, k⟩ := h
    refine ⟨_, (pss_cons (ps_set (i := 2) sc_law_values.nd rfl (Or.inl rfl) (pe_lst pa_nil))
      (pss_cons (ps_for PassesOwn.never rfl (pi_listK (K := K) rfl (pv 0)) (pg_name (i := 3) sc_law_values.nd rfl (Or.inl rfl))
        (pss_one (ps_expr (pe_bm PySem.F.plainAttrs_list PySem.F.slot_list_append PySem.F.type_list_append mt_append (pv 2) (pa_cons (pe_lc (own := [("_law_item_here", 4)]) rfl sc_law_values.nd (pi_listK (K := K) rfl (pv 3)) (blkOk_by (own := [("_law_item_here", 4)]) (N := ["_law_rows", "_law_choice", "_law_found", "_law_row", "_law_item_here"]) (sc := (defScope s_law_values)) (by decide +kernel)) (fun _ _ _ _ _ => (pg_name (i := 4) sc_law_values.nd rfl (Or.inl rfl))) (fun _ _ _ _ _ => pts_nil) (by exact fun _ _ _ _ _ => (pe_methKR (pv 4) T.cl_Many T.me_Many_value (r_Many_value T) (hr.mono (by decide)) pass0 (pa_cons (pv 1) pa_nil) (pk_cons pe_int pk_nil)))) pa_nil)))))
      (pss_one (ps_ret (StX.pe_makeR T.mk_Matrix (r_Matrix_init T) (hr.mono (by decide)) rfl T.g_Matrix pass0 (pa_cons (pv 2) pa_nil)))))), ?_⟩
    refine ⟨Nat.zero_le _, fun D hD => ?_⟩
    have s0 : Same H (upd H D (.lst [])) := Same.upd (Same.refl H) hD
    refine ⟨_, rfl, L, rfl, ⟨_, SqL.of (s0 _ _ pr.top)⟩, ?_⟩
    refine for_it (walk_list (K := K) (a := L) (xs := refV n rs)) (fun i σ H' => ∃ (x : Option V) (rs' : Nat → Addr), σ = [some (.ref L), some (.ref d), some (.ref D), x, none] ∧ LG H H' D rs' n (fun i j => ev (P1 i j) v) i) ⟨none, _, rfl, lg_nil hD⟩ (fun i σ H' _ ⟨_, _, _, g⟩ => SqL.of (g.sm _ _ pr.top)) ?_ ?_
    · rintro i y σ H1 H2 hi ⟨x, rs', rfl, g⟩ ⟨rfl, hy⟩
      rw [refV_len] at hi
      obtain rfl := refV_get hi hy
      refine ⟨_, rfl, .inl ⟨rfl, _, SqL.of g.top⟩, ?_⟩
      have row := g.sm _ _ (pr.row i hi)
      refine ⟨_, rfl, rs i, rfl, ⟨_, SqL.of row⟩, fun t ht => ?_⟩
      refine lc_it (walk_list (K := K) (a := rs i) (xs := refV n (ms i))) (fun j H' => Same H2 H' ∧ H' t = some (.lst (rowV j fun j => ev (P1 i j) v))) ⟨Same.upd (Same.refl _) ht, upd_same⟩ (fun j H' _ p => SqL.of (p.1 _ _ row)) ?_ ?_
      · rintro j y H3 H4 hj ⟨sm, gt⟩ ⟨rfl, hy⟩
        rw [refV_len] at hj
        obtain rfl := refV_get hj hy
        have m4 := ((pr.ent i j hi hj).same g.sm).same sm
        obtain ⟨dx, D1, od, h1, h2⟩ := id m4
        refine ⟨rfl, ?_⟩
        refine ⟨_, rfl, ms i j, dx, _, rfl, h1, by rw [lookup_putF, if_neg (by decide +kernel)]; rfl, _, rfl, rfl, rfl, ms i j, d, P1 i j, v, 0, rfl, m4, sm _ _ (g.sm _ _ hd), hl i j hi hj, hv, .inl rfl, by decide, fun H5 r s5 _ hr => ?_⟩
        rw [hr rfl]
        refine ⟨_, s5 _ _ gt, by rw [rowV_len]; exact size_lt (by omega), Same.upd (sm.trans s5) ht, ?_⟩
        rw [upd_same, rowV_succ]
      · rintro H3 ⟨sm, gt⟩
        rw [refV_len] at gt
        obtain ⟨acc, a1, a2, rs2, a3⟩ := g.add hD (by omega) sm ht gt
        exact ⟨D, acc, _, rfl, rfl, a1, a2, _, rs2, rfl, a3⟩
    · rintro σ H1 ⟨x, rs', rfl, g⟩
      rw [refV_len] at g
      refine ⟨_, rfl, fun a y2 na n2 n3 => ⟨a, y2, D, rs', n, _, rfl, upd_same, g.lm.same (fresh2 na n2), h0, hn, fun H3 mf fr => ⟨rfl, ?_⟩⟩⟩
      exact k H3 a (g.sm.trans (Same.made na n2 fr)) mf
end
end Ef
/-! text C6d -/
set_option Elab.async false
set_option linter.all false
set_option maxRecDepth 100000
set_option maxHeartbeats 2000000
namespace Ef
open PySem PySem.Spec PyProof.Rows L2 EfB
section
variable {P : Program} {w : World} {K : PySem.W.Frag} {mg : Str → Option Value} {base : Heap}
/-! ### the law's determinant -/
def detE (m : Nat) (E : Mx) : Int := if m = 1 then E 0 0 else detn m E
def mn {α : Type} (E : Nat → Nat → α) (j : Nat) : Nat → Nat → α := fun i c => E (i + 1) (if c < j then c else c + 1)
def lap (M : Nat) (E : Mx) : Nat → Int
  | 0 => 0
  | j + 1 => if j % 2 = 0 then lap M E j + E 0 j * detE M (mn E j) else lap M E j - E 0 j * detE M (mn E j)
theorem lap_det {M : Nat} (h : M = 1 ∨ M = 2) (E : Mx) : lap M E (M + 1) = detE (M + 1) E := by
  rcases h with rfl | rfl
  · simp [lap, detE, detn, det2, mn]
  · simp [lap, detE, detn, det2, det3, mn]
def nb (m : Nat) : Nat := if m = 1 then 144 else if m = 2 then 41472 else 17915904
def lb (m : Nat) : Nat := if m = 1 then 4 else if m = 2 then 33 else 397
structure DOk (m : Nat) (P : Nat → Nat → Po) (D : Po) : Prop where
  ev : ∀ v, ev D v = detE m (fun i j => ev (P i j) v)
  gd : Good D (nb m) (2 * m)
  ln : D.length ≤ lb m
def EOk (m : Nat) (P : Nat → Nat → Po) : Prop := ∀ i j, i < m → j < m → Good (P i j) 144 2 ∧ (P i j).length ≤ 4
def sp_ldet (K : PySem.W.Frag) (m : Nat) : Sp := fun vs H Q _ => ∃ (L : Addr) (rs : Nat → Addr) (ms : Nat → Nat → Addr) (P : Nat → Nat → Po), vs = [.ref L] ∧ PR K H L rs ms m P ∧ EOk m P ∧
  ∀ (H' : Hp) (a : Addr) (D : Po), Same H H' → MnAt K H' a D → DOk m P D → Q (.ref a) H'
theorem no_fn {k : Nat} {f : Addr} : FnR P w K mg base CX0 k f (fun _ _ _ _ => False) := by
  intro A outer s H us vs Q E _ _ _ h
  exact h.elim
theorem six_nat {n d v : Nat} (h : v ≤ n) : HT.sIx n d (some (v : Int)) = v := by
  unfold HT.sIx
  simp only []
  split <;> omega
theorem six_none (n d : Nat) : HT.sIx n d none = d := rfl
theorem cut_lo {n v : Nat} (f : Nat → Addr) (h : v ≤ n) : cutV (refV n f) (some (v : Int)) none = refV (n - v) (fun i => f (i + v)) := by
  unfold cutV
  rw [refV_len, six_nat h, six_none]
  apply List.ext_getElem?
  intro i
  rw [List.getElem?_take, List.getElem?_drop]
  by_cases hi : i < n - v
  · rw [if_pos hi, refV_at (by omega), refV_at hi, Nat.add_comm]
  · rw [if_neg hi, List.getElem?_eq_none (by rw [refV_len]; omega)]
theorem cut_hi {n v : Nat} (f : Nat → Addr) (h : v ≤ n) : cutV (refV n f) none (some (v : Int)) = refV v f := by
  unfold cutV
  rw [refV_len, six_nat h, six_none, List.drop_zero]
  apply List.ext_getElem?
  intro i
  rw [List.getElem?_take]
  by_cases hi : i < v
  · rw [if_pos (by omega), refV_at (by omega), refV_at hi]
  · rw [if_neg (by omega), List.getElem?_eq_none (by rw [refV_len]; omega)]
theorem ref_cat {n j : Nat} (f : Nat → Addr) (h : j < n) : refV j f ++ refV (n - (j + 1)) (fun i => f (i + (j + 1))) = refV (n - 1) (fun c => f (if c < j then c else c + 1)) := by
  apply List.ext_getElem?
  intro i
  by_cases hi : i < j
  · rw [List.getElem?_append_left (by rw [refV_len]; exact hi), refV_at hi, refV_at (by omega), if_pos hi]
  · rw [List.getElem?_append_right (by rw [refV_len]; omega), refV_len]
    by_cases h2 : i < n - 1
    · rw [refV_at (by omega), refV_at h2, if_neg hi, show i - j + (j + 1) = i + 1 by omega]
    · rw [List.getElem?_eq_none (by rw [refV_len]; omega), List.getElem?_eq_none (by rw [refV_len]; omega)]
theorem sc_law_determinant : FnScope ["_law_rows", "_law_total", "_law_j", "_law_part", "_law_row"] ["_law_rows"] (defScope s_law_determinant) := ⟨rfl, rfl, rfl, by decide +kernel, rfl, by decide +kernel, by decide +kernel⟩
theorem det_base (T : Ok K mg) : FnR P w K mg base CX0 6 (ga K "_law_determinant") (sp_ldet K 1) := by
  obtain ⟨fd, F⟩ := T.f_law_determinant
  have G : FnR P w K mg base CX0 5 (ga K "_law_determinant") (fun _ _ _ _ => False) := no_fn
  refine frn F sc_law_determinant (fun _ _ _ _ _ _ us hl => match us, hl with | [_], _ => rfl) (fun vs H Q E h => ?_) (fun cdv A outer s H vs Q E hr h => ?_)
  · obtain ⟨L, rs, ms, P, rfl, _⟩ := h
    rfl
  · obtain ⟨L, rs, ms, P, rfl, pr, eo, k⟩ := h
    refine ⟨_, (pss_cons (ps_if (pt_cmpR op_eq (pe_callB (call_lenK (K := K) rfl) (by rfl) T.n_len (by decide +kernel) (pa_cons (pv 0) pa_nil)) pe_int (nomark _))
        (pss_one (ps_ret (pe_ix (ix_listK (K := K) rfl) (pe_ix (ix_listK (K := K) rfl) (pv 0) pe_int (fun _ _ => rfl)) pe_int (fun _ _ => rfl)))) pss_nil)
      (pss_cons (ps_set (i := 1) sc_law_determinant.nd rfl (Or.inl rfl) (ClX.pe_cmeth (pe_glob (v := .ref (ga K "Many")) rfl T.g_Many rfl) T.rd_Many T.cm_Many_number (r_Many_number T) (hr.mono (by decide)) pass0 (pa_cons pe_int pa_nil)))
      (pss_cons (ps_for PassesOwn.never rfl (pi_range1 (by rfl) T.n_range (pa_cons (pe_callB (call_lenK (K := K) rfl) (by rfl) T.n_len (by decide +kernel) (pa_cons (pv 0) pa_nil)) pa_nil)) (pg_name (i := 2) sc_law_determinant.nd rfl (Or.inr rfl))
        (pss_cons (ps_set (i := 3) sc_law_determinant.nd rfl (Or.inl rfl) (pe_op (op_bin T.sf_Many T.me_Many_mul.at_ T.me_Many_mul.fn (r_Many_mul T) (hr.mono (by decide)) pass0) (pe_ix (ix_listK (K := K) rfl) (pe_ix (ix_listK (K := K) rfl) (pv 0) pe_int (fun _ _ => rfl)) (pv 2) (fun _ _ => rfl)) (pe_callR G hr (kp_of T.f_law_determinant) rfl T.g_law_determinant pass0 (pa_cons (pe_lc (own := [("_law_row", 4)]) rfl sc_law_determinant.nd (pi_listK (K := K) rfl (pe_slice (sl_listK (K := K) rfl) (pv 0) (po_some pe_int) po_none)) (blkOk_by (own := [("_law_row", 4)]) (N := ["_law_rows", "_law_total", "_law_j", "_law_part", "_law_row"]) (sc := (defScope s_law_determinant)) (by decide +kernel)) (fun _ _ _ _ _ => (pg_name (i := 4) sc_law_determinant.nd rfl (Or.inl rfl))) (fun _ _ _ _ _ => pts_nil) (by exact fun _ _ _ _ _ => (pe_op op_cat (pe_slice (sl_listK (K := K) rfl) (pv 4) po_none (po_some (pv 2))) (pe_slice (sl_listK (K := K) rfl) (pv 4) (po_some (pe_op op_add (pv 2) pe_int)) po_none)))) pa_nil))))
        (pss_one (ps_if (pt_cmpR op_eq (pe_op op_modN (pv 2) pe_int) pe_int (nomark _))
          (pss_one (ps_set (i := 1) sc_law_determinant.nd rfl (Or.inl rfl) (pe_op (op_bin T.sf_Many T.me_Many_add.at_ T.me_Many_add.fn (r_Many_add T) (hr.mono (by decide)) pass0) (pv 1) (pv 3))))
          (pss_one (ps_set (i := 1) sc_law_determinant.nd rfl (Or.inl rfl) (pe_op (op_bin T.sf_Many T.me_Many_sub.at_ T.me_Many_sub.fn (r_Many_sub T) (hr.mono (by decide)) pass0) (pv 1) (pv 3))))))))
      (pss_one (ps_ret (pv 1)))))), ?_⟩
    refine ⟨_, rfl, (V.ref L), 1, rfl, .inl ⟨_, SqL.of pr.top, (refV_len _ _).symm⟩, rfl, _, rfl, ?_⟩
    refine ifD (fun _ => ?_) fun z => absurd rfl z
    refine ⟨_, rfl, L, _, (0 : Nat), _, rfl, rfl, SqL.of pr.top, atI_nat (refV_at (by decide)), rs 0, _, (0 : Nat), _, rfl, rfl, SqL.of (pr.row 0 (by decide)), atI_nat (refV_at (by decide)), ?_⟩
    have e0 := eo 0 0 (by decide) (by decide)
    exact k H _ _ (Same.refl H) (pr.ent 0 0 (by decide) (by decide)) ⟨fun v => rfl, e0.1, e0.2⟩
end
end Ef
/-! text C6e -/
set_option Elab.async false
set_option linter.all false
set_option maxRecDepth 100000
set_option maxHeartbeats 2000000
namespace Ef
open PySem PySem.Spec PyProof.Rows L2 EfB
section
variable {P : Program} {w : World} {K : PySem.W.Frag} {mg : Str → Option Value} {base : Heap}
theorem nb_le {M : Nat} (h : M = 1 ∨ M = 2) : (M + 1) * (144 * nb M) ≤ nb (M + 1) ∧ 1 + (M + 1) * (4 * lb M) ≤ lb (M + 1) ∧ nb M ≤ 41472 ∧ lb M ≤ 33 ∧ lb (M + 1) ≤ 397 := by
  rcases h with rfl | rfl <;> decide
theorem fmod2 (j : Nat) : ((j : Nat) : Int).fmod 2 = 0 ↔ j % 2 = 0 := by
  rw [fmod_pos (by decide)]
  omega
theorem det_level (T : Ok K mg) {M : Nat} (hM : M = 1 ∨ M = 2) {k0 : Nat} (hk0 : 5 ≤ k0) (G : FnR P w K mg base CX0 k0 (ga K "_law_determinant") (sp_ldet K M)) : FnR P w K mg base CX0 (k0 + 1) (ga K "_law_determinant") (sp_ldet K (M + 1)) := by
  obtain ⟨fd, F⟩ := T.f_law_determinant
  refine frn F sc_law_determinant (fun _ _ _ _ _ _ us hl => match us, hl with | [_], _ => rfl) (fun vs H Q E h => ?_) (fun cdv A outer s H vs Q E hr h => ?_)
  · obtain ⟨L, rs, ms, P, rfl, _⟩ := h
    rfl
  · obtain ⟨L, rs, ms, P, rfl, pr, eo, k⟩ := h
    refine ⟨_, (pss_cons (ps_if (pt_cmpR op_eq (pe_callB (call_lenK (K := K) rfl) (by rfl) T.n_len (by decide +kernel) (pa_cons (pv 0) pa_nil)) pe_int (nomark _))
        (pss_one (ps_ret (pe_ix (ix_listK (K := K) rfl) (pe_ix (ix_listK (K := K) rfl) (pv 0) pe_int (fun _ _ => rfl)) pe_int (fun _ _ => rfl)))) pss_nil)
      (pss_cons (ps_set (i := 1) sc_law_determinant.nd rfl (Or.inl rfl) (ClX.pe_cmeth (pe_glob (v := .ref (ga K "Many")) rfl T.g_Many rfl) T.rd_Many T.cm_Many_number (r_Many_number T) (hr.mono (by omega)) pass0 (pa_cons pe_int pa_nil)))
      (pss_cons (ps_for PassesOwn.never rfl (pi_range1 (by rfl) T.n_range (pa_cons (pe_callB (call_lenK (K := K) rfl) (by rfl) T.n_len (by decide +kernel) (pa_cons (pv 0) pa_nil)) pa_nil)) (pg_name (i := 2) sc_law_determinant.nd rfl (Or.inr rfl))
        (pss_cons (ps_set (i := 3) sc_law_determinant.nd rfl (Or.inl rfl) (pe_op (op_bin T.sf_Many T.me_Many_mul.at_ T.me_Many_mul.fn (r_Many_mul T) (hr.mono (by omega)) pass0) (pe_ix (ix_listK (K := K) rfl) (pe_ix (ix_listK (K := K) rfl) (pv 0) pe_int (fun _ _ => rfl)) (pv 2) (fun _ _ => rfl)) (pe_callR G hr (kp_of T.f_law_determinant) rfl T.g_law_determinant pass0 (pa_cons (pe_lc (own := [("_law_row", 4)]) rfl sc_law_determinant.nd (pi_listK (K := K) rfl (pe_slice (sl_listK (K := K) rfl) (pv 0) (po_some pe_int) po_none)) (blkOk_by (own := [("_law_row", 4)]) (N := ["_law_rows", "_law_total", "_law_j", "_law_part", "_law_row"]) (sc := (defScope s_law_determinant)) (by decide +kernel)) (fun _ _ _ _ _ => (pg_name (i := 4) sc_law_determinant.nd rfl (Or.inl rfl))) (fun _ _ _ _ _ => pts_nil) (by exact fun _ _ _ _ _ => (pe_op op_cat (pe_slice (sl_listK (K := K) rfl) (pv 4) po_none (po_some (pv 2))) (pe_slice (sl_listK (K := K) rfl) (pv 4) (po_some (pe_op op_add (pv 2) pe_int)) po_none)))) pa_nil))))
        (pss_one (ps_if (pt_cmpR op_eq (pe_op op_modN (pv 2) pe_int) pe_int (nomark _))
          (pss_one (ps_set (i := 1) sc_law_determinant.nd rfl (Or.inl rfl) (pe_op (op_bin T.sf_Many T.me_Many_add.at_ T.me_Many_add.fn (r_Many_add T) (hr.mono (by omega)) pass0) (pv 1) (pv 3))))
          (pss_one (ps_set (i := 1) sc_law_determinant.nd rfl (Or.inl rfl) (pe_op (op_bin T.sf_Many T.me_Many_sub.at_ T.me_Many_sub.fn (r_Many_sub T) (hr.mono (by omega)) pass0) (pv 1) (pv 3))))))))
      (pss_one (ps_ret (pv 1)))))), ?_⟩
    obtain ⟨n1, n2, n3, n4, n5⟩ := nb_le hM
    have hM3 : M + 1 ≤ 3 := by omega
    refine ⟨_, rfl, (V.ref L), M + 1, rfl, .inl ⟨_, SqL.of pr.top, (refV_len _ _).symm⟩, rfl, _, rfl, ?_⟩
    refine ifD (fun z => ?_) fun _ => ?_
    · injection z with z
      omega
    refine ⟨rfl, 0, rfl, fun H1 a s1 na ma => ?_⟩
    refine ⟨_, rfl, (V.ref L), M + 1, rfl, .inl ⟨_, SqL.of (s1 _ _ pr.top), (refV_len _ _).symm⟩, _, rfl, by omega, by omega, ?_⟩
    rw [show (((M + 1 : Nat) : Int)).toNat = M + 1 by omega]
    refine for_it walk_range (fun j σ H' => ∃ (a : Addr) (Tt : Po) (x y : Option V), σ = [some (.ref L), some (.ref a), x, y, none] ∧ Same H H' ∧ MnAt K H' a Tt ∧ (∀ v, ev Tt v = lap M (fun i c => ev (P i c) v) j) ∧ Good Tt (j * (144 * nb M)) (2 * (M + 1)) ∧ Tt.length ≤ 1 + j * (4 * lb M)) ⟨a, pnum 0, none, none, rfl, s1, ma, fun v => ev_num 0 v, (good_num 0).mono (Nat.zero_le _) (Nat.zero_le _), Nat.le_trans (len_num 0) (by omega)⟩ (fun _ _ _ _ _ => trivial) ?_ ?_
    · rintro j y σ H2 H3 hj ⟨a, Tt, x1, x2, rfl, sm, mt, hev, hg, hlen⟩ ⟨rfl, hy⟩
      obtain rfl := yfn0 hy
      have pr3 := pr.same sm
      refine ⟨_, rfl, L, _, (0 : Nat), _, rfl, rfl, SqL.of pr3.top, atI_nat (refV_at (by omega)), _, rfl, rs 0, _, j, _, rfl, rfl, SqL.of (pr3.row 0 (by omega)), atI_nat (refV_at hj), ?_⟩
      refine ⟨_, rfl, 1, rfl, L, _, rfl, SqL.of pr3.top, fun p1 hp1 => ?_⟩
      have ec : cutV (refV (M + 1) rs) (some 1) none = refV M (fun i => rs (i + 1)) := cut_lo (v := 1) rs (by omega)
      rw [ec]
      have sp1 := Same.upd (o := .lst (refV M fun i => rs (i + 1))) (Same.refl H3) hp1
      refine ⟨p1, rfl, ⟨_, SqL.of upd_same⟩, fun D hD => ?_⟩
      have hp1' : upd H3 p1 (.lst (refV M fun i => rs (i + 1))) p1 = some (.lst (refV M fun i => rs (i + 1))) := upd_same
      generalize upd H3 p1 (.lst (refV M fun i => rs (i + 1))) = H4 at sp1 hD hp1'
      have sD := Same.upd (o := .lst []) (Same.refl H4) hD
      refine lc_it (walk_list (K := K) (a := p1) (xs := refV M fun i => rs (i + 1))) (fun i H' => ∃ ts : Nat → Addr, Same H4 H' ∧ H' D = some (.lst (refV i ts)) ∧ ∀ r, r < i → H' (ts r) = some (.lst (refV M fun c => ms (r + 1) (if c < j then c else c + 1))) ∧ ts r ≠ D) ⟨fun _ => 0, sD, upd_same, fun r hr => by omega⟩ (fun i H' _ ⟨_, q, _⟩ => SqL.of (q _ _ hp1')) ?_ ?_
      · rintro i y H5 H6 hi ⟨ts, sm5, g1, g2⟩ ⟨rfl, hy⟩
        rw [refV_len] at hi
        obtain rfl := refV_get hi hy
        have row := sm5 _ _ (sp1 _ _ (pr3.row (i + 1) (by omega)))
        refine ⟨rfl, ?_⟩
        refine ⟨_, rfl, _, rfl, j, rfl, rs (i + 1), _, rfl, SqL.of row, fun q1 hq1 => ?_⟩
        rw [cut_hi (ms (i + 1)) (show j ≤ M + 1 by omega)]
        have s7 := Same.upd (o := .lst (refV j (ms (i + 1)))) (Same.refl H6) hq1
        refine ⟨_, rfl, _, rfl, _, _, rfl, rfl, _, rfl, rs (i + 1), _, rfl, SqL.of (s7 _ _ row), fun q2 hq2 => ?_⟩
        have ec2 : cutV (refV (M + 1) (ms (i + 1))) (some ((j : Nat) + 1)) none = refV (M + 1 - (j + 1)) (fun c => ms (i + 1) (c + (j + 1))) := cut_lo (v := j + 1) (ms (i + 1)) (by omega)
        rw [ec2]
        have s8 := Same.upd (o := .lst (refV (M + 1 - (j + 1)) fun c => ms (i + 1) (c + (j + 1)))) s7 (s7.free hq2)
        have q12 : q1 ≠ q2 := fun e => by rw [← e, upd_same] at hq2; cases hq2
        refine ⟨q1, q2, _, _, rfl, rfl, by rw [upd_ne q12, upd_same], upd_same, by rw [refV_len, refV_len, sizeLine_eq]; omega, fun t ht => ?_⟩
        rw [ref_cat (ms (i + 1)) (show j < M + 1 by omega), show M + 1 - 1 = M by omega]
        have s9 := Same.upd (o := .lst (refV M fun c => ms (i + 1) (if c < j then c else c + 1))) s8 (s8.free ht)
        have tD : t ≠ D := fun e => by rw [e] at ht; have := s8 _ _ g1; rw [this] at ht; cases ht
        refine ⟨_, s9 _ _ g1, by rw [refV_len]; exact size_lt (by omega), fun r => if r = i then t else ts r, Same.upd (sm5.trans s9) hD, ?_, fun r hr => ?_⟩
        · rw [upd_same, refV_succ]
        · by_cases e : r = i
          · subst e
            show upd _ D _ (if r = r then t else ts r) = _ ∧ (if r = r then t else ts r) ≠ D
            rw [if_pos rfl, upd_ne tD, upd_same]
            exact ⟨rfl, tD⟩
          · show upd _ D _ (if r = i then t else ts r) = _ ∧ (if r = i then t else ts r) ≠ D
            rw [if_neg e]
            have h3 := g2 r (by omega)
            rw [upd_ne h3.2]
            exact ⟨s9 _ _ h3.1, h3.2⟩
      · rintro H5 ⟨ts, sm5, g1, g2⟩
        rw [refV_len] at g1 g2
        have sm35 := sp1.trans sm5
        have pr5 := pr3.same sm35
        have hmn : ∀ c, c < M → (if c < j then c else c + 1) < M + 1 := fun c hc => by split <;> omega
        refine ⟨D, ts, mn ms j, mn P j, rfl, ⟨g1, fun r hr => (g2 r hr).1, fun r c hr hc => pr5.ent (r + 1) _ (by omega) (hmn c hc)⟩, fun r c hr hc => eo (r + 1) _ (by omega) (hmn c hc), fun H7 d Dd s7 md dok => ?_⟩
        have m0 := (pr5.ent 0 j (by omega) hj).same s7
        have e0 := eo 0 j (by omega) hj
        obtain ⟨dx, D1, od, h1, h2⟩ := id m0
        obtain ⟨dy, D2, od', h3, h4⟩ := id md
        have ll : (P 0 j).length * Dd.length ≤ 4 * lb M := Nat.mul_le_mul e0.2 dok.ln
        refine ⟨ms 0 j, dx, _, d, dy, _, rfl, rfl, h1, h3, ms 0 j, d, P 0 j, Dd, rfl, m0, md, by omega, e0.1.mulOk (by decide) (by decide), dok.gd.dgOk (by omega), fun H8 c s8 nc mc => ?_⟩
        have s38 := (sm35.trans s7).trans s8
        have mt8 := mt.same s38
        have gp : Good (pmul (P 0 j) Dd) (144 * nb M) (2 * (M + 1)) := (good_mul e0.1 dok.gd).mono (Nat.le_refl _) (by omega)
        have lp : (pmul (P 0 j) Dd).length ≤ 4 * lb M := Nat.le_trans (len_mul _ _) ll
        have evp : ∀ v, ev (pmul (P 0 j) Dd) v = ev (P 0 j) v * detE M (mn (fun i c => ev (P i c) v) j) := fun v => by rw [ev_mul, dok.ev v]; rfl
        have l1 : 1 + (j + 1) * (4 * lb M) = 1 + j * (4 * lb M) + 4 * lb M := by rw [Nat.add_mul]; omega
        have g1' : (j + 1) * (144 * nb M) = j * (144 * nb M) + 144 * nb M := by rw [Nat.add_mul]; omega
        have jl : j * (4 * lb M) ≤ 3 * (4 * lb M) := Nat.mul_le_mul_right _ (by omega)
        obtain ⟨ax, A1, oda, a1, a2⟩ := id mt8
        obtain ⟨cx, C1, odc, c1, c2⟩ := id mc
        refine ⟨_, rfl, _, _, rfl, rfl, (by decide : (2 : Int) ≠ 0), rfl, _, rfl, ifEq (fun h => ?_) fun h => ?_⟩
        · have h := (fmod2 j).1 h
          refine ⟨_, rfl, _, rfl, a, ax, _, c, cx, _, rfl, rfl, a1, c1, a, c, Tt, _, rfl, mt8, mc, by omega, fun H9 z s9 nz mz => ?_⟩
          refine ⟨z, _, _, _, rfl, (sm.trans s38).trans s9, mz, fun v => ?_, (good_add hg gp).mono (by omega) (by omega), Nat.le_trans (len_add _ _) (by omega)⟩
          rw [ev_add, hev v, evp v]
          show _ = if j % 2 = 0 then _ else _
          rw [if_pos h]
        · have h : ¬ j % 2 = 0 := fun z => h ((fmod2 j).2 z)
          refine ⟨_, rfl, _, rfl, a, ax, _, c, cx, _, rfl, rfl, a1, c1, a, c, Tt, _, rfl, mt8, mc, by omega, fun H9 z s9 nz mz => ?_⟩
          refine ⟨z, _, _, _, rfl, (sm.trans s38).trans s9, mz, fun v => ?_, (good_sub hg gp).mono (by omega) (by omega), Nat.le_trans (len_sub _ _) (by omega)⟩
          rw [ev_sub, hev v, evp v]
          show _ = if j % 2 = 0 then _ else _
          rw [if_neg h]
    · rintro σ H2 ⟨a, Tt, x1, x2, rfl, sm, mt, hev, hg, hlen⟩
      refine ⟨_, rfl, k H2 a Tt sm mt ⟨fun v => ?_, hg.mono n1 (Nat.le_refl _), Nat.le_trans hlen n2⟩⟩
      rw [hev v, lap_det hM]
theorem det_all (T : Ok K mg) {m : Nat} (h : m = 2 ∨ m = 3) : FnR P w K mg base CX0 8 (ga K "_law_determinant") (sp_ldet K m) := by
  have d2 := det_level (P := P) (w := w) (base := base) T (.inl rfl) (by decide) (det_base T)
  rcases h with rfl | rfl
  · exact d2.mono (by decide)
  · exact det_level T (.inr rfl) (by decide) d2
end
end Ef
/-! text C6f -/
set_option Elab.async false
set_option linter.all false
set_option maxRecDepth 100000
set_option maxHeartbeats 2000000
namespace Ef
open PySem PySem.Spec PyProof.Rows L2 EfB
section
variable {P : Program} {w : World} {K : PySem.W.Frag} {mg : Str → Option Value} {base : Heap}
theorem pe_dictZipK {X : Cx} {e e2 : Expr} {t : TA} {p p2 pos pos2 : Pos} (hK : X.K = K) (hc : X.calm = true) (hg : Gl X "dict") (hm : X.mg "dict" = none) (hv : bootBuiltins "dict" = some (.type "dict")) (hg2 : Gl X "zip") (hm2 : X.mg "zip" = none) (ha : PA X [e, e2] t)
    (hs : starEach [e, e2] X.env = (false, eval e X.env) :: starEach [e2] X.env := by rfl) (hpl : (backTo pos2 (starEach [e2] X.env)).any (·.1) = false := by rfl)
    (na : starEach [.Call (.Name "zip" p2) [e, e2] [] pos2] X.env = (false, eval (.Call (.Name "zip" p2) [e, e2] [] pos2) X.env) :: starEach [] X.env := by rfl) :
    PE X (.Call (.Name "dict" p) [.Call (.Name "zip" p2) [e, e2] [] pos2] [] pos) (tDictZip K t) := by
  subst hK
  exact pe_dictZip hc hg hm hv hg2 hm2 ha hs hpl na
/-! ### choices -/
def RL (H : Hp) (l : Addr) (xss : List (List Int)) : Prop := ∃ as : List Addr, H l = some (.lst (as.map V.ref)) ∧ as.length = xss.length ∧ ∀ (i : Nat) (a : Addr), as[i]? = some a → ∃ xs, xss[i]? = some xs ∧ H a = some (.lst (xs.map V.int)) ∧ a ≠ l
theorem RL.same {H H' : Hp} {l : Addr} {xss : List (List Int)} (h : RL H l xss) (s : Same H H') : RL H' l xss := by
  obtain ⟨as, h1, h2, h3⟩ := h
  refine ⟨as, s _ _ h1, h2, fun i a e => ?_⟩
  obtain ⟨xs, e1, e2, e3⟩ := h3 i a e
  exact ⟨xs, e1, s _ _ e2, e3⟩
theorem RL.snoc {H H1 : Hp} {l t : Addr} {xss : List (List Int)} {xs : List Int} (h : RL H l xss) (s : Same H H1) (hn : xss.length < 16000) (ht : H t = none) (h1 : H1 t = some (.lst (xs.map V.int))) :
    ∃ acc, H1 l = some (.lst acc) ∧ acc.length < sizeLine ∧ RL (upd H1 l (.lst (acc ++ [.ref t]))) l (xss ++ [xs]) := by
  obtain ⟨as, h2, h3, h4⟩ := h
  have tl : t ≠ l := fun e => by rw [e, h2] at ht; cases ht
  refine ⟨_, s _ _ h2, by rw [List.length_map, h3]; exact size_lt hn, as ++ [t], by rw [upd_same, List.map_append]; rfl, by rw [List.length_append, List.length_append, h3]; rfl, fun i a e => ?_⟩
  by_cases hi : i < as.length
  · rw [List.getElem?_append_left hi] at e
    obtain ⟨ys, e1, e2, e3⟩ := h4 i a e
    exact ⟨ys, by rw [List.getElem?_append_left (by omega)]; exact e1, by rw [upd_ne e3]; exact s _ _ e2, e3⟩
  · rw [List.getElem?_append_right (by omega)] at e
    have hi0 : i - as.length = 0 := by
      cases e0 : i - as.length with
      | zero => rfl
      | succ n => rw [e0] at e; cases e
    rw [hi0] at e
    cases e
    exact ⟨xs, by rw [List.getElem?_append_right (by omega), show i - xss.length = 0 by omega]; rfl, by rw [upd_ne tl]; exact h1, tl⟩
def stp1 (n : Nat) (xs : List Int) : List (List Int) := (List.range n).map fun k : Nat => xs ++ [(k : Int)]
def stp (n : Nat) (xss : List (List Int)) : List (List Int) := xss.flatMap (stp1 n)
theorem stp_len (n : Nat) (xss : List (List Int)) : (stp n xss).length = xss.length * n := by
  induction xss with
  | nil => simp [stp]
  | cons x r ih =>
    have e : stp n (x :: r) = stp1 n x ++ stp n r := List.flatMap_cons
    rw [e, List.length_append, ih, List.length_cons, Nat.add_mul, Nat.one_mul]
    unfold stp1
    rw [List.length_map, List.length_range]
    omega
theorem stp_take {n i : Nat} {xss : List (List Int)} {xs : List Int} (h : xss[i]? = some xs) : stp n (xss.take (i + 1)) = stp n (xss.take i) ++ stp1 n xs := by
  unfold stp
  rw [List.take_add_one, h, List.flatMap_append]
  show _ ++ List.flatMap _ [xs] = _
  rw [List.flatMap_cons, List.flatMap_nil, List.append_nil]
theorem mem_stp {n : Nat} {xss : List (List Int)} {ys : List Int} : ys ∈ stp n xss ↔ ∃ xs ∈ xss, ∃ k, k < n ∧ ys = xs ++ [((k : Nat) : Int)] := by
  unfold stp stp1
  rw [List.mem_flatMap]
  constructor
  · rintro ⟨xs, hx, hy⟩
    obtain ⟨k, hk, rfl⟩ := List.mem_map.mp hy
    exact ⟨xs, hx, k, List.mem_range.mp hk, rfl⟩
  · rintro ⟨xs, hx, k, hk, rfl⟩
    exact ⟨xs, hx, List.mem_map.mpr ⟨k, List.mem_range.mpr hk, rfl⟩⟩
def stps (n : Nat) : Nat → List (List Int)
  | 0 => [[]]
  | c + 1 => stp n (stps n c)
theorem stps_len {n c : Nat} (hn : n ≤ 7) (hc : c ≤ 3) : (stps n c).length ≤ 343 := by
  have h1 : (stps n 1).length ≤ 7 := by
    show (stp n [[]]).length ≤ 7
    rw [stp_len]
    show 1 * n ≤ 7
    omega
  have h2 : (stps n 2).length ≤ 49 := by
    show (stp n (stps n 1)).length ≤ 49
    rw [stp_len]
    exact Nat.mul_le_mul h1 hn
  have h3 : (stps n 3).length ≤ 343 := by
    show (stp n (stps n 2)).length ≤ 343
    rw [stp_len]
    exact Nat.mul_le_mul h2 hn
  rcases (show c = 0 ∨ c = 1 ∨ c = 2 ∨ c = 3 by omega) with rfl | rfl | rfl | rfl
  · show ([[]] : List (List Int)).length ≤ 343
    decide
  · omega
  · omega
  · exact h3
theorem mem_stps3 {n : Nat} {ys : List Int} : ys ∈ stps n 3 ↔ ∃ a b c : Nat, a < n ∧ b < n ∧ c < n ∧ ys = [(a : Int), (b : Int), (c : Int)] := by
  show ys ∈ stp n (stp n (stp n [[]])) ↔ _
  rw [mem_stp]
  constructor
  · rintro ⟨xs, hx, c, hc, rfl⟩
    obtain ⟨zs, hz, b, hb, rfl⟩ := mem_stp.mp hx
    obtain ⟨ws, hw, a, ha, rfl⟩ := mem_stp.mp hz
    have hw : ws = [] := List.mem_singleton.mp hw
    subst hw
    exact ⟨a, b, c, ha, hb, hc, rfl⟩
  · rintro ⟨a, b, c, ha, hb, hc, rfl⟩
    exact ⟨[(a : Int), (b : Int)], mem_stp.mpr ⟨[(a : Int)], mem_stp.mpr ⟨[], List.mem_singleton.mpr rfl, a, ha, rfl⟩, b, hb, rfl⟩, c, hc, rfl⟩
theorem zip_vK (a b c : Int) : mergeK [] (((["x", "y", "z"] : List Str).map Sum.inr).zip [V.int a, V.int b, V.int c]) = vK (a, b, c) := by
  have e1 : putK ([] : List (L2.Key × V)) (.inr "x") (.int a) = [(.inr "x", .int a)] := rfl
  have e2 : putK [((.inr "x" : L2.Key), V.int a)] (.inr "y") (.int b) = [(.inr "x", .int a), (.inr "y", .int b)] := putK_ne (inr_ne xy_ne)
  have e3 : putK [((.inr "x" : L2.Key), V.int a), (.inr "y", .int b)] (.inr "z") (.int c) = [(.inr "x", .int a), (.inr "y", .int b), (.inr "z", .int c)] := by
    rw [putK_ne (inr_ne xz_ne), putK_ne (inr_ne yz_ne)]
    rfl
  show putK (putK (putK ([] : List (L2.Key × V)) (.inr "x") (.int a)) (.inr "y") (.int b)) (.inr "z") (.int c) = _
  rw [e1, e2, e3]
  rfl
def toPt (xs : List Int) : Pt := (xs.getD 0 0, xs.getD 1 0, xs.getD 2 0)
def DL (H : Hp) (l : Addr) (vs : List Pt) : Prop := ∃ as : List Addr, H l = some (.lst (as.map V.ref)) ∧ as.length = vs.length ∧ ∀ (i : Nat) (a : Addr), as[i]? = some a → ∃ v, vs[i]? = some v ∧ H a = some (.dK (vK v))
theorem DL.same {H H' : Hp} {l : Addr} {vs : List Pt} (h : DL H l vs) (s : Same H H') : DL H' l vs := by
  obtain ⟨as, h1, h2, h3⟩ := h
  refine ⟨as, s _ _ h1, h2, fun i a e => ?_⟩
  obtain ⟨v, e1, e2⟩ := h3 i a e
  exact ⟨v, e1, s _ _ e2⟩
theorem DL.snoc {H H1 : Hp} {l t : Addr} {vs : List Pt} {v : Pt} (h : DL H l vs) (s : Same H H1) (hn : vs.length < 16000) (h1 : H1 t = some (.dK (vK v))) :
    ∃ acc, H1 l = some (.lst acc) ∧ acc.length < sizeLine ∧ DL (upd H1 l (.lst (acc ++ [.ref t]))) l (vs ++ [v]) := by
  obtain ⟨as, h2, h3, h4⟩ := h
  have h2' := s _ _ h2
  refine ⟨_, h2', by rw [List.length_map, h3]; exact size_lt hn, as ++ [t], by rw [upd_same, List.map_append]; rfl, by rw [List.length_append, List.length_append, h3]; rfl, fun i a e => ?_⟩
  by_cases hi : i < as.length
  · rw [List.getElem?_append_left hi] at e
    obtain ⟨ys, e1, e2⟩ := h4 i a e
    have e2' := s _ _ e2
    exact ⟨ys, by rw [List.getElem?_append_left (by omega)]; exact e1, by rw [upd_ne (ne_of e2' h2' (by intro z; cases z))]; exact e2'⟩
  · rw [List.getElem?_append_right (by omega)] at e
    have hi0 : i - as.length = 0 := by
      cases e0 : i - as.length with
      | zero => rfl
      | succ n => rw [e0] at e; cases e
    rw [hi0] at e
    cases e
    exact ⟨v, by rw [List.getElem?_append_right (by omega), show i - vs.length = 0 by omega]; rfl, by rw [upd_ne (ne_of h1 h2' (by intro z; cases z))]; exact h1⟩
def sp_choices : Sp := fun vs H Q _ => ∃ n : Nat, vs = [.int n] ∧ n ≤ 7 ∧ ∀ (H' : Hp) (l : Addr) (ws : List Pt), Same H H' → DL H' l ws → ws.length ≤ 343 → (∀ v, v ∈ ws ↔ ∃ a b c : Nat, a < n ∧ b < n ∧ c < n ∧ v = ((a : Int), (b : Int), (c : Int))) → Q (.ref l) H'
theorem sc_law_choices : FnScope ["_law_n", "_law_rows", "_law_count", "_law_longer", "_law_row", "_law_k"] ["_law_n"] (defScope s_law_choices) := ⟨rfl, rfl, rfl, by decide +kernel, rfl, by decide +kernel, by decide +kernel⟩
theorem r_law_choices (T : Ok K mg) : FnR P w K mg base CX0 1 (ga K "_law_choices") sp_choices := by
  obtain ⟨fd, F⟩ := T.f_law_choices
  refine frn F sc_law_choices (fun _ _ _ _ _ _ us hl => match us, hl with | [_], _ => rfl) (fun vs H Q E h => ?_) (fun cdv A outer s H vs Q E hr h => ?_)
  · obtain ⟨n, rfl, _⟩ := h
    rfl
  · obtain ⟨n, rfl, hn, k⟩ := h
    refine ⟨_, (pss_cons (ps_set (i := 1) sc_law_choices.nd rfl (Or.inl rfl) (pe_lst (pa_cons (pe_lst pa_nil) pa_nil)))
      (pss_cons (ps_for PassesOwn.never rfl (pi_range1 (by rfl) T.n_range (pa_cons pe_int pa_nil)) (pg_name (i := 2) sc_law_choices.nd rfl (Or.inl rfl))
        (pss_cons (ps_set (i := 3) sc_law_choices.nd rfl (Or.inl rfl) (pe_lst pa_nil))
        (pss_cons (ps_for PassesOwn.never rfl (pi_listK (K := K) rfl (pv 1)) (pg_name (i := 4) sc_law_choices.nd rfl (Or.inr rfl))
          (pss_one (ps_set (i := 3) sc_law_choices.nd rfl (Or.inl rfl) (pe_op op_cat (pv 3) (pe_lc (own := [("_law_k", 5)]) rfl sc_law_choices.nd (pi_range1 (by rfl) T.n_range (pa_cons (pv 0) pa_nil)) (blkOk_by (own := [("_law_k", 5)]) (N := ["_law_n", "_law_rows", "_law_count", "_law_longer", "_law_row", "_law_k"]) (sc := (defScope s_law_choices)) (by decide +kernel)) (fun _ _ _ _ _ => (pg_name (i := 5) sc_law_choices.nd rfl (Or.inl rfl))) (fun _ _ _ _ _ => pts_nil) (by exact fun _ _ _ _ _ => (pe_op op_cat (pv 4) (pe_lst (pa_cons (pv 5) pa_nil)))))))))
        (pss_one (ps_set (i := 1) sc_law_choices.nd rfl (Or.inl rfl) (pv 3))))))
      (pss_one (ps_ret (pe_lc (own := [("_law_row", 4)]) rfl sc_law_choices.nd (pi_listK (K := K) rfl (pv 1)) (blkOk_by (own := [("_law_row", 4)]) (N := ["_law_n", "_law_rows", "_law_count", "_law_longer", "_law_row", "_law_k"]) (sc := (defScope s_law_choices)) (by decide +kernel)) (fun _ _ _ _ _ => (pg_name (i := 4) sc_law_choices.nd rfl (Or.inl rfl))) (fun _ _ _ _ _ => pts_nil) (by exact fun _ _ _ _ _ => (pe_dictZipK (K := K) rfl rfl rfl T.n_dict (by decide +kernel) rfl T.n_zip (pa_cons (pe_lst (pa_cons pe_str (pa_cons pe_str (pa_cons pe_str pa_nil)))) (pa_cons (pv 4) pa_nil))))))))), ?_⟩
    refine ⟨Nat.zero_le _, fun l0 hl0 => ⟨size_of (by show 1 < 1000; decide), fun l1 hl1 => ?_⟩⟩
    have s0 := Same.upd (o := .lst []) (Same.refl H) hl0
    have s1 := Same.upd (o := .lst [.ref l0]) s0 (s0.free hl1)
    have l01 : l0 ≠ l1 := fun e => by rw [← e, upd_same] at hl1; cases hl1
    have r1 : RL (upd (upd H l0 (.lst [])) l1 (.lst [.ref l0])) l1 (stps n 0) := ⟨[l0], upd_same, rfl, fun i a e => by
      cases i with
      | succ i => cases e
      | zero => cases e; exact ⟨[], rfl, by rw [upd_ne l01, upd_same]; rfl, l01⟩⟩
    refine ⟨_, rfl, by decide, by decide, ?_⟩
    refine for_it walk_range (fun c σ H' => ∃ (l : Addr) (a b d e : Option V), σ = [some (.int n), some (.ref l), a, b, d, e] ∧ Same H H' ∧ RL H' l (stps n c)) ⟨l1, none, none, none, none, rfl, s1, r1⟩ (fun _ _ _ _ _ => trivial) ?_ ?_
    · rintro c y σ H2 H3 hc ⟨l, a, b, d, e, rfl, sm, rl⟩ ⟨rfl, hy⟩
      have hc3 : c < 3 := hc
      refine ⟨Nat.zero_le _, fun g hg => ?_⟩
      have sg := Same.upd (o := .lst []) (Same.refl H3) hg
      have rg : RL (upd H3 g (.lst [])) g [] := ⟨[], upd_same, rfl, fun i a e => nomatch e⟩
      have rl1 := rl.same sg
      have sm1 := sm.trans sg
      generalize upd H3 g (.lst []) = H4 at rg rl1 sm1
      obtain ⟨as, ha1, ha2, ha3⟩ := id rl1
      refine ⟨_, rfl, l, rfl, ⟨_, SqL.of ha1⟩, ?_⟩
      have hx := stps_len (n := n) (c := c) hn (by omega)
      have hx2 := stps_len (n := n) (c := c + 1) hn (by omega)
      refine for_it (walk_list (K := K) (a := l) (xs := as.map V.ref)) (fun i σ H' => ∃ (g : Addr) (d e : Option V), σ = [some (.int n), some (.ref l), some y, some (.ref g), d, e] ∧ Same H4 H' ∧ RL H' g (stp n ((stps n c).take i))) ⟨g, _, _, rfl, Same.refl _, rg⟩ (fun i σ H' _ ⟨_, _, _, _, q, _⟩ => SqL.of (q _ _ ha1)) ?_ ?_
      · rintro i z σ H5 H6 hi ⟨g, d, e, rfl, sm5, rg5⟩ ⟨rfl, hz⟩
        rw [List.length_map] at hi
        rw [List.getElem?_map, List.getElem?_eq_getElem hi] at hz
        cases (Option.some.inj hz)
        obtain ⟨xs, hxs, hax, hal⟩ := ha3 i as[i] (List.getElem?_eq_getElem hi)
        have hax6 := sm5 _ _ hax
        refine ⟨_, rfl, _, rfl, _, rfl, by omega, by omega, fun D hD => ?_⟩
        rw [show (((n : Nat) : Int)).toNat = n by omega]
        have sD := Same.upd (o := .lst []) (Same.refl H6) hD
        refine lc_it walk_range (fun c H' => Same H6 H' ∧ RL H' D ((List.range c).map fun k : Nat => xs ++ [(k : Int)])) ⟨sD, [], upd_same, rfl, fun i a e => nomatch e⟩ (fun _ _ _ _ => trivial) ?_ ?_
        · rintro m z2 H7 H8 hm ⟨sm7, r7⟩ ⟨rfl, hz2⟩
          obtain rfl := yfn0 hz2
          refine ⟨rfl, ?_⟩
          refine ⟨_, rfl, _, rfl, size_of (by show 1 < 1000; decide), fun q hq => ?_⟩
          have s8 := Same.upd (o := .lst [.int ((m : Nat) : Int)]) (Same.refl H8) hq
          have lx : xs.length ≤ 3 := by
            have : ∀ c, ∀ xs ∈ stps n c, xs.length = c := fun c => by
              induction c with
              | zero => intro xs h; rw [List.mem_singleton.mp h]; rfl
              | succ c ih =>
                intro xs h
                obtain ⟨ys, hy, k, _, rfl⟩ := mem_stp.mp (show xs ∈ stp n (stps n c) from h)
                rw [List.length_append, ih ys hy]
                rfl
            rw [this c xs (List.mem_of_getElem? hxs)]
            omega
          refine ⟨as[i], q, _, _, rfl, rfl, s8 _ _ (sm7 _ _ hax6), upd_same, by rw [List.length_map, sizeLine_eq]; show _ + 1 ≤ _; omega, fun t ht => ?_⟩
          have s9 := Same.upd (o := .lst (xs.map V.int ++ [.int ((m : Nat) : Int)])) s8 (s8.free ht)
          obtain ⟨acc, b1, b2, b3⟩ := r7.snoc s9 (by rw [List.length_map, List.length_range]; omega) (s8.free ht) (xs := xs ++ [((m : Nat) : Int)]) (by rw [upd_same, List.map_append]; rfl)
          refine ⟨acc, b1, b2, ?_, ?_⟩
          · exact Same.upd (sm7.trans s9) hD
          · rw [List.range_succ, List.map_append]
            exact b3
        · rintro H7 ⟨sm7, r7⟩
          have rg7 := rg5.same sm7
          obtain ⟨as1, p1, p2, p3⟩ := rg7
          obtain ⟨as2, q1, q2, q3⟩ := r7
          have l1 : as1.length ≤ 343 := by
            rw [p2]
            have := stp_len n ((stps n c).take i)
            have h2 := stp_len n (stps n c)
            have h3 : ((stps n c).take i).length * n ≤ (stps n c).length * n := Nat.mul_le_mul_right _ (by rw [List.length_take]; omega)
            have h4 : (stp n (stps n c)).length ≤ 343 := hx2
            omega
          have l2 : as2.length ≤ 7 := by rw [q2, List.length_map, List.length_range]; exact hn
          refine ⟨g, D, _, _, rfl, rfl, p1, q1, by rw [List.length_map, List.length_map, sizeLine_eq]; omega, fun t ht => ?_⟩
          have s9 := Same.upd (o := .lst (as1.map V.ref ++ as2.map V.ref)) (Same.refl H7) ht
          refine ⟨t, _, _, rfl, (sm5.trans sm7).trans s9, as1 ++ as2, by rw [upd_same, List.map_append], ?_, fun m a e => ?_⟩
          · rw [stp_take hxs, List.length_append, List.length_append, p2, q2]
            rfl
          · rw [stp_take hxs]
            by_cases hm : m < as1.length
            · rw [List.getElem?_append_left hm] at e
              obtain ⟨ys, e1, e2, e3⟩ := p3 m a e
              exact ⟨ys, by rw [List.getElem?_append_left (by omega)]; exact e1, s9 _ _ e2, ne_of_none e2 ht⟩
            · rw [List.getElem?_append_right (by omega)] at e
              obtain ⟨ys, e1, e2, e3⟩ := q3 _ a e
              exact ⟨ys, by rw [List.getElem?_append_right (by omega), ← p2]; exact e1, s9 _ _ e2, ne_of_none e2 ht⟩
      · rintro σ H5 ⟨g, d, e, rfl, sm5, rg5⟩
        rw [List.length_map, ha2, List.take_length] at rg5
        exact ⟨_, rfl, g, _, _, _, _, rfl, sm1.trans sm5, rg5⟩
    · rintro σ H2 ⟨l, a, b, d, e, rfl, sm, rl⟩
      have rl : RL H2 l (stps n 3) := rl
      obtain ⟨as, ha1, ha2, ha3⟩ := id rl
      have hx := stps_len (n := n) (c := 3) hn (by omega)
      refine ⟨_, rfl, l, rfl, ⟨_, SqL.of ha1⟩, fun D hD => ?_⟩
      have sD := Same.upd (o := .lst []) (Same.refl H2) hD
      refine lc_it (walk_list (K := K) (a := l) (xs := as.map V.ref)) (fun i H' => Same H2 H' ∧ DL H' D (((stps n 3).take i).map toPt)) ⟨sD, [], upd_same, rfl, fun i a e => nomatch e⟩ (fun i H' _ p => SqL.of (p.1 _ _ ha1)) ?_ ?_
      · rintro i z H5 H6 hi ⟨sm5, dl⟩ ⟨rfl, hz⟩
        rw [List.length_map] at hi
        rw [List.getElem?_map, List.getElem?_eq_getElem hi] at hz
        cases (Option.some.inj hz)
        obtain ⟨xs, hxs, hax, hal⟩ := ha3 i as[i] (List.getElem?_eq_getElem hi)
        have hax6 := sm5 _ _ hax
        obtain ⟨x1, x2, x3, _, _, _, rfl⟩ := mem_stps3.mp (List.mem_of_getElem? hxs)
        refine ⟨rfl, ?_⟩
        refine ⟨size_of (by show 3 < 1000; decide), fun q hq => ?_⟩
        have s7 := Same.upd (o := .lst [.str "x", .str "y", .str "z"]) (Same.refl H6) hq
        refine ⟨_, rfl, q, as[i], ["x", "y", "z"], [.int x1, .int x2, .int x3], rfl, SqL.of upd_same, SqL.of (s7 _ _ hax6), rfl, fun t ht => ?_⟩
        rw [zip_vK]
        have s8 := Same.upd (o := .dK (vK ((x1 : Int), (x2 : Int), (x3 : Int)))) s7 (s7.free ht)
        obtain ⟨acc, b1, b2, b3⟩ := dl.snoc s8 (by rw [List.length_map, List.length_take]; omega) (v := ((x1 : Int), (x2 : Int), (x3 : Int))) upd_same
        refine ⟨acc, b1, b2, Same.upd (sm5.trans s8) hD, ?_⟩
        rw [List.take_add_one, hxs, List.map_append]
        exact b3
      · rintro H5 ⟨sm5, dl⟩
        rw [List.length_map, ha2, List.take_length] at dl
        refine k H5 D _ (sm.trans sm5) dl (by rw [List.length_map]; exact hx) fun v => ?_
        rw [List.mem_map]
        constructor
        · rintro ⟨xs, hx, rfl⟩
          obtain ⟨a, b, c, h1, h2, h3, rfl⟩ := mem_stps3.mp hx
          exact ⟨a, b, c, h1, h2, h3, rfl⟩
        · rintro ⟨a, b, c, h1, h2, h3, rfl⟩
          exact ⟨_, mem_stps3.mpr ⟨a, b, c, h1, h2, h3, rfl⟩, rfl⟩
end
end Ef
/-! text C7a -/
set_option Elab.async false
set_option linter.all false
set_option maxRecDepth 100000
set_option maxHeartbeats 2000000
namespace Ef
open PySem PySem.Spec PyProof.Rows L2 EfB
section
variable {P : Program} {w : World} {K : PySem.W.Frag} {mg : Str → Option Value} {base : Heap}
theorem not_pr0 {p : Int} (h : IsPr p) : p ≠ 0 := by have := h.1; omega
theorem zn_in {n p : Int} {b : Bool} {ps : List Int} (h : Zn n b ps) (hp : IsCh p) : chIn b ps p = decide (p ∣ n) := by
  unfold chIn
  rcases h with ⟨h0, hb, hps⟩ | ⟨h0, hb, hps⟩
  · subst h0 hb hps
    rw [decide_eq_true (Int.dvd_zero p)]
    split
    · rfl
    · rfl
  · subst hb
    rcases hp with rfl | hp
    · rw [if_pos rfl, decide_eq_false (fun z => h0 (Int.zero_dvd.mp z))]
    · rw [if_neg (not_pr0 hp)]
      have e : decide (p ∈ ps) = decide (p ∣ n) := by
        rw [Bool.eq_iff_iff, decide_eq_true_eq, decide_eq_true_eq, hps]
        exact ⟨fun z => z.2, fun z => ⟨hp, z⟩⟩
      rw [e]
      cases decide (p ∣ n) <;> rfl
theorem zn_in' {n p : Int} {b : Bool} {ps : List Int} (h : Zn n b ps) (hp : IsCh p) : chIn (!b) ps p = !decide (p ∣ n) := by
  have h1 := zn_in h hp
  unfold chIn at h1 ⊢
  split
  · rename_i h0
    rw [if_pos h0] at h1
    rw [h1]
  · rename_i h0
    rw [if_neg h0] at h1
    rw [← h1]
    cases decide (p ∈ ps) <;> cases b <;> rfl
theorem and_no {g d : Int} {b b0 : Bool} {ps ps0 : List Int} (h : Zn d b ps) (h0 : Zn g b0 ps0) (hd : g ∣ d) : ((!b) && b0) = false ∧ ∀ k, ¬ shMem (!b) ps b0 ps0 k := by
  rcases h with ⟨e, rfl, rfl⟩ | ⟨e, rfl, hps⟩
  · refine ⟨rfl, fun k z => ?_⟩
    cases b0
    · exact nomatch z.1
    · exact nomatch z.1
  · rcases h0 with ⟨e0, rfl, rfl⟩ | ⟨e0, rfl, hps0⟩
    · rw [e0] at hd
      exact absurd (Int.zero_dvd.mp hd) e
    · refine ⟨rfl, fun k z => ?_⟩
      have z1 : k ∈ ps0 := z.1
      have z2 : k ∉ ps := z.2
      have := (hps0 k).1 z1
      exact z2 ((hps k).2 ⟨this.1, Int.dvd_trans this.2 hd⟩)
theorem and_no2 {g : Int} {b b0 : Bool} {ps ps0 : List Int} (h0 : Zn g b0 ps0) (h : Zn g b ps) : (b0 && (!b)) = false ∧ ∀ k, ¬ shMem b0 ps0 (!b) ps k := by
  rcases h0 with ⟨e0, rfl, rfl⟩ | ⟨e0, rfl, hps0⟩
  · rcases h with ⟨e, rfl, rfl⟩ | ⟨e, rfl, hps⟩
    · exact ⟨rfl, fun k z => nomatch z.1⟩
    · exact absurd e0 e
  · rcases h with ⟨e, rfl, rfl⟩ | ⟨e, rfl, hps⟩
    · exact absurd e e0
    · refine ⟨rfl, fun k z => ?_⟩
      have z1 : k ∈ ps0 := z.1
      have z2 : k ∉ ps := z.2
      exact z2 ((hps k).2 ((hps0 k).1 z1))
theorem no_mem {ps : List Int} {S : Int → Prop} (h : ∀ k, k ∈ ps ↔ S k) (hn : ∀ k, ¬ S k) : ps = [] := List.eq_nil_iff_forall_not_mem.mpr fun k hk => hn k ((h k).1 hk)
theorem gcd_dvd_ev {g : Int} {D : Po} (h : IsGcd g (D.map (·.2))) (v : Pt) : g ∣ ev D v := dvd_ev fun t ht => (h.2 g).1 (Int.dvd_refl g) t.2 (List.mem_map.mpr ⟨t, ht, rfl⟩)
theorem not_all {g p : Int} {D : Po} (h : IsGcd g (D.map (·.2))) (hp : ¬ p ∣ g) : ¬ ∀ t ∈ D, p ∣ t.2 := fun z => hp ((h.2 p).2 fun c hc => by
  obtain ⟨t, ht, rfl⟩ := List.mem_map.mp hc
  exact z t ht)
/-- the rows, as the checks want them -/
structure Rw (n : Nat) (P : Nat → Nat → Po) : Prop where
  eo : EOk n P
  sh : n = 3 → (∀ j, j < 3 → nrm (P 1 j) ≤ 12) ∧ ((∀ j, j < 3 → nrm (P 2 j) ≤ 12) ∨ ∀ j, j < 3 → ∀ v, ev (P 2 j) v = 2 * ev (P 0 j) v)
def P6 (v : Pt) : Prop := v.1.natAbs ≤ 6 ∧ v.2.1.natAbs ≤ 6 ∧ v.2.2.natAbs ≤ 6
theorem ent_le {n : Nat} {P : Nat → Nat → Po} (r : Rw n P) {v : Pt} (hv : P6 v) : ∀ i j, i < n → j < n → (ev (P i j) v).natAbs ≤ 5184 := fun i j hi hj => by
  have h := (r.eo i j hi hj).1
  have h1 := ev_le (P := P i j) (v := v) (M := 6) (d := 2) hv.1 hv.2.1 hv.2.2 (by decide) h.dl
  have h2 : nrm (P i j) * 6 ^ 2 ≤ 144 * 6 ^ 2 := Nat.mul_le_mul_right _ h.nr
  omega
theorem run_of {n : Nat} {P : Nat → Nat → Po} (hn : n = 2 ∨ n = 3) (r : Rw n P) {v : Pt} (hv : P6 v) : Nonempty (Run n (fun i j => ev (P i j) v) (detn n fun i j => ev (P i j) v)) := by
  have he := ent_le r hv
  rcases hn with rfl | rfl
  · exact run_2 fun i j hi hj => by have := he i j hi hj; omega
  · obtain ⟨r1, r2⟩ := r.sh rfl
    have small : ∀ i j, i < 3 → j < 3 → nrm (P i j) ≤ 12 → (ev (P i j) v).natAbs ≤ 432 := fun i j hi hj h => by
      have h1 := ev_le (P := P i j) (v := v) (M := 6) (d := 2) hv.1 hv.2.1 hv.2.2 (by decide) (r.eo i j hi hj).1.dl
      have h2 : nrm (P i j) * 6 ^ 2 ≤ 12 * 6 ^ 2 := Nat.mul_le_mul_right _ h
      omega
    by_cases hs : ∃ i j, i < 3 ∧ j < 3 ∧ ev (P i j) v ≠ 0 ∧ (ev (P i j) v).natAbs ≤ 432
    · exact run_3a (fun i j hi hj => by have := he i j hi hj; omega) hs
    · have z : ∀ i j, i < 3 → j < 3 → nrm (P i j) ≤ 12 → ev (P i j) v = 0 := fun i j hi hj h => by
        apply Classical.byContradiction
        intro h0
        exact hs ⟨i, j, hi, hj, h0, small i j hi hj h⟩
      have z1 : ∀ j, j < 3 → ev (P 1 j) v = 0 := fun j hj => z 1 j (by decide) hj (r1 j hj)
      have z2 : ∃ c : Int, ∀ j, j < 3 → ev (P 2 j) v = c * ev (P 0 j) v := by
        rcases r2 with r2 | r2
        · exact ⟨0, fun j hj => by rw [z 2 j (by decide) hj (r2 j hj), Int.zero_mul]⟩
        · exact ⟨2, fun j hj => r2 j hj v⟩
      obtain ⟨c, z2⟩ := z2
      refine run_3b (fun i j hi hj => by have := he i j hi hj; omega) fun i i' j j' hi hi' hj hj' => ?_
      have row : ∀ i, i < 3 → ∃ c : Int, ∀ j, j < 3 → ev (P i j) v = c * ev (P 0 j) v := fun i hi => by
        rcases (show i = 0 ∨ i = 1 ∨ i = 2 by omega) with rfl | rfl | rfl
        · exact ⟨1, fun j _ => by rw [Int.one_mul]⟩
        · exact ⟨0, fun j hj => by rw [z1 j hj, Int.zero_mul]⟩
        · exact ⟨c, z2⟩
      obtain ⟨a, ha⟩ := row i hi
      obtain ⟨b, hb⟩ := row i' hi'
      show ev (P i j) v * ev (P i' j') v - ev (P i j') v * ev (P i' j) v = 0
      rw [ha j hj, ha j' hj', hb j hj, hb j' hj']
      grind
theorem det_lt {n : Nat} {P : Nat → Nat → Po} {D : Po} (hn : n = 2 ∨ n = 3) (h : DOk n P D) {v : Pt} (hv : P6 v) : (ev D v).natAbs < 2 ^ 60 := by
  have h1 := ev_le (P := D) (v := v) (M := 6) (d := 2 * n) hv.1 hv.2.1 hv.2.2 (by decide) h.gd.dl
  have h2 : nrm D ≤ 17915904 := Nat.le_trans h.gd.nr (by rcases hn with rfl | rfl <;> decide)
  have h3 : (6 : Nat) ^ (2 * n) ≤ 46656 := by rcases hn with rfl | rfl <;> decide
  have h4 := Nat.mul_le_mul h2 h3
  omega
theorem detE_n {n : Nat} (hn : n = 2 ∨ n = 3) (E : Mx) : detE n E = detn n E := if_neg (by omega)
end
end Ef
/-! text C7 -/
set_option Elab.async false
set_option linter.all false
set_option maxRecDepth 100000
set_option maxHeartbeats 2000000
namespace Ef
open PySem PySem.Spec PyProof.Rows L2 EfB
section
variable {P : Program} {w : World} {K : PySem.W.Frag} {mg : Str → Option Value} {base : Heap}
theorem det_any (T : Ok K mg) : FnR P w K mg base CX0 8 (ga K "_law_determinant") (fun vs H Q E => ∃ m, (m = 2 ∨ m = 3) ∧ sp_ldet K m vs H Q E) := by
  intro A outer s H us vs Q E h1 h2 h3 h
  obtain ⟨m, hm, h⟩ := h
  exact det_all T hm A outer s H us vs Q E h1 h2 h3 h
def scI : Scope := { kind := .function, names := [(".0", .local), ("_law_i", .local), ("range", .globalImplicit), ("_law_pool_here", .cell), ("_law_size", .cell)], isGenerator := false, isCoroutine := false }
theorem sqL_same {H H' : Hp} {a : Addr} {xs : List V} (e : Same H H') (h : SqL K H a xs) : SqL K H' a xs := by
  rcases h with (h | ⟨o, h⟩) | h
  · exact .inl (.inl (e _ _ h))
  · exact .inl (.inr ⟨o, e _ _ h⟩)
  · exact .inr h
theorem sqL_ex {H H' : Hp} {a p : Addr} {ns : List Int} (hp : PoolAt H p) (e : Ex1 p H H') (h : SqL K H a (ns.map V.int)) : SqL K H' a (ns.map V.int) := by
  obtain ⟨c, i, g, hp⟩ := hp
  have ne : ∀ u, H a = some u → (∀ xs, u ≠ .lst xs) ∨ u = .lst (ns.map V.int) → a ≠ p := fun u hu hn z => by
    rw [z, hp] at hu
    have hu := Option.some.inj hu
    rcases hn with hn | hn
    · exact hn _ hu.symm
    · rw [hn] at hu
      injection hu with hu
      have h2 := congrArg (fun l : List V => l[2]?) hu
      have h3 : (some (V.bl g) : Option V) = (ns.map V.int)[2]? := h2
      rw [List.getElem?_map] at h3
      cases hh : ns[2]? with
      | none => rw [hh] at h3; cases h3
      | some x => rw [hh] at h3; cases h3
  rcases h with (h | ⟨o, h⟩) | h
  · exact .inl (.inl (e.kp _ _ h (ne _ h (.inr rfl))))
  · exact .inl (.inr ⟨o, e.kp _ _ h (ne _ h (.inl fun xs z => nomatch z))⟩)
  · exact .inr h
theorem MnAt.lst {H : Hp} {a L : Addr} {P : Po} {xs : List V} {o : HO} (h : MnAt K H a P) (hL : H L = some (.lst xs)) : MnAt K (upd H L o) a P := by
  obtain ⟨dx, D, od, h1, h2⟩ := h
  exact ⟨dx, D, od, by rw [upd_ne (ne_of h1 hL (by intro z; cases z))]; exact h1, by rw [upd_ne (ne_of h2 hL (by intro z; cases z))]; exact h2⟩
/-- an entry of a row -/
def En (H : Hp) (K : PySem.W.Frag) (B : Nat) (a : Addr) (P : Po) : Prop := MnAt K H a P ∧ Good P B 2 ∧ P.length ≤ 2
theorem Ex1.updN {q D : Addr} {H H' : Hp} {o : HO} (e : Ex1 q H H') (hD : H D = none) (hq : D ≠ q) : Ex1 q H (upd H' D o) := by
  refine ⟨fun c u h ne => ?_, fun c h => e.mon c (mon_upd h), ?_⟩
  · rw [upd_ne (ne_of_none h hD)]
    exact e.kp c u h ne
  · obtain ⟨c, i, g, hp⟩ := e.pool
    exact ⟨c, i, g, by rw [upd_ne hq.symm]; exact hp⟩
theorem row_ne {H : Hp} {a q : Addr} {n : Nat} {f : Nat → Addr} (h : H a = some (.lst (refV n f))) (hn : 0 < n) (hq : PoolAt H q) : a ≠ q := fun e => by
  obtain ⟨c, i, g, hp⟩ := hq
  rw [e, hp] at h
  injection h with h
  injection h with h
  have h2 := congrArg (fun l : List V => l[0]?) h
  have h3 : (some (V.int c) : Option V) = (refV n f)[0]? := h2
  rw [refV_at hn] at h3
  cases h3
theorem En.ex {H H' : Hp} {B : Nat} {a q : Addr} {P : Po} (h : En H K B a P) (hq : PoolAt H q) (e : Ex1 q H H') : En H' K B a P := ⟨h.1.ex hq e, h.2⟩
theorem En.same {H H' : Hp} {B : Nat} {a : Addr} {P : Po} (h : En H K B a P) (e : Same H H') : En H' K B a P := ⟨h.1.same e, h.2⟩
theorem En.lst {H : Hp} {B : Nat} {a L : Addr} {P : Po} {xs : List V} {o : HO} (h : En H K B a P) (hL : H L = some (.lst xs)) : En (upd H L o) K B a P := ⟨h.1.lst hL, h.2⟩
def fS (l p : Addr) (n : Nat) (L : Addr) : L2.St := [some (.ref l), some (.ref p), some (.int (n : Nat)), some (.ref L), none, none, none, none, none, none, none, none, none, none, none, none, none, none]
/-- after the rows -/
def Mid1 (K : PySem.W.Frag) (l : Addr) (ns : List Int) : L2.St → Hp → Prop := fun σ H' => ∃ (p L : Addr) (n : Nat) (rs : Nat → Addr) (ms : Nat → Nat → Addr) (P1 : Nat → Nat → Po), σ = fS l p n L ∧ (n = 2 ∨ n = 3) ∧ PoolAt H' p ∧ SqL K H' l (ns.map V.int) ∧
  PR K H' L rs ms n P1 ∧ (∀ i, i < n → rs i ≠ L) ∧ ∀ i j, i < n → j < n → Good (P1 i j) 12 2 ∧ (P1 i j).length ≤ 2
theorem PR.setT {H : Hp} {L D : Addr} {rs : Nat → Addr} {ms : Nat → Nat → Addr} {n t : Nat} {P1 : Nat → Nat → Po} {mr : Nat → Addr} {Pr : Nat → Po} (h : PR K H L rs ms n P1) (ne : ∀ i, i < n → rs i ≠ L) (hD : H D = some (.lst (refV n mr))) (DL : D ≠ L) (he : ∀ c, c < n → MnAt K H (mr c) (Pr c)) :
    PR K (upd H L (.lst ((refV n rs).set t (.ref D)))) L (fun i => if i = t then D else rs i) (fun i => if i = t then mr else ms i) n (fun i => if i = t then Pr else P1 i) := by
  refine ⟨by rw [upd_same, refV_set], fun i hi => ?_, fun i j hi hj => ?_⟩
  · show upd H L _ (if i = t then D else rs i) = some (.lst (refV n (if i = t then mr else ms i)))
    split
    · rw [upd_ne DL]; exact hD
    · rw [upd_ne (ne i hi)]; exact h.row i hi
  · show MnAt K _ ((if i = t then mr else ms i) j) ((if i = t then Pr else P1 i) j)
    split
    · exact (he j hj).lst h.top
    · exact (h.ent i j hi hj).lst h.top
theorem PR.ex {H H' : Hp} {L q : Addr} {rs : Nat → Addr} {ms : Nat → Nat → Addr} {n : Nat} {P1 : Nat → Nat → Po} (h : PR K H L rs ms n P1) (h0 : 0 < n) (hq : PoolAt H q) (e : Ex1 q H H') : PR K H' L rs ms n P1 :=
  ⟨e.kp _ _ h.top (row_ne h.top h0 hq), fun i hi => e.kp _ _ (h.row i hi) (row_ne (h.row i hi) h0 hq), fun i j hi hj => (h.ent i j hi hj).ex hq e⟩
def fS2 (l p : Addr) (n : Nat) (L : Addr) (f : Option V) : L2.St := [some (.ref l), some (.ref p), some (.int (n : Nat)), some (.ref L), none, none, f, none, none, none, none, none, none, none, none, none, none, none]
def Mid2 (K : PySem.W.Frag) (l : Addr) (ns : List Int) : L2.St → Hp → Prop := fun σ H' => ∃ (p L : Addr) (n : Nat) (rs : Nat → Addr) (ms : Nat → Nat → Addr) (P1 : Nat → Nat → Po) (f : Option V), σ = fS2 l p n L f ∧ (n = 2 ∨ n = 3) ∧ PoolAt H' p ∧ SqL K H' l (ns.map V.int) ∧
  PR K H' L rs ms n P1 ∧ (∀ i, i < n → rs i ≠ L) ∧ ∀ i j, i < n → j < n → Good (P1 i j) (if i = 0 then 72 else 12) 2 ∧ (P1 i j).length ≤ 2
def Mid3 (K : PySem.W.Frag) (l : Addr) (ns : List Int) : L2.St → Hp → Prop := fun σ H' => ∃ (p L : Addr) (n : Nat) (rs : Nat → Addr) (ms : Nat → Nat → Addr) (P1 : Nat → Nat → Po) (f : Option V), σ = fS2 l p n L f ∧ (n = 2 ∨ n = 3) ∧ PoolAt H' p ∧ SqL K H' l (ns.map V.int) ∧
  PR K H' L rs ms n P1 ∧ Rw n P1
theorem fac_at {v : Nat} (h : v < 3) : ∃ c : Int, ([V.int 2, V.int 3, V.int 6] : List V)[v]? = some (.int c) ∧ c.natAbs ≤ 6 := by
  rcases (show v = 0 ∨ v = 1 ∨ v = 2 by omega) with rfl | rfl | rfl
  · exact ⟨2, rfl, by decide⟩
  · exact ⟨3, rfl, by decide⟩
  · exact ⟨6, rfl, by decide⟩
theorem sqL_upd {H : Hp} {a L : Addr} {ns : List Int} {n : Nat} {rs : Nat → Addr} {o : HO} (hL : H L = some (.lst (refV n rs))) (h0 : 0 < n) (h : SqL K H a (ns.map V.int)) : SqL K (upd H L o) a (ns.map V.int) := by
  have ne : ∀ u, H a = some u → (∀ xs, u ≠ .lst xs) ∨ u = .lst (ns.map V.int) → a ≠ L := fun u hu hn z => by
    rw [z, hL] at hu
    have hu := Option.some.inj hu
    rcases hn with hn | hn
    · exact hn _ hu.symm
    · rw [hn] at hu
      injection hu with hu
      have h2 := congrArg (fun l : List V => l[0]?) hu
      have h3 : (refV n rs)[0]? = (ns.map V.int)[0]? := h2
      rw [refV_at h0, List.getElem?_map] at h3
      cases hh : ns[0]? with
      | none => rw [hh] at h3; cases h3
      | some x => rw [hh] at h3; cases h3
  rcases h with (h | ⟨o, h⟩) | h
  · exact .inl (.inl (by rw [upd_ne (ne _ h (.inr rfl))]; exact h))
  · exact .inl (.inr ⟨o, by rw [upd_ne (ne _ h (.inl fun xs z => nomatch z))]; exact h⟩)
  · exact .inr h
theorem ix_last {n : Nat} (hn : n = 2 ∨ n = 3) (rs : Nat → Addr) : ixN (refV n rs).length (-1) = some (n - 1) := by
  rw [refV_len]
  rcases hn with rfl | rfl <;> decide
theorem ChAt.ex {H H' : Hp} {a p : Addr} {b : Bool} {ps : List Int} (h : ChAt K H a b ps) (hp : PoolAt H p) (e : Ex1 p H H') : ChAt K H' a b ps := by
  obtain ⟨dx, t, h1, h2⟩ := h
  exact ⟨dx, t, e.kp _ _ h1 (ne_lst h1 hp fun _ z => nomatch z), e.kp _ _ h2 (ne_lst h2 hp fun _ z => nomatch z)⟩
/-- what the loops of checks read -/
structure Env4 (K : PySem.W.Frag) (H : Hp) (p L a c0 cl : Addr) (n : Nat) (rs : Nat → Addr) (ms : Nat → Nat → Addr) (P1 : Nat → Nat → Po) (D : Po) (g : Int) (b0 : Bool) (ps0 cs : List Int) : Prop where
  hn : n = 2 ∨ n = 3
  pool : PoolAt H p
  pr : PR K H L rs ms n P1
  rw_ : Rw n P1
  mn : MnAt K H a D
  dok : DOk n P1 D
  gcd : IsGcd g (D.map (·.2))
  ch : ChAt K H c0 b0 ps0
  zn : Zn g b0 ps0
  ok : ChOk ps0
  cl_ : H cl = some (.lst (cs.map V.int))
  ci : ∀ x ∈ cs, IsCh x ∧ x.natAbs < 2 ^ 60
  cp : cl ≠ p
theorem Env4.same {H H' : Hp} {p L a c0 cl : Addr} {n : Nat} {rs : Nat → Addr} {ms : Nat → Nat → Addr} {P1 : Nat → Nat → Po} {D : Po} {g : Int} {b0 : Bool} {ps0 cs : List Int} (h : Env4 K H p L a c0 cl n rs ms P1 D g b0 ps0 cs) (s : Same H H') : Env4 K H' p L a c0 cl n rs ms P1 D g b0 ps0 cs :=
  ⟨h.hn, h.pool.same s, h.pr.same s, h.rw_, h.mn.same s, h.dok, h.gcd, h.ch.same s, h.zn, h.ok, s _ _ h.cl_, h.ci, h.cp⟩
theorem Env4.ex {H H' : Hp} {p L a c0 cl : Addr} {n : Nat} {rs : Nat → Addr} {ms : Nat → Nat → Addr} {P1 : Nat → Nat → Po} {D : Po} {g : Int} {b0 : Bool} {ps0 cs : List Int} (h : Env4 K H p L a c0 cl n rs ms P1 D g b0 ps0 cs) (e : Ex1 p H H') : Env4 K H' p L a c0 cl n rs ms P1 D g b0 ps0 cs :=
  ⟨h.hn, e.pool, h.pr.ex (by have := h.hn; omega) h.pool e, h.rw_, h.mn.ex h.pool e, h.dok, h.gcd, h.ch.ex h.pool e, h.zn, h.ok, e.kp _ _ h.cl_ h.cp, h.ci, h.cp⟩
def fS4 (l p : Addr) (n : Nat) (L : Addr) (f : Option V) (a c0 cl : Addr) (r1 r2 r3 r4 r5 r6 : Option V) : L2.St := [some (.ref l), some (.ref p), some (.int (n : Nat)), some (.ref L), none, none, f, none, some (.ref a), some (.ref c0), some (.ref cl), r1, r2, none, r3, r4, r5, r6]
def Mid4 (K : PySem.W.Frag) (l : Addr) : L2.St → Hp → Prop := fun σ H' => ∃ (p L a c0 cl : Addr) (n : Nat) (rs : Nat → Addr) (ms : Nat → Nat → Addr) (P1 : Nat → Nat → Po) (D : Po) (g : Int) (b0 : Bool) (ps0 cs : List Int) (f r1 r2 r3 r4 r5 r6 : Option V),
  σ = fS4 l p n L f a c0 cl r1 r2 r3 r4 r5 r6 ∧ Env4 K H' p L a c0 cl n rs ms P1 D g b0 ps0 cs
theorem pr_clk : ∀ x ∈ ([0, 2, 3, 5, 7] : List Int), IsCh x ∧ x.natAbs < 2 ^ 60 := by
  have sm : ∀ p : Int, p = 2 ∨ p = 3 ∨ p = 5 ∨ p = 7 → IsPr p := fun p h => by
    refine ⟨by omega, fun d h1 h2 hd => ?_⟩
    have h3 : d ≤ 2 := by
      apply Classical.byContradiction
      intro h4
      have := Int.mul_le_mul (a := 3) (b := 3) (c := d) (d := d) (by omega) (by omega) (by omega) (by omega)
      omega
    obtain rfl : d = 2 := by omega
    obtain ⟨k, hk⟩ := hd
    omega
  intro x hx
  simp only [List.mem_cons, List.mem_nil_iff, or_false] at hx
  rcases hx with rfl | rfl | rfl | rfl | rfl
  · exact ⟨.inl rfl, by decide⟩
  · exact ⟨.inr (sm _ (by omega)), by decide⟩
  · exact ⟨.inr (sm _ (by omega)), by decide⟩
  · exact ⟨.inr (sm _ (by omega)), by decide⟩
  · exact ⟨.inr (sm _ (by omega)), by decide⟩
def nmx (c : Nat) : Str := if c = 0 then "x" else if c = 1 then "y" else "z"
theorem nmx_at {j : Nat} {y : V} (h : j < 3) (hy : ([.str "x", .str "y", .str "z"] : List V)[j]? = some y) : y = .str (nmx j) := by
  rcases (show j = 0 ∨ j = 1 ∨ j = 2 by omega) with rfl | rfl | rfl
  · cases hy; rfl
  · cases hy; rfl
  · cases hy; rfl
theorem ifNB {A B : Prop} {a b : Bool} (h : a = b) (k : B) : if (!decide (V.bl a = V.bl b)) = true then A else B := by
  rw [h, decide_eq_true rfl]
  exact iteF k
def sp_law (K : PySem.W.Frag) : Sp := fun vs H Q _ => ∃ (l : Addr) (ns : List Int), vs = [.ref l] ∧ SqL K H l (ns.map V.int) ∧ ∀ H' : Hp, Q (.bl true) H'
theorem sc_law : FnScope ["_law_script", "_law_pool_here", "_law_size", "_law_rows", "_law_j", "_law_i", "_law_factor", "_law_item_here", "_law_whole", "_law_nowhere", "_law_clocks", "_law_count", "_law_choice", "_law_name", "_law_matrix", "_law_sides", "_law_good", "_law_near"] ["_law_script"] (defScope s_law) := ⟨rfl, rfl, rfl, by decide +kernel, rfl, by decide +kernel, by decide +kernel⟩
theorem r_law (T : Ok K mg) {fd : FuncData} (F : Fun K "law" "law" s_law (ga K "law") fd) : FnOk P w K mg base CX0 10 (ga K "law") fd ["_law_script"] (sp_law K) := by
  refine F.ok (P := P) (w := w) (mg := mg) (base := base) sc_law (fun vs H Q E h => ?_) (fun cdv A outer s H vs Q E hr h => ?_)
  · obtain ⟨l, ns, rfl, _⟩ := h
    rfl
  · obtain ⟨l, ns, rfl, hl, k⟩ := h
    refine ⟨_, (pss_cons (ps_set (i := 1) sc_law.nd rfl (Or.inr rfl) (pe_callR (r_law_pool T) (hr.mono (by decide)) (kp_of T.f_law_pool) rfl T.g_law_pool pass0 (pa_cons (pe_callR (r_law_cell T) (hr.mono (by decide)) (kp_of T.f_law_cell) rfl T.g_law_cell pass0 (pa_cons (pv 0) (pa_cons pe_int pa_nil))) pa_nil)))
      (pss_cons (ps_set (i := 2) sc_law.nd rfl (Or.inr rfl) (pe_op op_add pe_int (pe_callR (r_law_take T) (hr.mono (by decide)) (kp_of T.f_law_take) rfl T.g_law_take pass0 (pa_cons (pv 1) (pa_cons pe_int pa_nil)))))
      (pss_cons (ps_set (i := 1) sc_law.nd rfl (Or.inr rfl) (pe_callR (r_law_pool T) (hr.mono (by decide)) (kp_of T.f_law_pool) rfl T.g_law_pool pass0 (pa_cons (pe_callR (r_law_cell T) (hr.mono (by decide)) (kp_of T.f_law_cell) rfl T.g_law_cell pass0 (pa_cons (pv 0) (pa_cons pe_int pa_nil))) pa_nil)))
      (Evl.pss_cut (ps_setLc (i := 3) (own := [("_law_i", 5)]) rfl sc_law.nd rfl rfl (sw_true rfl rfl rfl (by decide +kernel)) (pi_range1 (by rfl) T.n_range (pa_cons (pv 2) pa_nil)) (blkOk_by (own := [("_law_i", 5)]) (N := ["_law_script", "_law_pool_here", "_law_size", "_law_rows", "_law_j", "_law_i", "_law_factor", "_law_item_here", "_law_whole", "_law_nowhere", "_law_clocks", "_law_count", "_law_choice", "_law_name", "_law_matrix", "_law_sides", "_law_good", "_law_near"]) (sc := (defScope s_law)) (by decide +kernel)) (fun _ _ _ _ _ => (pg_name (i := 5) sc_law.nd rfl (Or.inl rfl))) (fun _ _ _ _ _ => pts_nil) (by exact fun _ _ _ _ _ => (pe_lc (own := [("_law_j", 4)]) rfl sc_law.nd (pi_range1 (by rfl) T.n_range (pa_cons (pv 2) pa_nil)) (blkOk_by (own := [("_law_j", 4)]) (N := ["_law_script", "_law_pool_here", "_law_size", "_law_rows", "_law_j", "_law_i", "_law_factor", "_law_item_here", "_law_whole", "_law_nowhere", "_law_clocks", "_law_count", "_law_choice", "_law_name", "_law_matrix", "_law_sides", "_law_good", "_law_near"]) (sc := scI) (by decide +kernel)) (fun _ _ _ _ _ => (pg_name (i := 4) sc_law.nd rfl (Or.inl rfl))) (fun _ _ _ _ _ => pts_nil) (by exact fun _ _ _ _ _ => (pe_op (op_bin T.sf_Many T.me_Many_add.at_ T.me_Many_add.fn (r_Many_add T) (hr.mono (by decide)) pass0) (pe_callR (r_law_item T) (hr.mono (by decide)) (kp_of T.f_law_item) rfl T.g_law_item pass0 (pa_cons (pv 1) pa_nil)) (pe_callR (r_law_item T) (hr.mono (by decide)) (kp_of T.f_law_item) rfl T.g_law_item pass0 (pa_cons (pv 1) pa_nil)))))))
      (Evl.pss_cut (ps_if (pt_cmpR op_eq (pe_callR (r_law_take T) (hr.mono (by decide)) (kp_of T.f_law_take) rfl T.g_law_take pass0 (pa_cons (pv 1) (pa_cons pe_int pa_nil))) pe_int (nomark _))
        (pss_cons (ps_set (i := 6) sc_law.nd rfl (Or.inr rfl) (ClX.pe_cmeth (pe_glob (v := .ref (ga K "Many")) rfl T.g_Many rfl) T.rd_Many T.cm_Many_number (r_Many_number T) (hr.mono (by decide)) pass0 (pa_cons (pe_ix (ix_listK (K := K) rfl) (pe_lst (pa_cons pe_int (pa_cons pe_int (pa_cons pe_int pa_nil)))) (pe_callR (r_law_take T) (hr.mono (by decide)) (kp_of T.f_law_take) rfl T.g_law_take pass0 (pa_cons (pv 1) (pa_cons pe_int pa_nil))) (fun _ _ => rfl)) pa_nil)))
        (pss_one (ps_asg (pe_lc (own := [("_law_item_here", 7)]) rfl sc_law.nd (pi_listK (K := K) rfl (pe_ix (ix_listK (K := K) rfl) (pv 3) pe_int (fun _ _ => rfl))) (blkOk_by (own := [("_law_item_here", 7)]) (N := ["_law_script", "_law_pool_here", "_law_size", "_law_rows", "_law_j", "_law_i", "_law_factor", "_law_item_here", "_law_whole", "_law_nowhere", "_law_clocks", "_law_count", "_law_choice", "_law_name", "_law_matrix", "_law_sides", "_law_good", "_law_near"]) (sc := (defScope s_law)) (by decide +kernel)) (fun _ _ _ _ _ => (pg_name (i := 7) sc_law.nd rfl (Or.inl rfl))) (fun _ _ _ _ _ => pts_nil) (by exact fun _ _ _ _ _ => (pe_op (op_bin T.sf_Many T.me_Many_mul.at_ T.me_Many_mul.fn (r_Many_mul T) (hr.mono (by decide)) pass0) (pv 6) (pv 7)))) (pg_sub (pv 3) pe_int set_list)))) pss_nil)
      (Evl.pss_cut (ps_if (pt_cmpR op_eq (pe_callR (r_law_take T) (hr.mono (by decide)) (kp_of T.f_law_take) rfl T.g_law_take pass0 (pa_cons (pv 1) (pa_cons pe_int pa_nil))) pe_int (nomark _))
        (pss_one (ps_asg (pe_lc (own := [("_law_item_here", 7)]) rfl sc_law.nd (pi_listK (K := K) rfl (pe_ix (ix_listK (K := K) rfl) (pv 3) pe_int (fun _ _ => rfl))) (blkOk_by (own := [("_law_item_here", 7)]) (N := ["_law_script", "_law_pool_here", "_law_size", "_law_rows", "_law_j", "_law_i", "_law_factor", "_law_item_here", "_law_whole", "_law_nowhere", "_law_clocks", "_law_count", "_law_choice", "_law_name", "_law_matrix", "_law_sides", "_law_good", "_law_near"]) (sc := (defScope s_law)) (by decide +kernel)) (fun _ _ _ _ _ => (pg_name (i := 7) sc_law.nd rfl (Or.inl rfl))) (fun _ _ _ _ _ => pts_nil) (by exact fun _ _ _ _ _ => (pe_op (op_bin T.sf_Many T.me_Many_add.at_ T.me_Many_add.fn (r_Many_add T) (hr.mono (by decide)) pass0) (pv 7) (pv 7)))) (pg_sub (pv 3) (pe_un un_neg pe_int) set_list))) pss_nil)
      (pss_cons (ps_set (i := 8) sc_law.nd rfl (Or.inr rfl) (pe_callR (det_any T) (hr.mono (by decide)) (kp_of T.f_law_determinant) rfl T.g_law_determinant pass0 (pa_cons (pv 3) pa_nil)))
      (pss_cons (ps_set (i := 9) sc_law.nd rfl (Or.inl rfl) (pe_methR0 (pv 8) T.cl_Many T.me_Many_vanishing (r_Many_vanishing T) (hr.mono (by decide)) pass0))
      (pss_cons (ps_set (i := 1) sc_law.nd rfl (Or.inr rfl) (pe_callR (r_law_pool T) (hr.mono (by decide)) (kp_of T.f_law_pool) rfl T.g_law_pool pass0 (pa_cons (pe_callR (r_law_cell T) (hr.mono (by decide)) (kp_of T.f_law_cell) rfl T.g_law_cell pass0 (pa_cons (pv 0) (pa_cons pe_int pa_nil))) pa_nil)))
      (pss_cons (ps_set (i := 10) sc_law.nd rfl (Or.inl rfl) (pe_lst (pa_cons pe_int (pa_cons pe_int (pa_cons pe_int (pa_cons pe_int (pa_cons pe_int (pa_cons (pe_callR (r_law_next_prime T) (hr.mono (by decide)) (kp_of T.f_law_next_prime) rfl T.g_law_next_prime pass0 (pa_cons (pe_callR (r_law_take T) (hr.mono (by decide)) (kp_of T.f_law_take) rfl T.g_law_take pass0 (pa_cons (pv 1) (pa_cons pe_int pa_nil))) pa_nil)) pa_nil))))))))
      (Evl.pss_cut (ps_for PassesOwn.never rfl (pi_range1 (by rfl) T.n_range (pa_cons pe_int pa_nil)) (pg_name (i := 11) sc_law.nd rfl (Or.inl rfl))
        (pss_cons (ps_set (i := 12) sc_law.nd rfl (Or.inl rfl) (pe_callTy (call_dictP rfl) (by rfl) T.n_dict (by decide +kernel) (pa_cons (pe_lc (own := [("_law_name", 13)]) rfl sc_law.nd (pi_listK (K := K) rfl (pe_lst (pa_cons pe_str (pa_cons pe_str (pa_cons pe_str pa_nil))))) (blkOk_by (own := [("_law_name", 13)]) (N := ["_law_script", "_law_pool_here", "_law_size", "_law_rows", "_law_j", "_law_i", "_law_factor", "_law_item_here", "_law_whole", "_law_nowhere", "_law_clocks", "_law_count", "_law_choice", "_law_name", "_law_matrix", "_law_sides", "_law_good", "_law_near"]) (sc := (defScope s_law)) (by decide +kernel)) (fun _ _ _ _ _ => (pg_name (i := 13) sc_law.nd rfl (Or.inl rfl))) (fun _ _ _ _ _ => pts_nil) (by exact fun _ _ _ _ _ => (pe_tup (pa_cons (pv 13) (pa_cons (pe_op op_sub (pe_callR (r_law_take T) (hr.mono (by decide)) (kp_of T.f_law_take) rfl T.g_law_take pass0 (pa_cons (pv 1) (pa_cons pe_int pa_nil))) pe_int) pa_nil))))) pa_nil)))
        (pss_cons (ps_set (i := 14) sc_law.nd rfl (Or.inl rfl) (pe_callR (r_law_values T) (hr.mono (by decide)) (kp_of T.f_law_values) rfl T.g_law_values pass0 (pa_cons (pv 3) (pa_cons (pv 12) pa_nil))))
        (pss_cons (ps_if (PW.pt (pw_or (pt_cmpR op_ne (pe_methR0 (pv 14) T.cl_Matrix T.me_Matrix_determinant (r_Matrix_determinant T) (hr.mono (by decide)) pass0) (pe_methKR (pv 8) T.cl_Many T.me_Many_value (r_Many_value T) (hr.mono (by decide)) pass0 (pa_cons (pv 12) pa_nil) (pk_cons pe_int pk_nil)) (nomark _)) (pw_or1 (pt_own (pe_op (op_bin T.sf_Chars T.me_Chars_and.at_ T.me_Chars_and.fn (r_Chars_and T) (hr.mono (by decide)) pass0) (pe_callR (r_invertible T) (hr.mono (by decide)) (kp_of T.f_invertible) rfl T.g_invertible pass0 (pa_cons (pv 14) pa_nil)) (pv 9)) T.me_Chars_bool.at_ T.me_Chars_bool.fn (r_Chars_bool T) (hr.mono (by decide)) pass0))))
          (pss_one (ps_ret pe_bl)) pss_nil)
        (pss_one (ps_for PassesOwn.never rfl (pi_listK (K := K) rfl (pv 10)) (pg_name (i := 15) sc_law.nd rfl (Or.inr rfl))
          (pss_cons (ps_set (i := 16) sc_law.nd rfl (Or.inl rfl) (pe_cmpR op_ne (pe_methKR (pv 8) T.cl_Many T.me_Many_value (r_Many_value T) (hr.mono (by decide)) pass0 (pa_cons (pv 12) pa_nil) (pk_cons (pv 15) pk_nil)) pe_int (nomark _)))
          (pss_cons (ps_if (pt_cmpR op_ne (pe_cmpR (EfB.op_in T.me_Chars_contains.at_ T.me_Chars_contains.fn (r_Chars_contains T) (hr.mono (by decide)) pass0) (pv 15) (pe_callR (r_invertible T) (hr.mono (by decide)) (kp_of T.f_invertible) rfl T.g_invertible pass0 (pa_cons (pv 14) pa_nil)) (by rfl)) (pv 16) (nomark _))
            (pss_one (ps_ret pe_bl)) pss_nil)
          (pss_one (ps_if (pt_cmpR op_ne (pe_cmpR op_eq (pe_callKR (r_rank T) (hr.mono (by decide)) (kp_of T.f_rank) rfl T.g_rank pass0 (pa_cons (pv 14) pa_nil) (pk_cons (pv 15) pk_nil)) (pv 2) (nomark _)) (pv 16) (nomark _))
            (pss_one (ps_ret pe_bl)) pss_nil))))))))))
      (Evl.pss_cut (ps_for PassesOwn.never rfl (pi_listK (K := K) rfl (pv 10)) (pg_name (i := 15) sc_law.nd rfl (Or.inr rfl))
        (pss_one (ps_if (PW.pt (pw_and (pt_cmpR (EfB.op_notIn T.me_Chars_contains.at_ T.me_Chars_contains.fn (r_Chars_contains T) (hr.mono (by decide)) pass0) (pv 15) (pv 9) (by rfl)) (pw_and1 (PW.pt (pw_or (pt_cmpR op_eq (pv 15) pe_int (nomark _)) (pw_or1 (pt_cmpR op_gt (pv 15) (pe_methR0 (pv 8) T.cl_Many T.me_Many_degree (r_Many_degree T) (hr.mono (by decide)) pass0) (nomark _))))))))
          (pss_cons (ps_setLc (i := 17) (own := [("_law_choice", 12)]) rfl sc_law.nd rfl rfl (sw_true rfl rfl rfl (by decide +kernel)) (pi_listK (K := K) rfl (pe_callR (r_law_choices T) (hr.mono (by decide)) (kp_of T.f_law_choices) rfl T.g_law_choices pass0 (pa_cons (pe_op op_add (pe_methR0 (pv 8) T.cl_Many T.me_Many_degree (r_Many_degree T) (hr.mono (by decide)) pass0) pe_int) pa_nil))) (blkOk_by (own := [("_law_choice", 12)]) (N := ["_law_script", "_law_pool_here", "_law_size", "_law_rows", "_law_j", "_law_i", "_law_factor", "_law_item_here", "_law_whole", "_law_nowhere", "_law_clocks", "_law_count", "_law_choice", "_law_name", "_law_matrix", "_law_sides", "_law_good", "_law_near"]) (sc := (defScope s_law)) (by decide +kernel)) (fun _ _ _ _ _ => (pg_name (i := 12) sc_law.nd rfl (Or.inl rfl))) (by exact fun _ _ _ _ _ => pts_one (pt_cmpR op_ne (pe_methKR (pv 8) T.cl_Many T.me_Many_value (r_Many_value T) (hr.mono (by decide)) pass0 (pa_cons (pv 12) pa_nil) (pk_cons (pv 15) pk_nil)) pe_int (nomark _))) (by exact fun _ _ _ _ _ => (pv 12)))
          (pss_one (ps_if (PW.pt (pw_or (pt_cmpR (op_eqNil (Nat.lt_of_succ_lt (hu_of hr))) (pv 17) (pe_lst pa_nil) (nomark _)) (pw_or1 (pt_cmpR (EfB.op_notIn T.me_Chars_contains.at_ T.me_Chars_contains.fn (r_Chars_contains T) (hr.mono (by decide)) pass0) (pv 15) (pe_callR (r_invertible T) (hr.mono (by decide)) (kp_of T.f_invertible) rfl T.g_invertible pass0 (pa_cons (pe_callR (r_law_values T) (hr.mono (by decide)) (kp_of T.f_law_values) rfl T.g_law_values pass0 (pa_cons (pv 3) (pa_cons (pe_ix (ix_listK (K := K) rfl) (pv 17) pe_int (fun _ _ => rfl)) pa_nil))) pa_nil)) (by rfl)))))
            (pss_one (ps_ret pe_bl)) pss_nil))) pss_nil)))
      (pss_cons (ps_if (pt_own (pe_op (op_bin T.sf_Chars T.me_Chars_and.at_ T.me_Chars_and.fn (r_Chars_and T) (hr.mono (by decide)) pass0) (pv 9) (ClX.pe_cmeth (pe_glob (v := .ref (ga K "Chars")) rfl T.g_Chars rfl) T.rd_Chars T.cm_Chars_unit_of (r_Chars_unit_of T) (hr.mono (by decide)) pass0 (pa_cons (pe_methR0 (pv 8) T.cl_Many T.me_Many_content (r_Many_content T) (hr.mono (by decide)) pass0) pa_nil))) T.me_Chars_bool.at_ T.me_Chars_bool.fn (r_Chars_bool T) (hr.mono (by decide)) pass0)
        (pss_one (ps_ret pe_bl)) pss_nil)
      (pss_one (ps_ret (pe_cmpR (op_cmp (op := .Eq) (fun _ _ => rfl) T.me_Chars_eq.at_ T.me_Chars_eq.fn (r_Chars_eq T) (hr.mono (by decide)) pass0) (pe_methR0 (pe_op (op_bin T.sf_Many T.me_Many_sub.at_ T.me_Many_sub.fn (r_Many_sub T) (hr.mono (by decide)) pass0) (pv 8) (pv 8)) T.cl_Many T.me_Many_vanishing (r_Many_vanishing T) (hr.mono (by decide)) pass0) (pe_cmeth0 (pe_glob (v := .ref (ga K "Chars")) rfl T.g_Chars rfl) T.rd_Chars T.cm_Chars_every (r_Chars_every T) (hr.mono (by decide)) pass0) (nomark _))))))))))))))))), ?_⟩
    refine ⟨_, rfl, l, ns, 0, rfl, hl, fun c0 => ⟨c0, rfl, fun H1 p s1 np hp => ?_⟩⟩
    refine ⟨_, rfl, p, 2, rfl, hp, by decide, by decide, fun H2 v e2 hv => ⟨_, _, rfl, rfl, ?_⟩⟩
    have hn : 2 + v = 2 ∨ 2 + v = 3 := by omega
    have hl2 := sqL_ex hp e2 (sqL_same s1 hl)
    refine ⟨_, rfl, l, ns, 1, rfl, hl2, fun c1 => ⟨c1, rfl, fun H3 q s3 nq hq => ?_⟩⟩
    have hl3 := sqL_same s3 hl2
    refine ⟨Mid1 K l ns, ?_, ?_⟩
    · refine ⟨_, rfl, _, rfl, (show -(2 ^ 62) ≤ (2 : Int) + (v : Int) by omega), (show (2 : Int) + (v : Int) < 2 ^ 62 by omega), fun L hL => ?_⟩
      have Lq := pool_ne hq hL
      have tn : ((2 : Int) + (v : Int)).toNat = 2 + v := by omega
      rw [tn]
      refine lc_it walk_range (fun i H' => ∃ (rs : Nat → Addr) (ms : Nat → Nat → Addr) (P1 : Nat → Nat → Po), Ex1 q H3 H' ∧ H' L = some (.lst (refV i rs)) ∧ ∀ r, r < i → H' (rs r) = some (.lst (refV (2 + v) (ms r))) ∧ rs r ≠ L ∧ ∀ c, c < 2 + v → En H' K 12 (ms r c) (P1 r c)) ⟨fun _ => 0, fun _ _ => 0, fun _ _ => [], Ex1.of hq (Same.upd (Same.refl _) hL), upd_same, fun r hr => by omega⟩ (fun _ _ _ _ => trivial) ?_ ?_
      · rintro i y H4 H5 hi ⟨rs, ms, P1, e5, l5, r5⟩ ⟨rfl, hy⟩
        refine ⟨rfl, ?_⟩
        refine ⟨_, rfl, _, rfl, (show -(2 ^ 62) ≤ (2 : Int) + (v : Int) by omega), (show (2 : Int) + (v : Int) < 2 ^ 62 by omega), fun D hD => ?_⟩
        rw [tn]
        have Dq := pool_ne e5.pool hD
        refine lc_it walk_range (fun j H' => ∃ (mr : Nat → Addr) (Pr : Nat → Po), Ex1 q H5 H' ∧ H' D = some (.lst (refV j mr)) ∧ ∀ c, c < j → En H' K 12 (mr c) (Pr c)) ⟨fun _ => 0, fun _ => [], Ex1.of e5.pool (Same.upd (Same.refl _) hD), upd_same, fun r hr => by omega⟩ (fun _ _ _ _ => trivial) ?_ ?_
        · rintro j y2 H6 H7 hj ⟨mr, Pr, e7, d7, r7⟩ ⟨rfl, hy2⟩
          refine ⟨rfl, ?_⟩
          refine ⟨_, rfl, q, rfl, e7.pool, fun H8 a Pa e8 m8 g8 n8 => ⟨_, rfl, q, rfl, e8.pool, fun H9 b Pb e9 m9 g9 n9 => ?_⟩⟩
          have m8' := m8.ex e8.pool e9
          obtain ⟨dx, D1, od, h1, h2⟩ := id m8'
          obtain ⟨dy, D2, od', h3, h4⟩ := id m9
          refine ⟨a, dx, _, b, dy, _, rfl, rfl, h1, h3, a, b, Pa, Pb, rfl, m8', m9, by omega, fun H10 c s10 nc mc => ?_⟩
          have d10 := s10 _ _ (e9.kp _ _ (e8.kp _ _ d7 Dq) Dq)
          have e10 := ((e7.trans e8).trans e9).trans (Ex1.of e9.pool s10)
          refine ⟨_, d10, by rw [refV_len]; exact size_lt (by omega), fun r => if r = j then c else mr r, fun r => if r = j then padd Pa Pb else Pr r, e10.updN hD Dq, by rw [upd_same, refV_succ], fun r hr => ?_⟩
          by_cases e : r = j
          · subst e
            show En _ K 12 (if r = r then c else mr r) (if r = r then padd Pa Pb else Pr r)
            rw [if_pos rfl, if_pos rfl]
            exact En.lst ⟨mc, (good_add g8 g9).mono (by decide) (by decide), Nat.le_trans (len_add _ _) (by omega)⟩ d10
          · show En _ K 12 (if r = j then c else mr r) (if r = j then padd Pa Pb else Pr r)
            rw [if_neg e, if_neg e]
            exact En.lst ((((r7 r (by omega)).ex e7.pool e8).ex e8.pool e9).same s10) d10
        · rintro H6 ⟨mr, Pr, e6, d6, r6⟩
          have l6 := e6.kp _ _ l5 Lq
          have LD : D ≠ L := fun e => by rw [e, l5] at hD; cases hD
          refine ⟨_, l6, by rw [refV_len]; exact size_lt (by omega), fun r => if r = i then D else rs r, fun r => if r = i then mr else ms r, fun r => if r = i then Pr else P1 r, (e5.trans e6).updN hL Lq, by rw [upd_same, refV_succ], fun r hr => ?_⟩
          by_cases e : r = i
          · subst e
            show upd H6 L _ (if r = r then D else rs r) = some (.lst (refV (2 + v) (if r = r then mr else ms r))) ∧ (if r = r then D else rs r) ≠ L ∧ ∀ c, c < 2 + v → En _ K 12 ((if r = r then mr else ms r) c) ((if r = r then Pr else P1 r) c)
            rw [if_pos rfl, if_pos rfl, if_pos rfl, upd_ne LD]
            exact ⟨d6, LD, fun c hc => (r6 c hc).lst l6⟩
          · show upd H6 L _ (if r = i then D else rs r) = some (.lst (refV (2 + v) (if r = i then mr else ms r))) ∧ (if r = i then D else rs r) ≠ L ∧ ∀ c, c < 2 + v → En _ K 12 ((if r = i then mr else ms r) c) ((if r = i then Pr else P1 r) c)
            rw [if_neg e, if_neg e, if_neg e]
            obtain ⟨h1, h2, h3⟩ := r5 r (by omega)
            rw [upd_ne h2]
            exact ⟨e6.kp _ _ h1 (row_ne h1 (by omega) e5.pool), h2, fun c hc => ((h3 c hc).ex e5.pool e6).lst l6⟩
      · rintro H4 ⟨rs, ms, P1, e4, l4, r4⟩
        exact ⟨q, L, 2 + v, rs, ms, P1, rfl, hn, e4.pool, sqL_ex hq e4 hl3, ⟨l4, fun r hr => (r4 r hr).1, fun r c hr hc => ((r4 r hr).2.2 c hc).1⟩, fun r hr => (r4 r hr).2.1, fun r c hr hc => ((r4 r hr).2.2 c hc).2⟩
    · clear hl3 hq hl2 e2 hp s1 np s3 nq hl hn
      rintro _ H4 ⟨p, L, n, rs, ms, P1, rfl, hn, hp, hl, pr, neL, hg⟩
      have h0 : 0 < n := by omega
      refine ⟨Mid2 K l ns, ?_, ?_⟩
      · refine ⟨_, rfl, p, 3, rfl, hp, by decide, by decide, fun H5 v e5 hv => ⟨rfl, _, rfl, ifEq (fun _ => ?_) fun _ => ?_⟩⟩
        · have pr5 := pr.ex h0 hp e5
          have hl5 := sqL_ex hp e5 hl
          refine ⟨rfl, size_of (by show 3 < 1000; decide), fun L2 hL2 => ?_⟩
          have s6 := Same.upd (o := .lst [.int 2, .int 3, .int 6]) (Same.refl H5) hL2
          have L2p := pool_ne e5.pool hL2
          refine ⟨_, rfl, p, 3, rfl, e5.pool.same s6, by decide, by decide, fun H7 v2 e7 hv2 => ?_⟩
          obtain ⟨c, hc, hcb⟩ := fac_at (v := v2) (by omega)
          refine ⟨L2, _, v2, .int c, rfl, rfl, SqL.of (e7.kp L2 _ upd_same L2p), atI_nat hc, ?_⟩
          refine ⟨c, rfl, fun H8 a s8 na ma => ?_⟩
          have pr8 := ((pr5.same s6).ex h0 (e5.pool.same s6) e7).same s8
          have hl8 := sqL_same s8 (sqL_ex (e5.pool.same s6) e7 (sqL_same s6 hl5))
          have hp8 := e7.pool.same s8
          refine ⟨_, rfl, L, _, (0 : Nat), _, rfl, rfl, SqL.of pr8.top, atI_nat (refV_at h0), rs 0, rfl, ⟨_, SqL.of (pr8.row 0 h0)⟩, fun D hD => ?_⟩
          refine lc_it (walk_list (K := K) (a := rs 0) (xs := refV n (ms 0))) (fun j H' => Same H8 H' ∧ ∃ mr : Nat → Addr, H' D = some (.lst (refV j mr)) ∧ ∀ c', c' < j → En H' K 72 (mr c') (pmul (pnum c) (P1 0 c'))) ⟨Same.upd (Same.refl _) hD, fun _ => 0, upd_same, fun r hr => by omega⟩ (fun j H' _ p => SqL.of (p.1 _ _ (pr8.row 0 h0))) ?_ ?_
          · rintro j y H9 H10 hj ⟨sm, mr, d9, r9⟩ ⟨rfl, hy⟩
            rw [refV_len] at hj
            obtain rfl := refV_get hj hy
            have m1 := ma.same sm
            have m2 := (pr8.ent 0 j h0 hj).same sm
            obtain ⟨dx, D1, od, h1, h2⟩ := id m1
            obtain ⟨dy, D2, od', h3, h4⟩ := id m2
            obtain ⟨g1, g2⟩ := hg 0 j h0 hj
            have gc : Good (pnum c) 6 0 := (good_num c).mono hcb (Nat.le_refl 0)
            have lc := len_num c
            have ll : (pnum c).length * (P1 0 j).length ≤ 1 * 2 := Nat.mul_le_mul lc g2
            refine ⟨rfl, ?_⟩
            refine ⟨_, rfl, _, rfl, a, dx, _, ms 0 j, dy, _, rfl, rfl, h1, h3, a, ms 0 j, pnum c, P1 0 j, rfl, m1, m2, by omega, gc.mulOk (by decide) (by decide), g1.dgOk (by decide), fun H11 z s11 nz mz => ?_⟩
            have d11 := s11 _ _ d9
            refine ⟨_, d11, by rw [refV_len]; exact size_lt (by omega), Same.upd (sm.trans s11) hD, fun r => if r = j then z else mr r, by rw [upd_same, refV_succ], fun r hr => ?_⟩
            by_cases e : r = j
            · subst e
              show En _ K 72 (if r = r then z else mr r) _
              rw [if_pos rfl]
              exact En.lst ⟨mz, (good_mul gc g1).mono (by decide) (by decide), Nat.le_trans (len_mul _ _) ll⟩ d11
            · show En _ K 72 (if r = j then z else mr r) _
              rw [if_neg e]
              exact En.lst ((r9 r (by omega)).same s11) d11
          · rintro H9 ⟨sm, mr, d9, r9⟩
            rw [refV_len] at d9 r9
            have pr9 := pr8.same sm
            have DL : D ≠ L := fun e => by rw [e, pr8.top] at hD; cases hD
            refine ⟨_, rfl, L, _, 0, 0, rfl, rfl, pr9.top, ixN_ref h0, ?_⟩
            have pw := pr9.setT (t := 0) neL d9 DL fun c' hc' => (r9 c' hc').1
            have hp9 := hp8.same sm
            have Lp : L ≠ p := row_ne pr9.top h0 hp9
            have e9 : Ex1 p H9 H9 := Ex1.of hp9 (Same.refl _)
            obtain ⟨pc, pi, pg, hpp⟩ := hp9
            refine ⟨p, L, n, _, _, _, _, rfl, hn, ⟨pc, pi, pg, by rw [upd_ne Lp.symm]; exact hpp⟩, ?_, pw, fun i hi => ?_, fun i j hi hj => ?_⟩
            · exact sqL_upd pr9.top h0 (sqL_same sm hl8)
            · show (if i = 0 then D else rs i) ≠ L
              split
              · exact DL
              · exact neL i hi
            · show Good ((if i = 0 then fun c' => pmul (pnum c) (P1 0 c') else P1 i) j) _ 2 ∧ ((if i = 0 then fun c' => pmul (pnum c) (P1 0 c') else P1 i) j).length ≤ 2
              by_cases e : i = 0
              · rw [if_pos e, if_pos e]
                exact (r9 j hj).2
              · rw [if_neg e, if_neg e]
                exact ⟨(hg i j hi hj).1, (hg i j hi hj).2⟩
        · refine ⟨p, L, n, rs, ms, P1, none, rfl, hn, e5.pool, sqL_ex hp e5 hl, pr.ex h0 hp e5, neL, fun i j hi hj => ⟨(hg i j hi hj).1.mono (by split <;> decide) (Nat.le_refl _), (hg i j hi hj).2⟩⟩
      · clear hp hl pr neL hg h0 hn
        rintro _ H5 ⟨p, L, n, rs, ms, P1, f, rfl, hn, hp, hl, pr, neL, hg⟩
        have h0 : 0 < n := by omega
        have hB : ∀ i : Nat, (if i = 0 then 72 else 12) ≤ 144 := fun i => by split <;> decide
        refine ⟨Mid3 K l ns, ?_, ?_⟩
        · refine ⟨_, rfl, p, 6, rfl, hp, by decide, by decide, fun H6 v e6 hv => ⟨rfl, _, rfl, ifEq (fun _ => ?_) fun _ => ?_⟩⟩
          · have pr6 := pr.ex h0 hp e6
            have hl6 := sqL_ex hp e6 hl
            refine ⟨_, rfl, L, _, (0 : Nat), _, rfl, rfl, SqL.of pr6.top, atI_nat (refV_at h0), rs 0, rfl, ⟨_, SqL.of (pr6.row 0 h0)⟩, fun D hD => ?_⟩
            refine lc_it (walk_list (K := K) (a := rs 0) (xs := refV n (ms 0))) (fun j H' => Same H6 H' ∧ ∃ mr : Nat → Addr, H' D = some (.lst (refV j mr)) ∧ ∀ c', c' < j → MnAt K H' (mr c') (padd (P1 0 c') (P1 0 c'))) ⟨Same.upd (Same.refl _) hD, fun _ => 0, upd_same, fun r hr => by omega⟩ (fun j H' _ p => SqL.of (p.1 _ _ (pr6.row 0 h0))) ?_ ?_
            · rintro j y H9 H10 hj ⟨sm, mr, d9, r9⟩ ⟨rfl, hy⟩
              rw [refV_len] at hj
              obtain rfl := refV_get hj hy
              have m2 := (pr6.ent 0 j h0 hj).same sm
              obtain ⟨dy, D2, od', h3, h4⟩ := id m2
              obtain ⟨g1, g2⟩ := hg 0 j h0 hj
              refine ⟨rfl, ?_⟩
              refine ⟨_, rfl, _, rfl, ms 0 j, dy, _, ms 0 j, dy, _, rfl, rfl, h3, h3, ms 0 j, ms 0 j, P1 0 j, P1 0 j, rfl, m2, m2, by omega, fun H11 z s11 nz mz => ?_⟩
              have d11 := s11 _ _ d9
              refine ⟨_, d11, by rw [refV_len]; exact size_lt (by omega), Same.upd (sm.trans s11) hD, fun r => if r = j then z else mr r, by rw [upd_same, refV_succ], fun r hr => ?_⟩
              by_cases e : r = j
              · subst e
                show MnAt K _ (if r = r then z else mr r) _
                rw [if_pos rfl]
                exact mz.lst d11
              · show MnAt K _ (if r = j then z else mr r) _
                rw [if_neg e]
                exact ((r9 r (by omega)).same s11).lst d11
            · rintro H9 ⟨sm, mr, d9, r9⟩
              rw [refV_len] at d9 r9
              have pr9 := pr6.same sm
              have DL : D ≠ L := fun e => by rw [e, pr6.top] at hD; cases hD
              refine ⟨_, rfl, 1, rfl, L, _, -1, n - 1, rfl, rfl, pr9.top, ix_last hn rs, ?_⟩
              have pw := pr9.setT (t := n - 1) neL d9 DL r9
              have hp9 := e6.pool.same sm
              have Lp : L ≠ p := row_ne pr9.top h0 hp9
              obtain ⟨pc, pi, pg, hpp⟩ := hp9
              refine ⟨p, L, n, _, _, _, _, rfl, hn, ⟨pc, pi, pg, by rw [upd_ne Lp.symm]; exact hpp⟩, sqL_upd pr9.top h0 (sqL_same sm hl6), pw, fun i j hi hj => ?_, fun h3 => ?_⟩
              · show Good ((if i = n - 1 then fun c' => padd (P1 0 c') (P1 0 c') else P1 i) j) 144 2 ∧ ((if i = n - 1 then fun c' => padd (P1 0 c') (P1 0 c') else P1 i) j).length ≤ 4
                by_cases e : i = n - 1
                · rw [if_pos e]
                  obtain ⟨g1, g2⟩ := hg 0 j h0 hj
                  rw [if_pos rfl] at g1
                  exact ⟨(good_add g1 g1).mono (by decide) (by decide), Nat.le_trans (len_add _ _) (by omega)⟩
                · rw [if_neg e]
                  exact ⟨(hg i j hi hj).1.mono (hB i) (Nat.le_refl _), Nat.le_trans (hg i j hi hj).2 (by decide)⟩
              · subst h3
                refine ⟨fun j hj => ?_, .inr fun j hj v => ?_⟩
                · have := (hg 1 j (by decide) hj).1.nr
                  rw [if_neg (by decide)] at this
                  exact this
                · show ev (padd (P1 0 j) (P1 0 j)) v = 2 * ev (P1 0 j) v
                  rw [ev_add]
                  omega
          · refine ⟨p, L, n, rs, ms, P1, f, rfl, hn, e6.pool, sqL_ex hp e6 hl, pr.ex h0 hp e6, fun i j hi hj => ⟨(hg i j hi hj).1.mono (hB i) (Nat.le_refl _), Nat.le_trans (hg i j hi hj).2 (by decide)⟩, fun h3 => ?_⟩
            subst h3
            refine ⟨fun j hj => ?_, .inl fun j hj => ?_⟩
            · have := (hg 1 j (by decide) hj).1.nr
              rw [if_neg (by decide)] at this
              exact this
            · have := (hg 2 j (by decide) hj).1.nr
              rw [if_neg (by decide)] at this
              exact this
        · clear hp hl pr neL hg h0 hn
          rintro _ H6 ⟨p0, L, n, rs, ms, P1, f, rfl, hn, hp, hl, pr, rok⟩
          refine ⟨_, rfl, n, hn, L, rs, ms, P1, rfl, pr, rok.eo, fun H7 a D s7 ma dok => ?_⟩
          obtain ⟨dx, D1, od, h1, h2⟩ := id ma
          have nb60 : nb n < 2 ^ 60 := by rcases hn with rfl | rfl <;> decide
          refine ⟨_, rfl, a, dx, _, rfl, h1, by rw [lookup_putF, if_neg (by decide +kernel)]; rfl, a, D, rfl, ma, fun t ht => ⟨dok.gd.wf.2 t ht, Nat.lt_of_le_of_lt (Nat.le_trans (coef_le ht) dok.gd.nr) nb60⟩, fun H8 c0 g b0 ps0 s8 nc hg hc hz ho => ?_⟩
          refine ⟨_, rfl, l, ns, 2, rfl, sqL_same s8 (sqL_same s7 hl), fun c2 => ⟨c2, rfl, fun H9 p s9 nq hq => ?_⟩⟩
          refine ⟨_, rfl, p, 100, rfl, hq, by decide, by decide, fun H10 v e10 hv => ⟨v, rfl, by omega, fun pp hpp hle => ⟨size_of (by show 6 < 1000; decide), fun cl hcl => ?_⟩⟩⟩
          have h0 : 0 < n := by omega
          have s79 := (s7.trans s8).trans s9
          have env : Env4 K (upd H10 cl (.lst [.int 0, .int 2, .int 3, .int 5, .int 7, .int pp])) p L a c0 cl n rs ms P1 D g b0 ps0 [0, 2, 3, 5, 7, pp] := by
            have s11 := Same.upd (o := .lst (([0, 2, 3, 5, 7, pp] : List Int).map V.int)) (Same.refl H10) hcl
            refine ⟨hn, e10.pool.same s11, ((pr.same s79).ex h0 hq e10).same s11, rok, ((ma.same (s8.trans s9)).ex hq e10).same s11, dok, hg, ((hc.same s9).ex hq e10).same s11, hz, ho, upd_same, fun x hx => ?_, pool_ne e10.pool hcl⟩
            rcases List.mem_append.mp (show x ∈ [0, 2, 3, 5, 7] ++ [pp] from hx) with h | h
            · exact pr_clk x h
            · rw [List.mem_singleton.mp h]
              have := hpp.1
              exact ⟨.inr hpp, by omega⟩
          refine ⟨Mid4 K l, ?_, ?_⟩
          · generalize upd H10 cl (.lst [.int 0, .int 2, .int 3, .int 5, .int 7, .int pp]) = H11 at env
            generalize ([0, 2, 3, 5, 7, pp] : List Int) = cs at env
            refine ⟨_, rfl, by decide, by decide, ?_⟩
            rw [show ((4 : Int)).toNat = 4 from rfl]
            refine for_it walk_range (fun i σ H' => ∃ r1 r2 r3 r4 r5 r6, σ = fS4 l p n L f a c0 cl r1 r2 r3 r4 r5 r6 ∧ Env4 K H' p L a c0 cl n rs ms P1 D g b0 ps0 cs) ⟨none, none, none, none, none, none, rfl, env⟩ (fun _ _ _ _ _ => trivial) ?_ ?_
            · rintro i y σ H12 H13 hi ⟨r1, r2, r3, r4, r5, r6, rfl, en⟩ ⟨rfl, hy⟩
              have co : ∀ t ∈ D, t.2 ≠ 0 ∧ t.2.natAbs < 2 ^ 60 := fun t ht => ⟨en.dok.gd.wf.2 t ht, Nat.lt_of_le_of_lt (Nat.le_trans (coef_le ht) en.dok.gd.nr) nb60⟩
              have ld : D.length ≤ 397 := Nat.le_trans en.dok.ln (by rcases hn with rfl | rfl <;> decide)
              refine ⟨size_of (by show 3 < 1000; decide), fun NL hNL => ⟨NL, rfl, ⟨_, SqL.of upd_same⟩, fun Dl hDl => ?_⟩⟩
              have sN := Same.upd (o := .lst [.str "x", .str "y", .str "z"]) (Same.refl H13) hNL
              have hD0 := sN.free hDl
              have sD := Same.upd (o := .lst []) sN hD0
              have Dp := pool_ne en.pool hD0
              have Np := pool_ne en.pool hNL
              have DN : Dl ≠ NL := fun e => by rw [e, upd_same] at hDl; cases hDl
              refine lc_it (walk_list (K := K) (a := NL) (xs := [.str "x", .str "y", .str "z"])) (fun i H' => ∃ (mr : Nat → Addr) (vs : Nat → Int), Ex1 p H13 H' ∧ H' NL = some (.lst [.str "x", .str "y", .str "z"]) ∧ H' Dl = some (.lst (refV i mr)) ∧ ∀ c, c < i → H' (mr c) = some (.tup [.str (nmx c), .int (vs c)]) ∧ (vs c).natAbs ≤ 6)
                ⟨fun _ => 0, fun _ => 0, Ex1.of en.pool sD, by rw [upd_ne DN.symm, upd_same], upd_same, fun c hc => absurd hc (Nat.not_lt_zero c)⟩ (fun i H' _ ⟨_, _, _, q, _⟩ => SqL.of q) ?_ ?_
              · rintro j y2 H14 H15 hj ⟨mr, vs, e14, n14, d14, r14⟩ ⟨rfl, hy2⟩
                refine ⟨rfl, ?_⟩
                refine ⟨_, rfl, _, rfl, p, 13, rfl, e14.pool, by decide, by decide, fun H16 v e16 hv => ⟨_, _, rfl, rfl, size_of (by show 2 < 1000; decide), fun t ht => ?_⟩⟩
                have j3 : j < 3 := hj
                obtain rfl : y2 = .str (nmx j) := nmx_at j3 hy2
                have d16 := e16.kp _ _ d14 Dp
                have st := Same.upd (o := .tup [.str (nmx j), .int ((v : Int) - 6)]) (Same.refl H16) ht
                have e17 := (e14.trans e16).trans (Ex1.of e16.pool st)
                have d17 := st _ _ d16
                refine ⟨_, d17, by rw [refV_len]; exact size_lt (by omega), fun r => if r = j then t else mr r, fun r => if r = j then (v : Int) - 6 else vs r, e17.updN hD0 Dp, by rw [upd_ne DN.symm]; exact st _ _ (e16.kp _ _ n14 Np), by rw [upd_same, refV_succ], fun c hc => ?_⟩
                have tD : t ≠ Dl := fun e => by rw [e, d16] at ht; cases ht
                by_cases e : c = j
                · subst e
                  show upd _ Dl _ (if c = c then t else mr c) = some (.tup [.str (nmx c), .int (if c = c then (v : Int) - 6 else vs c)]) ∧ (if c = c then (v : Int) - 6 else vs c).natAbs ≤ 6
                  rw [if_pos rfl, if_pos rfl, upd_ne tD, upd_same]
                  exact ⟨rfl, by omega⟩
                · show upd _ Dl _ (if c = j then t else mr c) = some (.tup [.str (nmx c), .int (if c = j then (v : Int) - 6 else vs c)]) ∧ (if c = j then (v : Int) - 6 else vs c).natAbs ≤ 6
                  rw [if_neg e, if_neg e]
                  obtain ⟨z1, z2⟩ := r14 c (by omega)
                  have z3 := e16.kp _ _ z1 (ne_lst z1 e14.pool fun _ z => nomatch z)
                  exact ⟨by rw [upd_ne (ne_of z3 d16 (by intro z; cases z))]; exact st _ _ z3, z2⟩
              · rintro H14 ⟨mr, vs, e14, n14, d14, r14⟩
                have d14 : H14 Dl = some (.lst (refV 3 mr)) := d14
                obtain ⟨z0, w0⟩ := r14 0 (by decide)
                obtain ⟨z1, w1⟩ := r14 1 (by decide)
                obtain ⟨z2, w2⟩ := r14 2 (by decide)
                refine ⟨Dl, [mr 0, mr 1, mr 2], [(.inr "x", .int (vs 0)), (.inr "y", .int (vs 1)), (.inr "z", .int (vs 2))], rfl, SqL.of d14, .cons (.inl (.inl z0)) (.cons (.inl (.inl z1)) (.cons (.inl (.inl z2)) .nil)), fun dd hdd => ?_⟩
                have hdv : upd H14 dd (.dK (mergeK [] [(.inr "x", .int (vs 0)), (.inr "y", .int (vs 1)), (.inr "z", .int (vs 2))])) dd = some (.dK (vK (vs 0, vs 1, vs 2))) := by
                  rw [upd_same]
                  exact congrArg (fun z => some (HO.dK z)) (zip_vK (vs 0) (vs 1) (vs 2))
                have e15 := e14.trans (Ex1.of e14.pool (Same.upd (o := .dK (mergeK [] [(.inr "x", .int (vs 0)), (.inr "y", .int (vs 1)), (.inr "z", .int (vs 2))])) (Same.refl H14) hdd))
                generalize upd H14 dd _ = H15 at hdv e15 ⊢
                have v6 : P6 (vs 0, vs 1, vs 2) := ⟨w0, w1, w2⟩
                have vS : PtS (vs 0, vs 1, vs 2) := ⟨Nat.lt_of_le_of_lt w0 (by decide), Nat.lt_of_le_of_lt w1 (by decide), Nat.lt_of_le_of_lt w2 (by decide)⟩
                generalize (vs 0, vs 1, vs 2) = v at hdv v6 vS
                replace en := en.ex e15
                clear z0 z1 z2 w0 w1 w2 r14 d14 n14 e14 e15 hD0 sD sN Dp Np
                have lt16 : ∀ i j, i < n → j < n → (P1 i j).length < 16000 := fun i j hi hj => Nat.lt_of_le_of_lt (en.rw_.eo i j hi hj).2 (by decide)
                have h100 : n < 100 := hn.elim (fun h => by rw [h]; decide) fun h => by rw [h]; decide
                have e8192 : ∀ i j, i < n → j < n → (ev (P1 i j) v).natAbs ≤ 8192 := fun i j hi hj => Nat.le_trans (ent_le en.rw_ v6 i j hi hj) (by decide)
                have hdet : detn n (fun i j => ev (P1 i j) v) = ev D v := by rw [← detE_n hn, ← en.dok.ev v]
                have hd60 : (detn n fun i j => ev (P1 i j) v).natAbs < 2 ^ 60 := by rw [hdet]; exact det_lt hn en.dok v6
                refine ⟨_, rfl, _, rfl, L, dd, rs, ms, n, P1, v, rfl, en.pr, h0, h100, lt16, hdv, vS, fun H17 mx s17 mxa => ?_⟩
                obtain ⟨dxm, tm, m1, m2⟩ := id mxa
                have en17 := en.same s17
                refine ⟨_, rfl, mx, dxm, _, rfl, m1, mxF_det _ _, mx, n, _, rfl, mxa, hn, e8192, fun H18 s18 => ?_⟩
                have en18 := en17.same s18
                obtain ⟨dxc, Dc, odc, h1c, h2c⟩ := id en18.mn
                refine ⟨_, rfl, a, dxc, _, rfl, h1c, by rw [lookup_putF, if_neg (by decide +kernel)]; rfl, _, rfl, rfl, rfl, a, dd, D, v, 0, rfl, en18.mn, s18 _ _ (s17 _ _ hdv), by omega, vS, .inl rfl, by decide, fun H19 r s19 hr1 hr2 => ?_⟩
                refine ⟨rfl, _, rfl, ifNe (fun hne => absurd (by rw [hr2 rfl, hdet]) hne) fun _ => ?_⟩
                have en19 := en18.same s19
                have mx19 := (mxa.same s18).same s19
                refine ⟨_, rfl, mx, n, _, rfl, mx19, hn, e8192, hd60, fun H20 cc bb qs s20 hcc hzz hoo => ?_⟩
                have en20 := en19.same s20
                obtain ⟨dcc, tcc, k1, k2⟩ := id hcc
                obtain ⟨dch, tch, k3, k4⟩ := id en20.ch
                rw [hdet] at hzz
                obtain ⟨no1, no2⟩ := and_no hzz en20.zn (gcd_dvd_ev en20.gcd v)
                refine ⟨_, rfl, cc, dcc, _, c0, dch, _, rfl, rfl, k1, k3, cc, c0, !bb, b0, qs, ps0, rfl, hcc, en20.ch, hoo, en20.ok, fun z => ?_, fun H21 c2 ps2 s21 nc2 hc2 hm => ?_⟩
                · rw [z.1, z.2] at no1
                  cases no1
                obtain ⟨df, tf, k5, k6⟩ := id hc2
                refine ⟨c2, df, _, rfl, k5, c2, _, ps2, rfl, hc2, _, rfl, ?_⟩
                rw [no1, no_mem hm no2]
                refine iteF ?_
                have s1721 := ((s18.trans s19).trans s20).trans s21
                have en21 := en20.same s21
                have mx21 := (mx19.same s20).same s21
                have hd21 := s1721 _ _ (s17 _ _ hdv)
                clear s1721 k1 k2 k3 k4 k5 k6 hcc hzz hoo hc2 hm no1 no2 s21 s20 s19 s18 s17 mx19 en19 en20 en18 en17 hr1 hr2 h1c h2c m1 m2 mxa hdv
                refine ⟨_, rfl, cl, rfl, ⟨_, SqL.of en21.cl_⟩, ?_⟩
                refine for_it (walk_list (K := K) (a := cl) (xs := cs.map V.int)) (fun i σ H' => ∃ r4 r5 r6, σ = fS4 l p n L f a c0 cl (some y) (some (.ref dd)) (some (.ref mx)) r4 r5 r6 ∧ Env4 K H' p L a c0 cl n rs ms P1 D g b0 ps0 cs ∧ MxAt K H' mx n (fun i j => ev (P1 i j) v) ∧ H' dd = some (.dK (vK v))) ⟨_, _, _, rfl, en21, mx21, hd21⟩ (fun i σ H' _ ⟨_, _, _, _, e, _⟩ => SqL.of e.cl_) ?_ ?_
                · rintro i2 y2 σ H22 H23 hi2 ⟨r4, r5, r6, rfl, en22, mx22, hd22⟩ ⟨rfl, hy2⟩
                  obtain ⟨x, hx, rfl⟩ := map_int_at hy2
                  obtain ⟨cx, cx60⟩ := en22.ci x (List.mem_of_getElem? hx)
                  obtain ⟨dxc, Dc, odc, h1c, h2c⟩ := id en22.mn
                  refine ⟨_, rfl, a, dxc, _, rfl, h1c, by rw [lookup_putF, if_neg (by decide +kernel)]; rfl, _, rfl, _, rfl, rfl, rfl, a, dd, D, v, x, rfl, en22.mn, hd22, by omega, vS, cx, cx60, fun H24 r s24 hr1 hr2 => ?_⟩
                  have mx24 := mx22.same s24
                  have en24 := en22.same s24
                  have er : (!decide (V.int r = V.int 0)) = !decide (x ∣ ev D v) := congrArg (fun z : Bool => !z) (decide_eq_decide.mpr ⟨fun z => hr1.1 (by injection z), fun z => by rw [hr1.2 z]⟩)
                  refine ⟨rfl, _, rfl, _, rfl, mx, n, _, rfl, mx24, hn, e8192, hd60, fun H25 cc bb qs s25 hcc hzz hoo => ?_⟩
                  obtain ⟨dcc, tcc, k1, k2⟩ := id hcc
                  rw [hdet] at hzz
                  refine ⟨cc, dcc, _, rfl, k1, cc, x, !bb, qs, rfl, hcc, _, rfl, _, rfl, rfl, _, rfl, ?_⟩
                  refine ifNB (by rw [zn_in' hzz cx]; exact er.symm) ?_
                  have mx25 := mx24.same s25
                  have en25 := en24.same s25
                  refine ⟨_, rfl, _, rfl, rfl, rfl, mx, n, _, _, x, rfl, mx25, hn, run_of hn en25.rw_ v6, cx, cx60, fun H26 r2 s26 hr3 => ?_⟩
                  refine ⟨_, rfl, rfl, _, rfl, rfl, _, rfl, ?_⟩
                  have er2 : decide (V.int r2 = V.int (n : Nat)) = !decide (V.int r = V.int 0) := by
                    rw [er, ← hdet]
                    rw [show (!decide (x ∣ detn n fun i j => ev (P1 i j) v)) = decide (¬ x ∣ detn n fun i j => ev (P1 i j) v) by simp]
                    exact decide_eq_decide.mpr ⟨fun z => hr3.1 (by injection z), fun z => by rw [hr3.2 z]⟩
                  refine ifNB er2 ?_
                  exact ⟨_, _, _, rfl, en25.same s26, mx25.same s26, s26 _ _ (s25 _ _ (s24 _ _ hd22))⟩
                · rintro σ H22 ⟨r4, r5, r6, rfl, en22, _, _⟩
                  exact ⟨_, _, _, _, _, _, rfl, en22⟩
            · rintro σ H12 ⟨r1, r2, r3, r4, r5, r6, rfl, en⟩
              exact ⟨p, L, a, c0, cl, n, rs, ms, P1, D, g, b0, ps0, cs, f, r1, r2, r3, r4, r5, r6, rfl, en⟩
          · rintro _ H7 ⟨p, L, a, c0, cl, n, rs, ms, P1, D, g, b0, ps0, cs, f, r1, r2, r3, r4, r5, r6, rfl, en⟩
            refine ⟨Mid4 K l, ?_, ?_⟩
            · refine ⟨_, rfl, cl, rfl, ⟨_, SqL.of en.cl_⟩, ?_⟩
              have hn := en.hn
              have nb60 : nb n < 2 ^ 60 := by rcases hn with rfl | rfl <;> decide
              have co : ∀ t ∈ D, t.2 ≠ 0 ∧ t.2.natAbs < 2 ^ 60 := fun t ht => ⟨en.dok.gd.wf.2 t ht, Nat.lt_of_le_of_lt (Nat.le_trans (coef_le ht) en.dok.gd.nr) nb60⟩
              have ld : D.length ≤ 397 := Nat.le_trans en.dok.ln (by rcases hn with rfl | rfl <;> decide)
              have dl6 : DgLe D 6 := fun t ht => Nat.le_trans (en.dok.gd.dl t ht) (by omega)
              refine for_it (walk_list (K := K) (a := cl) (xs := cs.map V.int)) (fun i σ H' => ∃ r1 r2 r3 r4 r5 r6, σ = fS4 l p n L f a c0 cl r1 r2 r3 r4 r5 r6 ∧ Env4 K H' p L a c0 cl n rs ms P1 D g b0 ps0 cs) ⟨r1, r2, r3, r4, r5, r6, rfl, en⟩ (fun i σ H' _ ⟨_, _, _, _, _, _, _, e⟩ => SqL.of e.cl_) ?_ ?_
              · rintro i y σ H8 H9 hi ⟨r1, r2, r3, r4, r5, r6, rfl, en⟩ ⟨rfl, hy⟩
                obtain ⟨x, hx, rfl⟩ := map_int_at hy
                obtain ⟨cx, cx60⟩ := en.ci x (List.mem_of_getElem? hx)
                obtain ⟨dc, tc, k1, k2⟩ := id en.ch
                obtain ⟨dx, D1, od, h1, h2⟩ := id en.mn
                refine ⟨_, rfl, _, rfl, c0, dc, _, rfl, k1, c0, x, b0, ps0, rfl, en.ch, _, rfl, _, rfl, ?_⟩
                rw [zn_in en.zn cx]
                refine ifN (fun hng => ?_) fun _ => iteF ⟨_, _, _, _, _, _, rfl, en⟩
                refine ⟨_, rfl, rfl, _, rfl, ifEq (fun hx0 => ?_) fun hx0 => ?_⟩
                · have hdeg : ∀ d : Int, -1 ≤ d → (d = -1 ∨ ∃ t ∈ D, d = dg t.1) → x = 0 ∨ ((d.toNat : Nat) : Int) < x := fun _ _ _ => .inl hx0
                  have ee := en
                  obtain ⟨dx, D1, od, h1, h2⟩ := id en.mn
                  obtain ⟨t0, ht0⟩ : ∃ t, t ∈ D := by
                    cases D with
                    | nil => exact absurd (fun t ht => nomatch ht) (not_all en.gcd hng)
                    | cons t r => exact ⟨t, List.mem_cons_self⟩
                  refine ⟨_, rfl, a, dx, _, rfl, h1, by rw [lookup_putF, if_neg (by decide +kernel)]; rfl, a, D, rfl, en.mn, by omega, fun t ht => by have := dl6 t ht; omega, fun Ha d sa e1 e2 e3 => ?_⟩
                  have hd0 : 0 ≤ d := by have := e3 t0 ht0; omega
                  have hd6 : d ≤ 6 := by
                    rcases e2 with h | ⟨t, ht, h⟩
                    · omega
                    · have := dl6 t ht
                      omega
                  refine ⟨_, _, rfl, rfl, d.toNat + 1, congrArg (fun z : Int => [V.int z]) (show d + 1 = ((d.toNat + 1 : Nat) : Int) by omega), by omega, fun Hb l2 ws sb dl hlen hmem => ?_⟩
                  have enb := (en.same sa).same sb
                  obtain ⟨as, w1, w2, w3⟩ := id dl
                  have p6 : ∀ v ∈ ws, P6 v ∧ PtS v := fun v hv => by
                    obtain ⟨i1, i2, i3, j1, j2, j3, rfl⟩ := (hmem v).1 hv
                    exact ⟨⟨by show ((i1 : Nat) : Int).natAbs ≤ 6; omega, by show ((i2 : Nat) : Int).natAbs ≤ 6; omega, by show ((i3 : Nat) : Int).natAbs ≤ 6; omega⟩, ⟨by show ((i1 : Nat) : Int).natAbs < 1000; omega, by show ((i2 : Nat) : Int).natAbs < 1000; omega, by show ((i3 : Nat) : Int).natAbs < 1000; omega⟩⟩
                  refine ⟨l2, rfl, ⟨_, SqL.of w1⟩, fun NL hNL => ?_⟩
                  refine lc_it (walk_list (K := K) (a := l2) (xs := as.map V.ref)) (fun i H' => Same Hb H' ∧ ∃ bs : List (Addr × Pt), H' NL = some (.lst (bs.map fun q => V.ref q.1)) ∧ (∀ q ∈ bs, H' q.1 = some (.dK (vK q.2)) ∧ q.2 ∈ ws ∧ ¬ x ∣ ev D q.2) ∧ (∀ j v, j < i → ws[j]? = some v → ¬ x ∣ ev D v → bs ≠ []) ∧ bs.length ≤ i) ⟨Same.upd (Same.refl _) hNL, [], upd_same, fun q hq => (nomatch hq), fun j v hj => by omega, Nat.le_refl 0⟩ (fun i H' _ p => SqL.of (p.1 _ _ w1)) ?_ ?_
                  · rintro i y Hc Hd hi ⟨smc, bs, b1, b2, b3, b4⟩ ⟨rfl, hy⟩
                    rw [List.length_map] at hi
                    rw [List.getElem?_map, List.getElem?_eq_getElem hi] at hy
                    cases (Option.some.inj hy)
                    obtain ⟨v, hv, hd⟩ := w3 i as[i] (List.getElem?_eq_getElem hi)
                    have hvm := List.mem_of_getElem? hv
                    have enc' := enb.same smc
                    obtain ⟨dxc, Dc, odc, h1c, h2c⟩ := id enc'.mn
                    refine ⟨rfl, ?_⟩
                    refine ⟨_, rfl, a, dxc, _, rfl, h1c, by rw [lookup_putF, if_neg (by decide +kernel)]; rfl, _, rfl, _, rfl, rfl, rfl, a, as[i], D, v, x, rfl, enc'.mn, smc _ _ hd, by omega, (p6 v hvm).2, cx, cx60, fun He r se hr1 hr2 => ?_⟩
                    refine ⟨rfl, _, rfl, ifNe (fun hne => ?_) fun he => ?_⟩
                    · have bNL := se _ _ b1
                      refine ⟨_, rfl, _, bNL, by rw [List.length_map]; exact size_lt (by omega), Same.upd (smc.trans se) hNL, bs ++ [(as[i], v)], by rw [upd_same, List.map_append]; rfl, fun q hq => ?_, fun j v' hj hv' hn' h => ?_, by rw [List.length_append]; show _ + 1 ≤ _; omega⟩
                      · have old : ∀ (z : Addr) (vv : Pt), He z = some (.dK (vK vv)) → upd He NL (.lst (bs.map (fun q => V.ref q.1) ++ [V.ref as[i]])) z = some (.dK (vK vv)) := fun z vv hz => by rw [upd_ne (ne_of hz bNL (by intro z; cases z))]; exact hz
                        rcases List.mem_append.mp hq with hq | hq
                        · obtain ⟨q1, q2, q3⟩ := b2 q hq
                          exact ⟨old _ _ (se _ _ q1), q2, q3⟩
                        · rw [List.mem_singleton.mp hq]
                          exact ⟨old _ _ (se _ _ (smc _ _ hd)), hvm, fun hdv => hne (hr1.2 hdv)⟩
                      · exact absurd h (List.append_ne_nil_of_right_ne_nil _ (List.cons_ne_nil _ _))
                    · refine ⟨smc.trans se, bs, se _ _ b1, fun q hq => ?_, fun j v' hj hv' hn' => ?_, by omega⟩
                      · obtain ⟨q1, q2, q3⟩ := b2 q hq
                        exact ⟨se _ _ q1, q2, q3⟩
                      · by_cases e : j = i
                        · subst e
                          rw [hv] at hv'
                          cases hv'
                          exact absurd (hr1.1 he) hn'
                        · exact b3 j v' (by omega) hv' hn'
                  · rintro Hc ⟨smc, bs, b1, b2, b3, b4⟩
                    rw [List.length_map, w2] at b3
                    obtain ⟨v0, vg, vn⟩ := grid (fun y z => cx.dvd_mul) en.dok.gd.wf (d := d.toNat) (fun t ht => by have := e3 t ht; omega) (hdeg d e1 e2) (not_all en.gcd hng)
                    have vm : v0 ∈ ws := by
                      obtain ⟨i1, u1, z1⟩ := List.mem_map.mp vg.1
                      obtain ⟨i2, u2, z2⟩ := List.mem_map.mp vg.2.1
                      obtain ⟨i3, u3, z3⟩ := List.mem_map.mp vg.2.2
                      exact (hmem v0).2 ⟨i1, i2, i3, List.mem_range.mp u1, List.mem_range.mp u2, List.mem_range.mp u3, by rw [z1, z2, z3]⟩
                    obtain ⟨j0, hj0⟩ := List.getElem?_of_mem vm
                    have bne := b3 j0 v0 (List.getElem?_eq_some_iff.mp hj0).1 hj0 vn
                    have enc' := enb.same smc
                    obtain ⟨⟨q0, v1⟩, bs', rfl⟩ := List.exists_cons_of_ne_nil bne
                    obtain ⟨q1, q2, q3⟩ := b2 _ List.mem_cons_self
                    refine ⟨_, rfl, size_of (by show 0 < 1000; decide), fun el hel => ?_⟩
                    have sl := Same.upd (o := .lst []) (Same.refl Hc) hel
                    refine ⟨NL, el, _, rfl, rfl, SqL.of (sl _ _ b1), SqL.of upd_same, _, rfl, ?_⟩
                    have enl := enc'.same sl
                    have h0 : 0 < n := hn.elim (fun h => by rw [h]; decide) fun h => by rw [h]; decide
                    have h100 : n < 100 := hn.elim (fun h => by rw [h]; decide) fun h => by rw [h]; decide
                    have q1l := sl _ _ q1
                    refine iteF ?_
                    refine ⟨_, rfl, _, rfl, _, rfl, NL, _, (0 : Nat), _, rfl, rfl, SqL.of (sl _ _ b1), atI_nat (j := 0) rfl, ?_⟩
                    refine ⟨L, q0, rs, ms, n, P1, v1, rfl, enl.pr, h0, h100, fun i j hi hj => Nat.lt_of_le_of_lt (enl.rw_.eo i j hi hj).2 (by decide), q1l, (p6 v1 q2).2, fun Hf mxa sf mx => ?_⟩
                    have hdet : detn n (fun i j => ev (P1 i j) v1) = ev D v1 := by rw [← detE_n hn, ← en.dok.ev v1]
                    refine ⟨mxa, n, _, rfl, mx, hn, fun i j hi hj => Nat.le_trans (ent_le enl.rw_ (p6 v1 q2).1 i j hi hj) (by decide), by rw [hdet]; exact det_lt hn en.dok (p6 v1 q2).1, fun Hg cc bb pp sg hcc hzz hoo => ?_⟩
                    obtain ⟨dcc, tcc, k3, k4⟩ := id hcc
                    refine ⟨cc, dcc, _, rfl, k3, cc, x, !bb, pp, rfl, hcc, _, rfl, ?_⟩
                    rw [zn_in' hzz cx, hdet, decide_eq_false q3]
                    refine ⟨_, rfl, iteF ?_⟩
                    exact ⟨_, _, _, _, _, _, rfl, ((enl.same sf).same sg)⟩
                · obtain ⟨dx, D1, od, h1, h2⟩ := id en.mn
                  refine ⟨_, rfl, _, rfl, a, dx, _, rfl, h1, by rw [lookup_putF, if_neg (by decide +kernel)]; rfl, a, D, rfl, en.mn, by omega, fun t ht => by have := dl6 t ht; omega, fun H0 d0 s0 q1 q2 q3 => ⟨_, _, rfl, rfl, _, rfl, ifD (fun hlt => ?_) fun _ => ⟨_, _, _, _, _, _, rfl, en.same s0⟩⟩⟩
                  have hx00 : x ≠ 0 := fun z => hx0 (by rw [z])
                  have hdeg : ∀ d : Int, -1 ≤ d → (d = -1 ∨ ∃ t ∈ D, d = dg t.1) → x = 0 ∨ ((d.toNat : Nat) : Int) < x := fun d _ h => .inr (by
                    rcases h with h | ⟨t, ht, h⟩
                    · omega
                    · have := q3 t ht
                      omega)
                  replace en := en.same s0
                  have ee := en
                  obtain ⟨dx, D1, od, h1, h2⟩ := id en.mn
                  obtain ⟨t0, ht0⟩ : ∃ t, t ∈ D := by
                    cases D with
                    | nil => exact absurd (fun t ht => nomatch ht) (not_all en.gcd hng)
                    | cons t r => exact ⟨t, List.mem_cons_self⟩
                  refine ⟨_, rfl, a, dx, _, rfl, h1, by rw [lookup_putF, if_neg (by decide +kernel)]; rfl, a, D, rfl, en.mn, by omega, fun t ht => by have := dl6 t ht; omega, fun Ha d sa e1 e2 e3 => ?_⟩
                  have hd0 : 0 ≤ d := by have := e3 t0 ht0; omega
                  have hd6 : d ≤ 6 := by
                    rcases e2 with h | ⟨t, ht, h⟩
                    · omega
                    · have := dl6 t ht
                      omega
                  refine ⟨_, _, rfl, rfl, d.toNat + 1, congrArg (fun z : Int => [V.int z]) (show d + 1 = ((d.toNat + 1 : Nat) : Int) by omega), by omega, fun Hb l2 ws sb dl hlen hmem => ?_⟩
                  have enb := (en.same sa).same sb
                  obtain ⟨as, w1, w2, w3⟩ := id dl
                  have p6 : ∀ v ∈ ws, P6 v ∧ PtS v := fun v hv => by
                    obtain ⟨i1, i2, i3, j1, j2, j3, rfl⟩ := (hmem v).1 hv
                    exact ⟨⟨by show ((i1 : Nat) : Int).natAbs ≤ 6; omega, by show ((i2 : Nat) : Int).natAbs ≤ 6; omega, by show ((i3 : Nat) : Int).natAbs ≤ 6; omega⟩, ⟨by show ((i1 : Nat) : Int).natAbs < 1000; omega, by show ((i2 : Nat) : Int).natAbs < 1000; omega, by show ((i3 : Nat) : Int).natAbs < 1000; omega⟩⟩
                  refine ⟨l2, rfl, ⟨_, SqL.of w1⟩, fun NL hNL => ?_⟩
                  refine lc_it (walk_list (K := K) (a := l2) (xs := as.map V.ref)) (fun i H' => Same Hb H' ∧ ∃ bs : List (Addr × Pt), H' NL = some (.lst (bs.map fun q => V.ref q.1)) ∧ (∀ q ∈ bs, H' q.1 = some (.dK (vK q.2)) ∧ q.2 ∈ ws ∧ ¬ x ∣ ev D q.2) ∧ (∀ j v, j < i → ws[j]? = some v → ¬ x ∣ ev D v → bs ≠ []) ∧ bs.length ≤ i) ⟨Same.upd (Same.refl _) hNL, [], upd_same, fun q hq => (nomatch hq), fun j v hj => by omega, Nat.le_refl 0⟩ (fun i H' _ p => SqL.of (p.1 _ _ w1)) ?_ ?_
                  · rintro i y Hc Hd hi ⟨smc, bs, b1, b2, b3, b4⟩ ⟨rfl, hy⟩
                    rw [List.length_map] at hi
                    rw [List.getElem?_map, List.getElem?_eq_getElem hi] at hy
                    cases (Option.some.inj hy)
                    obtain ⟨v, hv, hd⟩ := w3 i as[i] (List.getElem?_eq_getElem hi)
                    have hvm := List.mem_of_getElem? hv
                    have enc' := enb.same smc
                    obtain ⟨dxc, Dc, odc, h1c, h2c⟩ := id enc'.mn
                    refine ⟨rfl, ?_⟩
                    refine ⟨_, rfl, a, dxc, _, rfl, h1c, by rw [lookup_putF, if_neg (by decide +kernel)]; rfl, _, rfl, _, rfl, rfl, rfl, a, as[i], D, v, x, rfl, enc'.mn, smc _ _ hd, by omega, (p6 v hvm).2, cx, cx60, fun He r se hr1 hr2 => ?_⟩
                    refine ⟨rfl, _, rfl, ifNe (fun hne => ?_) fun he => ?_⟩
                    · have bNL := se _ _ b1
                      refine ⟨_, rfl, _, bNL, by rw [List.length_map]; exact size_lt (by omega), Same.upd (smc.trans se) hNL, bs ++ [(as[i], v)], by rw [upd_same, List.map_append]; rfl, fun q hq => ?_, fun j v' hj hv' hn' h => ?_, by rw [List.length_append]; show _ + 1 ≤ _; omega⟩
                      · have old : ∀ (z : Addr) (vv : Pt), He z = some (.dK (vK vv)) → upd He NL (.lst (bs.map (fun q => V.ref q.1) ++ [V.ref as[i]])) z = some (.dK (vK vv)) := fun z vv hz => by rw [upd_ne (ne_of hz bNL (by intro z; cases z))]; exact hz
                        rcases List.mem_append.mp hq with hq | hq
                        · obtain ⟨q1, q2, q3⟩ := b2 q hq
                          exact ⟨old _ _ (se _ _ q1), q2, q3⟩
                        · rw [List.mem_singleton.mp hq]
                          exact ⟨old _ _ (se _ _ (smc _ _ hd)), hvm, fun hdv => hne (hr1.2 hdv)⟩
                      · exact absurd h (List.append_ne_nil_of_right_ne_nil _ (List.cons_ne_nil _ _))
                    · refine ⟨smc.trans se, bs, se _ _ b1, fun q hq => ?_, fun j v' hj hv' hn' => ?_, by omega⟩
                      · obtain ⟨q1, q2, q3⟩ := b2 q hq
                        exact ⟨se _ _ q1, q2, q3⟩
                      · by_cases e : j = i
                        · subst e
                          rw [hv] at hv'
                          cases hv'
                          exact absurd (hr1.1 he) hn'
                        · exact b3 j v' (by omega) hv' hn'
                  · rintro Hc ⟨smc, bs, b1, b2, b3, b4⟩
                    rw [List.length_map, w2] at b3
                    obtain ⟨v0, vg, vn⟩ := grid (fun y z => cx.dvd_mul) en.dok.gd.wf (d := d.toNat) (fun t ht => by have := e3 t ht; omega) (hdeg d e1 e2) (not_all en.gcd hng)
                    have vm : v0 ∈ ws := by
                      obtain ⟨i1, u1, z1⟩ := List.mem_map.mp vg.1
                      obtain ⟨i2, u2, z2⟩ := List.mem_map.mp vg.2.1
                      obtain ⟨i3, u3, z3⟩ := List.mem_map.mp vg.2.2
                      exact (hmem v0).2 ⟨i1, i2, i3, List.mem_range.mp u1, List.mem_range.mp u2, List.mem_range.mp u3, by rw [z1, z2, z3]⟩
                    obtain ⟨j0, hj0⟩ := List.getElem?_of_mem vm
                    have bne := b3 j0 v0 (List.getElem?_eq_some_iff.mp hj0).1 hj0 vn
                    have enc' := enb.same smc
                    obtain ⟨⟨q0, v1⟩, bs', rfl⟩ := List.exists_cons_of_ne_nil bne
                    obtain ⟨q1, q2, q3⟩ := b2 _ List.mem_cons_self
                    refine ⟨_, rfl, size_of (by show 0 < 1000; decide), fun el hel => ?_⟩
                    have sl := Same.upd (o := .lst []) (Same.refl Hc) hel
                    refine ⟨NL, el, _, rfl, rfl, SqL.of (sl _ _ b1), SqL.of upd_same, _, rfl, ?_⟩
                    have enl := enc'.same sl
                    have h0 : 0 < n := hn.elim (fun h => by rw [h]; decide) fun h => by rw [h]; decide
                    have h100 : n < 100 := hn.elim (fun h => by rw [h]; decide) fun h => by rw [h]; decide
                    have q1l := sl _ _ q1
                    refine iteF ?_
                    refine ⟨_, rfl, _, rfl, _, rfl, NL, _, (0 : Nat), _, rfl, rfl, SqL.of (sl _ _ b1), atI_nat (j := 0) rfl, ?_⟩
                    refine ⟨L, q0, rs, ms, n, P1, v1, rfl, enl.pr, h0, h100, fun i j hi hj => Nat.lt_of_le_of_lt (enl.rw_.eo i j hi hj).2 (by decide), q1l, (p6 v1 q2).2, fun Hf mxa sf mx => ?_⟩
                    have hdet : detn n (fun i j => ev (P1 i j) v1) = ev D v1 := by rw [← detE_n hn, ← en.dok.ev v1]
                    refine ⟨mxa, n, _, rfl, mx, hn, fun i j hi hj => Nat.le_trans (ent_le enl.rw_ (p6 v1 q2).1 i j hi hj) (by decide), by rw [hdet]; exact det_lt hn en.dok (p6 v1 q2).1, fun Hg cc bb pp sg hcc hzz hoo => ?_⟩
                    obtain ⟨dcc, tcc, k3, k4⟩ := id hcc
                    refine ⟨cc, dcc, _, rfl, k3, cc, x, !bb, pp, rfl, hcc, _, rfl, ?_⟩
                    rw [zn_in' hzz cx, hdet, decide_eq_false q3]
                    refine ⟨_, rfl, iteF ?_⟩
                    exact ⟨_, _, _, _, _, _, rfl, ((enl.same sf).same sg)⟩
              · rintro σ H8 ⟨r1, r2, r3, r4, r5, r6, rfl, en⟩
                exact ⟨p, L, a, c0, cl, n, rs, ms, P1, D, g, b0, ps0, cs, f, r1, r2, r3, r4, r5, r6, rfl, en⟩
            · rintro _ H8 ⟨p, L, a, c0, cl, n, rs, ms, P1, D, g, b0, ps0, cs, f, r1, r2, r3, r4, r5, r6, rfl, en⟩
              have hn := en.hn
              have nb60 : nb n < 2 ^ 60 := by rcases hn with rfl | rfl <;> decide
              have co : ∀ t ∈ D, t.2 ≠ 0 ∧ t.2.natAbs < 2 ^ 60 := fun t ht => ⟨en.dok.gd.wf.2 t ht, Nat.lt_of_le_of_lt (Nat.le_trans (coef_le ht) en.dok.gd.nr) nb60⟩
              have ld : D.length ≤ 397 := Nat.le_trans en.dok.ln (by rcases hn with rfl | rfl <;> decide)
              obtain ⟨dx, D1, od, h1, h2⟩ := id en.mn
              refine ⟨_, rfl, rfl, _, rfl, a, dx, _, rfl, h1, by rw [lookup_putF, if_neg (by decide +kernel)]; rfl, a, D, rfl, en.mn, fun g' hg' => ?_⟩
              have eg : g' = g := Int.dvd_antisymm hg'.1 en.gcd.1 ((en.gcd.2 g').2 ((hg'.2 g').1 (Int.dvd_refl _))) ((hg'.2 g).2 ((en.gcd.2 g).1 (Int.dvd_refl _)))
              refine ⟨g', rfl, gcd_small hg' co, fun H9 c1 b1 ps1 s9 nc hc hz ho => ?_⟩
              rw [eg] at hz
              rw [show (b1 != true) = !b1 by cases b1 <;> rfl] at hc
              have ch9 := en.ch.same s9
              obtain ⟨dc, tc, k1, k2⟩ := id ch9
              obtain ⟨de, te, k3, k4⟩ := id hc
              obtain ⟨no1, no2⟩ := and_no2 en.zn hz
              refine ⟨c0, dc, _, c1, de, _, rfl, rfl, k1, k3, c0, c1, b0, !b1, ps0, ps1, rfl, ch9, hc, en.ok, ho, fun z => ?_, fun H10 c2 ps2 s10 nc2 hc2 hm => ?_⟩
              · rw [z.1, z.2] at no1
                cases no1
              obtain ⟨df, tf, k5, k6⟩ := id hc2
              refine ⟨c2, df, _, rfl, k5, c2, _, ps2, rfl, hc2, _, rfl, ?_⟩
              rw [no1, no_mem hm no2]
              refine iteF ?_
              have s8 := s9.trans s10
              have m10 := en.mn.same s8
              obtain ⟨dx, D1, od, h1, h2⟩ := id m10
              refine ⟨_, rfl, _, rfl, a, dx, _, a, dx, _, rfl, rfl, h1, h1, a, a, D, D, rfl, m10, m10, by omega, fun H11 d s11 nd md => ?_⟩
              rw [psub_self] at md
              obtain ⟨dy, D2, od2, h3, h4⟩ := id md
              refine ⟨d, dy, _, rfl, h3, by rw [lookup_putF, if_neg (by decide +kernel)]; rfl, d, [], rfl, md, fun t ht => (nomatch ht), fun H12 c3 g3 b3 ps3 s12 nc3 hg3 hc3 hz3 ho3 => ?_⟩
              have e3 : g3 = 0 := hg3.zero.mpr fun c hc => (nomatch hc)
              obtain ⟨rfl, rfl⟩ : b3 = true ∧ ps3 = [] := by
                rcases hz3 with ⟨_, h, h'⟩ | ⟨h, _⟩
                · exact ⟨h, h'⟩
                · exact absurd e3 h
              refine ⟨rfl, rfl, fun H13 c4 s13 nc4 hc4 => ?_⟩
              have hc3' := hc3.same s13
              obtain ⟨dg1, tg, k7, k8⟩ := id hc3'
              obtain ⟨dh, th, k9, k10⟩ := id hc4
              exact ⟨c3, dg1, _, c4, dh, _, rfl, rfl, k7, k9, c3, c4, rfl, hc3', hc4, k _⟩
end
end Ef
/-! text Z1 -/
set_option Elab.async false
set_option linter.all false
set_option maxRecDepth 100000
set_option maxHeartbeats 0
namespace Ef
open PySem PySem.Spec PyProof.Rows L2
theorem fun_bindsA {K : PySem.W.Frag} {x qual : Str} {st : Stmt} {f : Addr} {fd : FuncData} {ps : List Str} (F : Fun K x qual st f fd)
    (h : ∀ (kV doc pm : Value) (an : Option Addr) (cdv ct : Value) (us : List Value), us.length = ps.length → bindArgs (PySem.W.fnOf x qual (defArgs st) (defBody st) (defScope st) .none kV doc pm an cdv ct) ⟨us, []⟩ = pure (ps.zip us)) (s : Shared) (us : List Value) (hl : us.length = ps.length) : BindsTo s fd ⟨us, []⟩ (ps.zip us) := by
  obtain ⟨oc, od, kV, doc, pm, an, cdv, ct, osl, rfl, lk, hcd⟩ := F.ex
  exact .of_eq (h kV doc pm an cdv ct us hl)
theorem law_ok {P : Program} {w : World} {K : PySem.W.Frag} {h : Heap} {mg : Str → Option Value} {f : Addr} (X : K.In h) (G : h.Ns mainGlobals mg) (hfa : mg ("law" : Str) = some (.ref f)) (c : SaysB fa fn K) :
    ∃ fd : FuncData, (∀ (s : Shared) (v : Value), BindsTo s fd ⟨[v], []⟩ [("_law_script", v)]) ∧ ∀ base : Heap, K.In base → base.Ns mainGlobals mg → FnOk P w K mg base CX0 10 f fd ["_law_script"] (sp_law K) := by
  have T := ok_of X G c
  obtain ⟨fd, F⟩ := T.f_law
  have e := hfa.symm.trans T.g_law
  cases e
  have b := fun_bindsA (ps := ["_law_script"]) F fun _ _ _ _ _ _ us hl => match us, hl with | [_], _ => rfl
  exact ⟨fd, fun s v => b s [v] rfl, fun base _ _ => r_law T F⟩
end Ef
open PySem PySem.W PySem.Calls PyProof.Rows
theorem PySem.Challenge.cw_everyfield_k03_whole_unknowns_and_matric_holds : PySem.Challenge.rw_everyfield_k03_whole_unknowns_and_matric.Holds := by
  w_on; o_law
  refine HandSHeadRun.head_any (r := OpenLaw.row PySem.Challenge.rw_everyfield_k03_whole_unknowns_and_matric) (q := view (OpenLaw.row PySem.Challenge.rw_everyfield_k03_whole_unknowns_and_matric).prog [54]) (H := Ef.hk) (ob := Ef.ob) (M := 7400) (loose := Ef.loose) (d := HandSHeadRun.topDef (OpenLaw.row PySem.Challenge.rw_everyfield_k03_whole_unknowns_and_matric).prog 54) (kwd := []) Ef.ob_eq
    (by kernel_rfl) (fun s => by kernel_rfl) Ef.run (by kernel_rfl) (by kernel_rfl) (by kernel_rfl) (by rfl) (by first | assumption | decide +kernel) (by decide +kernel) ⟨rfl, rfl, rfl, rfl, rfl, by decide +kernel⟩ ?hw ?hc
  case hw => w_witness2
  case hc =>
    refine L2.walk_ofE (l := PySem.Challenge.rw_everyfield_k03_whole_unknowns_and_matric) (n := 63) (k := 10) (x := "_law_script") (CX := L2.CX0) rfl (by decide) (by kernel_rfl) ⟨rfl, by decide, by decide⟩ ?F (fun _ _ _ _ z => z)
    intro w mg fa h Y G hmg0
    obtain ⟨K, KX, c⟩ := Y
    have hmg : mg ("law" : PySem.Str) = some (.ref fa) := by
      have e : (HandSHeadRun.topDef (OpenLaw.row PySem.Challenge.rw_everyfield_k03_whole_unknowns_and_matric).prog 54).name = ("law" : PySem.Str) := by kernel_rfl
      rw [← e]
      exact hmg0
    obtain ⟨fd, hb, hF⟩ := Ef.law_ok (P := (PySem.Challenge.rw_everyfield_k03_whole_unknowns_and_matric).prog) (w := w) KX G hmg c
    exact ⟨K, fd, Ef.sp_law K, KX, hb, fun H a ns hl _ hS => ⟨a, ns, rfl, hS, fun _ => rfl⟩, hF⟩
