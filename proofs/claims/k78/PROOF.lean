import PyProof.Rows.All
import Wide.All
import OpenK.AllK
import Wide.FinOn
import PyProof.EqAt
import PyProof.EqKinds
import PyProof.TupleCall
import KE.KStar
import KE.KOpsOwn
import HandS.ForMost
import HandS.ForExc
import HandS.More
import HandS.Star
import HandS.ClsMeth
import HandS.Property
import HandS.IsInst
import HandS.OwnEq
import HandS.WordsExc
import HandS.SlotsOwn
import KE.KFromBytes
import KE.KExcSuper
import KE.KSuper
import HandS.ExcIs
import HandS.ExcField
import HandS.ExcSuper
import KE.KIsAll
import HandS.RaiseMore
import KE.KStateDown
import HandS.Defaults
import HandS.Lambda
import HandS.EndTab
import HandS.HeadEnd
import HandS.HeadHook1
import HandS.HeadHook2
import HandS.HeadHook3
import HandS.HeadHook4
import HandS.HeadNt
import HandS.HeadWalk
import HandS.Wide
import HandS.Rev
import HandS.RevTup
import HandS.Flow
import HandS.Evl
import HandS.Head0
import HandS.Head1
import HandS.Head2
import Lean
import HandS.Set
import HandS.SetFor
import HandS.Strs
import HandS.Zip
import HandS.Style
import HandS.Walk
import HandS.Text
import KE.GoesMore
import KE.GoesEnum
import HandS.DictComp
import PyProof.Rows.CountFlat
import HandS.Comp
import PyProof.StrLawsRepr
import PySem.Challenge.RW_keptphrases_k78_books_beside_books
set_option Elab.async false
set_option linter.all false
set_option maxRecDepth 100000
set_option maxHeartbeats 2000000
/-! Calls and operators of own classes by positional promises (FnR), over the modules HandS. -/
namespace Kp
open PySem PySem.Spec PyProof.Rows L2

/-! ### a def's positional promise from its body -/
section
variable {P : Program} {w : World} {K : PySem.W.Frag} {mg : Str → Option Value} {base : Heap} {x qual : Str} {st : Stmt} {f : Addr} {fd : FuncData} {N ps : List Str} {k : Nat} {sp : Sp}
/-- the body's promise -/
def BodyX (P : Program) (w : World) (K : PySem.W.Frag) (mg : Str → Option Value) (base : Heap) (qual : Str) (st : Stmt) (f : Addr) (N : List Str) (k : Nat) (sp : Sp) : Prop :=
  ∀ (cdv : Value) (A : Around) (outer : List Env) (s : Shared) (H : Hp) (vs : List V) (Q : VK) (E : XK), Room k (A.deeper (envOfC qual (defScope st) s.heap.objs.size f cdv)) → sp vs H Q E →
    ∃ t, PSs (cxOf (L2.CX P w) P w K mg base N qual (defScope st) f cdv A outer s H E) (defBody st) t ∧ t { nx := fun _ H' => Q .non H', rt := Q } (start N vs) H
abbrev BindN (x qual : Str) (st : Stmt) (ps : List Str) : Prop := ∀ (kV doc pm : Value) (an : Option Addr) (cdv ct : Value) (us : List Value), us.length = ps.length →
  bindArgs (PySem.W.fnOf x qual (defArgs st) (defBody st) (defScope st) .none kV doc pm an cdv ct) ⟨us, []⟩ = pure (ps.zip us)
abbrev BindS (x qual : Str) (st : Stmt) (ps : List Str) (pv : Str) : Prop := ∀ (kV doc pm : Value) (an : Option Addr) (cdv ct : Value) (us rest : List Value), us.length = ps.length →
  bindArgs (PySem.W.fnOf x qual (defArgs st) (defBody st) (defScope st) .none kV doc pm an cdv ct) ⟨us ++ rest, []⟩ = (newTuple rest >>= fun t => pure (ps.zip us ++ [(pv, t)]))
theorem fnP (F : Fun K x qual st f fd) (S : FnScope N ps (defScope st)) (hb : BindN x qual st ps) (len : ∀ vs H Q E, sp vs H Q E → vs.length = ps.length) (hbody : BodyX P w K mg base qual st f N k sp) :
    FnR P w K mg base (L2.CX P w) (k + 1) f sp :=
  ((F.okX S len hbody).raw (F.binds hb) .nil).imp fun vs H Q E h => by rw [List.append_nil]; exact h
/-- the promise of a def with a star parameter, told of what the caller hands: n ahead, then the rest -/
def spStar (n : Nat) (sp : Sp) : Sp := fun vs H Q E => ∃ ws rest, vs = ws ++ rest ∧ ws.length = n ∧ rest.length ≤ sizeLine ∧ ∀ p, H p = Option.none → sp (ws ++ [V.ref p]) (upd H p (.tup rest)) Q E
theorem fnS {pv : Str} (F : Fun K x qual st f fd) (S : FnScope N (ps ++ [pv]) (defScope st)) (hb : BindS x qual st ps pv) (hbody : BodyX P w K mg base qual st f N k sp) :
    FnR P w K mg base (L2.CX P w) (k + 1) f (spStar ps.length sp) := by
  obtain ⟨oc, od, kV, doc, pm, an, cdv, ct, osl, rfl, lk, hcd⟩ := F.ex
  exact StX.fn_star lk hcd S StX.cxUp (hb kV doc pm an cdv ct) fun A outer s H vs Q E hr hsp => hbody cdv A outer s H vs Q E hr hsp
theorem bind_star0 {B : List Value → Sem (List (Str × Value))} {pv : Str} (h0 : B [] = (newTuple [] >>= fun t => pure [(pv, t)])) (h1 : ∀ r rs, B (r :: rs) = (newTuple (r :: rs) >>= fun t => pure [(pv, t)])) :
    ∀ us rest : List Value, us.length = ([] : List Str).length → B (us ++ rest) = (newTuple rest >>= fun t => pure (([] : List Str).zip us ++ [(pv, t)]))
  | [], [], _ => h0
  | [], r :: rs, _ => h1 r rs
end

section
variable {X : Cx} {pins : List (Addr × Obj)} {σ : L2.St} {H : Hp} {s : Shared} {k i : Nat} {f g C D : Addr} {sp : Sp} {E : XK} {x m a : Str} {e o b : Expr} {es : List Expr} {te ta tb : TE} {t : TA} {p pos apos sp_ sp2 : Pos}
abbrev FX (X : Cx) (k : Nat) (f : Addr) (sp : Sp) : Prop := FnR X.prog X.w X.K X.mg X.base (L2.CX X.prog X.w) k f sp
abbrev PsX (X : Cx) (E : XK) : Prop := Passes (L2.CX X.prog X.w) X E

/-! ### calls of defs -/
def tCallR (sp : Sp) (E : XK) (t : TA) : TE := fun σ H Q => t σ H fun vs H1 => sp vs H1 Q E
theorem pe_callR (F : FX X k f sp) (hr : Room k X.A) (hk : PySem.W.keepIn X.K (.ref f) = true) (hg : Gl X x) (hm : X.mg x = some (.ref f)) (hx : PsX X E) (ha : PA X (e :: es) t) (hd : (x == ("__debug__" : Str)) = false := by decide)
    (he : starEach (e :: es) X.env = (false, eval e X.env) :: starEach es X.env := by rfl) (hpl : (backTo pos (starEach es X.env)).any (·.1) = false := by rfl) :
    PE X (.Call (.Name x p) (e :: es) [] pos) (tCallR sp E t) := by
  refine ⟨fun pins s σ H Q I h => ?_⟩
  refine wpAny_Call_Name_kw (ld_glob I hg hm ?_ hd)
  refine PySem.W.callWith_K (h₀ := X.base) I.ok.mod.kin hk (thn (ha.run pos pins s σ H _ I h) fun us s1 ⟨vs, H1, I1, r, q⟩ => ⟨I1.kIn, ?_⟩) he hpl
  exact wpAny_call (run_fnR F hr hx I1 r q)
/-- C(e, ..): the class at C by its name -/
theorem pe_mkR (M : Mk X.K C f) (F : FX X k f sp) (hr : Room (k + 1) X.A) (hg : Gl X x) (hm : X.mg x = some (.ref C)) (hx : PsX X E) (ha : PA X (e :: es) t) (hdb : (x == ("__debug__" : Str)) = false := by decide)
    (he : starEach (e :: es) X.env = (false, eval e X.env) :: starEach es X.env := by rfl) (hpl : (backTo pos (starEach es X.env)).any (·.1) = false := by rfl) : PE X (.Call (.Name x p) (e :: es) [] pos) (StX.tMakeR C sp E t) :=
  StX.pe_makeR M F hr hg hm hx ha hdb he hpl
/-- what a made instance's promise asks -/
def mkSp (C : Addr) (sp : Sp) (E : XK) : List V → Hp → VK → Prop := fun vs H Q => ∀ x dx, H x = Option.none → H dx = Option.none → dx ≠ x →
  sp (V.ref x :: vs) (upd (upd H dx (.own x)) x (.ins C dx [])) (fun v H2 => v = .non ∧ Q (.ref x) H2) E
/-- C( *y ) -/
def tMkS1 (K : PySem.W.Frag) (C : Addr) (sp : Sp) (E : XK) (te : TE) : TE := fun σ H Q => te σ H fun y H1 => ∃ a xs, y = V.ref a ∧ (SqT K H1 a xs ∨ SqL K H1 a xs) ∧ mkSp C sp E xs H1 Q
theorem pe_mkS1 (M : Mk X.K C f) (F : FX X k f sp) (hr : Room (k + 1) X.A) (hg : Gl X x) (hm : X.mg x = some (.ref C)) (hx : PsX X E) (he : PE X e te) (hd : (x == ("__debug__" : Str)) = false := by decide)
    (hst : starEach [.Starred e sp_] X.env = [(true, eval e X.env)] := by rfl) : PE X (.Call (.Name x p) [.Starred e sp_] [] pos) (tMkS1 X.K C sp E te) := by
  refine ⟨fun pins s σ H Q I h => ?_⟩
  refine wpAny_Call_Name_kw (ld_glob I hg hm ?_ hd)
  refine PySem.W.callWith_S (h₀ := X.base) I.ok.mod.kin M.kp (thn (he.run pins s σ H _ I h) fun v s1 ⟨y, H1, I1, ry, a, xs, ey, hxs, q⟩ => ?_) hst
  subst ey
  obtain rfl : v = Value.ref a := ry
  exact StX.star_any I1 hxs fun us s2 I2 rv => ⟨I2.kIn, StX.run_makeR M F hr hx I2 rv q⟩
/-- cls( *y ), cls a slot that holds the class at C -/
def tClsS1 (K : PySem.W.Frag) (i : Nat) (C : Addr) (sp : Sp) (E : XK) (te : TE) : TE := fun σ H Q => σ[i]? = some (some (V.ref C)) ∧ tMkS1 K C sp E te σ H Q
theorem pe_clsS1 (M : Mk X.K C f) (F : FX X k f sp) (hr : Room (k + 1) X.A) (hx : PsX X E) (he : PE X e te) (hN : X.N[i]? = some x := by rfl) (hv : Vis X.env.scope x := by first | exact Or.inl rfl | exact Or.inr (Or.inl rfl) | exact Or.inr (Or.inr rfl)) (hd : (x == ("__debug__" : Str)) = false := by decide)
    (hcd : (x == ("__classdict__" : Str)) = false := by decide)
    (hst : starEach [.Starred e sp_] X.env = [(true, eval e X.env)] := by rfl) : PE X (.Call (.Name x p) [.Starred e sp_] [] pos) (tClsS1 X.K i C sp E te) := by
  refine ⟨fun pins s σ H Q I h => ?_⟩
  obtain ⟨hs, h⟩ := h
  refine wpAny_Call_Name_kw (thn ((pe_var (pos := p) (i := i) hN hv hd hcd).run pins s σ H (fun v H1 => v = .ref C ∧ H1 = H) I ⟨.ref C, hs, rfl, rfl⟩) fun u s1 ⟨v, H1, I1, r1, q1⟩ => ?_)
  obtain ⟨ev, eH⟩ := q1
  subst ev
  rw [eH] at I1
  obtain rfl : u = Value.ref C := r1
  refine PySem.W.callWith_S (h₀ := X.base) I1.ok.mod.kin M.kp (thn (he.run pins s1 σ H _ I1 h) fun v s2 ⟨y, H2, I2, ry, a, xs, ey, hxs, q⟩ => ?_) hst
  subst ey
  obtain rfl : v = Value.ref a := ry
  exact StX.star_any I2 hxs fun us s3 I3 rv => ⟨I3.kIn, StX.run_makeR M F hr hx I3 rv q⟩
/-! ### C( *x, .. ): the first argument starred, more behind it -/
theorem evalArgs_many {M : Model} {A : Around} {Ee : Value → Shared → Prop} {s : Shared} {f : Value} {y1 y2 : Bool × Sem Value} {rest : List (Bool × Sem Value)} {Q : Args → Shared → Prop}
    (h : wpAny M A (spliced (y1 :: y2 :: rest)) (fun vs s' => Q ⟨vs, []⟩ s') Ee s) : wpAny M A (evalArgs f true (y1 :: y2 :: rest) []) Q Ee s := by
  obtain ⟨b1, x1⟩ := y1
  cases b1 with
  | false => exact PySem.Calls.evalArgs_plain h
  | true =>
    unfold evalArgs
    show wpAny M A (spliced ((true, x1) :: y2 :: rest) >>= _) Q Ee s
    refine wpAny_bind (wpAny_mono h (fun vs s' h' => ?_) fun _ _ x => x)
    refine wpAny_holding ?_
    exact wpAny_bind (wpAny_pure (wpAny_bind (wpAny_pure (wpAny_pure h'))))
theorem callWith_SS {M : Model} {A : Around} {Ee : Value → Shared → Prop} {s : Shared} {K : PySem.W.Frag} {env : Env} {e1 e2 : Expr} {p1 p2 : Pos} {f : Value} {first : List Value} {Q : Value → Shared → Prop} {h₀ : Heap} (_X : K.In h₀) (hk : PySem.W.keepIn K f = true)
    (h : wpAny M A (spliced (backTo pos (starEach [.Starred e1 p1, .Starred e2 p2] env))) (fun vs s₁ => K.In s₁.heap ∧ wpAny M A (call f (first ++ vs)) Q Ee s₁) Ee s) :
    wpAny M A (callWith pos f first (backTo pos (starEach [.Starred e1 p1, .Starred e2 p2] env)) []) Q Ee s := by
  refine PySem.W.ks_call rfl (PySem.W.keeps_K hk) ?_
  exact evalArgs_many h
def tMk (C : Addr) (sp : Sp) (E : XK) (t : TA) : TE := fun σ H Q => t σ H fun vs H1 => mkSp C sp E vs H1 Q
theorem pe_mkSS {e1 e2 : Expr} {p1 p2 : Pos} (M : Mk X.K C f) (F : FX X k f sp) (hr : Room (k + 1) X.A) (hg : Gl X x) (hm : X.mg x = some (.ref C)) (hx : PsX X E) (ha : PA X [.Starred e1 p1, .Starred e2 p2] t) (hd : (x == ("__debug__" : Str)) = false := by decide) :
    PE X (.Call (.Name x p) [.Starred e1 p1, .Starred e2 p2] [] pos) (tMk C sp E t) := by
  refine ⟨fun pins s σ H Q I h => ?_⟩
  refine wpAny_Call_Name_kw (ld_glob I hg hm ?_ hd)
  refine callWith_SS (h₀ := X.base) I.ok.mod.kin M.kp (thn (ha.run pos pins s σ H _ I h) fun us s1 ⟨vs, H1, I1, r, q⟩ => ⟨I1.kIn, ?_⟩)
  exact StX.run_makeR M F hr hx I1 r q

/-! ### methods without arguments -/
def tMeth0 (C : Addr) (m : Str) (sp : Sp) (E : XK) (ta : TE) : TE := fun σ H Q => ta σ H fun x H1 => ∃ a dx fs, x = .ref a ∧ H1 a = some (.ins C dx fs) ∧ fs.lookup m = none ∧ sp [x] H1 Q E
theorem pe_methR0 {pl : Sem Bool} (he : PE X o ta) (c : Cls X.K C) (hm : Meth X.K C m f) (F : FX X k f sp) (hr : Room k X.A) (hx : PsX X E)
    (ht : eval (.Call (.Attribute o m apos) [] [] pos) X.env = (do
      let ov ← eval o X.env
      standAt apos.atName
      let (f, first) ← holding [ov] (getMethod ov m pl)
      callWith pos f first (backTo pos (starEach [] X.env)) (backToKw pos (keywordEach [] X.env))) := by rfl) :
    PE X (.Call (.Attribute o m apos) [] [] pos) (tMeth0 C m sp E ta) := by
  refine ⟨fun pins s σ H Q I h => ?_⟩
  refine PySem.W.methodCall_KW (pl := pl) (thn (he.run pins s σ H _ I h) fun u s1 ⟨x, H1, I1, rx, a, dx, fs, ex, ea, l, q⟩ => ?_) ht
  subst ex
  obtain rfl : u = Value.ref a := rx
  refine getmeth_ok I1 ea c hm l ?_
  exact PySem.W.callWith_K0 (first := [.ref a]) I1.kIn hm.kp (wpAny_call (run_fnR (us := [.ref a]) (vs := [.ref a]) F hr hx I1 (.cons rfl .nil) q))

/-! ### own operators -/
/-- what the class at C must have for its def m at f as an operator -/
structure OwnM (K : PySem.W.Frag) (C : Addr) (m : Str) (f : Addr) : Prop where
  at_ : PySem.W.findIn K (.ref C) m = some (some (.ref f))
  fn : PySem.W.isFn K (.ref f) = true
  fi : PySem.W.fnIn K f = true
/-- x op y, both instances of the class at C -/
def rBin (C : Addr) (sp : Sp) (E : XK) : R2 := fun x y H Q => ∃ a dx fs b dy gs, x = .ref a ∧ y = .ref b ∧ H a = some (.ins C dx fs) ∧ H b = some (.ins C dy gs) ∧ sp [.ref a, .ref b] H Q E
theorem op_bin {op : Operator} (hs : PySem.W.findIn X.K (.ref C) (PySem.dunder op.info.2) = some (some (.ref f))) (hf : PySem.W.isFn X.K (.ref f) = true) (hc : PySem.W.selfFirst X.K C = true) (F : FX X k f sp) (hr : Room k X.A) (hx : PsX X E) :
    OpR X (binaryOp op) (rBin C sp E) := by
  intro pins s σ H x y v u Q I rx ry h
  obtain ⟨a, dx, fs, b, dy, gs, rfl, rfl, ha, hb, q⟩ := h
  cases (show v = Value.ref a from rx)
  cases (show u = Value.ref b from ry)
  obtain ⟨mA, O, _⟩ := ins_get I.hok ha
  obtain ⟨mB, O', _⟩ := ins_get I.hok hb
  obtain ⟨od, J, _⟩ := O.look
  obtain ⟨od', J', _⟩ := O'.look
  obtain ⟨m, hF⟩ := I.fr
  refine PySem.W.binop_K hF I.ok.mod.kin J J'.type hc hs hf ?_
  refine wpAny_mono (wpAny_call (run_fnR (us := [.ref a, .ref b]) (vs := [.ref a, .ref b]) F hr hx I (.cons rfl (.cons rfl .nil)) q)) (fun w s' z => ?_) fun _ _ x => x
  obtain ⟨z', H', I', rz, qz⟩ := z
  exact SlX.cmpback rz ⟨z', H', I', rz, qz⟩
/-- ~x -/
def rUn (C : Addr) (sp : Sp) (E : XK) : V → Hp → VK → Prop := fun x H Q => ∃ a dx fs, x = .ref a ∧ H a = some (.ins C dx fs) ∧ sp [.ref a] H Q E
theorem un_own (hs : PySem.W.findIn X.K (.ref C) "__invert__" = some (some (.ref f))) (hf : PySem.W.isFn X.K (.ref f) = true) (F : FX X k f sp) (hr : Room k X.A) (hx : PsX X E) : UnR X (unaryOp .Invert) (rUn C sp E) := by
  intro pins s σ H x v Q I rx h
  obtain ⟨a, dx, fs, rfl, ha, q⟩ := h
  cases (show v = Value.ref a from rx)
  obtain ⟨mA, O, _⟩ := ins_get I.hok ha
  obtain ⟨od, J, _⟩ := O.look
  obtain ⟨m, hF⟩ := I.fr
  exact PySem.W.ksp_inv hF I.ok.mod.kin J hs hf (wpAny_call (run_fnR (us := [.ref a]) (vs := [.ref a]) F hr hx I (.cons rfl .nil) q))
/-- x[i], x an instance -/
def rIxO (C : Addr) (sp : Sp) (E : XK) : R2 := fun x y H Q => ∃ a dx fs, x = .ref a ∧ H a = some (.ins C dx fs) ∧ sp [.ref a, y] H Q E
theorem pe_ixO {value slice : Expr} (hs : PySem.W.findIn X.K (.ref C) "__getitem__" = some (some (.ref f))) (hfi : PySem.W.fnIn X.K f = true) (hf : PySem.W.isFn X.K (.ref f) = true) (F : FX X k f sp) (hr : Room (k + 1) X.A) (hx : ∀ E', Passes (L2.CX X.prog X.w) (X.wish E') E)
    (ha : PE X value ta) (hb : PE X slice tb) (hsl : ∀ x i, subscripted slice true (.ref x) i = runValue (.builtin "lifetime.subscript" ⟨[.ref x, i], []⟩) := by (intro _ _; with_unfolding_all rfl)) :
    PE X (.Subscript value slice pos) (tOp (rIxO C sp E) ta tb) := by
  refine ⟨fun pins s σ H Q I h => ?_⟩
  refine Subscript_ (binT ha hb I h fun v u s2 x y H2 I2 rx ry q => ?_)
  obtain ⟨a, dx, fs, rfl, ha', q⟩ := q
  cases (show v = Value.ref a from rx)
  obtain ⟨mA, O, _⟩ := ins_get I2.hok ha'
  obtain ⟨od, J, _⟩ := O.look
  obtain ⟨m, hF⟩ := I2.fr
  refine PySem.W.sub_K hF I2.ok.mod.kin J hs hfi hf ?_ (hsl a u)
  exact wpAny_call (SlX.run_at (us := [.ref a, u]) (ws := [.ref a, y]) F hr.in1 I2.env0.in1 (by simpa using hx X.xe) I2 (.cons rfl (.cons ry .nil)) q)
/-- len(x) -/
def rLenO (C : Addr) (sp : Sp) (E : XK) : List V → Hp → VK → Prop := fun xs H Q => ∃ a dx fs, xs = [V.ref a] ∧ H a = some (.ins C dx fs) ∧ sp [.ref a] H (fun v H' => ∃ n : Int, v = .int n ∧ 0 ≤ n ∧ n < 2 ^ 63 ∧ Q (.int n) H') E
theorem call_lenO (hs : PySem.W.findIn X.K (.ref C) "__len__" = some (some (.ref f))) (hf : PySem.W.isFn X.K (.ref f) = true) (F : FX X k f sp) (hr : Room (k + 1) X.A) (hx : PsX X E) : CallR X (.builtin "len") (rLenO C sp E) := by
  intro pins s σ H xs us Q I r h
  obtain ⟨a, dx, fs, rfl, ha, q⟩ := h
  rw [Vals.ref1 r]
  obtain ⟨mA, O, _⟩ := ins_get I.hok ha
  obtain ⟨od, J, _⟩ := O.look
  obtain ⟨m, hF⟩ := I.fr
  refine PySem.W.len_K hF I.ok.mod.kin J hs hf ?_
  refine wpAny_mono (wpAny_call (SlX.run_at (us := [.ref a]) (ws := [.ref a]) F hr.in1 I.env0.in1 hx I (.cons rfl .nil) q)) (fun w s' z => ?_) fun _ _ x => x
  obtain ⟨z', H', I', rz, n, ez, h0, h1, qz⟩ := z
  subst ez
  obtain ⟨t, e⟩ := (show ∃ t, w = Value.int n t from rz)
  cases e
  exact ⟨⟨h0, h1⟩, .int n, H', I'.tok _, ⟨_, rfl⟩, qz⟩
/-- x == y by the class's own def, any answer -/
def rEqO (C : Addr) (sp : Sp) (E : XK) : R2 := fun x y H Q => ∃ a dx fs b dy gs, x = .ref a ∧ y = .ref b ∧ H a = some (.ins C dx fs) ∧ H b = some (.ins C dy gs) ∧ sp [.ref a, .ref b] H Q E
theorem op_eqO (hs : PySem.W.findIn X.K (.ref C) "__eq__" = some (some (.ref f))) (hf : PySem.W.isFn X.K (.ref f) = true) (F : FX X k f sp) (hr : Room k X.A) (hx : PsX X E) : OpR X (compareOp .Eq) (rEqO C sp E) := by
  intro pins s σ H x y v u Q I rx ry h
  obtain ⟨a, dx, fs, b, dy, gs, rfl, rfl, ha, hb, q⟩ := h
  cases (show v = Value.ref a from rx)
  cases (show u = Value.ref b from ry)
  obtain ⟨mA, O, _⟩ := ins_get I.hok ha
  obtain ⟨mB, O', _⟩ := ins_get I.hok hb
  obtain ⟨od, J, _⟩ := O.look
  obtain ⟨od', J', _⟩ := O'.look
  obtain ⟨m, hF⟩ := I.fr
  show wpAny _ _ (richCompare .Eq (.ref a) (.ref b)) _ _ _
  refine PySem.W.cmp_K (op := .Eq) (tb := .ref C) hr.units0 hF I.ok.mod.kin J J'.type (by simp [PySem.W.notFirst]) hs hf ?_
  refine wpAny_mono (wpAny_call (run_fnR (us := [.ref a, .ref b]) (vs := [.ref a, .ref b]) F hr hx I (.cons rfl (.cons rfl .nil)) q)) (fun w s' z => ?_) fun _ _ x => x
  obtain ⟨z', H', I', rz, qz⟩ := z
  exact SlX.cmpback rz ⟨z', H', I', rz, qz⟩
end
section
variable {prog : Program} {w : World} {A : Around} {E : Value → Shared → Prop} {s : Shared} {K : PySem.W.Frag} {x C f L : Addr} {h₀ : Heap} {m : Str → Option Value} {ox : Obj} {od : Option Obj} {name : Str} {b : Value}
theorem ifBound_B {M : Model} {id : String} {args : List Value} {Q : Option Value → Shared → Prop} (X : K.In s.heap) (I : PySem.W.InstAt s.heap x ox C od) (hs : PySem.W.findIn K (.ref C) name = some (some (.builtin id)))
    (hb : ∀ self, bindSpecial (.builtin id) self = pure (.builtin id, [self]))
    (h : wpAny M A (call (.builtin id) (.ref x :: args)) (fun v => Q (some v)) E s) : wpAny M A (callSpecialIfBound? (.ref x) name args) Q E s := by
  simp only [callSpecialIfBound?, bindSpecialIfBound?]
  refine wpAny_holding (wpAny_bind (wpAny_bind (wpAny_bind (I.type.here ((PySem.W.looks_findIn X hs).here ?_)))))
  refine wpAny_bind (wpAny_askSetting (wpAny_ite ?_))
  have fin : wpAny M A (call (.builtin id) ([.ref x] ++ args) >>= fun v => pure (some v)) Q E s := wpAny_bind (wpAny_mono h (fun v s' h' => wpAny_pure h') fun _ _ h' => h')
  split
  · exact wpAny_bind ((PySem.W.Looks.of_pure (hb _)).here (wpAny_pure (by exact fin)))
  · exact wpAny_tryCatch (wpAny_bind ((PySem.W.Looks.of_pure (hb _)).here (wpAny_pure (by exact fin))))
/-- x != b where the class has no __ne__ of its own: its __eq__, turned -/
theorem ne_K {Q : Value → Shared → Prop} (hu : A.units < cLine) (hu1 : A.in1.units < cLine) (F : Fr h₀ L s.heap m) (X₀ : K.In h₀) (I : PySem.W.InstAt s.heap x ox C od) (hb : PySem.W.Looks (model prog w) s.heap (typeOf b) (.ref C))
    (hn : PySem.W.findIn K (.ref C) "__ne__" = some (some (.builtin "object.__ne__"))) (hm : PySem.W.mroIn K C (.type "object") = some true)
    (hs : PySem.W.findIn K (.ref C) "__eq__" = some (some (.ref f))) (hf : PySem.W.isFn K (.ref f) = true)
    (h : wpAny (model prog w) A.in1 (call (.ref f) [.ref x, b]) (fun v s' => ∃ c, v = .bool c ∧ Q (.bool (!c)) s') E s) : wpAny (model prog w) A (richCompare .NotEq (.ref x) b) Q E s := by
  have X := X₀.keeps F.keep
  have inner : wpAny (model prog w) A.in1 (Builtin.«object.__ne__» ⟨[.ref x, b], []⟩) (fun fin s' => ∃ c, fin = .done (.ret (.bool c)) ∧ Q (.bool c) s') E s := by
    unfold Builtin.«object.__ne__»
    refine wpAny_bind (m := slotArgs "__ne__" 1 _) (wpAny_pure ?_)
    refine wpAny_bind (m := cRoomFor _ _) (wpAny_cRoomFor hu1 ?_)
    refine wpAny_bind (m := callSpecialIfBound? (.ref x) (Str.ofString "__eq__") [b]) (PySem.W.ifBound_K X I hs hf (wpAny_mono h (fun v s' hv => ?_) fun _ _ e => e))
    obtain ⟨c, rfl, q⟩ := hv
    show wpAny _ _ (truthy (.bool c) >>= _) _ _ _
    refine wpAny_bind (wpAny_truthy_bool ?_)
    exact wpAny_pure ⟨!c, rfl, q⟩
  have one : wpAny (model prog w) A (tryCompare (.ref x) (cmpInfo .NotEq).2.1 b) (fun r s' => ∃ v, r = some v ∧ Q v s') E s := by
    unfold tryCompare
    refine wpAny_bind (ifBound_B X I hn PySem.F.slot_object_ne.bind ?_)
    refine wpAny_call (codeAny_call_builtin PySem.F.slot_object_ne.plain PySem.F.entry_object_ne (PySem.W.check_slot (i := "object.__ne__") (owner := "object") (n := "__ne__") (by decide +kernel) (by decide +kernel) (I.type.andThen (PySem.W.looks_mroIn X hm)) (PySem.F.args_object_ne_2 _ _) ?_))
    refine wpAny_mono inner (fun fin s' hv => ?_) fun _ _ e => e
    obtain ⟨c, rfl, q⟩ := hv
    exact wpAny_pure ⟨.bool c, rfl, q⟩
  unfold richCompare
  simp only [oneThing_ref]
  refine wpAny_holding (wpAny_bind (wpAny_cRoomFor hu ?_))
  refine wpAny_bind (I.type.here (wpAny_bind (hb.here ?_)))
  rw [show (Value.ref C != Value.ref C) = false from by simp]
  simp only [Bool.false_eq_true, if_false]
  refine wpAny_bind (wpAny_pure ?_)
  simp only [Bool.false_eq_true, if_false]
  refine wpAny_bind (wpAny_mono one (fun r s' z => ?_) fun _ _ e => e)
  obtain ⟨v, rfl, hq⟩ := z
  exact wpAny_pure hq
end
section
variable {X : Cx} {k : Nat} {f C : Addr} {sp : Sp} {E : XK}
def rNeO (C : Addr) (sp : Sp) (E : XK) : R2 := fun x y H Q => ∃ a dx fs b dy gs, x = .ref a ∧ y = .ref b ∧ H a = some (.ins C dx fs) ∧ H b = some (.ins C dy gs) ∧ sp [.ref a, .ref b] H (fun v H' => ∃ c, v = .bl c ∧ Q (.bl (!c)) H') E
theorem op_neO (hn : PySem.W.findIn X.K (.ref C) "__ne__" = some (some (.builtin "object.__ne__"))) (hm : PySem.W.mroIn X.K C (.type "object") = some true) (hs : PySem.W.findIn X.K (.ref C) "__eq__" = some (some (.ref f))) (hf : PySem.W.isFn X.K (.ref f) = true)
    (F : FX X k f sp) (hr : Room (k + 1) X.A) (hx : PsX X E) : OpR X (compareOp .NotEq) (rNeO C sp E) := by
  intro pins s σ H x y v u Q I rx ry h
  obtain ⟨a, dx, fs, b, dy, gs, rfl, rfl, ha, hb, q⟩ := h
  cases (show v = Value.ref a from rx)
  cases (show u = Value.ref b from ry)
  obtain ⟨mA, O, _⟩ := ins_get I.hok ha
  obtain ⟨mB, O', _⟩ := ins_get I.hok hb
  obtain ⟨od, J, _⟩ := O.look
  obtain ⟨od', J', _⟩ := O'.look
  obtain ⟨m, hF⟩ := I.fr
  show wpAny _ _ (richCompare .NotEq (.ref a) (.ref b)) _ _ _
  refine ne_K hr.units0 hr.in1.units0 hF I.ok.mod.kin J J'.type hn hm hs hf ?_
  refine wpAny_mono (wpAny_call (SlX.run_at (us := [.ref a, .ref b]) (ws := [.ref a, .ref b]) F hr.in1 I.env0.in1 hx I (.cons rfl (.cons rfl .nil)) q)) (fun w s' z => ?_) fun _ _ x => x
  obtain ⟨z', H', I', rz, c, ez, qz⟩ := z
  subst ez
  exact ⟨c, rz, .bl (!c), H', I', rfl, qz⟩
/-- == by a positional promise, as a part of ==s of lists -/
theorem rcG_insR {R : Addr → Addr → Hp → Prop} (F : FX X k f (spEq R)) (hs : PySem.W.findIn X.K (.ref C) "__eq__" = some (some (.ref f))) (hf : PySem.W.isFn X.K (.ref f) = true) (hx : PsX X E) : RcG X k (DIns C R) := by
  intro A pins s σ H x y u v sb I rx ry d
  obtain ⟨a, b, dx, dy, fs, gs, rfl, rfl, ha, hb', hr⟩ := d
  cases rx
  cases ry
  obtain ⟨mA, J, _⟩ := ins_get I.hok ha
  obtain ⟨mB, J', _⟩ := ins_get I.hok hb'
  obtain ⟨od, J, _⟩ := J.look
  obtain ⟨od', J', _⟩ := J'.look
  obtain ⟨m, hF⟩ := I.fr
  refine PySem.W.cmp_K (op := .Eq) (tb := .ref C) sb.room.units0 hF I.ok.mod.kin J J'.type (by simp [PySem.W.notFirst]) hs hf ?_
  have hsp : spEq R [.ref a, .ref b] H (fun v H' => v = .bl true ∧ Ext H H') E := ⟨a, b, rfl, hr, fun H' e => ⟨rfl, e⟩⟩
  have e0 : Env0 X.prog X.w X.K X.mg X.base A X.stack s H := by
    have e := I.env0
    exact ⟨by rw [sb.fr]; exact e.frames, e.mod, e.bs, e.bsz, e.funs, e.frf, e.hok, e.bare⟩
  refine wpAny_call (codeAny_mono (F A X.stack s H [.ref a, .ref b] [.ref a, .ref b] _ E sb.room e0 (.cons rfl (.cons rfl .nil)) hsp) fun r s' hq => ?_)
  cases r with
  | error e => exact hx pins σ H s e s' I hq
  | ok fl =>
    cases fl with
    | ret w =>
      obtain ⟨z, H', I', rz, ez, ex⟩ := I.after hq
      subst ez
      cases rz
      exact ⟨rfl, H', I', ex⟩
    | next => exact False.elim hq
    | brk => exact False.elim hq
    | cont => exact False.elim hq
theorem eqG_insR {R : Addr → Addr → Hp → Prop} (F : FX X k f (spEq R)) (hs : PySem.W.findIn X.K (.ref C) "__eq__" = some (some (.ref f))) (hf : PySem.W.isFn X.K (.ref f) = true) (hx : PsX X E) : EqG X k (DIns C R) :=
  (rcG_insR F hs hf hx).eqG fun _ _ _ d => let ⟨a, b, _, _, _, _, hx, hy, _⟩ := d; ⟨a, b, hx, hy⟩
end
end Kp
set_option maxHeartbeats 4000000
/-! Errors of own classes over own classes over ValueError, whose __init__ says super().__init__('..') and then stores one or two fields. -/
namespace Kp
open PySem PySem.Spec PySem.Calls PyProof.Rows
open PySem.HandSPX (excO refsVE)
/-! ### the text of __init__ -/
abbrev eInit (p0 p1 p2 p3 p4 p5 : Pos) (txt : Str) (j : Nat) : Stmt := .Expr (.Call (.Attribute (.Call (.Name "super" p0) [] [] p1) "__init__" p2) [.Constant (.str txt) j p3] [] p4) p5
abbrev eFld (f : Str) (p1 p2 p3 p4 : Pos) : Stmt := .Assign [.Attribute (.Name "self" p1) f p2] (.Name f p3) p4
/-- the names of __init__'s scope -/
structure ErrS (sc : Scope) (fs : List Str) : Prop where
  kind : sc.kind = .function
  co : sc.isCoroutine = false
  gen : sc.isGenerator = false
  noc : ∀ x ∈ sc.names, x.2 ≠ .cell
  sup : sc.names.lookup ("super" : Str) = some .globalImplicit
  cls : sc.names.lookup ("__class__" : Str) = some .free
  self : sc.names.lookup ("self" : Str) = some .local
  fld : ∀ f ∈ fs, sc.names.lookup f = some .local ∧ (f == ("__debug__" : Str)) = false ∧ f ≠ "self"
/-- what the written part says of such a class, at C, and of its __init__, at fI; fs: its fields, the parameters -/
structure ErrC (P : Program) (K : PySem.W.Frag) (C fI : Addr) (fs : List Str) : Prop where
  cls : ∃ nm q N bs bm sn sub ab col dd k0 k1 k2 k3 k5, K.lookup C = some (excClassObj nm q C N bs bm true sn sub ab col dd k0 k1 k2 k3 k5 "ValueError.__new__") ∧ refsVE bm = true
  sa : PySem.W.findIn K (.ref C) "__setattr__" = some (some (.builtin "object.__setattr__"))
  noN : ∀ f ∈ fs, PySem.W.findIn K (.ref C) f = some none
  iC : PySem.W.findIn K (.ref C) "__init__" = some (some (.ref fI))
  tC : PySem.W.typeIn K (.ref fI) = some (.type "function")
  kC : PySem.W.keepIn K (.ref C) = true
  exC : PySem.W.subIn K (.ref C) (.type "BaseException") = some true
  veC : PySem.W.subIn K (.ref C) (.type "ValueError") = some true
  mrC : PySem.W.mroIn K C (.ref C) = some true
  tyC : PySem.W.typeIn K (.ref C) = some (.type "type")
  hdC : PySem.W.hasDictIn K C = true
  sup : PySem.W.ks_superIn K C C "__init__" = some (some (.builtin "ValueError.__init__"))
  opq : PySem.W.nsIn K cStatics "thirdparty.any" = some none
  top : (P.main.scope.names.lookup ("super" : Str)).isSome = false
  fn : ∃ (oc ct doc pm kV : Value) (od an : Option Addr) (osl : Array (Option Value)) (cc cda : Addr) (cl ccl : Value) (cld cdd : Option Addr) (csl ccs : Array (Option Value)) (vs : Array Value) (file : Str) (tf : Tok) (qual : Str) (params : Arguments) (sc : Scope) (ar : Arg)
      (txt : Str) (j : Nat) (p0 p1 p2 p3 p4 p5 : Pos) (body : List Stmt),
    K.lookup fI = some ⟨oc, od, .func (PySem.W.ksFn "__init__" qual params (eInit p0 p1 p2 p3 p4 p5 txt j :: body) sc .none kV doc pm an (.ref cda) ct cc), osl⟩ ∧ PySem.W.codeIn K (.ref cda) qual = true ∧
    K.lookup cc = some ⟨cl, cld, .cell (some (.ref C)), csl⟩ ∧ K.lookup cda = some ⟨ccl, cdd, .fields vs, ccs⟩ ∧ vs[2]? = some (.str file tf) ∧ (P.main.file == file) = true ∧ ErrS sc fs ∧ (params.posonlyargs ++ params.args).head? = some ar ∧ ar.arg = "self" ∧ (p2.endLine == p4.line) = true ∧
    ((∃ f q1 q2 q3 q4, fs = [f] ∧ body = [eFld f q1 q2 q3 q4] ∧ ∀ x v : Value, bindArgs (PySem.W.ksFn "__init__" qual params (eInit p0 p1 p2 p3 p4 p5 txt j :: body) sc .none kV doc pm an (.ref cda) ct cc) ⟨[x, v], []⟩ = pure ([(("self" : Str), x), (f, v)] : List (Str × Value))) ∨
     (∃ f g q1 q2 q3 q4 r1 r2 r3 r4, fs = [f, g] ∧ f ≠ g ∧ body = [eFld f q1 q2 q3 q4, eFld g r1 r2 r3 r4] ∧
      ∀ x v u : Value, bindArgs (PySem.W.ksFn "__init__" qual params (eInit p0 p1 p2 p3 p4 p5 txt j :: body) sc .none kV doc pm an (.ref cda) ct cc) ⟨[x, v, u], []⟩ = pure ([(("self" : Str), x), (f, v), (g, u)] : List (Str × Value))))
/-! ### the built-in __init__ bound, called -/
section
open PySem.ESX
variable {prog : Program} {w : World} {A : Around} {E : Value → Shared → Prop} {h : Heap} {g : Array GenState} {d : Drawn} {t : Nat} {os : OsState}
variable {nm q : Str} {C N : Addr} {bs bm : List Value} {hdct : Bool} {sn : List Str} {sub : List Value} {ab : Bool} {col : Option Bool} {dd : Option Addr} {k0 k1 k2 k3 k5 : Option Value}
theorem call_mw {u e t0 : Addr} {rest : List Value} {Q : Value → Shared → Prop}
    (hC : h.get? C = some (excClassObj nm q C N bs bm hdct sn sub ab col dd k0 k1 k2 k3 k5 "ValueError.__new__")) (he : h.get? e = some (excO C t0)) (hu : h.get? u = some (PySem.W.kxs_mw "ValueError.__init__" e)) (hrest : rest.length ≤ sizeLine)
    (hq : ∀ h' t1, (∀ b o, b ≠ e → h.get? b = some o → h'.get? b = some o) → h'.get? e = some (excO C t1) → Q .none ⟨h', g, d, t, os⟩) :
    wpAny (model prog w) A (call (.ref u) rest) Q E ⟨h, g, d, t, os⟩ := by
  refine wpAny_call (codeAny_of_tree ?_)
  show wpAny _ A.in1 (callAny (.ref u) ⟨rest, []⟩) _ _ _
  simp only [callAny]
  refine wpAny_bind (wpAny_load hu ?_)
  simp only [PySem.W.kxs_mw, show (Value.type "method-wrapper" == Value.type "method" || Value.type "method-wrapper" == Value.type "builtin_function_or_method" || Value.type "method-wrapper" == Value.type "method-wrapper") = true by decide, if_true]
  refine PySem.W.KFB.if_so (by decide) ?_
  refine wpAny_bind (check_bound F.excBase_ValueError hC he rfl ?_)
  refine wpAny_bind (wpAny_pure (wpAny_pure ?_))
  refine ⟨Code.quiet_builtin _ (by decide +kernel), codeAny_builtin F.excBase_ValueError.initEntry ?_⟩
  rw [Around.under_plainId F.excBase_ValueError.init.plain _]
  exact PySem.W.exc_init_tree (cls := .ref C) (t0 := t0) (dv := none) (c2 := .none) (c3 := .none) (b4 := .bool false) he hrest fun h' k e' _ => hq h' _ k e'
end
/-! ### the walk through __init__ -/
/-- what stands behind super().__init__('..') -/
structure InitMid (h h' : Heap) (x C L : Addr) (m : Str → Option Value) : Prop where
  keep : ∀ b o, b ≠ x → h.get? b = some o → h'.get? b = some o
  obj : ∃ t1, h'.get? x = some (excO C t1)
  ns : h'.Ns L m
/-- what __init__ leaves of a fresh exception at x -/
structure InitEnd (h h' : Heap) (x C dx : Addr) (m : Str → Option Value) : Prop where
  keep : ∀ b o, b ≠ x → h.get? b = some o → h'.get? b = some o
  obj : ∃ t1, h'.get? x = some { cls := .ref C, dict := some dx, data := .fields #[.ref t1, .none, .none, .none, .bool false, .none] }
  dbig : h.objs.size ≤ dx
  dne : dx ≠ x
  ns : h'.Ns1 dx m
section
open PySem.W
variable {prog : Program} {w : World} {A : Around} {E : Value → Shared → Prop} {R : Result → Shared → Prop} {s : Shared} {K : Frag} {mg : Str → Option Value} {C fI : Addr} {fs : List Str}
theorem ldE {M : Model} {env : Env} {m : Str → Option Value} {x : Str} {pos : Pos} {v : Value} {Q : Value → Shared → Prop} (hn : s.heap.Ns env.locals m) (hv : m x = some v) (h : Q v s)
    (hk : env.scope.kind = .function) (hl : env.kindOf x = some .local) (hd : (x == ("__debug__" : Str)) = false) : wpAny M A (eval (.Name x pos) env) Q E s := wpAny_Name (wpAny_loadName_local hk hl hn hv h) hd
theorem clsOf {nm q : Str} {N : Addr} {bs bm : List Value} {sn : List Str} {sub : List Value} {ab : Bool} {col : Option Bool} {dd : Option Addr} {k0 k1 k2 k3 k5 : Option Value} {B : String} (hC : K.lookup C = some (excClassObj nm q C N bs bm true sn sub ab col dd k0 k1 k2 k3 k5 B)) :
    clsIn K C = some { name := nm, bases := bs, mro := .ref C :: bm, ns := N, qualname := q, hasDict := true, slotNames := sn, subclasses := sub, abstract := ab, collection := col, hasDel := false } := by
  unfold clsIn
  rw [hC] <;> rfl
theorem sup_eval {env : Env} {txt : Str} {j : Nat} {p0 p1 p2 p3 p4 : Pos} (hp : (p2.endLine == p4.line) = true) : eval (.Call (.Attribute (.Call (.Name "super" p0) [] [] p1) "__init__" p2) [.Constant (.str txt) j p3] [] p4) env = (do
      let ov ← attributeBase (.Call (.Name "super" p0) [] [] p1) "__init__" env (eval (.Call (.Name "super" p0) [] [] p1) env)
      standAt p2.atName
      let (f, first) ← holding [ov] (getMethod ov "__init__" (do return (← importBound (.Call (.Name "super" p0) [] [] p1) env).getD true))
      callWith p4 f first (backTo p4 (starEach [.Constant (.str txt) j p3] env)) []) := by
  have hm : ∀ o, methodCallPos true o env p2 p4 = pure p4 := fun o => by unfold methodCallPos; rw [hp]; rfl
  have e : ∀ ov, methodCall (.Call (.Name "super" p0) [] [] p1) "__init__" p2 p4 env ov 1 (backTo p4 (starEach [.Constant (.str txt) j p3] env)) [] = (do
      let (f, first) ← holding [ov] (getMethod ov "__init__" (do return (← importBound (.Call (.Name "super" p0) [] [] p1) env).getD true))
      callWith p4 f first (backTo p4 (starEach [.Constant (.str txt) j p3] env)) []) := fun ov => by
    unfold methodCall calleeOf
    have hf : methodCallForm 1 (backTo p4 (starEach [.Constant (.str txt) j p3] env)) [] = true := rfl
    rw [hf]
    simp only [hm, pure_bind, if_true]
  rw [arm_eval_Call]
  show (do
    let ov ← attributeBase (.Call (.Name "super" p0) [] [] p1) "__init__" env (eval (.Call (.Name "super" p0) [] [] p1) env)
    standAt p2.atName
    methodCall (.Call (.Name "super" p0) [] [] p1) "__init__" p2 p4 env ov 1 (backTo p4 (starEach [.Constant (.str txt) j p3] env)) []) = _
  simp only [e]
/-- the first statement -/
theorem err_super (T : ErrC prog K C fI fs) {x t0 L cc cda : Addr} {cl ccl ct doc pm kV oc : Value} {od an cld cdd : Option Addr} {osl csl ccs : Array (Option Value)} {vs : Array Value} {file qual : Str} {tf : Tok} {params : Arguments} {body : List Stmt} {sc : Scope} {ar : Arg} {m : Str → Option Value} {bodyA : List Stmt}
    {txt : Str} {j : Nat} {p0 p1 p2 p3 p4 p5 : Pos} {Q : Flow → Shared → Prop} (X : K.In s.heap) (G : s.heap.Ns mainGlobals mg) (Bn : ∃ mb, s.heap.Ns builtinsNs mb ∧ ∀ x : Str, x ≠ "__name__" → mb x = bootBuiltins x) (hsu : mg "super" = none)
    (lk : K.lookup fI = some ⟨oc, od, .func (ksFn "__init__" qual params body sc .none kV doc pm an (.ref cda) ct cc), osl⟩) (hcc : K.lookup cc = some ⟨cl, cld, .cell (some (.ref C)), csl⟩) (hcd : K.lookup cda = some ⟨ccl, cdd, .fields vs, ccs⟩) (hvs : vs[2]? = some (.str file tf))
    (hfile : (prog.main.file == file) = true) (S : ErrS sc fs) (hp : (params.posonlyargs ++ params.args).head? = some ar) (har : ar.arg = "self") (hx : s.heap.get? x = some (excO C t0)) (hxK : K.lookup x = none) (hL : L ≠ x) (hpos : (p2.endLine == p4.line) = true) (hn : s.heap.Ns L m) (hv : m "self" = some (.ref x))
    (h : ∀ h' tk, InitMid s.heap h' x C L m → Q .next { s with heap := h', toks := tk }) :
    _root_.PySem.wpAt (model prog w) A (.func bodyA (ksEnv qual sc L fI (.ref cda) cc)) (exec (eInit p0 p1 p2 p3 p4 p5 txt j) (ksEnv qual sc L fI (.ref cda) cc)) Q E s := by
  obtain ⟨nm, q, N, bs, bm, sn, sub, ab, col, dd, k0, k1, k2, k3, k5, hC, hbm⟩ := T.cls
  have hcl := clsOf hC
  have hC1 := X _ _ hC
  refine ks_wpAt_Expr_any (ks_wpAt_MethodCall ?_ (sup_eval hpos)) (by unfold interactive; simp [S.kind]) ?_
  · refine ks_wpAt_super_base (env := ksEnv qual sc L fI (.ref cda) cc) S.sup S.cls (by decide) rfl (X _ _ lk) rfl hp rfl (X _ _ hcd) rfl hvs hfile T.top ?_
    obtain ⟨mb, b1, b2⟩ := Bn
    refine ks_loadName_global S.kind S.sup (loadGlobal_builtin (env := ksEnv qual sc L fI (.ref cda) cc) G hsu b1 ((b2 "super" (by decide)).trans (by decide +kernel)) ⟨rfl, ?_⟩)
    refine wpAny_loadName_free S.kind S.cls rfl ⟨_, X _ _ hcc, rfl⟩ ?_
    rw [har]
    refine wpAny_loadName_local S.kind S.self hn hv ?_
    refine ks_wpAny_isType_cls hC1 rfl ⟨rfl, ?_⟩
    obtain ⟨hh, g, d, t, os⟩ := s
    refine ks_wpAny_call_super hC1 rfl hx rfl (fun c e => by cases e) (looks_mroIn X T.mrC) (fun h' e k => ?_)
    have X1 : K.In h' := X.keeps k
    have L0 : Looks (model prog w) h' (typeOf (.ref x)) (.ref C) := fun A Q E s k' q => wpAny_typeOf_ref (k' _ _ (k _ _ hx)) q
    have hI : Looks (model prog w) h' (isInstance (.ref x) (.type "ValueError")) true := L0.andThen (looks_subIn X1 T.veC)
    have hsup := T.sup
    unfold ks_superIn at hsup
    rw [hcl] at hsup
    have hxC : x ≠ C := by
      intro z
      rw [z] at hxK
      rw [hxK] at hC
      cases hC
    refine kxs_getMethod kxs_ValueError e (looks_opaque X1 T.opq) ((looks_clsIn X1 hcl).andThen .now) rfl X1 hsup hI hxC (by decide) ?_
    have hu : (h'.push (kxs_mw "ValueError.__init__" x)).get? h'.objs.size = some (kxs_mw "ValueError.__init__" x) := Heap.get?_push_size _ rfl
    have kp : ∀ b o, hh.get? b = some o → (h'.push (kxs_mw "ValueError.__init__" x)).get? b = some o := fun b o e => Heap.get?_push_of_some _ (k b o e)
    show wpAny _ _ (callWith _ (.ref h'.objs.size) [] _ []) _ _ _
    have he : starEach [.Constant (.str txt) j p3] (ksEnv qual sc L fI (.ref cda) cc) = (false, eval (.Constant (.str txt) j p3) (ksEnv qual sc L fI (.ref cda) cc)) :: starEach [] (ksEnv qual sc L fI (.ref cda) cc) := by rfl
    rw [he]
    refine kxs_callWith (i := "ValueError.__init__") (x := x) rfl (evalArgs_plain ?_)
    refine spliced_cons (Calls.Constant_str (k := j) (pos := p3) (spliced_nil ⟨hu, ?_⟩))
    refine call_mw (C := C) (kp _ _ hC1) (kp _ _ hx) hu (by rw [sizeLine_eq]; exact (by decide : 1 ≤ 16777216)) fun h2 t1 k2 e2 => ?_
    refine h h2 _ ⟨fun b o hb eb => k2 b o hb (kp b o eb), ⟨t1, e2⟩, hn.at fun o eo => k2 L o hL (kp L o eo)⟩
  · rfl

theorem sw_self {v : Str} {f : Str} {p1 p2 p3 : Pos} {l : Nat} {env : Env} : swapsWith (.Name v p1) (some (.Attribute (.Name "self" p2) f p3)) l env = pure false := by rfl
theorem ve_px : ∀ l : List Value, refsVE l = true → PySem.PX.refsVE l = true := by
  intro l
  induction l with
  | nil => intro e; exact absurd e (by decide)
  | cons a r ih =>
    intro e
    rcases PySem.HandSPX.refsVE_cases (a :: r) e with ⟨c, r', q, h⟩ | q
    · injection q with q1 q2
      subst q1 q2
      exact ih h
    · rw [q]
      decide +kernel
/-- a field's statement: the first one, the second one -/
theorem err_fld1 (T : ErrC prog K C fI fs) {env : Env} {x t1 : Addr} {m : Str → Option Value} {f : Str} {v : Value} {q1 q2 q3 q4 : Pos} {Q : Flow → Shared → Prop} (X : K.In s.heap) (hx : s.heap.get? x = some (excO C t1)) (hf : PySem.W.findIn K (.ref C) f = some none)
    (hn : s.heap.Ns env.locals m) (hself : m "self" = some (.ref x)) (hv : m f = some v) (hk : env.scope.kind = .function) (hl1 : env.kindOf "self" = some .local) (hl2 : env.kindOf f = some .local) (hd : (f == ("__debug__" : Str)) = false)
    (h : ∀ h' tk dx, (∀ b o, b ≠ x → s.heap.get? b = some o → h'.get? b = some o) → s.heap.objs.size ≤ dx → dx ≠ x → h'.get? x = some { cls := .ref C, dict := some dx, data := .fields #[.ref t1, .none, .none, .none, .bool false, .none] } →
      h'.Ns1 dx (fun y => if y = f then some v else none) → Q .next { s with heap := h', toks := tk }) : wpAny (model prog w) A (exec (eFld f q1 q2 q3 q4) env) Q E s := by
  obtain ⟨nm, q, N, bs, bm, sn, sub, ab, col, dd, k0, k1, k2, k3, k5, hC, hbm⟩ := T.cls
  refine plainObj_wpAny_Assign_Attribute ?_
  refine ldE (v := v) hn hv (ldE (v := .ref x) hn hself ?_ hk hl1 (by decide)) hk hl2 hd
  refine set_plain X (ox := excO C t1) (od := none) ⟨hx, rfl, rfl, trivial⟩ T.sa ?_
  exact HandSPX.exc_osa X hx (clsOf hC) (show refsVE (.ref C :: bm) = true from hbm) rfl hf (fun h₃ tk₃ dx k₃ dn dne hx₃ hn₃ => h h₃ tk₃ dx k₃ dn dne hx₃ hn₃)
theorem err_fld2 (T : ErrC prog K C fI fs) {env : Env} {x t1 dx : Addr} {m m0 : Str → Option Value} {nl : List Str} {f : Str} {v : Value} {q1 q2 q3 q4 : Pos} {Q : Flow → Shared → Prop} (X : K.In s.heap) (hx : s.heap.get? x = some { cls := .ref C, dict := some dx, data := .fields #[.ref t1, .none, .none, .none, .bool false, .none] })
    (hns : s.heap.Ns1 dx m0) (hw : Within m0 nl) (hz : nl.length ≤ 1000) (hf : PySem.W.findIn K (.ref C) f = some none)
    (hn : s.heap.Ns env.locals m) (hself : m "self" = some (.ref x)) (hv : m f = some v) (hk : env.scope.kind = .function) (hl1 : env.kindOf "self" = some .local) (hl2 : env.kindOf f = some .local) (hd : (f == ("__debug__" : Str)) = false)
    (h : ∀ h' tk, (∀ b o, b ≠ dx → s.heap.get? b = some o → h'.get? b = some o) → h'.Ns1 dx (fun y => if y = f then some v else m0 y) → Q .next { s with heap := h', toks := tk }) : wpAny (model prog w) A (exec (eFld f q1 q2 q3 q4) env) Q E s := by
  obtain ⟨nm, q, N, bs, bm, sn, sub, ab, col, dd, k0, k1, k2, k3, k5, hC, hbm⟩ := T.cls
  refine plainObj_wpAny_Assign_Attribute ?_
  refine ldE (v := v) hn hv (ldE (v := .ref x) hn hself ?_ hk hl1 (by decide)) hk hl2 hd
  obtain ⟨oD, esD, epD, hoD, _⟩ := id hns
  refine set_plain X (ox := { cls := .ref C, dict := some dx, data := .fields #[.ref t1, .none, .none, .none, .bool false, .none] }) (od := some oD) ⟨hx, rfl, rfl, hoD⟩ T.sa ?_
  exact PySem.PX.osa_old X hx hns hw hz (clsOf hC) (show PySem.PX.refsVE (.ref C :: bm) = true from ve_px _ hbm) rfl hf (fun h₃ tk₃ k₃ hn₃ => h h₃ tk₃ k₃ hn₃)
/-- the namespace of the fields -/
def fldNs : List (Str × Value) → Str → Option Value
  | [], _ => none
  | (f, v) :: r, y => if y = f then some v else fldNs r y
theorem err_init (T : ErrC prog K C fI fs) {x t0 : Addr} {us : List Value} (X : K.In s.heap) (G : s.heap.Ns mainGlobals mg) (Bn : ∃ mb, s.heap.Ns builtinsNs mb ∧ ∀ x : Str, x ≠ "__name__" → mb x = bootBuiltins x) (hsu : mg "super" = none) (hlim : s.heap.NoLimit)
    (hx : s.heap.get? x = some (excO C t0)) (hxK : K.lookup x = none) (hxG : x ≠ mainGlobals) (hxB : x ≠ builtinsNs) (hroom : A.depth < recursionLimit) (hlen : us.length = fs.length)
    (hq : ∀ h' tk dx, InitEnd s.heap h' x C dx (fldNs (fs.zip us).reverse) → R (.ok (.ret .none)) { s with heap := h', toks := tk }) :
    codeAny (model prog w) A (.call (.ref fI) ⟨.ref x :: us, []⟩) R s := by
  obtain ⟨oc, ct, doc, pm, kV, od, an, osl, cc, cda, cl, ccl, cld, cdd, csl, ccs, vs, file, tf, qual, params, sc, ar, txt, j, p0, p1, p2, p3, p4, p5, body, lk, hcode, hcc, hcd, hvs, hfile, S, hp, har, hpos, hcase⟩ := T.fn
  have xlt : x < s.heap.objs.size := Heap.lt_size hx
  have xL : s.heap.objs.size ≠ x := Nat.ne_of_gt xlt
  rcases hcase with ⟨f, q1, q2, q3, q4, rfl, rfl, hb⟩ | ⟨f, g, q1, q2, q3, q4, r1, r2, r3, r4, rfl, hfg, rfl, hb⟩
  · obtain ⟨v, rfl⟩ : ∃ v, us = [v] := by
      match us, hlen with
      | [v], _ => exact ⟨v, rfl⟩
    obtain ⟨hl, hdb, hfs⟩ := S.fld f (by simp)
    refine ks_codeAny_call_defAt (binds := [(("self" : Str), .ref x), (f, v)]) hroom (X _ _ lk) rfl hlim (codeRec_of X hcode) rfl (BindsTo.of_eq (hb _ _)) S.noc (fun y hy => ?_) (fun h₁ hn k => ?_) S.co S.gen S.kind
    · rcases List.mem_cons.mp hy with rfl | hy
      · exact S.self
      · rcases List.mem_cons.mp hy with rfl | hy
        · exact hl
        · cases hy
    · have X1 : K.In h₁ := X.keeps k
      have mself : (fun y => List.lookup y ([(("self" : Str), Value.ref x), (f, v)] : List (Str × Value)).reverse) "self" = some (.ref x) := by
        have e : (("self" : Str) == f) = false := by simpa using fun z : ("self" : Str) = f => hfs z.symm
        simp [List.lookup, e]
      have mf : (fun y => List.lookup y ([(("self" : Str), Value.ref x), (f, v)] : List (Str × Value)).reverse) f = some v := by simp [List.lookup]
      refine ks_wpAt_execs_cons (err_super T (s := { s with heap := h₁, toks := s.toks + 2 }) X1 (G.keeps k) (by obtain ⟨mb, b1, b2⟩ := Bn; exact ⟨mb, b1.keeps k, b2⟩) hsu lk hcc hcd hvs hfile S hp har (k _ _ hx) hxK xL hpos hn mself fun h2 tk2 M => ?_)
      obtain ⟨t1, hx2⟩ := M.obj
      have X2 : K.In h2 := fun a o e => M.keep a o (fun z => by rw [z, hxK] at e; cases e) (X1 a o e)
      refine wpAt_of_wpAny (wpAny_execs_cons (err_fld1 T (s := { s with heap := h2, toks := tk2 }) X2 hx2 (T.noN f (by simp)) M.ns mself mf S.kind S.self hl hdb fun h3 tk3 dx k3 dn dne hx3 hn3 => ?_))
      exact wpAny_execs_nil (hq h3 tk3 dx ⟨fun b o hb e => k3 b o hb (M.keep b o hb (k b o e)), ⟨t1, hx3⟩, Nat.le_of_lt (Nat.lt_of_lt_of_le M.ns.lt dn), dne, hn3⟩)
  · obtain ⟨v, u, rfl⟩ : ∃ v u, us = [v, u] := by
      match us, hlen with
      | [v, u], _ => exact ⟨v, u, rfl⟩
    obtain ⟨hl, hdb, hfs⟩ := S.fld f (by simp)
    obtain ⟨hl2, hdb2, hfs2⟩ := S.fld g (by simp)
    refine ks_codeAny_call_defAt (binds := [(("self" : Str), .ref x), (f, v), (g, u)]) hroom (X _ _ lk) rfl hlim (codeRec_of X hcode) rfl (BindsTo.of_eq (hb _ _ _)) S.noc (fun y hy => ?_) (fun h₁ hn k => ?_) S.co S.gen S.kind
    · rcases List.mem_cons.mp hy with rfl | hy
      · exact S.self
      · rcases List.mem_cons.mp hy with rfl | hy
        · exact hl
        · rcases List.mem_cons.mp hy with rfl | hy
          · exact hl2
          · cases hy
    · have X1 : K.In h₁ := X.keeps k
      have e1 : (("self" : Str) == f) = false := by simpa using fun z : ("self" : Str) = f => hfs z.symm
      have e2 : (("self" : Str) == g) = false := by simpa using fun z : ("self" : Str) = g => hfs2 z.symm
      have e3 : (f == g) = false := by simpa using hfg
      have mself : (fun y => List.lookup y ([(("self" : Str), Value.ref x), (f, v), (g, u)] : List (Str × Value)).reverse) "self" = some (.ref x) := by simp [List.lookup, e1, e2]
      have mf : (fun y => List.lookup y ([(("self" : Str), Value.ref x), (f, v), (g, u)] : List (Str × Value)).reverse) f = some v := by simp [List.lookup, e3]
      have mg' : (fun y => List.lookup y ([(("self" : Str), Value.ref x), (f, v), (g, u)] : List (Str × Value)).reverse) g = some u := by simp [List.lookup]
      refine ks_wpAt_execs_cons (err_super T (s := { s with heap := h₁, toks := s.toks + 3 }) X1 (G.keeps k) (by obtain ⟨mb, b1, b2⟩ := Bn; exact ⟨mb, b1.keeps k, b2⟩) hsu lk hcc hcd hvs hfile S hp har (k _ _ hx) hxK xL hpos hn mself fun h2 tk2 M => ?_)
      obtain ⟨t1, hx2⟩ := M.obj
      have X2 : K.In h2 := fun a o e => M.keep a o (fun z => by rw [z, hxK] at e; cases e) (X1 a o e)
      refine wpAt_of_wpAny (wpAny_execs_cons (err_fld1 T (s := { s with heap := h2, toks := tk2 }) X2 hx2 (T.noN f (by simp)) M.ns mself mf S.kind S.self hl hdb fun h3 tk3 dx k3 dn dne hx3 hn3 => ?_))
      have X3 : K.In h3 := fun a o e => k3 a o (fun z => by rw [z, hxK] at e; cases e) (X2 a o e)
      have nL : h3.Ns s.heap.objs.size (fun y => List.lookup y ([(("self" : Str), Value.ref x), (f, v), (g, u)] : List (Str × Value)).reverse) := M.ns.at fun o eo => k3 _ o xL eo
      have dbig : s.heap.objs.size < dx := Nat.lt_of_lt_of_le M.ns.lt dn
      refine wpAny_execs_cons (err_fld2 T (s := { s with heap := h3, toks := tk3 }) X3 hx3 hn3 (nl := [f]) (Within.cons f v Within.nil) (by simp) (T.noN g (by simp)) nL mself mg' S.kind S.self hl2 hdb2 fun h4 tk4 k4 hn4 => ?_)
      refine wpAny_execs_nil (hq h4 tk4 dx ⟨fun b o hb e => k4 b o ?_ (k3 b o hb (M.keep b o hb (k b o e))), ⟨t1, k4 _ _ dne.symm hx3⟩, Nat.le_of_lt dbig, dne, hn4⟩)
      exact fun z => Nat.lt_irrefl _ (Nat.lt_trans dbig (by rw [← z]; exact Heap.lt_size e))
end
end Kp
namespace Kp
open PySem PySem.Spec PyProof.Rows L2
section
variable {F : α → β → Prop}
theorem paired_snoc {α β : Type} {F : α → β → Prop} : ∀ {l : List α} {l' : List β} {a : α} {b : β}, PySem.Paired F l l' → F a b → PySem.Paired F (l ++ [a]) (l' ++ [b])
  | [], [], _, _, .nil, h => .cons h .nil
  | _ :: _, _ :: _, _, _, .cons x r, h => .cons x (paired_snoc r h)
theorem paired_rev {α β : Type} {F : α → β → Prop} : ∀ {l : List α} {l' : List β}, PySem.Paired F l l' → PySem.Paired F l.reverse l'.reverse
  | [], [], .nil => .nil
  | _ :: _, _ :: _, .cons x r => by
    rw [List.reverse_cons, List.reverse_cons]
    exact paired_snoc (paired_rev r) x
theorem kv_zip : ∀ {fs : List Str} {vs : List V} {us : List Value}, Vals vs us → KV (fs.zip vs) (fs.zip us)
  | [], _, _, _ => .nil
  | _ :: _, [], [], .nil => .nil
  | _ :: _, _ :: _, _ :: _, .cons a r => .cons ⟨rfl, a⟩ (kv_zip r)
theorem kv_look : ∀ {l : List (Str × V)} {l' : List (Str × Value)} (y : Str), KV l l' → RelO (l.lookup y) (fldNs l' y)
  | [], [], y, .nil => trivial
  | (f, v) :: l, (g, u) :: l', y, .cons ⟨e, r⟩ t => by
    have e : f = g := e
    subst e
    unfold fldNs
    rw [List.lookup_cons]
    by_cases h : y = f
    · subst h
      rw [if_pos rfl]
      simp
      exact r
    · rw [if_neg h, show (y == f) = false from by simpa using h]
      exact kv_look y t
end
section
variable {X : Cx} {C fI : Addr} {fs : List Str}
/-- C(e, ..), C such a class: what the error carries stands in its own dict -/
def tMkE (C : Addr) (fs : List Str) (ta : TA) : L2.St → Hp → XK → Prop := fun σ H Q => ta σ H fun vs H1 => vs.length = fs.length ∧ vs.length ≤ 1000 ∧ ∀ d, H1 d = none → Q (.ref C) (some d) (upd H1 d (.xd (fs.zip vs).reverse))
theorem pmk_E {x : Str} {a : Expr} {es : List Expr} {ta : TA} {p pos : Pos} {k : Nat} (T : ErrC X.prog X.K C fI fs) (hr : Room (k + 1) X.A) (ha : PA X (a :: es) ta) (hsu : X.mg "super" = none) (hm : X.mg x = some (.ref C)) (hg : Gl X x := by rfl) (hdb : (x == ("__debug__" : Str)) = false := by decide)
    (he : starEach (a :: es) X.env = (false, eval a X.env) :: starEach es X.env := by rfl) (hpl : (backTo pos (starEach es X.env)).any (·.1) = false := by rfl) :
    PMk X (.Call (.Name x p) (a :: es) [] pos) (tMkE C fs ta) := by
  intro pins s σ H Q I h
  refine wpAny_Call_Name_kw (ld_glob I hg hm ?_ hdb)
  refine PySem.W.callWith_K (h₀ := X.base) I.ok.mod.kin T.kC (thn (ha.run pos pins s σ H _ I h) fun us s1 hh => ?_) he hpl
  obtain ⟨vs, H1, I1, r1, hl, hz, q1⟩ := hh
  refine ⟨I1.kIn, ?_⟩
  show wpAny _ _ (call (.ref C) us) _ _ _
  have hlim := I1.nolimit
  have hG := I1.mod.glob.keeps I1.bk
  obtain ⟨mb, b1, b2⟩ := I1.mod.blt
  have hB := b1.keeps I1.bk
  have hlu : us.length = fs.length := by rw [← r1.length]; exact hl
  obtain ⟨nm, qn, N, bs, bm, sn, sub, ab, col, dd, k0, k1, k2, k3, k5, hC, hbm⟩ := T.cls
  have kin1 := I1.kIn
  obtain ⟨hp, g, dr, tk, os⟩ := s1
  have kp : ∀ b o, hp.get? b = some o → ((hp.push (PySem.W.kdv_tup us)).push (HandSPX.excO C hp.objs.size)).get? b = some o := fun b o e => Heap.get?_push_of_some _ (Heap.get?_push_of_some _ e)
  have hget : ((hp.push (PySem.W.kdv_tup us)).push (HandSPX.excO C hp.objs.size)).get? (hp.objs.size + 1) = some (HandSPX.excO C hp.objs.size) := by heap_get
  have hnx : X.K.lookup (hp.objs.size + 1) = none := by
    cases e : X.K.lookup (hp.objs.size + 1) with
    | none => rfl
    | some o =>
      have z : hp.get? (hp.objs.size + 1) = some o := kin1 _ _ e
      exact absurd (Nat.lt_of_succ_lt (Heap.lt_size z)) (Nat.lt_irrefl _)
  have nG : hp.objs.size + 1 ≠ mainGlobals := Nat.ne_of_gt (Nat.lt_succ_of_lt hG.lt)
  have nB : hp.objs.size + 1 ≠ builtinsNs := Nat.ne_of_gt (Nat.lt_succ_of_lt hB.lt)
  refine wpAny_call (HandSPX.call_own F.excBase_ValueError (fun X => HandSPX.refsVE_contains X bm hbm) (kin1 _ _ hC) (PySem.W.looks_findIn kin1 T.iC) (fun self => PySem.W.bind_fn kin1 self T.tC) (by rw [← r1.length, sizeLine_eq]; omega) ?_)
  refine err_init (s := ⟨(hp.push (PySem.W.kdv_tup us)).push (HandSPX.excO C hp.objs.size), g, dr, tk, os⟩) T (kin1.keeps kp) (hG.keeps kp) ⟨mb, hB.keeps kp, b2⟩ hsu (hlim.keeps kp) hget hnx nG nB ?_ hlu fun h' tk' dx M => ?_
  · show X.A.depth + 1 < recursionLimit
    have := hr.dp
    omega
  · refine ⟨rfl, ?_⟩
    show MkP X pins σ Q (.ref (hp.objs.size + 1)) ⟨h', g, dr, tk', os⟩
    obtain ⟨t1, hx⟩ := M.obj
    have z : hp.objs.size + 1 + 1 ≤ dx := by
      first
        | (simpa only [Heap.size_push] using M.dbig)
        | exact M.dbig
        | (have q := M.dbig; rw [Heap.size_push, Heap.size_push] at q; exact q)
    have old : ∀ b o, hp.get? b = some o → h'.get? b = some o := fun b o e => M.keep b o (Nat.ne_of_lt (Nat.lt_succ_of_lt (Heap.lt_size e))) (kp b o e)
    have hns := M.ns
    obtain ⟨G', g1, g2⟩ := restrict h' fun b => decide (b ≠ hp.objs.size + 1)
    have gk : ∀ b, b ≠ hp.objs.size + 1 → G'.get? b = h'.get? b := fun b hb => g1 b (decide_eq_true hb)
    have ge : G'.get? (hp.objs.size + 1) = none := g2 (hp.objs.size + 1) (by simp)
    have old' : ∀ b o, hp.get? b = some o → G'.get? b = some o := fun b o q => (gk b (Nat.ne_of_lt (Nat.lt_succ_of_lt (Heap.lt_size q)))).trans (old b o q)
    have ob : ObjOk X.prog X.w (upd H1 dx (.xd (fs.zip vs).reverse)) G' dx (.xd (fs.zip vs).reverse) :=
      ⟨_, hns.at (fun o q => (gk dx M.dne).trans q), fun f => kv_look f (paired_rev (kv_zip r1))⟩
    have dge : hp.objs.size ≤ dx := by omega
    have J : Inv X pins σ (upd H1 dx (.xd (fs.zip vs).reverse)) ⟨G', g, dr, tk', os⟩ := I1.laid (t' := tk') old' dge ob
    refine ⟨hp.objs.size + 1, _, _, ⟨G', g, dr, tk', os⟩, _, .ref C, some dx, rfl, J, fun b o q => ?_, ge, hx, ⟨rfl, rfl⟩, rfl, rfl, ?_, rfl, I1.bare, raises_own T.exC T.tyC, q1 dx (I1.hok.fresh dge)⟩
    · by_cases hb : b = hp.objs.size + 1
      · have q' : G'.get? b = some o := q
        rw [hb, ge] at q'; cases q'
      · exact (gk b hb).symm.trans q
    · rw [upd_ne (Ne.symm M.dne)]
      exact I1.hok.fresh (Nat.le_succ _)
/-- raise C(e, ..) -/
theorem ps_raiseE {x : Str} {a : Expr} {es : List Expr} {ta : TA} {W : WX} {p pos pos2 : Pos} {k : Nat} (hc : X.calm = true) (tk : Takes X W) (T : ErrC X.prog X.K C fI fs) (hr : Room (k + 1) X.A) (ha : PA X (a :: es) ta) (hsu : X.mg "super" = none) (hm : X.mg x = some (.ref C)) (hg : Gl X x := by rfl)
    (hdb : (x == ("__debug__" : Str)) = false := by decide)
    (he : starEach (a :: es) X.env = (false, eval a X.env) :: starEach es X.env := by rfl) (hpl : (backTo pos (starEach es X.env)).any (·.1) = false := by rfl) :
    PS X (.Raise (some (.Call (.Name x p) (a :: es) [] pos)) none pos2) (fun _ σ H => tMkE C fs ta σ H fun cls d H' => W cls d σ H') := ps_raise hc tk (pmk_E T hr ha hsu hm hg hdb he hpl)
end
/-! ### try: .. except X as n: suite, the rest of the block knowing the error -/
section
variable {X : Cx} {pins : List (Addr × Obj)} {σ : L2.St} {H : Hp} {s : Shared}
theorem unsuiteK {a : Addr} {oe : Obj} {pn' : List (Addr × Obj)} (I : Inv (X.suite a ((a, oe) :: (X.pn ++ pins))) pn' σ H s) (ok : X.Ok) : Inv X ((a, oe) :: pins) σ H s :=
  ⟨ok, I.os, I.bare, I.base, I.loc, I.cell, I.free, I.freeC, fun p hp => I.pin p (by
    refine List.mem_append_left _ ?_
    rcases List.mem_append.mp hp with h | h
    · exact List.mem_cons_of_mem _ (List.mem_append_left _ h)
    · rcases List.mem_cons.mp h with e | h
      · rw [e]
        exact List.mem_cons_self
      · exact List.mem_cons_of_mem _ (List.mem_append_right _ h)), I.hok, I.len⟩
/-- the context of the rest -/
abbrev keepC (X : Cx) (a : Addr) (oe : Obj) (pn : List (Addr × Obj)) : Cx := X.tr ((a, oe) :: pn) X.xe
theorem toKeep {a : Addr} {oe : Obj} (I : Inv X ((a, oe) :: pins) σ H s) : Inv (keepC X a oe (X.pn ++ pins)) [] σ H s :=
  ⟨I.ok.toTry _ _, I.os, I.bare, I.base, I.loc, I.cell, I.free, I.freeC, fun p hp => I.pin p (by
    rw [List.append_nil] at hp
    rcases List.mem_cons.mp hp with e | h
    · rw [e]
      exact List.mem_append_right _ List.mem_cons_self
    · rcases List.mem_append.mp h with h | h
      · exact List.mem_append_left _ h
      · exact List.mem_append_right _ (List.mem_cons_of_mem _ h)), I.hok, I.len⟩
theorem ofKeep {a : Addr} {oe : Obj} {pn' : List (Addr × Obj)} (I : Inv (keepC X a oe (X.pn ++ pins)) pn' σ H s) (ok : X.Ok) : Inv X pins σ H s :=
  ⟨ok, I.os, I.bare, I.base, I.loc, I.cell, I.free, I.freeC, fun p hp => I.pin p (List.mem_append_left _ (List.mem_cons_of_mem _ hp)), I.hok, I.len⟩
def wKeep (K : PySem.W.Frag) (n : Nat) (c : Value) (i : Nat) (ts ur : Addr → Value → Option Addr → TS) (Wout : WX) (D : Ends) : WX := fun cls d σ H => σ.length = n →
  ∃ b, PySem.W.exmOne K cls c = some b ∧ (b = true → ∀ a, H a = none → ts a cls d { nx := fun σ' H' => ur a cls d D (σ'.set i none) H', rt := fun _ _ => False, bk := fun _ _ => False, ct := fun _ _ => False } (σ.set i (some (.ref a))) H) ∧
    (b = false → Wout cls d σ H)
variable {x n : Str} {c : Value} {i : Nat} {body suite rest : List Stmt} {b₀ : Stmt} {np pos pos' : Pos} {tb : WX → TS} {ts ur : Addr → Value → Option Addr → TS} {u : TS} {Wout : WX}
theorem pss_try_keep (hs : X.stack = X.env :: X.outer) (hf : X.env.frame = some X.env.locals) (hN : X.N.Nodup) (hi : X.N[i]? = some n) (hln : X.env.kindOf n = some .local) (hc : Names X x c) (tk : Takes X Wout)
    (hb : ∀ (W : WX) (pn : List (Addr × Obj)) (xe : Value → Shared → Prop), Takes (X.tr pn xe) W → PassesOwn (model X.prog X.w) X.A X.env xe → PSs (X.tr pn xe) body (tb W))
    (hsu : ∀ (a : Addr) (oe : Obj) (cls : Value) (d : Option Addr) (pn : List (Addr × Obj)), Zc cls d oe → (∃ vs, oe.data = .fields vs) → PSs (X.suite a ((a, oe) :: pn)) (b₀ :: suite) (ts a cls d))
    (hr : ∀ (a : Addr) (oe : Obj) (cls : Value) (d : Option Addr) (pn : List (Addr × Obj)), Zc cls d oe → (∃ vs, oe.data = .fields vs) → PSs (keepC X a oe pn) rest (ur a cls d)) (hu : PSs X rest u) :
    PSs X (.Try body [.ExceptHandler (some (.Name x np)) (some n) (b₀ :: suite) pos'] [] [] pos :: rest) (fun D σ H => tb (wKeep X.K X.N.length c i ts ur Wout D) { nx := u D, rt := D.rt, bk := fun _ _ => False, ct := fun _ _ => False } σ H) := by
  refine ⟨fun pins s σ H D I h => ?_⟩
  have ok := I.ok
  have hfr : X.A.frames = some (X.env :: X.outer) := by rw [ok.frames, hs]
  have hloc : Loc X.env.scope n := .inl hln
  have fromX : ∀ {s1 : Shared} {f : Flow}, SP X pins { nx := u D, rt := D.rt, bk := fun _ _ => False, ct := fun _ _ => False } f s1 → (match f with | .next => wpAny (model X.prog X.w) X.A (execs rest X.env) (SP X pins D) X.xe s1 | f => SP X pins D f s1) := fun {s1 f} q => by
    cases f with
    | next =>
      obtain ⟨σ', H', I', q⟩ := q
      exact hu.run pins s1 σ' H' D I' q
    | ret v => exact q
    | brk =>
      obtain ⟨_, _, _, q⟩ := q
      exact q.elim
    | cont =>
      obtain ⟨_, _, _, q⟩ := q
      exact q.elim
  refine wpAny_execs_cons ?_
  refine wpAny_Try_except ?_
  refine wpAny_mono ((hb (wKeep X.K X.N.length c i ts ur Wout D) (X.pn ++ pins) (fun e s₁ => wpAny (model X.prog X.w) X.A (noteFrame e X.env) (fun _ s₂ => wpAny (model X.prog X.w) X.A (setFlight e none) (fun _ s₃ =>
    wpAny (model X.prog X.w) X.A (handleBy e X.env [.ExceptHandler (some (.Name x np)) (some n) (b₀ :: suite) pos']) (fun f s' => match f with | .next => wpAny (model X.prog X.w) X.A (execs rest X.env) (SP X pins D) X.xe s' | f => SP X pins D f s') X.xe s₃) X.xe s₂) X.xe s₁) (fun u s' xx => ?_) PassesOwn.looking).run [] s σ H _ (I.toTry _) h) (fun f s1 hsp => ?_) (fun e s1 he => he)
  · -- the catch
    obtain ⟨a, B, sI, pins', σ', H', cls, d, rfl, J', nb, up, sky, na, os, ag, W0⟩ := xx
    have J : Inv X pins σ' H' sI := J'.ofTry ok
    obtain ⟨b, hb1, hyes, hno⟩ := W0 J.len
    have sky' : Sky B (X.env :: X.outer) a (Zc cls d) X.env.locals s'.heap := by rw [← hs]; exact sky
    show wpAny (model X.prog X.w) X.A (noteFrame (.ref a) X.env) _ _ _
    refine Sky.land Zc.steady hfr hf sky' fun h3 fl3 up3 => ?_
    have J3 : Inv X pins σ' H' { s' with heap := h3 } := J.landed nb fl3.1 (up.trans up3) os ag
    obtain ⟨oe3, vs3, he3, hz3, hd3⟩ := fl3.there
    have notFr : ∀ {h : Heap} {o : Obj} {vs : Array Value}, h.FunFrames B (X.env :: X.outer) → h.get? a = some o → o.data = .fields vs → a ∉ frs (X.env :: X.outer) := fun {h o vs} ff e dd hm => by
      obtain ⟨_, o', e', hnf⟩ := ff.mem hm
      rw [e] at e'; cases e'
      exact hnf _ dd
    have nfr := notFr fl3.2.2.1 he3 hd3
    have nL : a ≠ X.env.locals := fun z => nfr (List.mem_filterMap.mpr ⟨X.env, List.mem_cons_self, by rw [hf, z]⟩)
    have nF : a ∉ X.fs := fun hm => by
      obtain ⟨e, he, q⟩ := List.mem_filterMap.mp hm
      exact nfr (List.mem_filterMap.mpr ⟨e, List.mem_cons_of_mem _ he, q⟩)
    have S3 := J3.suite he3 hd3 na nL nF
    refine wpAny_handleBy_cons (codeAny_handlers_test ?_) (by intro q; cases q)
    have LT : PySem.W.Looks (model X.prog X.w) h3 (typeOf (.ref a)) cls := fun A Q E s k q => wpAny_typeOf_ref (k _ _ he3) (by rw [hz3.1]; exact q)
    have LM := PySem.W.exm_one (M := model X.prog X.w) (J3.kIn) LT hb1
    have test : ∀ {Q : Value → Shared → Prop} {E : Value → Shared → Prop}, Q c { s' with heap := h3 } → wpAny (model X.prog X.w) (X.A.mark (some (.ref a))) (eval (.Name x np) X.env) Q E { s' with heap := h3 } := fun {Q E} q => by
      obtain ⟨hg, hdbg, hm | ⟨hm, hv, hnn⟩⟩ := hc
      · exact ld_glob (X := X.suite a ((a, oe3) :: (X.pn ++ pins))) S3 hg hm q hdbg
      · exact ld_blt (X := X.suite a ((a, oe3) :: (X.pn ++ pins))) S3 hg hm hv q hnn hdbg
    refine test (LM.here ?_)
    cases b with
    | true =>
      refine codeAny_handlers_suite_as ?_
      refine HandSPX.lands_againZ fl3 fun h4 fl4 up4 => ?_
      have J4 : Inv X pins σ' H' { s' with heap := h4 } := J.landed nb fl4.1 ((up.trans up3).trans up4) os ag
      obtain ⟨oe4, vs4, he4, hz4, hd4⟩ := fl4.there
      have S4 := J4.suite he4 hd4 na nL nF
      refine store_ok (X := X.suite a ((a, oe4) :: (X.pn ++ pins))) (v := .ref a) S4 hN hi hloc rfl (fun s5 S5 => ?_) (.inr hln)
      refine wpAny_mono ((hsu a oe4 cls d (X.pn ++ pins) hz4 ⟨_, hd4⟩).run [] s5 _ H' _ S5 (hyes rfl a na)) (fun f s6 hsp => ?_) (fun _ _ z => False.elim z)
      have end_ : ∀ {σ6 : L2.St} {H6 : Hp} {Q : Shared → Prop}, Inv (X.suite a ((a, oe4) :: (X.pn ++ pins))) [] σ6 H6 s6 → (∀ s7, Inv X ((a, oe4) :: pins) (σ6.set i none) H6 s7 → Q s7) →
          wpAny (model X.prog X.w) X.A (do bindName X.env n .none; unbindBehindTheSuite X.env n pos') (fun _ s7 => Q s7) X.xe s6 := fun {σ6 H6 Q} S6 hq => gone_ok (unsuiteK S6 ok) hN hi hln hq
      cases f with
      | next =>
        obtain ⟨σ6, H6, S6, q6⟩ := hsp
        refine end_ S6 fun s7 J7 => ?_
        refine wpAny_mono ((hr a oe4 cls d (X.pn ++ pins) hz4 ⟨_, hd4⟩).run [] s7 _ H6 D (toKeep J7) q6) (fun f s8 hsp => ?_) (fun _ _ z => z)
        cases f with
        | next =>
          obtain ⟨σ8, H8, I8, q⟩ := hsp
          exact ⟨σ8, H8, ofKeep I8 ok, q⟩
        | brk =>
          obtain ⟨σ8, H8, I8, q⟩ := hsp
          exact ⟨σ8, H8, ofKeep I8 ok, q⟩
        | cont =>
          obtain ⟨σ8, H8, I8, q⟩ := hsp
          exact ⟨σ8, H8, ofKeep I8 ok, q⟩
        | ret v =>
          obtain ⟨v8, σ8, H8, I8, r, q⟩ := hsp
          exact ⟨v8, σ8, H8, ofKeep I8 ok, r, q⟩
      | brk =>
        obtain ⟨σ6, H6, S6, q6⟩ := hsp
        exact q6.elim
      | cont =>
        obtain ⟨σ6, H6, S6, q6⟩ := hsp
        exact q6.elim
      | ret u =>
        obtain ⟨v6, σ6, H6, S6, r6, q6⟩ := hsp
        exact q6.elim
    | false =>
      show wpAny _ X.A (handleBy (.ref a) X.env []) _ _ _
      refine wpAny_handleBy_nil ?_
      obtain ⟨k1, k2, k3, oe, vs, T, oT, ts', he, hz, hd, h1, hr⟩ := id fl3
      unfold PySem.passOn
      refine wpAny_bind (wpAny_field he hd h1 ?_)
      rw [if_neg (show ¬ ((Value.ref T == Value.none) = true) from by simp)]
      have fin : ∀ {Q : Flow → Shared → Prop}, wpAny (model X.prog X.w) X.A (setFlight (.ref a) X.env.frame) (fun _ s4 => wpAny (model X.prog X.w) X.A (throw (.ref a) : Sem Flow) Q X.xe s4) X.xe { s' with heap := h3 } := by
        intro Q
        rw [hf]
        refine HandSPX.setFlight_upZ fl3 fun h4 hh4 up4 => wpAny_throw (tk _ _ ?_)
        exact ⟨a, B, sI, pins, σ', H', cls, d, rfl, J, nb, (up.trans up3).trans up4, .inr (.inr (by rw [hs]; exact hh4)), na, os, ag, hno rfl⟩
      first
        | exact wpAny_bind (wpAny_pure (wpAny_bind fin))
        | exact wpAny_bind fin
  · cases f with
    | next =>
      obtain ⟨σ', H', J', q⟩ := hsp
      exact wpAny_execs_nil (fromX (f := .next) ⟨σ', H', J'.ofTry ok, q⟩)
    | brk =>
      obtain ⟨σ', H', J', q⟩ := hsp
      exact q.elim
    | cont =>
      obtain ⟨σ', H', J', q⟩ := hsp
      exact q.elim
    | ret u =>
      obtain ⟨v, σ', H', J', r, q⟩ := hsp
      exact ⟨v, σ', H', J'.ofTry ok, r, q⟩
end
end Kp
set_option maxHeartbeats 4000000
/-! The caught error asked beyond its suite: isinstance, fields; repr of texts. -/
namespace Kp
open PySem PySem.Spec PySem.Calls PyProof.Rows
section
open PySem.W
variable {prog : Program} {w : World} {A : Around} {E : Value → Shared → Prop} {s : Shared} {K : Frag} {x D : Addr} {ox od : Obj}
theorem kin_classEd {Q : Option Value → Shared → Prop} (hga : findIn K (.ref D) "__getattribute__" = some (some (.builtin "BaseException.__getattribute__"))) (hgt : findIn K (.ref D) "__getattr__" = some none) (hsub : subIn K (.ref D) (.type "BaseException") = some true)
    (hdct : hasDictIn K D = true) (ha : findIn K (.ref D) "__class__" = some (some (.builtin "object.__class__")))
    (hn : specialIn K (.builtin "object.__class__") "__get__" = some (some (.builtin "getset_descriptor.__get__"))) (htk : takesIn K (.builtin "object.__class__") = some true) (hm : mroIn K D (.type "object") = some true)
    (X : K.In s.heap) (I : InstAt s.heap x ox D (some od)) (h : Q (some (.ref D)) { s with toks := s.toks + 1 }) : wpAny (model prog w) A (getAttr? (.ref x) "__class__") Q E s := by
  have hf : findObj K D (some od) "__class__" = some (.bind (.builtin "getset_descriptor.__get__") (.builtin "object.__class__")) := findObj_data (by obtain ⟨cd, hc, _⟩ := any_some hdct; rw [hc]; rfl) ha hn htk
  obtain ⟨hp, g, d, t, os⟩ := s
  have L0 := I.type (M := model prog w)
  have L1 := looks_findIn (M := model prog w) X hga
  have L2 := looks_findIn (M := model prog w) X hgt
  have L3 := looks_find (M := model prog w) X I hf
  have sub : Looks (model prog w) hp (isInstance (.ref x) (.type "BaseException")) true := L0.andThen (looks_subIn X hsub)
  have hx0 : (false && onTheHeap (Value.builtin "BaseException.__getattribute__")) = false := rfl
  have hx2 : (Value.builtin "BaseException.__getattribute__" == Value.builtin "object.__getattribute__") = false := by decide +kernel
  have hx1 : (onTheHeap (Value.ref D) && Value.builtin "BaseException.__getattribute__" == Value.builtin "object.__getattribute__") = false := by rw [hx2]; rfl
  unfold getAttr? getAttrBy? getAttrBy
  refine wpAny_bind (wpAny_mkText (wpAny_bind (wpAny_attempt (wpAny_holding (wpAny_bind (L0.at (wpAny_bind (L1.at ?_))))))))
  show wpAny _ _ (if (onTheHeap (Value.ref D) && Value.builtin "BaseException.__getattribute__" == Value.builtin "object.__getattribute__") = true then _ else _) _ _ _
  rw [hx1, if_neg Bool.false_ne_true]
  unfold getAttrByItsOwn hookBefore
  refine wpAny_bind ?_
  rw [if_pos (show onTheHeap (Value.ref D) = true from rfl)]
  refine L2.at ?_
  refine wpAny_bind (wpAny_attempt (wpAny_holding ?_))
  unfold callGetattribute
  rw [hx0, if_neg Bool.false_ne_true]
  unfold boundAndCalled
  rw [PySem.F.excAttr_ValueError.ga.bind (.ref x)]
  refine wpAny_bind (wpAny_pure ?_)
  show wpAny _ _ (call (.builtin "BaseException.__getattribute__") [.ref x, .str "__class__" t]) _ _ _
  refine wpAny_call (codeAny_call_builtin PySem.F.excAttr_ValueError.ga.plain PySem.F.entry_bexc_ga ?_)
  refine @check_slot (model prog w) _ _ ⟨hp, g, d, t + 1, os⟩ "BaseException.__getattribute__" "BaseException" "__getattribute__" (.ref x) [.str "__class__" t] [] _ (by decide +kernel) (by decide +kernel) sub (PySem.F.args_bexc_ga (.ref x) (.str "__class__" t)) ?_
  unfold Builtin.«object.__getattribute__»
  refine wpAny_bind (wpAny_of_eq (a := ((Value.ref x : Value), [Value.str "__class__" t])) (by first | rfl | (simp only [slotArgs]; rfl)) ?_)
  refine wpAny_bind (wpAny_pure (wpAny_bind (L0.at (wpAny_bind (L3.at ?_)))))
  show wpAny _ _ (holding [Value.builtin "object.__class__"] (call (.builtin "getset_descriptor.__get__") [.builtin "object.__class__", .ref x, .ref D]) >>= ret) _ _ _
  refine wpAny_bind (wpAny_holding (wpAny_call (class_get (s := ⟨hp, g, d, t + 1, os⟩) (ox := ox) (od := some od) X I hm ?_)))
  refine wpAny_pure ?_
  show wpAny _ _ (handedOut (.ref D)) _ _ _
  rw [handedOut_of (v := .ref D) rfl]
  first
    | exact wpAny_pure (wpAny_pure h)
    | exact wpAny_pure h
    | exact wpAny_pure (wpAny_bind (wpAny_pure (wpAny_pure h)))
theorem kitx_excD (hga : findIn K (.ref D) "__getattribute__" = some (some (.builtin "BaseException.__getattribute__"))) (hgt : findIn K (.ref D) "__getattr__" = some none) (hsub : subIn K (.ref D) (.type "BaseException") = some true) (hdct : hasDictIn K D = true) (ha : findIn K (.ref D) "__class__" = some (some (.builtin "object.__class__")))
    (hn : specialIn K (.builtin "object.__class__") "__get__" = some (some (.builtin "getset_descriptor.__get__"))) (htk : takesIn K (.builtin "object.__class__") = some true) (hm : mroIn K D (.type "object") = some true) :
    KitX K (.ref x) (.ref D) (fun h => InstAt h x ox D (some od)) where
  ty := fun _ _ _ I => I.type
  it := fun _ _ X _ => by
    obtain ⟨cdD, hcD, _⟩ := any_some hdct
    unfold clsIn at hcD
    split at hcD
    · rename_i c' d' cd' sl' ho
      intro A' Q' E' s' k q
      unfold isType loadHead
      exact wpAny_bind (wpAny_loadPart (k _ _ (X _ _ ho)) (wpAny_pure q))
    · cases hcD
  ne := fun h tp dd its n sl X htp => by
    obtain ⟨cdD, hcD, _⟩ := any_some hdct
    refine Bool.eq_false_iff.mpr fun q => ?_
    have e : D = tp := Value.ref.inj (beq_iff_eq.mp q)
    subst e
    unfold clsIn at hcD
    split at hcD
    · rename_i c' d' cd' sl' ho
      have z := (X _ _ ho).symm.trans htp
      cases z
    · cases hcD
  ca := fun X I k => kin_classEd hga hgt hsub hdct ha hn htk hm X I k
end
end Kp
namespace Kp
open PySem PySem.Spec PyProof.Rows L2
section
variable {X : Cx} {a : Addr} {oe : Obj} {cls : Value} {d : Option Addr} {pn : List (Addr × Obj)}
/-- the kept error's dict is tracked at dd -/
def rIsK (K : PySem.W.Frag) (a : Addr) (cls : Value) (d : Option Addr) : List V → Hp → VK → Prop := fun xs H Q => ∃ (D dd : Addr) (fs : List (Str × V)) (c : V) (cv : Value) (b : Bool), xs = [.ref a, c] ∧ cls = .ref D ∧ d = some dd ∧ H dd = some (.xd fs) ∧ ExcC K D ∧
  (∀ u, RelV c u → u = cv) ∧ PySem.W.kitOne K (.ref D) cv = some b ∧ Q (.bl b) H
theorem keep_inst {pins : List (Addr × Obj)} {σ : L2.St} {H : Hp} {s : Shared} {D dd : Addr} {fs : List (Str × V)} (I : Inv (keepC X a oe pn) pins σ H s) (hz : Zc cls d oe) (hf : ∃ vs, oe.data = .fields vs) (ec : cls = .ref D) (ed : d = some dd) (ea : H dd = some (.xd fs)) :
    ∃ (od : Obj) (mA : Str → Option Value), PySem.W.InstAt s.heap a oe D (some od) ∧ (∀ f, PySem.W.lookIn f od = some (mA f)) ∧ ∀ f, RelO (fs.lookup f) (mA f) := by
  subst ec
  subst ed
  obtain ⟨ha, _⟩ := I.pin (a, oe) (List.mem_append_left _ List.mem_cons_self)
  obtain ⟨vs, hd⟩ := hf
  have hx : ObjOk X.prog X.w H s.heap dd (.xd fs) := I.hok dd _ ea
  obtain ⟨mA, hns, hr⟩ := hx
  obtain ⟨od, ho, hl⟩ := lookIn_ns hns
  exact ⟨od, mA, ⟨ha, hz.1, by unfold PySem.W.notCls; rw [hd] <;> rfl, by rw [hz.2]; exact ho⟩, hl, hr⟩
theorem call_isK (hz : Zc cls d oe) (hf : ∃ vs, oe.data = .fields vs) : CallR (keepC X a oe pn) (.builtin "isinstance") (rIsK X.K a cls d) := by
  intro pins s σ H xs us Q I r h
  obtain ⟨D, dd, fs, c, cv, b, rfl, ec, ed, ea, C, hcv, e, q⟩ := h
  obtain ⟨u1, u2, rfl, r1, r2⟩ := vals2 r
  cases (show u1 = Value.ref a from r1)
  cases hcv _ r2
  obtain ⟨od, mA, J, _, _⟩ := keep_inst I hz hf ec ed ea
  exact PySem.W.kia_one (kitx_excD C.hg C.hk C.hs C.hd C.ha C.hn C.ht C.hm) I.kIn J e (fun z => nomatch z) fun tk => ⟨.bl b, H, I.tok _, rfl, q⟩
theorem pe_xfK {C : Addr} {e : Expr} {te : TE} {n : Str} {pos : Pos} (T : XfC X.K C) (hno : PySem.W.findIn X.K (.ref C) n = some none)
    (hz : Zc cls d oe) (hf : ∃ vs, oe.data = .fields vs) (he : PE (keepC X a oe pn) e te) (hb : attributeBase e n X.env (eval e X.env) = eval e X.env := by rfl) :
    PE (keepC X a oe pn) (.Attribute e n pos) (tXf a cls d C n te) := by
  refine ⟨fun pins s σ H Q I h => ?_⟩
  refine attr_of hb (thn (he.run pins s σ H _ I h) fun u s1 hh => ?_)
  obtain ⟨x, H1, I1, rx, ex, ec, dd, fs, v, ed, ea, l, q⟩ := hh
  subst ex
  obtain rfl : u = Value.ref a := rx
  obtain ⟨od, mA, J, hl, hr⟩ := keep_inst I1 hz hf ec ed ea
  obtain ⟨u, hu, ru⟩ := RelO.some_of (v := v) (o := mA n) (by rw [← l]; exact hr n)
  exact HandSPX.exc_get I1.kIn J T.ga T.gg T.exC (PySem.W.findObj_own T.hdC hno rfl (by rw [hl, hu])) (handed_of ru) ⟨v, H1, I1.tok _, ru, q⟩
end
section
variable {X : Cx}
/-- repr of a text -/
def rReprS : List V → Hp → VK → Prop := fun xs H Q => ∃ a : Str, xs = [.str a] ∧ (reprText a).length ≤ sizeLine ∧ Q (.str (reprText a)) H
def rReprA : List V → Hp → VK → Prop := fun xs H Q => rReprS xs H Q ∨ ∃ i : Int, xs = [.int i] ∧ i.natAbs.log2 < 1920 ∧ Q (.str (toString i)) H
theorem call_repr_any : CallR X (.builtin "repr") rReprA := by
  intro pins s σ H xs us Q I r h
  rcases h with ⟨a, rfl, hz, q⟩ | h
  · obtain ⟨u, rfl, t, rfl⟩ := vals1 r
    exact PySem.P.repr_of_str ⟨.str _, H, I.tok _, ⟨_, rfl⟩, q⟩ hz
  · exact SkE.call_repr_int pins s σ H xs us Q I r h
end
end Kp
set_option maxHeartbeats 4000000
/-! The facts of a top's names, read by a Hook: defs, own classes, own errors, code tables. -/
namespace KpH
open PySem PySem.Spec PyProof.Rows L2 Kp
open He (ga ma fAd Fa ba eqO eqO_ok emptyTab emptyTab_eq frG frT frT_in frT_none growD Defn cT codeOf codeOf_eq codeIn_ref tabsB)
/-! ### what is looked at -/
/-- what an object names, of a class's dict the wanted names alone -/
def refsZ (want : List Str) (o : Obj) : List Addr := match o.data with
  | .func fd => He.refV fd.code ++ fd.closure.map (·.2)
  | .cls cd => cd.ns :: (cd.mro.drop 1).flatMap He.refV
  | .dict es _ => es.toList.flatMap fun e => (match e.key with
    | .str x _ => (match want.contains x with
      | true => He.refV e.val
      | false => [])
    | _ => [])
  | .fields vs => (match o.cls with
    | .type c => (match decide (c = "code") with
      | true => []
      | false => vs.toList.flatMap He.refV)
    | _ => [])
  | _ => []
def lev (g : Addr → Option Obj) (want : List Str) : Nat → List Addr → List Addr
  | 0, as => as
  | n + 1, as => as ++ lev g want n (as.flatMap fun a => match g a with
    | some o => refsZ want o
    | none => [])
def asZ (g : Addr → Option Obj) (names : List Str × List Str) (n : Nat) : List Addr := mainGlobals :: PySem.cStatics :: lev g names.2 n (names.1.map (ga (frG g [mainGlobals])))
abbrev frZ (g : Addr → Option Obj) (names : List Str × List Str) (n : Nat) : PySem.W.Frag := frT g (asZ g names n)
/-! ### own errors -/
/-- the text of such an __init__ -/
structure ErrT (st : Stmt) (qual : Str) (fs : List Str) : Prop where
  sc : ErrS (defScope st) fs
  body : ∃ (ar : Arg) (txt : Str) (j : Nat) (p0 p1 p2 p3 p4 p5 : Pos) (rest : List Stmt), defBody st = eInit p0 p1 p2 p3 p4 p5 txt j :: rest ∧ ((defArgs st).posonlyargs ++ (defArgs st).args).head? = some ar ∧ ar.arg = "self" ∧ (p2.endLine == p4.line) = true ∧
    ((∃ f q1 q2 q3 q4, fs = [f] ∧ rest = [eFld f q1 q2 q3 q4] ∧ ∀ (kV doc pm : Value) (an : Option Addr) (cda : Addr) (ct : Value) (cc : Addr) (x v : Value), bindArgs (PySem.W.ksFn "__init__" qual (defArgs st) (eInit p0 p1 p2 p3 p4 p5 txt j :: rest) (defScope st) .none kV doc pm an (.ref cda) ct cc) ⟨[x, v], []⟩ = pure ([(("self" : Str), x), (f, v)] : List (Str × Value))) ∨
     (∃ f g q1 q2 q3 q4 r1 r2 r3 r4, fs = [f, g] ∧ f ≠ g ∧ rest = [eFld f q1 q2 q3 q4, eFld g r1 r2 r3 r4] ∧
      ∀ (kV doc pm : Value) (an : Option Addr) (cda : Addr) (ct : Value) (cc : Addr) (x v u : Value), bindArgs (PySem.W.ksFn "__init__" qual (defArgs st) (eInit p0 p1 p2 p3 p4 p5 txt j :: rest) (defScope st) .none kV doc pm an (.ref cda) ct cc) ⟨[x, v, u], []⟩ = pure ([(("self" : Str), x), (f, v), (g, u)] : List (Str × Value))))
def clsE (K : PySem.W.Frag) (C : Addr) : Bool := match K.lookup C with
  | some ⟨.type "type", _, .cls cd, sl⟩ => (match cd.mro, sl.toList with
    | .ref C' :: bm, [_, _, _, _, some (.builtin n), _] => C' == C && n == "ValueError.__new__" && !cd.hasDel && cd.hasDict && PySem.HandSPX.refsVE bm
    | _, _ => false)
  | _ => false
theorem clsE_ok {K : PySem.W.Frag} {C : Addr} (q : clsE K C = true) : ∃ nm q N bs bm sn sub ab col dd k0 k1 k2 k3 k5, K.lookup C = some (excClassObj nm q C N bs bm true sn sub ab col dd k0 k1 k2 k3 k5 "ValueError.__new__") ∧ PySem.HandSPX.refsVE bm = true := by
  unfold clsE at q
  split at q
  · rename_i dd cd sl ho
    split at q
    · rename_i C' bm k0 k1 k2 k3 n k5 hm hs
      simp only [Bool.and_eq_true, beq_iff_eq, Bool.not_eq_true'] at q
      obtain ⟨⟨⟨⟨rfl, rfl⟩, hdel⟩, hdict⟩, ht⟩ := q
      obtain ⟨nm, bs, mro, ns, qn, hd, sn, sub, ab, col, del⟩ := cd
      dsimp only at hm hdel hdict
      subst hm hdel hdict
      have hsl : sl = #[k0, k1, k2, k3, some (.builtin "ValueError.__new__"), k5] := by
        obtain ⟨l⟩ := sl
        simp only at hs
        rw [hs]
      subst hsl
      exact ⟨nm, qn, ns, bs, bm, sn, sub, ab, col, dd, k0, k1, k2, k3, k5, ho, ht⟩
    · cases q
  · cases q
def cellE (K : PySem.W.Frag) (cc C : Addr) : Bool := match K.lookup cc with
  | some ⟨_, _, .cell (some (.ref D)), _⟩ => decide (D = C)
  | _ => false
theorem cellE_ok {K : PySem.W.Frag} {cc C : Addr} (h : cellE K cc C = true) : ∃ cl cld csl, K.lookup cc = some ⟨cl, cld, .cell (some (.ref C)), csl⟩ := by
  unfold cellE at h
  split at h
  · rename_i cl cld D csl e
    rw [of_decide_eq_true h] at e
    exact ⟨cl, cld, csl, e⟩
  · cases h
def codeE (P : Program) (K : PySem.W.Frag) (c : Addr) : Bool := match K.lookup c with
  | some ⟨_, _, .fields vs, _⟩ => (match (vs[2]? : Option Value) with
    | some (.str file _) => P.main.file == file
    | _ => false)
  | _ => false
theorem codeE_ok {P : Program} {K : PySem.W.Frag} {c : Addr} (h : codeE P K c = true) : ∃ ccl cdd vs ccs file tf, K.lookup c = some ⟨ccl, cdd, .fields vs, ccs⟩ ∧ vs[2]? = some (.str file tf) ∧ (P.main.file == file) = true := by
  unfold codeE at h
  split at h
  · rename_i ccl cdd vs ccs e
    split at h
    · rename_i file tf e2
      exact ⟨ccl, cdd, vs, ccs, file, tf, e, e2, h⟩
    · cases h
  · cases h
abbrev FnE : Type := Option (Str × Str × Arguments × FuncBody × Scope × Addr × Addr)
def fnE (K : PySem.W.Frag) (a : Addr) : FnE := match K.lookup a with
  | some ⟨_, _, .func fd, _⟩ => some (fd.name, fd.qualname, fd.params, fd.body, fd.scope, fd.globals, fd.builtins)
  | _ => none
def three (cl : List (Str × Addr)) (cd df : Value) (F : Str → Addr → Addr → Bool) : Bool := match cl, cd, df with
  | [(nm, cc)], .ref cda, .none => F nm cc cda
  | _, _, _ => false
theorem three_ok {cl : List (Str × Addr)} {cd df : Value} {F : Str → Addr → Addr → Bool} (h : three cl cd df F = true) : ∃ nm cc cda, cl = [(nm, cc)] ∧ cd = .ref cda ∧ df = .none ∧ F nm cc cda = true := by
  unfold three at h
  split at h
  · exact ⟨_, _, _, rfl, rfl, rfl, h⟩
  · cases h
def fnEB (P : Program) (K : PySem.W.Frag) (a C : Addr) (qual : Str) : Bool := match K.lookup a with
  | some ⟨_, _, .func fd, _⟩ => three fd.closure fd.code fd.defaults fun nm cc cda => decide (nm = "__class__") && (cellE K cc C && (codeE P K cda && PySem.W.codeIn K (.ref cda) qual))
  | _ => false
structure ErrD where
  cls : Str
  qual : Str
  st : Stmt
  fs : List Str
def ErrD.C (d : ErrD) (K : PySem.W.Frag) : Addr := ga K d.cls
def ErrD.f (d : ErrD) (K : PySem.W.Frag) : Addr := ma K (d.C K) "__init__"
def ErrD.val (d : ErrD) : FnE := some ("__init__", d.qual, defArgs d.st, .stmts (defBody d.st), defScope d.st, mainGlobals, builtinsNs)
def ErrD.facts (d : ErrD) (K : PySem.W.Frag) : Bool := decide (PySem.W.findIn K (.ref (d.C K)) "__setattr__" = some (some (.builtin "object.__setattr__"))) && ((d.fs.all fun f => decide (PySem.W.findIn K (.ref (d.C K)) f = some none)) && (decide (PySem.W.findIn K (.ref (d.C K)) "__init__" = some (some (.ref (d.f K)))) &&
  (decide (PySem.W.typeIn K (.ref (d.f K)) = some (.type "function")) && (PySem.W.keepIn K (.ref (d.C K)) && (decide (PySem.W.subIn K (.ref (d.C K)) (.type "BaseException") = some true) && (decide (PySem.W.subIn K (.ref (d.C K)) (.type "ValueError") = some true) &&
  (decide (PySem.W.mroIn K (d.C K) (.ref (d.C K)) = some true) && (decide (PySem.W.typeIn K (.ref (d.C K)) = some (.type "type")) && (PySem.W.hasDictIn K (d.C K) && (decide (PySem.W.ks_superIn K (d.C K) (d.C K) "__init__" = some (some (.builtin "ValueError.__init__"))) &&
  decide (PySem.W.nsIn K PySem.cStatics "thirdparty.any" = some none)))))))))))
def ErrD.ok (P : Program) (d : ErrD) (K : PySem.W.Frag) : Bool := clsE K (d.C K) && (fnEB P K (d.f K) (d.C K) d.qual && d.facts K)
theorem ErrD.errC {P : Program} {d : ErrD} {K : PySem.W.Frag} (T : ErrT d.st d.qual d.fs) (top : (P.main.scope.names.lookup ("super" : Str)).isSome = false) (e : fnE K (d.f K) = d.val) (h : d.ok P K = true) : ErrC P K (d.C K) (d.f K) d.fs := by
  obtain ⟨h1, h⟩ := ba h
  obtain ⟨h2, h⟩ := ba h
  obtain ⟨a1, h⟩ := ba h
  obtain ⟨a2, h⟩ := ba h
  obtain ⟨a3, h⟩ := ba h
  obtain ⟨a4, h⟩ := ba h
  obtain ⟨a5, h⟩ := ba h
  obtain ⟨a6, h⟩ := ba h
  obtain ⟨a7, h⟩ := ba h
  obtain ⟨a8, h⟩ := ba h
  obtain ⟨a9, h⟩ := ba h
  obtain ⟨a10, h⟩ := ba h
  obtain ⟨a11, a12⟩ := ba h
  refine { cls := clsE_ok h1, sa := of_decide_eq_true a1, noN := fun f hf => of_decide_eq_true (List.all_eq_true.mp a2 f hf), iC := of_decide_eq_true a3, tC := of_decide_eq_true a4, kC := a5, exC := of_decide_eq_true a6, veC := of_decide_eq_true a7, mrC := of_decide_eq_true a8, tyC := of_decide_eq_true a9, hdC := a10, sup := of_decide_eq_true a11, opq := of_decide_eq_true a12, top := top, fn := ?_ }
  unfold fnE at e
  unfold fnEB at h2
  obtain ⟨ar, txt, j, p0, p1, p2, p3, p4, p5, rest, t1, t2, t3, t4, t5⟩ := T.body
  cases q : K.lookup (d.f K) with
  | none =>
    rw [q] at e
    cases e
  | some o =>
    obtain ⟨oc, od, dt, osl⟩ := o
    rw [q] at e h2
    cases dt with
    | func fd =>
      obtain ⟨n1, n2, n3, n4, n5, n6, n7, n8, n9, n10, n11, n12, n13, n14, n15⟩ := fd
      have e2 : (some (n1, n2, n3, n4, n5, n6, n15) : FnE) = (some (("__init__" : Str), d.qual, defArgs d.st, FuncBody.stmts (defBody d.st), defScope d.st, mainGlobals, builtinsNs) : FnE) := e
      simp only [Option.some.injEq, Prod.mk.injEq] at e2
      obtain ⟨g1, g2, g3, g4, g5, g6, g7⟩ := e2
      obtain ⟨nm, cc, cda, rfl, rfl, rfl, h3⟩ := three_ok h2
      · obtain ⟨b1, h3⟩ := ba h3
        obtain ⟨b2, h3⟩ := ba h3
        obtain ⟨b3, b4⟩ := ba h3
        have b1 := of_decide_eq_true b1
        obtain ⟨cl, cld, csl, c1⟩ := cellE_ok b2
        obtain ⟨ccl, cdd, vs, ccs, file, tf, c2, c3, c4⟩ := codeE_ok b3
        subst g1 g2 g3 g4 g5 g6 g7 b1

        refine ⟨oc, n14, n10, n11, n9, od, n12, osl, cc, cda, cl, ccl, cld, cdd, csl, ccs, vs, file, tf, d.qual, defArgs d.st, defScope d.st, ar, txt, j, p0, p1, p2, p3, p4, p5, rest, by rw [t1], b4, c1, c2, c3, c4, T.sc, t2, t3, t4, ?_⟩
        rcases t5 with ⟨f, q1, q2, q3, q4, s1, s2, s3⟩ | ⟨f, g, q1, q2, q3, q4, r1, r2, r3, r4, s1, s2, s3, s4⟩
        · exact .inl ⟨f, q1, q2, q3, q4, s1, s2, fun x v => s3 _ _ _ _ _ _ _ x v⟩
        · exact .inr ⟨f, g, q1, q2, q3, q4, r1, r2, r3, r4, s1, s2, s3, fun x v u => s4 _ _ _ _ _ _ _ x v u⟩
    | _ => cases e
end KpH
namespace KpH
open PySem PySem.Spec PyProof.Rows L2 Kp
open He (ga ma fAd Fa ba eqO eqO_ok emptyTab emptyTab_eq frG frT frT_in frT_none growD Defn cT codeOf codeOf_eq codeIn_ref tabsB)
open He5 (DefA fnA wf wrapB wrapB_ok cmet_of fun_of)
/-! ### the Hook -/
abbrev AlZ : Type := Bool × List He.FnW × List FnE
/-- what is looked at in K: facts, defs, errors, one Bool more; the defs' tables: empty, not in K -/
def okZ (P : Program) (fa : List Fa) (fn : List DefA) (er : List ErrD) (ex : PySem.W.Frag → Bool) (K : PySem.W.Frag) : Bool := (fa.all fun f => f.ok K) && ((fn.all fun d => d.ok K) && ((er.all fun d => d.ok P K) && ex K))
def obsZ (P : Program) (names : List Str × List Str) (n : Nat) (fa : List Fa) (fn : List DefA) (er : List ErrD) (tf : List Defn) (ex : PySem.W.Frag → Bool) (g : Addr → Option Obj) : AlZ :=
  (okZ P fa fn er ex (frZ g names n) && tabsB g tf (frZ g names n), fn.map fun d => fnA (frZ g names n) (d.at_ (frZ g names n)), er.map fun d => fnE (frZ g names n) (d.f (frZ g names n)))
def valZ (fn : List DefA) (er : List ErrD) : AlZ := (true, fn.map DefA.val, er.map ErrD.val)
structure SaysZ (P : Program) (fa : List Fa) (fn : List DefA) (er : List ErrD) (tf : List Defn) (ex : PySem.W.Frag → Bool) (h : Heap) (K : PySem.W.Frag) : Prop where
  ok : okZ P fa fn er ex K = true
  defs : fn.map (fun d => fnA K (d.at_ K)) = fn.map DefA.val
  errs : er.map (fun d => fnE K (d.f K)) = er.map ErrD.val
  hd : ∀ p ∈ tf, PySem.W.codeHdIn K (cT K p).1 (cT K p).2 = true
  out : ∀ p ∈ tf, K.lookup (cT K p).2 = none
  empty : ∀ p ∈ tf, h.get? (cT K p).2 = some { cls := .none, data := .fields #[] }
theorem saysZ_of {P : Program} {names : List Str × List Str} {n : Nat} {fa : List Fa} {fn : List DefA} {er : List ErrD} {tf : List Defn} {ex : PySem.W.Frag → Bool} {h : Heap} (e : obsZ P names n fa fn er tf ex h.get? = valZ fn er) : SaysZ P fa fn er tf ex h (frZ h.get? names n) := by
  have e1 : (okZ P fa fn er ex (frZ h.get? names n) && tabsB h.get? tf (frZ h.get? names n)) = true := congrArg (fun z : AlZ => z.1) e
  have e2 : fn.map (fun d => fnA (frZ h.get? names n) (d.at_ (frZ h.get? names n))) = fn.map DefA.val := congrArg (fun z : AlZ => z.2.1) e
  have e3 : er.map (fun d => fnE (frZ h.get? names n) (d.f (frZ h.get? names n))) = er.map ErrD.val := congrArg (fun z : AlZ => z.2.2) e
  generalize hK : frZ h.get? names n = K at e1 e2 e3
  obtain ⟨h1, h2⟩ := ba e1
  have key : ∀ p ∈ tf, PySem.W.codeHdIn K (cT K p).1 (cT K p).2 = true ∧ ∃ o, h.get? (cT K p).2 = some o ∧ emptyTab o = true := fun p hp => by
    obtain ⟨h3, h4⟩ := ba (List.all_eq_true.mp h2 p hp)
    refine ⟨h3, ?_⟩
    cases q : h.get? (cT K p).2 with
    | none =>
      rw [q] at h4
      cases h4
    | some o =>
      rw [q] at h4
      exact ⟨o, rfl, h4⟩
  exact ⟨h1, e2, e3, fun p hp => (key p hp).1, fun p hp => by
    obtain ⟨_, o, q, z⟩ := key p hp
    rw [← hK]
    rw [← hK] at q
    exact frT_none q z, fun p hp => by
    obtain ⟨_, o, q, z⟩ := key p hp
    rw [q, emptyTab_eq z]⟩
def hookZ (P : Program) (names : List Str × List Str) (n : Nat) (fa : List Fa) (fn : List DefA) (er : List ErrD) (tf : List Defn) (ex : PySem.W.Frag → Bool) : PySem.W.Hook where
  α := AlZ
  obs := fun s => obsZ P names n fa fn er tf ex s.heap.get?
  val := fun _ => valZ fn er
  says := fun _ h => ∃ K : PySem.W.Frag, K.In h ∧ SaysZ P fa fn er tf ex h K
  of := fun _ _ e => ⟨_, frT_in, saysZ_of e⟩
  keeps := fun _ _ _ ⟨K, hK, c⟩ k => ⟨K, PySem.W.Frag.In.keeps hK k, ⟨c.ok, c.defs, c.errs, c.hd, c.out, fun p hp => k _ _ (c.empty p hp)⟩⟩
theorem obsZ_eq {P : Program} {names : List Str × List Str} {n : Nat} {fa : List Fa} {fn : List DefA} {er : List ErrD} {tf : List Defn} {ex : PySem.W.Frag → Bool} {g : Addr → Option Obj} {s : Shared} (h : ∀ a, g a = s.heap.get? a) : obsZ P names n fa fn er tf ex g = (hookZ P names n fa fn er tf ex).obs s := by
  have e : g = s.heap.get? := funext h
  rw [e] <;> rfl
section
variable {P : Program} {fa : List Fa} {fn : List DefA} {er : List ErrD} {tf : List Defn} {ex : PySem.W.Frag → Bool} {h : Heap} {K : PySem.W.Frag}
theorem SaysZ.fact (c : SaysZ P fa fn er tf ex h K) {f : Fa} (hf : f ∈ fa) : f.ok K = true := List.all_eq_true.mp (ba c.ok).1 f hf
theorem SaysZ.more (c : SaysZ P fa fn er tf ex h K) : ex K = true := (ba (ba (ba c.ok).2).2).2
theorem SaysZ.def_ (c : SaysZ P fa fn er tf ex h K) {d : DefA} (hd : d ∈ fn) : ∃ fd, FunD K d.name d.qual d.params d.body d.scope (d.dvs K) (d.kws K) (d.at_ K) fd := by
  obtain ⟨i, hi, e⟩ := List.mem_iff_getElem.mp hd
  have hi' : fn[i]? = some d := by rw [List.getElem?_eq_getElem hi, e]
  have e2 : (fn.map fun d => fnA K (d.at_ K))[i]? = (fn.map DefA.val)[i]? := by rw [c.defs]
  rw [List.getElem?_map, List.getElem?_map, hi'] at e2
  exact DefA.funD (Option.some.inj e2) (List.all_eq_true.mp (ba (ba c.ok).2).1 d hd)
theorem SaysZ.err (c : SaysZ P fa fn er tf ex h K) {d : ErrD} (hd : d ∈ er) (T : ErrT d.st d.qual d.fs) (top : (P.main.scope.names.lookup ("super" : Str)).isSome = false) : ErrC P K (d.C K) (d.f K) d.fs := by
  obtain ⟨i, hi, e⟩ := List.mem_iff_getElem.mp hd
  have hi' : er[i]? = some d := by rw [List.getElem?_eq_getElem hi, e]
  have e2 : (er.map fun d => fnE K (d.f K))[i]? = (er.map ErrD.val)[i]? := by rw [c.errs]
  rw [List.getElem?_map, List.getElem?_map, hi'] at e2
  exact ErrD.errC T top (Option.some.inj e2) (List.all_eq_true.mp (ba (ba (ba c.ok).2).2).1 d hd)
end
/-! ### defs without defaults -/
/-- a global def; a method; a classmethod; a property -/
def dG (x : Str) (st : Stmt) : DefA := ⟨fun K => ga K x, x, x, defArgs st, defBody st, defScope st, [], []⟩
def dM (C m : Str) (qual : Str) (st : Stmt) : DefA := ⟨fun K => ma K (ga K C) m, m, qual, defArgs st, defBody st, defScope st, [], []⟩
def dW (T : String) (C m : Str) (qual : Str) (st : Stmt) : DefA := ⟨fun K => wf K (ga K C) T m, m, qual, defArgs st, defBody st, defScope st, [], []⟩
section
variable {P : Program} {fa : List Fa} {fn : List DefA} {er : List ErrD} {tf : List Defn} {ex : PySem.W.Frag → Bool} {h : Heap} {K : PySem.W.Frag}
theorem SaysZ.fG (c : SaysZ P fa fn er tf ex h K) {x : Str} {st : Stmt} (hd : dG x st ∈ fn) : ∃ fd, Fun K x x st (ga K x) fd := let ⟨fd, F⟩ := c.def_ hd; ⟨fd, fun_of F⟩
theorem SaysZ.fM (c : SaysZ P fa fn er tf ex h K) {C m qual : Str} {st : Stmt} (hd : dM C m qual st ∈ fn) : ∃ fd, Fun K m qual st (ma K (ga K C) m) fd := let ⟨fd, F⟩ := c.def_ hd; ⟨fd, fun_of F⟩
theorem SaysZ.fW (c : SaysZ P fa fn er tf ex h K) {T : String} {C m qual : Str} {st : Stmt} (hd : dW T C m qual st ∈ fn) : ∃ fd, Fun K m qual st (wf K (ga K C) T m) fd := let ⟨fd, F⟩ := c.def_ hd; ⟨fd, fun_of F⟩
end
/-! ### Bools of structures -/
instance {K : PySem.W.Frag} {C : Addr} : Decidable (Cls K C) := decidable_of_iff (PySem.W.plainGet K C Str.empty = true ∧ PySem.W.hasDictIn K C = true ∧ PySem.W.plainOver K C = true ∧ PySem.W.findIn K (.ref C) "__setattr__" = some (some (.builtin "object.__setattr__"))) ⟨fun ⟨a, b, c, d⟩ => ⟨a, b, c, d⟩, fun ⟨a, b, c, d⟩ => ⟨a, b, c, d⟩⟩
instance {K : PySem.W.Frag} {C f : Addr} : Decidable (Mk K C f) := decidable_of_iff (PySem.W.makesIn K C = true ∧ PySem.W.findIn K (.ref C) "__init__" = some (some (.ref f)) ∧ PySem.W.isFn K (.ref f) = true ∧ PySem.W.keepIn K (.ref C) = true) ⟨fun ⟨a, b, c, d⟩ => ⟨a, b, c, d⟩, fun ⟨a, b, c, d⟩ => ⟨a, b, c, d⟩⟩
instance {K : PySem.W.Frag} {C f : Addr} {m : Str} : Decidable (Meth K C m f) := decidable_of_iff (PySem.W.findIn K (.ref C) m = some (some (.ref f)) ∧ PySem.W.isFn K (.ref f) = true ∧ PySem.W.keepIn K (.ref f) = true) ⟨fun ⟨a, b, c⟩ => ⟨a, b, c⟩, fun ⟨a, b, c⟩ => ⟨a, b, c⟩⟩
instance {K : PySem.W.Frag} {C f : Addr} {m : Str} : Decidable (OwnM K C m f) := decidable_of_iff (PySem.W.findIn K (.ref C) m = some (some (.ref f)) ∧ PySem.W.isFn K (.ref f) = true ∧ PySem.W.fnIn K f = true) ⟨fun ⟨a, b, c⟩ => ⟨a, b, c⟩, fun ⟨a, b, c⟩ => ⟨a, b, c⟩⟩
instance {K : PySem.W.Frag} {C : Addr} {m : Str} : Decidable (NoAttr K C m) := inferInstanceAs (Decidable (PySem.W.findIn K (.ref C) m = some none))
instance {K : PySem.W.Frag} {C : Addr} {mc : Value} : Decidable (ClX.CRead K C mc) := decidable_of_iff (PySem.W.readsIn K C mc = true ∧ PySem.W.specialIn K (.ref C) "__getattribute__" = some (some (.builtin "type.__getattribute__"))) ⟨fun ⟨a, b⟩ => ⟨a, b⟩, fun ⟨a, b⟩ => ⟨a, b⟩⟩
instance {K : PySem.W.Frag} {C : Addr} : Decidable (ExcC K C) := decidable_of_iff (PySem.W.findIn K (.ref C) "__getattribute__" = some (some (.builtin "BaseException.__getattribute__")) ∧ PySem.W.findIn K (.ref C) "__getattr__" = some none ∧ PySem.W.subIn K (.ref C) (.type "BaseException") = some true ∧ PySem.W.hasDictIn K C = true ∧
  PySem.W.findIn K (.ref C) "__class__" = some (some (.builtin "object.__class__")) ∧ PySem.W.specialIn K (.builtin "object.__class__") "__get__" = some (some (.builtin "getset_descriptor.__get__")) ∧ PySem.W.takesIn K (.builtin "object.__class__") = some true ∧ PySem.W.mroIn K C (.type "object") = some true)
  ⟨fun ⟨a, b, c, d, e, f, g, h⟩ => ⟨a, b, c, d, e, f, g, h⟩, fun ⟨a, b, c, d, e, f, g, h⟩ => ⟨a, b, c, d, e, f, g, h⟩⟩
instance {K : PySem.W.Frag} {C : Addr} : Decidable (XfC K C) := decidable_of_iff (PySem.W.findIn K (.ref C) "__getattribute__" = some (some (.builtin "BaseException.__getattribute__")) ∧ PySem.W.findIn K (.ref C) "__getattr__" = some none ∧ PySem.W.subIn K (.ref C) (.type "BaseException") = some true ∧ PySem.W.hasDictIn K C = true) ⟨fun ⟨a, b, c, d⟩ => ⟨a, b, c, d⟩, fun ⟨a, b, c, d⟩ => ⟨a, b, c, d⟩⟩
/-- C.m is a classmethod -/
def cmB (K : PySem.W.Frag) (C : Addr) (m : Str) : Bool := wrapB K C "classmethod" "classmethod.__get__" m && PySem.W.fnIn K (wf K C "classmethod" m)
theorem cmB_ok {K : PySem.W.Frag} {C : Addr} {m : Str} (h : cmB K C m = true) : ClX.CMet K C (.type "type") m (ma K C m) (wf K C "classmethod" m) := cmet_of (ba h).1 (ba h).2
/-- C.f is a property -/
def prB (K : PySem.W.Frag) (C : Addr) (f : Str) : Bool := decide (PySem.W.findIn K (.ref C) f = some (some (.ref (ma K C f)))) && (decide (PySem.W.specialIn K (.ref (ma K C f)) "__get__" = some (some (.builtin "property.__get__"))) && (decide (PySem.W.takesIn K (.ref (ma K C f)) = some true) && (match PySem.W.recIn K (ma K C f) "property" with
  | some (.ref _ :: _) => true
  | _ => false)))
theorem prB_ok {K : PySem.W.Frag} {C : Addr} {f : Str} (h : prB K C f = true) : PropOf K C f (ma K C f) (wf K C "property" f) := by
  obtain ⟨h1, h⟩ := ba h
  obtain ⟨h2, h⟩ := ba h
  obtain ⟨h3, h4⟩ := ba h
  refine ⟨of_decide_eq_true h1, of_decide_eq_true h2, of_decide_eq_true h3, ?_⟩
  unfold wf
  split at h4
  · rename_i g r e
    exact ⟨r, by rw [e]⟩
  · cases h4
end KpH
set_option maxHeartbeats 4000000
namespace Kq
open PySem PySem.Spec PyProof.Rows L2 Kp
/-! ### the text: law_k78_books_beside_books -/
def top (i : Nat) : Stmt := PySem.Challenge.pw_keptphrases_k78_books_beside_books.main.body.getD i (.Pass ⟨0, 0, 0, 0⟩)
abbrev s_l_pen : Stmt := top 78
abbrev N_l_pen : List Str := ["_law_script"]
theorem sc_l_pen : FnScope N_l_pen ["_law_script"] (defScope s_l_pen) := ⟨rfl, rfl, rfl, by decide +kernel, rfl, by decide +kernel, by decide +kernel⟩
abbrev s_l_draw : Stmt := top 79
abbrev N_l_draw : List Str := ["_law_pen_here", "_law_many", "_law_digit", "_law_at", "_law_cell", "_law_great", "_law_mixed"]
theorem sc_l_draw : FnScope N_l_draw ["_law_pen_here", "_law_many"] (defScope s_l_draw) := ⟨rfl, rfl, rfl, by decide +kernel, rfl, by decide +kernel, by decide +kernel⟩
abbrev s_l_pick : Stmt := top 80
abbrev N_l_pick : List Str := ["_law_pen_here", "_law_some"]
theorem sc_l_pick : FnScope N_l_pick ["_law_pen_here", "_law_some"] (defScope s_l_pick) := ⟨rfl, rfl, rfl, by decide +kernel, rfl, by decide +kernel, by decide +kernel⟩
abbrev s_l_shuffled : Stmt := top 81
abbrev N_l_shuffled : List Str := ["_law_pen_here", "_law_some", "_law_left", "_law_turn"]
theorem sc_l_shuffled : FnScope N_l_shuffled ["_law_pen_here", "_law_some"] (defScope s_l_shuffled) := ⟨rfl, rfl, rfl, by decide +kernel, rfl, by decide +kernel, by decide +kernel⟩
abbrev s_l_words : Stmt := top 82
abbrev N_l_words : List Str := ["_law_pen_here", "_law_many", "_law_letters", "_law_found", "_law_turn", "_law_head", "_law_k", "_law_spare", "_law_letter", "_law_one"]
theorem sc_l_words : FnScope N_l_words ["_law_pen_here", "_law_many"] (defScope s_l_words) := ⟨rfl, rfl, rfl, by decide +kernel, rfl, by decide +kernel, by decide +kernel⟩
abbrev s_l_nested : Stmt := top 83
abbrev N_l_nested : List Str := ["_law_pen_here", "_law_words_here", "_law_parts", "_law_turn", "_law_size", "_law_at", "_law_kind"]
theorem sc_l_nested : FnScope N_l_nested ["_law_pen_here", "_law_words_here"] (defScope s_l_nested) := ⟨rfl, rfl, rfl, by decide +kernel, rfl, by decide +kernel, by decide +kernel⟩
abbrev s_l_flat : Stmt := top 84
abbrev N_l_flat : List Str := ["_law_pen_here", "_law_item", "_law_kind", "_law_parts", "_law_found", "_law_part"]
theorem sc_l_flat : FnScope N_l_flat ["_law_pen_here", "_law_item"] (defScope s_l_flat) := ⟨rfl, rfl, rfl, by decide +kernel, rfl, by decide +kernel, by decide +kernel⟩
abbrev s_l_rows : Stmt := top 85
abbrev N_l_rows : List Str := ["_law_pen_here", "_law_words_here", "_law_many", "_law_nested_here", "_law_found", "_law_turn", "_law_way", "_law_row"]
theorem sc_l_rows : FnScope N_l_rows ["_law_pen_here", "_law_words_here", "_law_many"] (defScope s_l_rows) := ⟨rfl, rfl, rfl, by decide +kernel, rfl, by decide +kernel, by decide +kernel⟩
abbrev s_l_book : Stmt := top 86
abbrev N_l_book : List Str := ["_law_rows_here", "_law_row"]
theorem sc_l_book : FnScope N_l_book ["_law_rows_here"] (defScope s_l_book) := ⟨rfl, rfl, rfl, by decide +kernel, rfl, by decide +kernel, by decide +kernel⟩
abbrev s_l_heard : Stmt := top 87
abbrev N_l_heard : List Str := ["_law_ask", "_law_caught", "_law_found", "error", "_law_some"]
theorem sc_l_heard : FnScope N_l_heard ["_law_ask"] (defScope s_l_heard) := ⟨rfl, rfl, rfl, by decide +kernel, rfl, by decide +kernel, by decide +kernel⟩
abbrev s_l_beside : Stmt := top 88
abbrev N_l_beside : List Str := ["_law_some"]
theorem sc_l_beside : FnScope N_l_beside ["_law_some"] (defScope s_l_beside) := ⟨rfl, rfl, rfl, by decide +kernel, rfl, by decide +kernel, by decide +kernel⟩
abbrev s_l_dissolving : Stmt := top 89
abbrev N_l_dissolving : List Str := ["_law_some"]
theorem sc_l_dissolving : FnScope N_l_dissolving ["_law_some"] (defScope s_l_dissolving) := ⟨rfl, rfl, rfl, by decide +kernel, rfl, by decide +kernel, by decide +kernel⟩
abbrev s_l_joined : Stmt := top 90
abbrev N_l_joined : List Str := ["_law_some", "_law_found", "_law_row"]
theorem sc_l_joined : FnScope N_l_joined ["_law_some"] (defScope s_l_joined) := ⟨rfl, rfl, rfl, by decide +kernel, rfl, by decide +kernel, by decide +kernel⟩
abbrev s_l_wrong : Stmt := top 91
abbrev N_l_wrong : List Str := ["_law_lots_here", "_law_odd", "_law_words_here", "_law_twice", "_law_at", "_law_lot", "_law_k"]
theorem sc_l_wrong : FnScope N_l_wrong ["_law_lots_here"] (defScope s_l_wrong) := ⟨rfl, rfl, rfl, by decide +kernel, rfl, by decide +kernel, by decide +kernel⟩
abbrev s_l_right : Stmt := top 92
abbrev N_l_right : List Str := ["_law_lots_here", "_law_some", "_law_due", "_law_heard_here", "_law_rows_here", "_law_whole", "_law_book_here", "_law_lot", "_law_k"]
theorem sc_l_right : FnScope N_l_right ["_law_lots_here"] (defScope s_l_right) := ⟨rfl, rfl, rfl, by decide +kernel, rfl, by decide +kernel, by decide +kernel⟩
abbrev s_l_lots : Stmt := top 93
abbrev N_l_lots : List Str := ["_law_pen_here", "_law_words_here", "_law_lots_here", "_law_many", "_law_mood", "_law_turn", "_law_some", "_law_lot", "_law_word"]
theorem sc_l_lots : FnScope N_l_lots ["_law_pen_here"] (defScope s_l_lots) := ⟨rfl, rfl, rfl, by decide +kernel, rfl, by decide +kernel, by decide +kernel⟩
abbrev s_law : Stmt := top 94
abbrev N_law : List Str := ["_law_script", "_law_pen_here", "_law_turn", "_law_words_here", "_law_low", "_law_high", "_law_lots_here", "_law_heard_here"]
theorem sc_law : FnScope N_law ["_law_script"] (defScope s_law) := ⟨rfl, rfl, rfl, by decide +kernel, rfl, by decide +kernel, by decide +kernel⟩
abbrev s_is_integer : Stmt := top 4
abbrev N_is_integer : List Str := ["value", "least", "most"]
theorem sc_is_integer : FnScope N_is_integer ["value", "least", "most"] (defScope s_is_integer) := ⟨rfl, rfl, rfl, by decide +kernel, rfl, by decide +kernel, by decide +kernel⟩
abbrev s_is_word : Stmt := top 5
abbrev N_is_word : List Str := ["value", "letter"]
theorem sc_is_word : FnScope N_is_word ["value"] (defScope s_is_word) := ⟨rfl, rfl, rfl, by decide +kernel, rfl, by decide +kernel, by decide +kernel⟩
abbrev s_need_books : Stmt := top 74
abbrev N_need_books : List Str := ["books", "at", "book", "words", "twice", "word"]
theorem sc_need_books : FnScope N_need_books ["books"] (defScope s_need_books) := ⟨rfl, rfl, rfl, by decide +kernel, rfl, by decide +kernel, by decide +kernel⟩
abbrev s_beside : Stmt := top 75
abbrev N_beside : List Str := ["books", "orders", "k", "book", "word"]
theorem sc_beside : FnScope N_beside ["books"] (defScope s_beside) := ⟨rfl, rfl, rfl, by decide +kernel, rfl, by decide +kernel, by decide +kernel⟩
abbrev s_dissolving : Stmt := top 76
abbrev N_dissolving : List Str := ["books", "tree", "at", "book"]
theorem sc_dissolving : FnScope N_dissolving ["books"] (defScope s_dissolving) := ⟨rfl, rfl, rfl, by decide +kernel, rfl, by decide +kernel, by decide +kernel⟩
abbrev s_Group_init : Stmt := inClass (top 22) 1
abbrev N_Group_init : List Str := ["self", "words", "word", "row"]
theorem sc_Group_init : FnScope N_Group_init ["self", "words"] (defScope s_Group_init) := ⟨rfl, rfl, rfl, by decide +kernel, rfl, by decide +kernel, by decide +kernel⟩
abbrev s_Group_len : Stmt := inClass (top 22) 4
abbrev N_Group_len : List Str := ["self"]
theorem sc_Group_len : FnScope N_Group_len ["self"] (defScope s_Group_len) := ⟨rfl, rfl, rfl, by decide +kernel, rfl, by decide +kernel, by decide +kernel⟩
abbrev s_Group_and : Stmt := inClass (top 22) 9
abbrev N_Group_and : List Str := ["self", "other", "row", "word"]
theorem sc_Group_and : FnScope N_Group_and ["self", "other"] (defScope s_Group_and) := ⟨rfl, rfl, rfl, by decide +kernel, rfl, by decide +kernel, by decide +kernel⟩
abbrev s_Group_eq : Stmt := inClass (top 22) 7
abbrev N_Group_eq : List Str := ["self", "other"]
theorem sc_Group_eq : FnScope N_Group_eq ["self", "other"] (defScope s_Group_eq) := ⟨rfl, rfl, rfl, by decide +kernel, rfl, by decide +kernel, by decide +kernel⟩
abbrev s_Order_init : Stmt := inClass (top 24) 1
abbrev N_Order_init : List Str := ["self", "words", "word", "at"]
theorem sc_Order_init : FnScope N_Order_init ["self", "words"] (defScope s_Order_init) := ⟨rfl, rfl, rfl, by decide +kernel, rfl, by decide +kernel, by decide +kernel⟩
abbrev s_Order_of : Stmt := inClass (top 24) 2
abbrev N_Order_of : List Str := ["cls", "words"]
theorem sc_Order_of : FnScope N_Order_of ["cls", "words"] (defScope s_Order_of) := ⟨rfl, rfl, rfl, by decide +kernel, rfl, by decide +kernel, by decide +kernel⟩
abbrev s_Order_invert : Stmt := inClass (top 24) 11
abbrev N_Order_invert : List Str := ["self", "row"]
theorem sc_Order_invert : FnScope N_Order_invert ["self"] (defScope s_Order_invert) := ⟨rfl, rfl, rfl, by decide +kernel, rfl, by decide +kernel, by decide +kernel⟩
abbrev s_Order_add : Stmt := inClass (top 24) 12
abbrev N_Order_add : List Str := ["self", "other", "word"]
theorem sc_Order_add : FnScope N_Order_add ["self", "other"] (defScope s_Order_add) := ⟨rfl, rfl, rfl, by decide +kernel, rfl, by decide +kernel, by decide +kernel⟩
abbrev s_Order_eq : Stmt := inClass (top 24) 9
abbrev N_Order_eq : List Str := ["self", "other"]
theorem sc_Order_eq : FnScope N_Order_eq ["self", "other"] (defScope s_Order_eq) := ⟨rfl, rfl, rfl, by decide +kernel, rfl, by decide +kernel, by decide +kernel⟩
abbrev s_Book_init : Stmt := inClass (top 30) 1
abbrev N_Book_init : List Str := ["self", "orders", "at", "order"]
theorem sc_Book_init : FnScope N_Book_init ["self", "orders"] (defScope s_Book_init) := ⟨rfl, rfl, rfl, by decide +kernel, rfl, by decide +kernel, by decide +kernel⟩
abbrev s_Book_of : Stmt := inClass (top 30) 2
abbrev N_Book_of : List Str := ["cls", "orders"]
theorem sc_Book_of : FnScope N_Book_of ["cls", "orders"] (defScope s_Book_of) := ⟨rfl, rfl, rfl, by decide +kernel, rfl, by decide +kernel, by decide +kernel⟩
abbrev s_Book_changes : Stmt := inClass (top 30) 5
abbrev N_Book_changes : List Str := ["self"]
theorem sc_Book_changes : FnScope N_Book_changes ["self"] (defScope s_Book_changes) := ⟨rfl, rfl, rfl, by decide +kernel, rfl, by decide +kernel, by decide +kernel⟩
abbrev s_Book_need_words : Stmt := inClass (top 30) 6
abbrev N_Book_need_words : List Str := ["self", "order"]
theorem sc_Book_need_words : FnScope N_Book_need_words ["self", "order"] (defScope s_Book_need_words) := ⟨rfl, rfl, rfl, by decide +kernel, rfl, by decide +kernel, by decide +kernel⟩
abbrev s_Book_need_place : Stmt := inClass (top 30) 8
abbrev N_Book_need_place : List Str := ["self", "k"]
theorem sc_Book_need_place : FnScope N_Book_need_place ["self", "k"] (defScope s_Book_need_place) := ⟨rfl, rfl, rfl, by decide +kernel, rfl, by decide +kernel, by decide +kernel⟩
abbrev s_Book_change : Stmt := inClass (top 30) 9
abbrev N_Book_change : List Str := ["self", "orders"]
theorem sc_Book_change : FnScope N_Book_change ["self", "orders"] (defScope s_Book_change) := ⟨rfl, rfl, rfl, by decide +kernel, rfl, by decide +kernel, by decide +kernel⟩
abbrev s_Book_turn : Stmt := inClass (top 30) 12
abbrev N_Book_turn : List Str := ["self", "k"]
theorem sc_Book_turn : FnScope N_Book_turn ["self", "k"] (defScope s_Book_turn) := ⟨rfl, rfl, rfl, by decide +kernel, rfl, by decide +kernel, by decide +kernel⟩
abbrev s_Book_len : Stmt := inClass (top 30) 19
abbrev N_Book_len : List Str := ["self"]
theorem sc_Book_len : FnScope N_Book_len ["self"] (defScope s_Book_len) := ⟨rfl, rfl, rfl, by decide +kernel, rfl, by decide +kernel, by decide +kernel⟩
abbrev s_Book_getitem : Stmt := inClass (top 30) 21
abbrev N_Book_getitem : List Str := ["self", "at"]
theorem sc_Book_getitem : FnScope N_Book_getitem ["self", "at"] (defScope s_Book_getitem) := ⟨rfl, rfl, rfl, by decide +kernel, rfl, by decide +kernel, by decide +kernel⟩
abbrev s_Book_add : Stmt := inClass (top 30) 26
abbrev N_Book_add : List Str := ["self", "other", "both", "orders", "one", "two"]
theorem sc_Book_add : FnScope N_Book_add ["self", "other"] (defScope s_Book_add) := ⟨rfl, rfl, rfl, by decide +kernel, rfl, by decide +kernel, by decide +kernel⟩
abbrev s_Book_eq : Stmt := inClass (top 30) 27
abbrev N_Book_eq : List Str := ["self", "other"]
theorem sc_Book_eq : FnScope N_Book_eq ["self", "other"] (defScope s_Book_eq) := ⟨rfl, rfl, rfl, by decide +kernel, rfl, by decide +kernel, by decide +kernel⟩
end Kq
set_option maxHeartbeats 4000000
namespace Kq
open PySem PySem.Spec PyProof.Rows L2 Kp KpH
open He (ga ma cT codeOf codeOf_eq codeIn_ref)
open He5 (wf)
/-! ### the head -/
theorem all_at {l : List Bool} (h : l.all id = true) (i : Nat) {b : Bool} (hi : l[i]? = some b) : b = true := List.all_eq_true.mp h b (List.mem_of_getElem? hi)
def fa0 : List He.Fa := [.free "int", .free "len", .free "abs", .free "list", .free "tuple", .free "str", .free "set", .free "min", .free "range", .free "enumerate", .free "zip", .free "sorted", .free "all", .free "repr", .free "isinstance", .free "super", .free "ValueError", .free "bool", .glo "_law_draw", .glo "_law_pick"]
def fa1 : List He.Fa := [.glo "_law_shuffled", .glo "_law_words", .glo "_law_nested", .glo "_law_flat", .glo "_law_rows", .glo "_law_pen", .glo "_law_book", .glo "_law_beside", .glo "_law_dissolving", .glo "_law_joined", .glo "_law_wrong", .glo "_law_heard", .glo "_law_right", .glo "_law_lots", .glo "is_word", .glo "is_integer", .glo "need_books", .glo "beside", .glo "dissolving", .glo "tree_of"]
def fa2 : List He.Fa := [.glo "Group", .glo "Order", .glo "Book", .glo "BadBook", .glo "Unlike", .glo "Taken", .glo "TooMany", .glo "PhraseError", .glo "law", .int "MOST_WORDS" 24, .str "LETTERS" "abcdefghijklmnopqrstuvwxyz", .int "MOST_ORDERS" 8, .keep "tree_of"]
def fa : List He.Fa := fa0 ++ fa1 ++ fa2
def fn0 : List He5.DefA := [dG "_law_draw" s_l_draw, dG "_law_pick" s_l_pick, dG "_law_shuffled" s_l_shuffled, dG "_law_words" s_l_words, dG "_law_nested" s_l_nested, dG "_law_flat" s_l_flat, dG "_law_rows" s_l_rows, dG "_law_pen" s_l_pen, dG "_law_book" s_l_book, dG "_law_beside" s_l_beside, dG "_law_dissolving" s_l_dissolving, dG "_law_joined" s_l_joined]
def fn1 : List He5.DefA := [dG "_law_wrong" s_l_wrong, dG "_law_heard" s_l_heard, dG "_law_right" s_l_right, dG "_law_lots" s_l_lots, dG "law" s_law, dG "is_word" s_is_word, dG "is_integer" s_is_integer, dG "need_books" s_need_books, dG "beside" s_beside, dG "dissolving" s_dissolving, dM "Group" "__init__" "Group.__init__" s_Group_init, dM "Group" "__len__" "Group.__len__" s_Group_len]
def fn2 : List He5.DefA := [dM "Group" "__and__" "Group.__and__" s_Group_and, dM "Group" "__eq__" "Group.__eq__" s_Group_eq, dM "Order" "__init__" "Order.__init__" s_Order_init, dM "Order" "__invert__" "Order.__invert__" s_Order_invert, dM "Order" "__add__" "Order.__add__" s_Order_add, dM "Order" "__eq__" "Order.__eq__" s_Order_eq, dM "Book" "__init__" "Book.__init__" s_Book_init, dM "Book" "need_words" "Book.need_words" s_Book_need_words, dM "Book" "need_place" "Book.need_place" s_Book_need_place, dM "Book" "change" "Book.change" s_Book_change, dM "Book" "turn" "Book.turn" s_Book_turn, dM "Book" "__len__" "Book.__len__" s_Book_len]
def fn3 : List He5.DefA := [dM "Book" "__getitem__" "Book.__getitem__" s_Book_getitem, dM "Book" "__add__" "Book.__add__" s_Book_add, dM "Book" "__eq__" "Book.__eq__" s_Book_eq, dW "classmethod" "Order" "of" "Order.of" s_Order_of, dW "classmethod" "Book" "of" "Book.of" s_Book_of, dW "property" "Book" "changes" "Book.changes" s_Book_changes]
def fn : List He5.DefA := fn0 ++ fn1 ++ fn2 ++ fn3
abbrev s_BadBook_init : Stmt := inClass (top 14) 0
def d_BadBook : ErrD := ⟨"BadBook", "BadBook.__init__", s_BadBook_init, ["at"]⟩
theorem t_BadBook : ErrT d_BadBook.st d_BadBook.qual d_BadBook.fs := ⟨⟨rfl, rfl, rfl, by decide +kernel, rfl, rfl, rfl, by decide +kernel⟩, _, _, _, _, _, _, _, _, _, _, rfl, rfl, rfl, rfl, .inl ⟨_, _, _, _, _, rfl, rfl, fun _ _ _ _ _ _ _ _ _ => rfl⟩⟩
abbrev s_Unlike_init : Stmt := inClass (top 13) 0
def d_Unlike : ErrD := ⟨"Unlike", "Unlike.__init__", s_Unlike_init, ["part"]⟩
theorem t_Unlike : ErrT d_Unlike.st d_Unlike.qual d_Unlike.fs := ⟨⟨rfl, rfl, rfl, by decide +kernel, rfl, rfl, rfl, by decide +kernel⟩, _, _, _, _, _, _, _, _, _, _, rfl, rfl, rfl, rfl, .inl ⟨_, _, _, _, _, rfl, rfl, fun _ _ _ _ _ _ _ _ _ => rfl⟩⟩
abbrev s_Taken_init : Stmt := inClass (top 17) 0
def d_Taken : ErrD := ⟨"Taken", "Taken.__init__", s_Taken_init, ["word"]⟩
theorem t_Taken : ErrT d_Taken.st d_Taken.qual d_Taken.fs := ⟨⟨rfl, rfl, rfl, by decide +kernel, rfl, rfl, rfl, by decide +kernel⟩, _, _, _, _, _, _, _, _, _, _, rfl, rfl, rfl, rfl, .inl ⟨_, _, _, _, _, rfl, rfl, fun _ _ _ _ _ _ _ _ _ => rfl⟩⟩
abbrev s_TooMany_init : Stmt := inClass (top 19) 0
def d_TooMany : ErrD := ⟨"TooMany", "TooMany.__init__", s_TooMany_init, ["what", "most"]⟩
theorem t_TooMany : ErrT d_TooMany.st d_TooMany.qual d_TooMany.fs := ⟨⟨rfl, rfl, rfl, by decide +kernel, rfl, rfl, rfl, by decide +kernel⟩, _, _, _, _, _, _, _, _, _, _, rfl, rfl, rfl, rfl, .inr ⟨_, _, _, _, _, _, _, _, _, _, rfl, by decide, rfl, fun _ _ _ _ _ _ _ _ _ _ => rfl⟩⟩
def er : List ErrD := [d_BadBook, d_Unlike, d_Taken, d_TooMany]
def tf : List He.Defn := [("_law_right", none), ("law", none)]
def ex0 (K : PySem.W.Frag) : List Bool := [decide (Cls K (ga K "Group")),
  decide (Mk K (ga K "Group") (ma K (ga K "Group") "__init__")),
  decide (PySem.W.selfFirst K (ga K "Group") = true),
  decide (NoAttr K (ga K "Group") "row"),
  decide (PySem.W.findIn K (.ref (ga K "Group")) "__class__" = some (some (.builtin "object.__class__"))),
  decide (PySem.W.specialIn K (.builtin "object.__class__") "__get__" = some (some (.builtin "getset_descriptor.__get__"))),
  decide (PySem.W.takesIn K (.builtin "object.__class__") = some true),
  decide (PySem.W.mroIn K (ga K "Group") (.type "object") = some true),
  decide (PySem.W.kitOne K (.ref (ga K "Group")) (.ref (ga K "Group")) = some true),
  decide (PySem.W.kitOne K (.ref (ga K "Group")) (.type "list") = some false),
  decide (Cls K (ga K "Order")),
  decide (Mk K (ga K "Order") (ma K (ga K "Order") "__init__"))]
def ex1 (K : PySem.W.Frag) : List Bool := [decide (PySem.W.selfFirst K (ga K "Order") = true),
  decide (NoAttr K (ga K "Order") "row"),
  decide (NoAttr K (ga K "Order") "group"),
  decide (NoAttr K (ga K "Order") "place_of"),
  decide (PySem.W.findIn K (.ref (ga K "Order")) "__class__" = some (some (.builtin "object.__class__"))),
  decide (PySem.W.specialIn K (.builtin "object.__class__") "__get__" = some (some (.builtin "getset_descriptor.__get__"))),
  decide (PySem.W.takesIn K (.builtin "object.__class__") = some true),
  decide (PySem.W.mroIn K (ga K "Order") (.type "object") = some true),
  decide (PySem.W.kitOne K (.ref (ga K "Order")) (.ref (ga K "Order")) = some true),
  decide (PySem.W.kitOne K (.ref (ga K "Order")) (.type "list") = some false),
  decide (Cls K (ga K "Book")),
  decide (Mk K (ga K "Book") (ma K (ga K "Book") "__init__"))]
def ex2 (K : PySem.W.Frag) : List Bool := [decide (PySem.W.selfFirst K (ga K "Book") = true),
  decide (NoAttr K (ga K "Book") "group"),
  decide (NoAttr K (ga K "Book") "held"),
  decide (NoAttr K (ga K "Book") "past"),
  decide (PySem.W.findIn K (.ref (ga K "Book")) "__class__" = some (some (.builtin "object.__class__"))),
  decide (PySem.W.specialIn K (.builtin "object.__class__") "__get__" = some (some (.builtin "getset_descriptor.__get__"))),
  decide (PySem.W.takesIn K (.builtin "object.__class__") = some true),
  decide (PySem.W.mroIn K (ga K "Book") (.type "object") = some true),
  decide (PySem.W.kitOne K (.ref (ga K "Book")) (.ref (ga K "Book")) = some true),
  decide (PySem.W.kitOne K (.ref (ga K "Book")) (.type "list") = some false),
  decide (OwnM K (ga K "Group") "__len__" (ma K (ga K "Group") "__len__")),
  decide (OwnM K (ga K "Group") "__and__" (ma K (ga K "Group") "__and__"))]
def ex3 (K : PySem.W.Frag) : List Bool := [decide (OwnM K (ga K "Group") "__eq__" (ma K (ga K "Group") "__eq__")),
  decide (OwnM K (ga K "Order") "__invert__" (ma K (ga K "Order") "__invert__")),
  decide (OwnM K (ga K "Order") "__add__" (ma K (ga K "Order") "__add__")),
  decide (OwnM K (ga K "Order") "__eq__" (ma K (ga K "Order") "__eq__")),
  decide (OwnM K (ga K "Book") "__len__" (ma K (ga K "Book") "__len__")),
  decide (OwnM K (ga K "Book") "__getitem__" (ma K (ga K "Book") "__getitem__")),
  decide (OwnM K (ga K "Book") "__add__" (ma K (ga K "Book") "__add__")),
  decide (OwnM K (ga K "Book") "__eq__" (ma K (ga K "Book") "__eq__")),
  decide (PySem.W.findIn K (.ref (ga K "Group")) "__ne__" = some (some (.builtin "object.__ne__"))),
  decide (PySem.W.findIn K (.ref (ga K "Book")) "__ne__" = some (some (.builtin "object.__ne__"))),
  decide (ClX.CRead K (ga K "Order") (.type "type")),
  cmB K (ga K "Order") "of"]
def ex4 (K : PySem.W.Frag) : List Bool := [decide (ClX.CRead K (ga K "Book") (.type "type")),
  cmB K (ga K "Book") "of",
  prB K (ga K "Book") "changes",
  decide (Meth K (ga K "Book") "need_words" (ma K (ga K "Book") "need_words")),
  decide (Meth K (ga K "Book") "need_place" (ma K (ga K "Book") "need_place")),
  decide (Meth K (ga K "Book") "change" (ma K (ga K "Book") "change")),
  decide (Meth K (ga K "Book") "turn" (ma K (ga K "Book") "turn")),
  decide ((ga K "Book") ≠ (ga K "Group")),
  decide ((ga K "Book") ≠ (ga K "Order")),
  decide (XfC K (ga K "BadBook")),
  decide (PySem.W.findIn K (.ref (ga K "BadBook")) "at" = some none),
  decide (XfC K (ga K "Unlike"))]
def ex5 (K : PySem.W.Frag) : List Bool := [decide (PySem.W.findIn K (.ref (ga K "Unlike")) "part" = some none),
  decide (XfC K (ga K "Taken")),
  decide (PySem.W.findIn K (.ref (ga K "Taken")) "word" = some none),
  decide (XfC K (ga K "TooMany")),
  decide (PySem.W.findIn K (.ref (ga K "TooMany")) "what" = some none),
  decide (PySem.W.findIn K (.ref (ga K "TooMany")) "most" = some none),
  decide (∀ C ∈ [(ga K "BadBook"), (ga K "Unlike"), (ga K "Taken"), (ga K "TooMany")], ExcC K C ∧ PySem.W.exmOne K (.ref C) (.ref (ga K "PhraseError")) = some true ∧ PySem.W.kitOne K (.ref C) (.type "ValueError") = some true ∧ ∀ D ∈ [(ga K "BadBook"), (ga K "Unlike"), (ga K "Taken"), (ga K "TooMany")], PySem.W.kitOne K (.ref C) (.ref D) = some (decide (C = D))),
  decide ([(ga K "BadBook"), (ga K "Unlike"), (ga K "Taken"), (ga K "TooMany")].Nodup),
  decide (∀ t ∈ ([.type "NoneType", .type "int", .type "str", .type "bool", .type "tuple", .type "dict", .ref (ga K "Group"), .ref (ga K "Order")] : List Value), PySem.W.kitOne K t (.ref (ga K "Book")) = some false),
  decide ((cT K ("_law_right", none)).2 ≠ (cT K ("law", none)).2)]
def exs (K : PySem.W.Frag) : List Bool := ex0 K ++ ex1 K ++ ex2 K ++ ex3 K ++ ex4 K ++ ex5 K
def ex (K : PySem.W.Frag) : Bool := (exs K).all id
def roots : List Str × List Str := (["_law_draw", "_law_pick", "_law_shuffled", "_law_words", "_law_nested", "_law_flat", "_law_rows", "_law_pen", "_law_book", "_law_beside", "_law_dissolving", "_law_joined", "_law_wrong", "_law_heard", "_law_right", "_law_lots", "law", "is_word", "is_integer", "need_books", "beside", "dissolving", "tree_of", "Group", "Order", "Book", "PhraseError", "BadBook", "Unlike", "Taken", "TooMany"], ["__init__", "__len__", "__and__", "__eq__", "__invert__", "__add__", "__getitem__", "of", "need_words", "need_place", "change", "turn", "changes"])
abbrev PP : Program := (PySem.Challenge.rw_keptphrases_k78_books_beside_books).prog
end Kq
set_option maxHeartbeats 0
namespace Kq
open PySem PySem.W PySem.Calls PyProof.Rows
abbrev R : OpenRow := OpenLaw.row PySem.Challenge.rw_keptphrases_k78_books_beside_books
abbrev hk : Hook := KpH.hookZ PP roots 4 fa fn er tf ex
def ob (s : SharedT) : KpH.AlZ := KpH.obsZ PP roots 4 fa fn er tf ex (HandSHeadRun.getT s)
theorem ob_eq (s : SharedT) : ob s = hk.obs s.abs := KpH.obsZ_eq (HandSHeadRun.getT_eq s)
def names0 : List PySem.Str := ["_wall", "MOST_WORDS", "LETTERS", "is_integer", "is_word", "PhraseError", "BadWord", "BadPlace", "BadOrder", "BadGroup", "BadTree", "Unlike", "BadBook", "BadNode", "NoWord", "Taken", "BadText", "TooMany", "NoChange", "Group", "Order", "MOST_ORDERS", "BAR", "can_follow", "rows_in", "Book", "LEAST_EVEN", "LEAST_STIFF", "MOST_OPEN", "CLOSING"]
def names1 : List PySem.Str := ["need_parts", "group_of", "texts_of", "sorted_groups", "nodes_below", "nodes_in_order", "Node", "Parted", "Rowed", "Leaf", "Even", "Stiff", "closed", "is_new_name", "node_in", "phrase_rows", "phrases", "LEAST_ROW", "factorial", "many_kept", "places_of", "is_row", "stands_in", "need_group", "parts_met", "Tree", "bits_of", "is_crossing", "crosses", "row_of"]
def names2 : List PySem.Str := ["node_over", "tree_of_sets", "tree_of", "is_node", "need_books", "beside", "dissolving", "_law_pen", "_law_draw", "_law_pick", "_law_shuffled", "_law_words", "_law_nested", "_law_flat", "_law_rows", "_law_book", "_law_heard", "_law_beside", "_law_dissolving", "_law_joined", "_law_wrong", "_law_right", "_law_lots"]
def names : List PySem.Str := names0 ++ names1 ++ names2
theorem run_f (w : World) : HandSHeadRun.RunEq R (view R.prog [94]) hk ob 20000 names (w.withFollow "special-get-raises" false) := by
  intro os
  kernel_rfl
theorem run_t (w : World) : HandSHeadRun.RunEq R (view R.prog [94]) hk ob 20000 names (w.withFollow "special-get-raises" true) := by
  intro os
  kernel_rfl
theorem run (w : World) : HandSHeadRun.RunEq R (view R.prog [94]) hk ob 20000 names w := byRow2 "special-get-raises" run_f run_t w
end Kq
/-! Sets of texts: set(a tuple of texts), its length, sorted of it. Made after the pattern of the kit's sets of ints. -/
namespace Kp
open PySem PySem.Spec PyProof.Rows L2

abbrev SK (P : Program) (w : World) : PySem.KeyKind P w Str := PySem.strKind P w
/-- the text of a row of a set's table -/
def txt (e : Int × Value) : Str := match e.2 with
  | .str x _ => x
  | _ => Str.empty
def Row (w : World) (e : Int × Value) : Prop := ∃ x tk, e.2 = Value.str x tk ∧ e.1 = hashStr w x
/-- the set of texts at a: M tells its members, n their number -/
def TxtSt (w : World) (h : Heap) (a : Addr) (M : Str → Bool) (n : Nat) : Prop :=
  ∃ o es ep t, h.get? a = some o ∧ o.ExactSet ∧ o.data = .set es ep t ∧ (∀ e ∈ es.toList, Row w e) ∧ (es.toList.map txt).Nodup ∧
    (∀ x, M x = true ↔ x ∈ es.toList.map txt) ∧ es.size < scanBound ∧ t.fits es.size = true ∧ es.size = n ∧ Ris t.place.toList ∧
    (w.params.followText "set-order" = true ∨ t.led = true)

section
variable {P : Program} {w : World} {h h' : Heap} {a : Addr} {M : Str → Bool} {n : Nat}
theorem TxtSt.at (R : TxtSt w h a M n) (k : ∀ o, h.get? a = some o → h'.get? a = some o) : TxtSt w h' a M n :=
  let ⟨o, es, ep, t, ho, r⟩ := R
  ⟨o, es, ep, t, k o ho, r⟩
theorem TxtSt.congr {M' : Str → Bool} (R : TxtSt w h a M n) (e : ∀ k, M' k = M k) : TxtSt w h a M' n := by
  have q : M' = M := funext e
  exact q ▸ R
theorem rows_elems {l : List (Int × Value)} (g : ∀ e ∈ l, Row w e) : ElemsOf (SK P w) l := fun e he => by
  obtain ⟨x, tk, h1, h2⟩ := g e he
  refine ⟨⟨x, ?_, h2⟩, ?_⟩
  · rw [h1]; exact strKind_is P w x tk
  · rw [h1]; rfl
theorem row_is {e : Int × Value} (g : Row w e) (x : Str) : (SK P w).is x e.2 = true ↔ txt e = x := by
  obtain ⟨y, tk, h1, _⟩ := g
  unfold txt
  rw [h1]
  constructor
  · intro q
    obtain ⟨t, z⟩ := Value.isStrOf_shape (show Value.isStrOf x (.str y tk) = true from q)
    injection z
  · intro q
    subst q
    exact strKind_is P w _ tk
theorem row_mem {l : List (Int × Value)} (g : ∀ e ∈ l, Row w e) (x : Str) : x ∈ l.map txt ↔ ∃ e ∈ l, (SK P w).is x e.2 = true := by
  rw [List.mem_map]
  exact ⟨fun ⟨e, he, q⟩ => ⟨e, he, (row_is (g e he) x).2 q⟩, fun ⟨e, he, q⟩ => ⟨e, he, (row_is (g e he) x).1 q⟩⟩
end

section
variable {P : Program} {w : World} {A : Around} {E : Value → Shared → Prop} {s : Shared} {a : Addr} {M : Str → Bool} {n : Nat}

theorem ts_add_tail {g : Bool → Sem Unit} (hg : ∀ (b : Bool) (s₁ : Shared) (Q' : Unit → Shared → Prop), Q' () s₁ → wpAny (model P w) A (g b) Q' E s₁)
    {o : Obj} {es : Array (Int × Value)} {ep : Nat} {t : SetTable} (ho : s.heap.get? a = some o) (hex : o.ExactSet) (hd : o.data = .set es ep t)
    {es1 : Array (Int × Value)} {t2 : SetTable} {M' : Str → Bool} (g1 : ∀ e ∈ es1.toList, Row w e) (nd1 : (es1.toList.map txt).Nodup) (m1 : ∀ k, M' k = true ↔ k ∈ es1.toList.map txt)
    (hb1 : es1.size < scanBound) (hf2 : t2.fits es1.size = true) (hr : Ris t2.place.toList) (hl : w.params.followText "set-order" = true ∨ t2.led = true) {was : Bool} {R : Option Bool → Shared → Prop}
    (hR : ∀ h', Heap.SameBut a s.heap h' → TxtSt w h' a M' es1.size → R (some true) { s with heap := h' }) :
    wpAny (model P w) A (do
        storeSet a es1 t2
        if (!was && t2.tooFull) = true then do
            g (relayAll t2 es1 (SetTable.grown es1.size)).2.2
            storeSet a (relayAll t2 es1 (SetTable.grown es1.size)).1 (relayAll t2 es1 (SetTable.grown es1.size)).2.1
            pure (some true)
          else pure (some true)) R E s := by
  refine wpAny_bind (wpAny_storeSet_of ho hd ?_ (fits_of_scanBound hb1))
  have ho1 := store_at (es' := es1) (t' := t2) ho hd
  have sb1 := Heap.SameBut.update s.heap a (Obj.putSet es1 t2)
  split
  · have pm := relayAll_perm t2 es1 (SetTable.grown es1.size)
    have hf3 := relayAll_fits t2 es1 (SetTable.grown es1.size)
    have hr3 := relayAll_ris t2 es1 (SetTable.grown es1.size)
    have hl3 := relayAll_led t2 es1 (SetTable.grown es1.size)
    generalize relayAll t2 es1 (SetTable.grown es1.size) = Z at pm hf3 hr3 hl3 ⊢
    obtain ⟨es2, t3, gave⟩ := Z
    dsimp only at pm hf3 hr3 hl3 ⊢
    have hsz : es2.size = es1.size := by rw [← Array.length_toList, pm.length_eq, Array.length_toList]
    have hb2 : es2.size < scanBound := by rw [hsz]; exact hb1
    refine wpAny_bind (hg _ _ _ ?_)
    refine wpAny_bind (wpAny_storeSet_of ho1 rfl ?_ (fits_of_scanBound hb2))
    have ho2 := store_at (es' := es2) (t' := t3) ho1 rfl
    refine wpAny_pure (hR _ (sb1.trans (Heap.SameBut.update _ a _)) ?_)
    exact ⟨_, es2, _, t3, ho2, hex, rfl, fun e he => g1 e (pm.mem_iff.mp he), (pm.map txt).nodup_iff.mpr nd1, fun k => (m1 k).trans (pm.map txt).mem_iff.symm, hb2, hf3, hsz, hr3,
      hl.imp id fun z => by rw [hl3]; exact z⟩
  · exact wpAny_pure (hR _ sb1 ⟨_, es1, _, t2, ho1, hex, rfl, g1, nd1, m1, hb1, hf2, rfl, hr, hl⟩)

theorem ts_add {x : Str} {tk : Tok} {Q : Bool → Shared → Prop} (R : TxtSt w s.heap a M n) (room : n + 1 < scanBound)
    (hQ : ∀ h', Heap.SameBut a s.heap h' → TxtSt w h' a (fun j => M j || decide (j = x)) (if M x = true then n else n + 1) → Q (!M x) { s with heap := h' }) :
    wpAny (model P w) A (setAddHashed a (.str x tk) ((SK P w).hash x)) Q E s := by
  obtain ⟨o, es, ep, t, ho, hex, hd, g, nd, hm, hb, hf, hn, hr, hl⟩ := R
  have hkey : (SK P w).is x (.str x tk) = true := strKind_is P w x tk
  have hsc : (Value.str x tk).scannable = true := rfl
  have hel : ElemsOf (SK P w) es.toList := rows_elems g
  unfold setAddHashed setAddHashedIn
  refine wpAny_holding (wpAny_bind (wpAny_setState_of ho hd hf ?_))
  dsimp only
  rw [byScan_of hsc hb hel]
  simp only [↓reduceIte]
  unfold setAddByScan
  refine wpAny_bind ?_
  refine wpAny_bind (wpAny_rule ?_)
  refine wpAny_bind (wpAny_setScan_of hkey ho hd hf hel ?_)
  cases hfi : List.findIdx? (fun e => (SK P w).is x e.2) es.toList with
  | some j =>
    dsimp only
    obtain ⟨hj, pj, _⟩ := List.findIdx?_eq_some_iff_getElem.mp hfi
    have hMx : M x = true := (hm x).2 ((row_mem (P := P) (w := w) g x).2 ⟨es.toList[j], List.getElem_mem hj, pj⟩)
    refine wpAny_pure (wpAny_pure ?_)
    have q := hQ s.heap (Heap.SameBut.refl a s.heap) ⟨o, es, ep, t, ho, hex, hd, g, nd, fun i => by
      rw [Bool.or_eq_true, decide_eq_true_eq, ← hm i]
      exact ⟨fun z => z.elim id (fun e => e ▸ hMx), .inl⟩, hb, hf, by rw [if_pos hMx]; exact hn, hr, hl⟩
    rw [hMx] at q
    exact q
  | none =>
    dsimp only
    have hnx : x ∉ es.toList.map txt := fun z => by
      obtain ⟨e, he, q⟩ := (row_mem (P := P) (w := w) g x).1 z
      have c := List.findIdx?_eq_none_iff.mp hfi e he
      rw [q] at c
      cases c
    have hMx : M x = false := by
      cases q : M x with
      | false => rfl
      | true => exact absurd ((hm x).1 q) hnx
    have hgw : ∀ (b : Bool) {s₁ : Shared} {Q' : Unit → Shared → Prop}, Q' () s₁ → wpAny (model P w) A (match b with | true => rule "set.scan.the-table-gave-way" | false => pure ()) Q' E s₁ :=
      fun b s₁ Q' q => by cases b <;> first | exact wpAny_pure q | exact wpAny_rule q
    have pm := layNew_perm t es ((SK P w).hash x) (.str x tk)
    have hf1 := layNew_fits t es ((SK P w).hash x) (.str x tk)
    have hr1 := layNew_ris t es ((SK P w).hash x) (.str x tk) hr
    have hl1 := layNew_led t es ((SK P w).hash x) (.str x tk)
    generalize layNew t es ((SK P w).hash x) (.str x tk) = Z at pm hf1 hr1 hl1 ⊢
    obtain ⟨es1, t1, was, gave⟩ := Z
    dsimp only at pm hf1 hr1 hl1 ⊢
    rw [Array.toList_push] at pm
    have pc : es1.toList.Perm (((SK P w).hash x, Value.str x tk) :: es.toList) := pm.trans (List.perm_append_singleton _ _)
    have pk : (es1.toList.map txt).Perm (x :: es.toList.map txt) := pc.map txt
    have g1 : ∀ e ∈ es1.toList, Row w e := fun e he => by
      rcases List.mem_cons.mp (pc.mem_iff.mp he) with z | z
      · rw [z]; exact ⟨x, tk, rfl, rfl⟩
      · exact g e z
    have nd1 : (es1.toList.map txt).Nodup := pk.nodup_iff.mpr (List.nodup_cons.mpr ⟨hnx, nd⟩)
    have m1 : ∀ i, (M i || decide (i = x)) = true ↔ i ∈ es1.toList.map txt := fun i => by
      rw [Bool.or_eq_true, decide_eq_true_eq, hm i, pk.mem_iff, List.mem_cons]
      exact Or.comm
    have hsz : es1.size = n + 1 := by rw [← Array.length_toList, pc.length_eq, List.length_cons, Array.length_toList, hn]
    have hb1 : es1.size < scanBound := by rw [hsz]; exact room
    have hled : w.params.followText "set-order" = true ∨ t1.led = true := hl.imp id fun z => by rw [hl1]; exact z
    have fin : ∀ h', Heap.SameBut a s.heap h' → TxtSt w h' a (fun j => M j || decide (j = x)) es1.size → Q true { s with heap := h' } := fun h' sb r => by
      have q := hQ h' sb
      rw [hMx] at q
      rw [hsz] at r
      exact q r
    refine wpAny_bind (hgw _ ?_)
    split
    · refine wpAny_bind ?_
      rw [hashByValue_scannable 8 hsc]
      refine wpAny_pure ?_
      refine ts_add_tail ?_ ho hex hd g1 nd1 m1 hb1 ?_ ?_ ?_ ?_
      · intro b s₁ Q' q; cases b <;> first | exact wpAny_pure q | exact wpAny_rule q
      · first | (split <;> first | exact hf1 | exact SetTable.fits_plain_off hf1) | exact hf1
      · first | (split <;> exact hr1) | exact hr1
      · first | (split <;> exact hled) | exact hled
      · intro h' sb r; dsimp only; exact wpAny_pure (fin h' sb r)
    · refine wpAny_bind (wpAny_pure ?_)
      simp only [↓reduceIte]
      refine ts_add_tail ?_ ho hex hd g1 nd1 m1 hb1 hf1 hr1 hled ?_
      · intro b s₁ Q' q; cases b <;> first | exact wpAny_pure q | exact wpAny_rule q
      · intro h' sb r; dsimp only; exact wpAny_pure (fin h' sb r)
end

/-! ### set(t) of a tuple of texts -/
theorem ts_empty {w : World} {h : Heap} {a : Addr} {ws : List Str} (ho : h.get? a = some { cls := .type "set", dict := none, data := .set #[] 0 (.fresh 0 0 (!w.params.followText "set-order")) }) : TxtSt w h a (fun j => decide (j ∈ ws.take 0)) 0 := by
  refine ⟨_, #[], 0, _, ho, ⟨rfl, rfl, rfl⟩, rfl, (fun e he => by simp at he), (by simp), (fun k => by simp), (by decide), (by rfl), rfl, List.Pairwise.nil, ?_⟩
  show _ ∨ (!w.params.followText "set-order") = true
  cases w.params.followText "set-order"
  · exact .inr rfl
  · exact .inl rfl
section
variable {P : Program} {w : World} {A : Around} {E : Value → Shared → Prop} {s : Shared}
theorem ts_update {I : Addr} {fp wr : List Addr} {G : Array GenState → Array GenState → Prop} {n : Nat} {Pv : Nat → Value → Prop} {St : Nat → Shared → Prop} {R : Result → Shared → Prop}
    (W : WalksS P w A.in1 I fp wr G n Pv St) (S : Addr) (hSf : S ∉ fp) (ws : List Str) (hn : n = ws.length) (hb : ws.length + 1 < scanBound) (hval : ∀ i v, Pv i v → ∃ k t, ws[i]? = some k ∧ v = .str k t) :
    ∀ (k i : Nat) (s : Shared), n - i = k → i ≤ n → St i s → (∃ c, c ≤ i ∧ TxtSt w s.heap S (fun j => decide (j ∈ ws.take i)) c) →
      (∀ s' c, Moved (S :: wr) G s s' → c ≤ n → TxtSt w s'.heap S (fun j => decide (j ∈ ws)) c → R (.ok (.ret .none)) s') →
      codeAny (model P w) A (.builtin "set.update.loop" ⟨[.ref S, .ref I], []⟩) R s := by
  have hSw : S ∉ wr := fun h => hSf (W.sub _ h)
  have hsub : ∀ b ∈ wr, b ∈ S :: wr := fun b hb => List.mem_cons_of_mem _ hb
  intro k
  induction k with
  | zero =>
    intro i s hk' hi hst ⟨c, hc, hS⟩ hR
    have hin : i = n := by omega
    subst hin
    refine codeAny_builtin F.entry_set_update_loop ?_
    rw [Around.under_plainId F.plain_set_update_loop _]
    show wpAny _ A.in1 (pyNext (.ref I) >>= _) _ _ s
    refine wpAny_bind (W.done s _ _ hst fun s' hm => ?_)
    show wpAny _ A.in1 (ret Value.none) _ _ s'
    have e : ws.take i = ws := List.take_of_length_le (by omega)
    rw [e] at hS
    exact wpAny_pure (hR s' c (hm.mono hsub) hc (hS.at fun o e => hm.heap S o hSw e))
  | succ k ih =>
    intro i s hk' hi hst ⟨c, hc, hS⟩ hR
    have hlt : i < n := by omega
    refine codeAny_builtin F.entry_set_update_loop ?_
    rw [Around.under_plainId F.plain_set_update_loop _]
    show wpAny _ A.in1 (pyNext (.ref I) >>= _) _ _ s
    refine wpAny_bind (W.item i s _ _ hlt hst fun v s' hP hst' hm => ?_)
    obtain ⟨z, t, hz, rfl⟩ := hval i v hP
    have hS' : TxtSt w s'.heap S (fun j => decide (j ∈ ws.take i)) c := hS.at fun o e => hm.heap S o hSw e
    show wpAny _ A.in1 (holding [Value.str z t] (setAdd S (.str z t)) >>= _) _ _ s'
    refine wpAny_bind (wpAny_holding ?_)
    unfold setAdd
    refine wpAny_holding ?_
    refine wpAny_bind ((SK P w).pyHash (k := z) (strKind_is _ _ _ _) ?_)
    refine ts_add (s := { s' with toks := s'.toks + 1 }) hS' (by omega) fun h' hsb hS2 => ?_
    have hS3 : TxtSt w h' S (fun j => decide (j ∈ ws.take (i + 1))) (if decide (z ∈ ws.take i) = true then c else c + 1) := hS2.congr fun j => by
      rw [List.take_add_one, hz]
      simp [List.mem_append]
    have hc3 : (if decide (z ∈ ws.take i) = true then c else c + 1) ≤ i + 1 := by
      split <;> omega
    refine wpAny_pure ⟨plainId_quiet F.plain_set_update_loop _, ih (i + 1) _ (by omega) hlt (W.frame _ s' _ _ hst' (Nat.le_succ _) fun b hb o e => ?_) ⟨_, hc3, hS3⟩ fun s'' c2 hm'' hc'' hS'' => ?_⟩
    · rw [hsb.2 b (fun h : b = S => hSf (by rw [← h]; exact hb))]; exact e
    · refine hR s'' c2 (Moved.trans W.gtrans ((hm.mono hsub).then_heap (Nat.le_succ _) fun b o hb e => ?_) hm'') hc'' hS''
      rw [hsb.2 b (fun h : b = S => hb (by rw [h]; exact List.mem_cons_self))]; exact e

theorem texts_at : ∀ {us : List Value} {xs : List Str}, StrsAre us xs → ∀ (i : Nat) (v : Value), us[i]? = some v → ∃ k t, xs[i]? = some k ∧ v = .str k t
  | _, _, .nil, i, v, h => by simp at h
  | _, _, .cons n t hr, 0, v, h => by
    simp at h
    exact ⟨_, t, rfl, h.symm⟩
  | _, _, .cons n t hr, i + 1, v, h => by
    simp only [List.getElem?_cons_succ] at h ⊢
    exact texts_at hr i v h

set_option maxRecDepth 100000 in
set_option maxHeartbeats 3200000 in
theorem call_set_texts {l : Addr} {items : Array Value} (ws : List Str) {Q : Value → Shared → Prop} (hh : A.handled = none) (hl : s.heap.IsTuple l items) (hit : StrsAre items.toList ws) (hb : ws.length + 1 < scanBound)
    (h : ∀ (h' : Heap) (tk c : Nat), TxtSt w h' s.heap.objs.size (fun j => decide (j ∈ ws)) c → c ≤ ws.length → (∀ b o, s.heap.get? b = some o → h'.get? b = some o) → Q (.ref s.heap.objs.size) { s with heap := h', toks := tk }) :
    wpAny (model P w) A (call (.type "set") [.ref l]) Q E s := by
  have hisz : items.size = ws.length := by
    have q := StrsAre.length hit
    rw [Array.length_toList] at q
    exact q
  obtain ⟨c, tl, hmro⟩ := F.called_set.mro
  have hmade := F.called_set.made
  have hsub := F.called_set.sub
  refine wpAny_call (codeAny_of_tree ?_)
  show wpAny _ _ (callAny (.type "set") _) _ _ _
  refine wpAny_pure ⟨Code.quiet_builtin _ (by decide +kernel), codeAny_builtin F.entry_type_call ?_⟩
  rw [Around.under_plain (weight_type_call_type "set" [.ref l] []) rfl]
  have h1 := F.called_set.notType
  have h2 := F.called_set.canCreate
  have hct := F.typeCall_set_1 (.ref l)
  repeat (any_goals (first | assumption | wp_step))

  refine codeAny_mono (code_set_led1 (.ref l) (E := E) (Q₁ := fun obj s₁ => obj = .ref s.heap.objs.size ∧ s₁ = { s with heap := s.heap.push { cls := .type "set", dict := none, data := .set #[] 0 (.fresh 0 0 (!w.params.followText "set-order")) } }) ⟨rfl, rfl⟩) fun r s₁ hr => ?_
  cases r with
  | error e => exact hr
  | ok fl =>
    cases fl with
    | ret obj =>
      obtain ⟨rfl, rfl⟩ := hr
      have hS : (s.heap.push { cls := .type "set", dict := none, data := .set #[] 0 (.fresh 0 0 (!w.params.followText "set-order")) }).get? s.heap.objs.size = some { cls := .type "set", dict := none, data := .set #[] 0 (.fresh 0 0 (!w.params.followText "set-order")) } := Heap.get?_push_size _ rfl
      have hT : Shared.TypeIs { s with heap := s.heap.push { cls := .type "set", dict := none, data := .set #[] 0 (.fresh 0 0 (!w.params.followText "set-order")) } } (.ref s.heap.objs.size) "set" := ⟨_, hS, rfl⟩
      have hli := F.called_set.init.lookup
      have hbi := F.called_set.init.bind (.ref s.heap.objs.size)
      repeat (any_goals (first | assumption | wp_step))

      refine codeAny_mono (codeAny_call_builtin (R := wants (fun r s₂ => r = .none ∧ ∃ h' tk c, s₂ = { s with heap := h', toks := tk } ∧ TxtSt w h' s.heap.objs.size (fun j => decide (j ∈ ws)) c ∧ c ≤ ws.length ∧
          (∀ b o, s.heap.get? b = some o → h'.get? b = some o)) E) F.called_set.init.plain F.entry_set_init (check_set_init_1 hT ?_)) fun r₂ s₂ hr₂ => ?_
      · obtain ⟨ol, hol, hcl, nl, hdl⟩ := hl
        obtain ⟨ocls, odict, odata, oslots⟩ := ol
        simp only at hcl hdl
        subst hcl; subst hdl
        have hol' : (s.heap.push { cls := .type "set", dict := none, data := .set #[] 0 (.fresh 0 0 (!w.params.followText "set-order")) }).get? l = some { cls := .type "tuple", dict := odict, data := .seq items nl, slots := oslots } := Heap.get?_push_of_some _ hol
        have hsls := F.sub_tuple_set
        have hslf := F.sub_tuple_frozenset
        have hne : (Value.type "tuple" == Value.type "dict") = false := by decide
        have hl1 : (s.heap.push { cls := .type "set", dict := none, data := .set #[] 0 (.fresh 0 0 (!w.params.followText "set-order")) }).IsTuple l items := ⟨_, hol', rfl, nl, rfl⟩
        unfold Builtin.«set.__init__» noKeywords Builtin.Frozenset.updateFrom
        generalize hPI : pyIter = PI
        wp_walk
        subst hPI

        refine wpAny_pyIter_tuple hl1 ?_
        refine wpAny_bind (wpAny_runValue ?_)
        have hlS : l < s.heap.objs.size := Heap.lt_size hol
        have hh3 : A.in1.in1.in1.handled = none := by simp [hh]
        have hneI : l ≠ (s.heap.push { cls := .type "set", dict := none, data := .set #[] 0 (.fresh 0 0 (!w.params.followText "set-order")) }).objs.size := by
          rw [Heap.size_push]; exact Nat.ne_of_lt (Nat.lt_succ_of_lt hlS)
        have hSf : s.heap.objs.size ∉ [(s.heap.push { cls := .type "set", dict := none, data := .set #[] 0 (.fresh 0 0 (!w.params.followText "set-order")) }).objs.size, l] := by
          rw [Heap.size_push]; simp only [List.mem_cons, List.mem_singleton, List.not_mem_nil, or_false, not_or]
          exact ⟨Nat.ne_of_lt (Nat.lt_succ_self _), Nat.ne_of_gt hlS⟩
        have hval : ∀ (i : Nat) (v : Value), items[i]? = some v → ∃ k t, ws[i]? = some k ∧ v = .str k t := fun i v hv => texts_at hit i v (by rw [Array.getElem?_toList]; exact hv)
        refine ts_update ((Walks.tuple hh3 _ l hneI items).toS) s.heap.objs.size
          hSf ws hisz hb hval (items.size - 0) 0 _ (by omega) (Nat.zero_le _)
          ⟨⟨_, Heap.get?_push_size _ rfl, rfl, rfl⟩, (hl1.push _)⟩ ?hS0 ?hR
        case hS0 =>
          have hget : ((s.heap.push { cls := .type "set", dict := none, data := .set #[] 0 (.fresh 0 0 (!w.params.followText "set-order")) }).push { cls := .type "tuple_iterator", data := .fields #[.ref l, .int 0 0] }).get? s.heap.objs.size
              = some { cls := .type "set", dict := none, data := .set #[] 0 (.fresh 0 0 (!w.params.followText "set-order")) } := Heap.get?_push_of_some _ hS
          exact ⟨0, Nat.le_refl 0, ts_empty hget⟩
        case hR =>
          intro s' c' hm hc' hS'
          obtain ⟨h', g2, d', tk', os'⟩ := s'
          have eg : g2 = s.gens := hm.gens
          have ed : d' = s.drawn := hm.drawn
          have eo : os' = s.os := hm.os
          subst eg; subst ed; subst eo
          show wpAny _ _ _ _ _ _
          refine wpAny_pure ?_
          show wpAny _ _ (ret Value.none) _ _ _
          rw [hisz] at hc'
          refine wpAny_pure ⟨rfl, h', tk', c', rfl, hS', hc', fun b o e => ?_⟩
          have hb0 : b < s.heap.objs.size := Heap.lt_size e
          have hb1 : b ≠ s.heap.objs.size := Nat.ne_of_lt hb0
          have hb2 : b ≠ (s.heap.push { cls := .type "set", dict := none, data := .set #[] 0 (.fresh 0 0 (!w.params.followText "set-order")) }).objs.size := by
            rw [Heap.size_push]; exact Nat.ne_of_lt (Nat.lt_succ_of_lt hb0)
          exact hm.heap b o (by simp only [List.mem_cons, List.mem_singleton, List.not_mem_nil, or_false, not_or]; exact ⟨hb1, hb2⟩) (Heap.get?_push_of_some _ (Heap.get?_push_of_some _ e))

      · cases r₂ with
        | error e => exact hr₂
        | ok fl₂ =>
          cases fl₂ with
          | ret r =>
            obtain ⟨rfl, h', tk, c', rfl, hS', hc', hk'⟩ := hr₂
            repeat (any_goals (first | assumption | wp_step))
            exact h _ _ _ hS' hc' hk'
          | _ => exact hr₂.elim
    | _ => exact hr.elim

theorem strs_of : ∀ (l : List Value), (∀ v ∈ l, ∃ k tk, v = Value.str k tk) → StrsAre l (l.map fun v => txt (0, v))
  | [], _ => .nil
  | v :: l, h => by
    obtain ⟨k, tk, rfl⟩ := h v List.mem_cons_self
    exact .cons k tk (strs_of l fun u hu => h u (List.mem_cons_of_mem _ hu))

theorem sorted_texts {a : Addr} {M : Str → Bool} {n : Nat} {Q : Value → Shared → Prop} (R : TxtSt w s.heap a M n) (hh : A.handled = none)
    (hQ : ∀ s' p (out : Array Value) (c : Nat) (ys : List Str), (∀ b o, s.heap.get? b = some o → s'.heap.get? b = some o) → s'.gens = s.gens → s'.os = s.os → s.heap.objs.size ≤ p →
      s'.heap.get? p = some (seqObj "list" out c) → StrsAre out.toList ys → sortedS ys = true → ys.Nodup → (∀ k, k ∈ ys ↔ M k = true) → ys.length = n → Q (.ref p) s') (h64 : n < 64) :
    wpAny (model P w) A (call (.builtin "sorted") [.ref a]) Q E s := by
  obtain ⟨o, es, ep, t, ho, hex, hd, g, nd, hm, hb, hf, hn, hr, hl⟩ := R
  refine Calls.call_function_entry kind_sorted plain_sorted entry_sorted (args_sorted1 _) ?_
  unfold Builtin.«sorted»
  refine wpAny_bind (m := checkCount "sorted" 1 1 _) (wpAny_pure ?_)
  refine wpAny_bind (collect_set (A := A.in1) hh ⟨o, ho, hex.1, hd⟩ hf hb hr hl fun s1 vs k1 hz g1 o1 pm => ?_)
  have hvl : vs.length = n := by rw [pm.length_eq, List.length_map, Array.length_toList]; exact hn
  have hI : StrsAre vs (vs.map fun v => txt (0, v)) := strs_of vs fun v hv => by
    obtain ⟨e, he, q⟩ := List.mem_map.mp (pm.mem_iff.mp hv)
    obtain ⟨k, tk, h1, _⟩ := g e he
    exact ⟨k, tk, by rw [← q]; exact h1⟩
  have pk : (vs.map fun v => txt (0, v)).Perm (es.toList.map txt) := by
    have q := pm.map fun v => txt (0, v)
    rw [List.map_map] at q
    exact q
  refine wpAny_bind (wpAny_newList ?_ (by rw [hvl, sizeLine_eq]; omega))
  have hoL : (s1.heap.push (seqObj "list" vs.toArray 0)).get? s1.heap.objs.size = some (seqObj "list" vs.toArray 0) := Heap.get?_push_size _ rfl
  refine wpAny_bind (wpAny_holding (wpAny_call_entry slot_list_sort ⟨_, hoL, rfl⟩ entry_list_sort (list_sort_treeK strKind_oneLt hoL hI.keysOf (fun v₁ v₂ rest e => keyKind_strs (by rw [← e]; exact hI)) (by rw [hvl]; exact h64) fun st' hp hs => ⟨_, rfl, ?_⟩) (args_list_sort _)))
  obtain ⟨ys, a1, a2, a3⟩ := sorted_out_str hI hp hs
  generalize (arrOf st').map (·.2) = out at a1 ⊢
  obtain ⟨c, hc⟩ := sortedHeap_at (vs := vs) (out := out) hoL
  have pn : ys.Perm (es.toList.map txt) := a2.trans pk
  refine wpAny_pure ⟨_, rfl, hQ _ s1.heap.objs.size out c ys (fun b u e => ?_) g1 o1 hz hc a1 a3 (pn.nodup_iff.mpr nd) (fun k => by rw [pn.mem_iff, ← hm k]) ?_⟩
  · have q := k1 b u e
    have hlt := Heap.lt_size q
    show (sortedHeap (s1.heap.push (seqObj "list" vs.toArray 0)) s1.heap.objs.size vs out).get? b = some u
    rw [sortedHeap_old (Nat.ne_of_lt hlt) (by rw [size_push']; exact Nat.lt_succ_of_lt hlt)]
    exact Heap.get?_push_of_some _ q
  · rw [pn.length_eq, List.length_map, Array.length_toList]; exact hn
end

/-- the set of texts at a, as a thing of the abstract heap -/
def TSO (w : World) (a : Addr) (M : Str → Bool) (n : Nat) : HO := .ext fun h => TxtSt w h a M n
section
variable {X : Cx}
theorem tso_new {w : World} {P : Program} {H : Hp} {h : Heap} {a : Addr} {M : Str → Bool} {n : Nat} (R : TxtSt w h a M n) : ObjOk P w H h a (TSO w a M n) := by
  have ⟨o, _, _, _, ho, _⟩ := R
  exact ⟨R, ⟨o, ho⟩, fun h1 h2 p k => TxtSt.at p k⟩
theorem tso_get {pins : List (Addr × Obj)} {σ : L2.St} {H : Hp} {s : Shared} {a : Addr} {M : Str → Bool} {n : Nat} (I : Inv X pins σ H s) (ha : H a = some (TSO X.w a M n)) : TxtSt X.w s.heap a M n := (I.hok a _ ha).1
/-- set(t) -/
def rSetOf (K : PySem.W.Frag) (w : World) : List V → Hp → VK → Prop := fun xs H Q => ∃ (l : Addr) (ws : List Str), xs = [V.ref l] ∧ SqT K H l (ws.map V.str) ∧ ws.length ≤ 60 ∧
  ∀ a n, H a = none → n ≤ ws.length → Q (.ref a) (upd H a (TSO w a (fun x => decide (x ∈ ws)) n))
theorem cr_setOf (hc : X.calm = true) : CallR X (.type "set") (rSetOf X.K X.w) := by
  intro pins s σ H xs us Q I r h
  obtain ⟨l, ws, rfl, hl, hz, q⟩ := h
  rw [Vals.ref1 r]
  obtain ⟨its, rv, pl, _⟩ := I.tuple hl
  have hn : H s.heap.objs.size = none := I.hok.fresh (Nat.le_refl _)
  refine call_set_texts (P := X.prog) (w := X.w) ws (I.ok.hd hc) pl (by simpa using rv.strs) (by unfold scanBound; omega) fun h' tk c R hc k => ?_
  exact ⟨.ref s.heap.objs.size, upd H s.heap.objs.size (TSO X.w s.heap.objs.size (fun x => decide (x ∈ ws)) c), I.laid (t' := tk) k (Nat.le_refl _) (tso_new R), rfl, q _ c hn hc⟩
/-- sorted(set) -/
def rSortSet (w : World) : List V → Hp → VK → Prop := fun vs H Q => ∃ (a : Addr) (M : Str → Bool) (n : Nat), vs = [V.ref a] ∧ H a = some (TSO w a M n) ∧ n < 64 ∧
  ∀ (ys : List Str) (p : Addr), sortedS ys = true → ys.Nodup → (∀ k, k ∈ ys ↔ M k = true) → ys.length = n → H p = none → Q (.ref p) (upd H p (.lst (ys.map V.str)))
theorem cr_sortSet (hc : X.calm = true) : CallR X (.builtin "sorted") (rSortSet X.w) := by
  intro pins s σ H vs us Q I r h
  obtain ⟨a, M, n, rfl, ha, h64, q⟩ := h
  have R := tso_get I ha
  rw [Vals.ref1 r]
  refine sorted_texts R (I.ok.hd hc) (fun s' p out c ys k g o hp hg hi hs hd hm hl => ?_) h64
  have hlen : (ys.map V.str).length ≤ sizeLine := by rw [List.length_map, hl, sizeLine_eq]; omega
  have hn : H p = none := I.hok.fresh hp
  have J : Inv X pins σ (upd H p (.lst (ys.map V.str))) { s with heap := s'.heap, gens := s'.gens, drawn := s'.drawn, toks := s'.toks } :=
    I.call (ch := []) (Un.laid k hp hn) (I.hok.laid k hp ⟨hlen, out.toList, c, vals_of_strs hi, hg⟩) (by rw [g]; exact I.bare) (fun _ z => nomatch z)
  have e : s' = { s with heap := s'.heap, gens := s'.gens, drawn := s'.drawn, toks := s'.toks } := by
    cases s'
    cases s
    cases o
    rfl
  rw [e]
  exact ⟨.ref p, _, J, rfl, q ys p hs hd hm hl hn⟩
/-- len(set): the number of the unlike texts -/
def rLenSet (w : World) : List V → Hp → VK → Prop := fun vs H Q => ∃ (a : Addr) (M : Str → Bool) (n : Nat), vs = [V.ref a] ∧ H a = some (TSO w a M n) ∧
  ∀ ys : List Str, ys.Nodup → (∀ k, k ∈ ys ↔ M k = true) → ys.length = n → Q (.int n) H
theorem cr_lenSet : CallR X (.builtin "len") (rLenSet X.w) := by
  intro pins s σ H vs us Q I r h
  obtain ⟨a, M, n, rfl, ha, q⟩ := h
  obtain ⟨o, es, ep, t, ho, hex, hd, g, nd, hm, hb, hf, hn, hr, hl⟩ := tso_get I ha
  rw [Vals.ref1 r]
  refine call_len_set ho hex hd hf (by rw [hn] at hb ⊢; unfold scanBound at hb; omega) ⟨.int n, H, I.tok _, ⟨_, by rw [hn]⟩, q (es.toList.map txt) nd (fun k => (hm k).symm) ?_⟩
  rw [List.length_map, Array.length_toList]; exact hn
end
end Kp
/-! Lists of ints and texts as data, for ==. -/
namespace Kp
open PySem PySem.Spec PyProof.Rows L2
variable {K : PySem.W.Frag} {H : Hp}
theorem dp_ints : ∀ cs : List Int, DpAll K H (cs.map V.int) (cs.map PyData.int)
  | [] => .nil
  | c :: cs => .cons (.int c) (dp_ints cs)
theorem dp_strs : ∀ cs : List Str, DpAll K H (cs.map V.str) (cs.map PyData.str)
  | [] => .nil
  | c :: cs => .cons (.str c) (dp_strs cs)
theorem lay_all : ∀ {ds : List PyData}, (∀ d ∈ ds, d.canLay0 = true) → PyData.canLayAll0 ds = true
  | [], _ => rfl
  | d :: ds, h => by
    show (PyData.canLay0 d && PyData.canLayAll0 ds) = true
    rw [h d List.mem_cons_self, lay_all fun e he => h e (List.mem_cons_of_mem _ he)]
    rfl
theorem depth_all : ∀ {ds : List PyData} {n : Nat}, (∀ d ∈ ds, d.depth ≤ n) → PyData.depthAll ds ≤ n
  | [], _, _ => Nat.zero_le _
  | d :: ds, n, h => by
    show max (PyData.depth d) (PyData.depthAll ds) ≤ n
    exact Nat.max_le.mpr ⟨h d List.mem_cons_self, depth_all fun e he => h e (List.mem_cons_of_mem _ he)⟩
theorem shaped_lst {ds : List PyData} (h : ∀ d ∈ ds, d.canLay0 = true ∧ d.depth ≤ 60) : SeqAt.shaped (.list ds) = true := by
  unfold SeqAt.shaped
  refine Bool.and_eq_true_iff.mpr ⟨lay_all fun d hd => (h d hd).1, decide_eq_true ?_⟩
  show PyData.depthAll ds + 1 ≤ 64
  have := depth_all fun d hd => (h d hd).2
  omega
theorem shaped_tup {ds : List PyData} (h : ∀ d ∈ ds, d.canLay0 = true ∧ d.depth ≤ 60) : SeqAt.shaped (.tuple ds) = true := by
  unfold SeqAt.shaped
  refine Bool.and_eq_true_iff.mpr ⟨lay_all fun d hd => (h d hd).1, decide_eq_true ?_⟩
  show PyData.depthAll ds + 1 ≤ 64
  have := depth_all fun d hd => (h d hd).2
  omega
theorem shaped_ints (cs : List Int) : SeqAt.shaped (.list (cs.map PyData.int)) = true := shaped_lst fun d hd => by
  obtain ⟨c, _, rfl⟩ := List.mem_map.mp hd
  exact ⟨rfl, Nat.zero_le _⟩
theorem shaped_strs {cs : List Str} (h : ∀ c ∈ cs, PyData.strOk c = true) : SeqAt.shaped (.list (cs.map PyData.str)) = true := shaped_lst fun d hd => by
  obtain ⟨c, hc, rfl⟩ := List.mem_map.mp hd
  exact ⟨h c hc, Nat.zero_le _⟩
theorem shaped_strsT {cs : List Str} (h : ∀ c ∈ cs, PyData.strOk c = true) : SeqAt.shaped (.tuple (cs.map PyData.str)) = true := shaped_tup fun d hd => by
  obtain ⟨c, hc, rfl⟩ := List.mem_map.mp hd
  exact ⟨h c hc, Nat.zero_le _⟩
theorem eqv_nil {ds : List PyData} : PyData.eqv (.list ds) (.list []) = decide (ds = []) := by
  cases ds <;> rfl
theorem eqvAll_strs : ∀ xs ys : List Str, PyData.eqvAll (xs.map PyData.str) (ys.map PyData.str) = decide (xs = ys)
  | [], [] => rfl
  | [], _ :: _ => rfl
  | _ :: _, [] => rfl
  | x :: xs, y :: ys => by
    show (x == y && PyData.eqvAll (xs.map PyData.str) (ys.map PyData.str)) = _
    rw [eqvAll_strs xs ys]
    by_cases h : x = y
    · subst h
      simp
    · simp [h]
theorem eqv_strs (xs ys : List Str) : PyData.eqv (.list (xs.map PyData.str)) (.list (ys.map PyData.str)) = decide (xs = ys) := eqvAll_strs xs ys
theorem eqv_strsT (xs ys : List Str) : PyData.eqv (.tuple (xs.map PyData.str)) (.tuple (ys.map PyData.str)) = decide (xs = ys) := eqvAll_strs xs ys
end Kp
set_option maxHeartbeats 2000000
/-! The rules whose readings speak of X.K, with K apart: for the blocks of comprehensions. -/
namespace Kp
open PySem PySem.Spec PyProof.Rows L2
def rLenK (K : PySem.W.Frag) : List V → Hp → VK → Prop := fun xs H Q => ∃ x n, xs = [x] ∧ LenV K x H n ∧ Q (.int n) H
def rListK (K : PySem.W.Frag) : List V → Hp → VK → Prop := fun xs H Q => ∃ p ys, xs = [.ref p] ∧ (SqL K H p ys ∨ SqT K H p ys) ∧ ∀ l, H l = none → Q (.ref l) (upd H l (.lst ys))
def rTupleK (K : PySem.W.Frag) : List V → Hp → VK → Prop := fun xs H Q => ∃ p ys, xs = [.ref p] ∧ ((SqL K H p ys ∧ ∀ l, H l = none → Q (.ref l) (upd H l (.tup ys))) ∨ (SqT K H p ys ∧ Q (.ref p) H))
section
variable {X : Cx} {K : PySem.W.Frag} {e o : Expr} {es : List Expr} {ta to : TE} {t : TA} {f name : Str} {pos apos cpos : Pos} {tg : Expr} {T id : String} {r : V → List V → Hp → VK → Prop}
theorem ix_listK (hK : X.K = K) : IxR X (rIxL K) := hK ▸ ix_list
theorem ix_tupK (hK : X.K = K) : IxR X (rIxT K) := hK ▸ ix_tup
theorem ix_seqK (hK : X.K = K) : IxR X (rIx K) := hK ▸ ix_seq
theorem call_lenK (hK : X.K = K) : CallR X (.builtin "len") (rLenK K) := hK ▸ call_len
theorem call_list_ofK (hK : X.K = K) : CallR X (.type "list") (rListK K) := hK ▸ call_list_of
theorem call_tuple_ofK (hK : X.K = K) : CallR X (.type "tuple") (rTupleK K) := hK ▸ call_tuple_of
theorem op_in_seqK (hK : X.K = K) : OpR X (compareOp .In) (rIn K false) := hK ▸ op_in_seq
theorem op_notIn_seqK (hK : X.K = K) : OpR X (compareOp .NotIn) (rIn K true) := hK ▸ op_notIn_seq
theorem sl_listK (hK : X.K = K) : SlR X (rSlL K) := hK ▸ sl_list
theorem sl_tupK (hK : X.K = K) : SlR X (rSlT K) := hK ▸ sl_tup
theorem call_isiKK (hK : X.K = K) : CallR X (.builtin "isinstance") (rIsi K) := hK ▸ call_isi
theorem call_isiTK (hK : X.K = K) : CallR X (.builtin "isinstance") (rIsiT K) := hK ▸ call_isiT
theorem op_eqDK (hK : X.K = K) (hu : X.A.units + 64 < cLine) : OpR X (compareOp .Eq) (rEqD K) := hK ▸ op_eqD hu
theorem op_neDK (hK : X.K = K) (hu : X.A.units + 64 < cLine) : OpR X (compareOp .NotEq) (rNeD K) := hK ▸ op_neD hu
theorem pe_fldK (hK : X.K = K) (he : PE X e ta) (hb : attributeBase e f X.env (eval e X.env) = eval e X.env := by rfl) : PE X (.Attribute e f pos) (tFld K ta f) := hK ▸ pe_fld he hb
theorem pi_listK (hK : X.K = K) (h : PE X e ta) : PI X tg e (iList K ta) := hK ▸ pi_list h
theorem pi_tupK (hK : X.K = K) (h : PE X e ta) : PI X tg e (iTup K ta) := hK ▸ pi_tup h
theorem pe_revLK {k : Nat} {p1 p2 p3 : Pos} (hK : X.K = K) (he : PE X e ta) : PE X (.Subscript e (.Slice none none (some (.UnaryOp .USub (.Constant (.int 1) k p1) p2)) p3) pos) (tRevL K ta) := hK ▸ pe_revL he
theorem pe_bmK (hK : X.K = K) (pa : PlainAttrs T) (slot : Slot T name id) (hty : typeOf (.builtin id) = pure (.type "method_descriptor")) (hm : MtR X id r) (ho : PE X o to) (ha : PA X (e :: es) t)
    (hbase : attributeBase o name X.env (eval o X.env) = eval o X.env := by rfl)
    (hfew : ((backTo cpos (starEach (e :: es) X.env)).all (fun x => !x.1) && (backToKw cpos (keywordEach [] X.env)).all (fun x => x.1.isSome)
      && decide ((e :: es).length + ([] : List Keyword).length + (if ([] : List Keyword).isEmpty then 0 else 1) < 30)) = true := by rfl)
    (hline : (apos.endLine == cpos.line) = true := by rfl) (hs : starEach (e :: es) X.env = (false, eval e X.env) :: starEach es X.env := by rfl) (hplain : (backTo cpos (starEach es X.env)).any (·.1) = false := by rfl) :
    PE X (.Call (.Attribute o name apos) (e :: es) [] cpos) (tBM K T r to t) := hK ▸ pe_bm pa slot hty hm ho ha hbase hfew hline hs hplain
theorem pg_tupK {es : List Expr} {k : Nat} {t : TGs} {n : Nat} (hK : X.K = K) (hc : X.calm = true) (h : PGs X es t)
    (hn : (assignEach es X.env).length = n := by rfl) (hst : (assignEach es X.env).findIdx? (·.1) = none := by rfl) : PG X (.Tuple es k pos) (gTup K n t) := hK ▸ pg_tup hc h hn hst
theorem pi_zipK {e e2 : Expr} {ta : TA} {p pos tpos : Pos} {elts : List Expr} {kk : Nat} (hK : X.K = K) (hg : Gl X "zip") (hm : X.mg "zip" = none) (ha : PA X [e, e2] ta)
    (hs : starEach [e, e2] X.env = (false, eval e X.env) :: starEach [e2] X.env := by rfl) (hpl : (backTo pos (starEach [e2] X.env)).any (·.1) = false := by rfl) :
    PI X (.Tuple elts kk tpos) (.Call (.Name "zip" p) [e, e2] [] pos) (iZip K ta) := hK ▸ pi_zip hg hm ha hs hpl
end
end Kp
set_option maxHeartbeats 2000000
/-! Comprehensions that only make things, over any walk; texts in lists. -/
namespace Kp
open PySem PySem.Spec PyProof.Rows L2 Evl
section
variable {K : PySem.W.Frag} {σ : L2.St} {H : Hp} {te : TE} {t : TT}
/-- a comprehension over what J walks, n turns, the i-th item told by Y -/
theorem el_lcW {J : It} {n : Nat} {G : Hp → Prop} {Y : Nat → V → Prop} {wi : TI} {j : Nat} {vs : List Nat} (w : Walk J n G (fun i H x H' => H' = H ∧ Y i x)) (f : Nat → Bool) (v : Nat → V)
    (hwi : ∀ H1, Ex H H1 → ∀ R : It → Hp → Prop, (∀ H2, Ex H1 H2 → R J H2) → wi σ H1 R) (hG : ∀ H1, Ex H H1 → G H1) (hz : n ≤ 40000) (hw : ∀ x, wipe ((wipe σ vs).set j (some x)) vs = wipe σ vs)
    (ht : ∀ (i : Nat) (x : V) H1, Ex H H1 → i < n → Y i x → EvT t ((wipe σ vs).set j (some x)) H1 (f i)) (he : ∀ (i : Nat) (x : V) H1, Ex H H1 → i < n → Y i x → f i = true → Ev te ((wipe σ vs).set j (some x)) H1 (v i)) :
    EvL (tLc wi (gName j) t te vs) σ H (given n f v) := fun H0 e Q q => hwi H0 e _ fun H1 e1 Dl hD =>
  lc_it w (Cw H1 f v Dl) ⟨hD, Ex.new hD, upd_same⟩ (fun i H' _ p => hG H' ((e.trans e1).trans p.2.1)) (fun i x H' H'' hi p y => by
    obtain ⟨rfl, y⟩ := y
    exact ⟨hw x, cw_turn p (by omega) (ht i x H1 (e.trans e1) hi y) (fun hf => he i x H1 (e.trans e1) hi y hf)⟩)
    (fun H' p => q Dl H' (fresh_back e1 p.1) (e1.trans p.2.1) p.2.2)
theorem et_yes : EvT tYes σ H true := fun H1 e Q q => q H1 (Ex.refl H1)
/-- over a text -/
theorem el_lcS {z : Str} {tl : TE} {j : Nat} {vs : List Nat} (f : Nat → Bool) (v : Nat → V) (h : Ev tl σ H (.str z)) (hz : z.cps.size ≤ 40000) (hw : ∀ x, wipe ((wipe σ vs).set j (some x)) vs = wipe σ vs)
    (ht : ∀ (i c : Nat) H1, Ex H H1 → z.cps[i]? = some c → EvT t ((wipe σ vs).set j (some (.str ⟨#[c]⟩))) H1 (f i)) (he : ∀ (i c : Nat) H1, Ex H H1 → z.cps[i]? = some c → f i = true → Ev te ((wipe σ vs).set j (some (.str ⟨#[c]⟩))) H1 (v i)) :
    EvL (tLc (iStr tl) (gName j) t te vs) σ H (given z.cps.size f v) :=
  el_lcW (Y := fun i x => ∃ c, z.cps[i]? = some c ∧ x = .str ⟨#[c]⟩) walk_str f v (fun H1 e R q => h H1 e _ fun H2 e2 => ⟨z, rfl, q H2 e2⟩) (fun _ _ => True.intro) hz hw
    (fun i x H1 e hi ⟨c, hc, ex⟩ => by subst ex; exact ht i c H1 e hc) (fun i x H1 e hi ⟨c, hc, ex⟩ hf => by subst ex; exact he i c H1 e hc hf)
/-- as readings -/
theorem run_lcS {z : Str} {tl : TE} {j : Nat} {vs : List Nat} {Q : VK} (f : Nat → Bool) (v : Nat → V) (h : Ev tl σ H (.str z)) (hz : z.cps.size ≤ 40000) (hw : ∀ x, wipe ((wipe σ vs).set j (some x)) vs = wipe σ vs)
    (ht : ∀ (i c : Nat) H1, Ex H H1 → z.cps[i]? = some c → EvT t ((wipe σ vs).set j (some (.str ⟨#[c]⟩))) H1 (f i)) (he : ∀ (i c : Nat) H1, Ex H H1 → z.cps[i]? = some c → f i = true → Ev te ((wipe σ vs).set j (some (.str ⟨#[c]⟩))) H1 (v i))
    (k : ∀ p H2, H p = none → Ex H H2 → H2 p = some (.lst (given z.cps.size f v)) → Q (.ref p) H2) : tLc (iStr tl) (gName j) t te vs σ H Q := el_lcS f v h hz hw ht he H (Ex.refl H) Q k
theorem run_lcL {a : Addr} {xs : List V} {tl : TE} {j : Nat} {vs : List Nat} {Q : VK} (f : Nat → Bool) (v : Nat → V) (h : Ev tl σ H (.ref a)) (hx : SqL K H a xs) (hz : xs.length ≤ 40000) (hw : ∀ x, wipe ((wipe σ vs).set j (some x)) vs = wipe σ vs)
    (ht : ∀ (i : Nat) (x : V) H1, Ex H H1 → xs[i]? = some x → EvT t ((wipe σ vs).set j (some x)) H1 (f i)) (he : ∀ (i : Nat) (x : V) H1, Ex H H1 → xs[i]? = some x → f i = true → Ev te ((wipe σ vs).set j (some x)) H1 (v i))
    (k : ∀ p H2, H p = none → Ex H H2 → H2 p = some (.lst (given xs.length f v)) → Q (.ref p) H2) : tLc (iList K tl) (gName j) t te vs σ H Q := el_lcL f v h hx hz hw ht he H (Ex.refl H) Q k
theorem run_lcT {a : Addr} {xs : List V} {tl : TE} {j : Nat} {vs : List Nat} {Q : VK} (f : Nat → Bool) (v : Nat → V) (h : Ev tl σ H (.ref a)) (hx : SqT K H a xs) (hz : xs.length ≤ 40000) (hw : ∀ x, wipe ((wipe σ vs).set j (some x)) vs = wipe σ vs)
    (ht : ∀ (i : Nat) (x : V) H1, Ex H H1 → xs[i]? = some x → EvT t ((wipe σ vs).set j (some x)) H1 (f i)) (he : ∀ (i : Nat) (x : V) H1, Ex H H1 → xs[i]? = some x → f i = true → Ev te ((wipe σ vs).set j (some x)) H1 (v i))
    (k : ∀ p H2, H p = none → Ex H H2 → H2 p = some (.lst (given xs.length f v)) → Q (.ref p) H2) : tLc (iTup K tl) (gName j) t te vs σ H Q :=
  el_lcW (Y := fun i x => xs[i]? = some x) (walk_tup.mono (fun _ h => h) fun i H x H' _ _ y => y) f v (fun H1 e R q => h H1 e _ fun H2 e2 => ⟨a, rfl, ⟨xs, ex_t (e.trans e2) hx⟩, q H2 e2⟩) (fun H1 e => ex_t e hx) hz hw
    (fun i x H1 e _ y => ht i x H1 e y) (fun i x H1 e _ y hf => he i x H1 e y hf) H (Ex.refl H) Q k
end
theorem given_map {n : Nat} {f : Nat → Bool} {v : Nat → V} (h : ∀ i, i < n → f i = true) : given n f v = (List.range n).map v := by
  unfold given
  rw [List.filter_eq_self.mpr fun i hi => h i (List.mem_range.mp hi)]
theorem range_map {α : Type} (xs : List α) (v : Nat → V) (g : α → V) (h : ∀ i x, xs[i]? = some x → v i = g x) : (List.range xs.length).map v = xs.map g := by
  apply List.ext_getElem?
  intro i
  rw [List.getElem?_map, List.getElem?_map]
  by_cases hi : i < xs.length
  · rw [List.getElem?_range hi, List.getElem?_eq_getElem hi]
    simp only [Option.map_some]
    rw [h i _ (List.getElem?_eq_getElem hi)]
  · rw [List.getElem?_eq_none (by simpa using hi), List.getElem?_eq_none (by simpa using hi)]
    rfl
theorem given_filter {α : Type} (xs : List α) (f : Nat → Bool) (v : Nat → V) (p : α → Bool) (g : α → V) (hf : ∀ i x, xs[i]? = some x → f i = p x) (hv : ∀ i x, xs[i]? = some x → v i = g x) : given xs.length f v = (xs.filter p).map g := by
  have key : ∀ n, n ≤ xs.length → given n f v = ((xs.take n).filter p).map g := by
    intro n
    induction n with
    | zero => intro _; rfl
    | succ n ih =>
      intro hn
      have hx : xs[n]? = some xs[n] := List.getElem?_eq_getElem hn
      rw [List.take_add_one, hx]
      simp only [Option.toList_some, List.filter_append, List.map_append]
      cases q : p xs[n] with
      | true =>
        rw [given_yes ((hf n _ hx).trans q), ih (by omega), hv n _ hx]
        simp [q]
      | false =>
        rw [given_no ((hf n _ hx).trans q), ih (by omega)]
        simp [q]
  rw [key xs.length (Nat.le_refl _), List.take_length]
theorem inV_strs (x : Str) (ws : List Str) : inV (.str x) (ws.map V.str) = decide (x ∈ ws) := by
  unfold inV
  rw [List.any_map]
  induction ws with
  | nil => rfl
  | cons w ws ih =>
    rw [List.any_cons, ih]
    show ((w == x) || decide (x ∈ ws)) = _
    by_cases h : x = w
    · subst h
      simp
    · have h' : (w == x) = false := by simpa using fun z : w = x => h z.symm
      rw [h']
      simp [h]
theorem flat_strs (ws : List Str) : (ws.map V.str).all flatV = true := by
  rw [List.all_map]
  exact List.all_eq_true.mpr fun _ _ => rfl
theorem flat_ints (ws : List Int) : (ws.map V.int).all flatV = true := by
  rw [List.all_map]
  exact List.all_eq_true.mpr fun _ _ => rfl
/-! ### words -/
def LetS (w : Str) : Prop := ∀ c ∈ w.cps.toList, 97 ≤ c ∧ c ≤ 122
instance (w : Str) : Decidable (LetS w) := by unfold LetS; infer_instance
def Wordy (w : Str) : Prop := LetS w ∧ 1 ≤ w.length ∧ w.length ≤ 8
theorem LetS.cut {w : Str} (h : LetS w) (lo hi : Option Int) : LetS (cutS w lo hi) := fun c hc => by
  unfold cutS at hc
  exact h c (List.mem_of_mem_drop (List.mem_of_mem_take hc))
theorem LetS.add {w u : Str} (h : LetS w) (k : LetS u) : LetS (w ++ u) := fun c hc => by
  have hc : c ∈ (w.cps ++ u.cps).toList := hc
  rw [Array.toList_append, List.mem_append] at hc
  exact hc.elim (h c) (k c)
theorem len_add (w u : Str) : (w ++ u).length = w.length + u.length := by
  show (w.cps ++ u.cps).size = w.cps.size + u.cps.size
  exact Array.size_append
theorem cut_to (w : Str) (n : Nat) : (cutS w none (some (n : Int))).length ≤ n := by
  unfold cutS
  show (List.toArray _).size ≤ n
  rw [List.size_toArray, List.length_take]
  have h : HT.sIx w.length w.length (some (n : Int)) ≤ n := by
    rw [HT.sIx_nat]
    omega
  omega
theorem LetS.one {c : Nat} (h : 97 ≤ c ∧ c ≤ 122) : LetS ⟨#[c]⟩ := fun d hd => by
  have e : d = c := by simpa using hd
  rw [e]
  exact h
theorem letS_ok {w : Str} (h : LetS w) : PyData.strOk w = true := by
  unfold PyData.strOk
  rw [Array.all_eq_true]
  intro i hi
  have := h w.cps[i] (by simp)
  simp
  omega
theorem nodup_le {α : Type} [DecidableEq α] : ∀ {xs ys : List α}, xs.Nodup → (∀ x ∈ xs, x ∈ ys) → xs.length ≤ ys.length
  | [], _, _, _ => Nat.zero_le _
  | x :: xs, ys, h, k => by
    obtain ⟨h1, h2⟩ := List.nodup_cons.mp h
    have hx : x ∈ ys := k x List.mem_cons_self
    have ih : xs.length ≤ (ys.erase x).length := nodup_le h2 fun z hz => by
      have hne : z ≠ x := fun e => h1 (e ▸ hz)
      exact (List.mem_erase_of_ne hne).mpr (k z (List.mem_cons_of_mem _ hz))
    rw [List.length_erase_of_mem hx] at ih
    have : 0 < ys.length := List.length_pos_of_mem hx
    show xs.length + 1 ≤ ys.length
    omega
theorem add_inj {w : Str} {a b : Nat} (h : w ++ (⟨#[a]⟩ : Str) = w ++ (⟨#[b]⟩ : Str)) : a = b := by
  have h1 : (w.cps ++ #[a]).toList = (w.cps ++ #[b]).toList := congrArg (fun z : Str => z.cps.toList) h
  rw [Array.toList_append, Array.toList_append] at h1
  have h2 := List.append_cancel_left h1
  simpa using h2
/-- one sign is left that makes a new word -/
theorem new_word {ws : List Str} {w : Str} {cs : List Nat} (hn : cs.Nodup) (hl : ws.length < cs.length) : ∃ c ∈ cs, w ++ (⟨#[c]⟩ : Str) ∉ ws := by
  apply Classical.byContradiction
  intro h
  have h' : ∀ c ∈ cs, w ++ (⟨#[c]⟩ : Str) ∈ ws := fun c hc => Classical.byContradiction fun z => h ⟨c, hc, z⟩
  have nd : (cs.map fun c => w ++ (⟨#[c]⟩ : Str)).Nodup := by
    refine List.Pairwise.map _ (fun a b hab e => hab (add_inj e)) hn
  have := nodup_le nd fun x hx => by
    obtain ⟨c, hc, rfl⟩ := List.mem_map.mp hx
    exact h' c hc
  rw [List.length_map] at this
  omega
end Kp
/-! Sorted lists of texts: one for each set. -/
namespace Kp
open PySem PySem.Spec PyProof.Rows L2
theorem lt_tri : ∀ {a b : List Nat}, ltCps a b = false → ltCps b a = false → a = b
  | [], [], _, _ => rfl
  | [], _ :: _, h, _ => by simp [ltCps] at h
  | _ :: _, [], _, h => by simp [ltCps] at h
  | a :: r, b :: t, h, k => by
    simp only [ltCps, Bool.or_eq_false_iff, decide_eq_false_iff_not, Bool.and_eq_false_iff, beq_eq_false_iff_ne] at h k
    have e : a = b := by omega
    subst e
    have h2 := h.2.resolve_left (fun z => z rfl)
    have k2 := k.2.resolve_left (fun z => z rfl)
    rw [lt_tri h2 k2]
theorem le_tr : ∀ {a b c : List Nat}, ltCps b a = false → ltCps c b = false → ltCps c a = false
  | [], b, [], _, _ => rfl
  | [], [], _ :: _, _, h => by simp [ltCps] at h ⊢
  | [], _ :: _, _ :: _, _, _ => by simp [ltCps]
  | _ :: _, [], [], h, _ => by simp [ltCps] at h
  | _ :: _, [], _ :: _, h, _ => by simp [ltCps] at h
  | _ :: _, _ :: _, [], _, h => by simp [ltCps] at h
  | a :: r, b :: t, c :: u, h, k => by
    simp only [ltCps, Bool.or_eq_false_iff, decide_eq_false_iff_not, Bool.and_eq_false_iff, beq_eq_false_iff_ne] at h k ⊢
    refine ⟨by omega, ?_⟩
    by_cases e : c = a
    · subst e
      have e2 : b = c := by omega
      subst e2
      exact .inr (le_tr (h.2.resolve_left fun z => z rfl) (k.2.resolve_left fun z => z rfl))
    · exact .inl e
abbrev leS (a b : Str) : Prop := ltCps b.cps.toList a.cps.toList = false
theorem rising_pw : ∀ (p : Str) (l : List Str), risingS p l = true → (p :: l).Pairwise leS
  | p, [], _ => List.pairwise_singleton _ _
  | p, x :: r, h => by
    obtain ⟨h1, h2⟩ := Bool.and_eq_true_iff.mp (show (!ltCps x.cps.toList p.cps.toList && risingS x r) = true from h)
    have ih := rising_pw x r h2
    have hx : leS p x := by simpa using h1
    refine List.pairwise_cons.mpr ⟨fun y hy => ?_, ih⟩
    rcases List.mem_cons.mp hy with rfl | hy
    · exact hx
    · exact le_tr hx (List.rel_of_pairwise_cons ih hy)
theorem sorted_pw : ∀ {l : List Str}, sortedS l = true → l.Pairwise leS
  | [], _ => .nil
  | x :: r, h => rising_pw x r h
theorem str_ext {a b : Str} (h : a.cps.toList = b.cps.toList) : a = b := by
  cases a
  cases b
  exact congrArg Str.mk (Array.toList_inj.mp h)
theorem sorted_unique {l k : List Str} (h : sortedS l = true) (h' : sortedS k = true) (p : l.Perm k) : l = k :=
  p.eq_of_pairwise (fun a b _ _ h1 h2 => str_ext (lt_tri h2 h1)) (sorted_pw h) (sorted_pw h')
/-- us is the set of the words ws, in order -/
structure IsG (us ws : List Str) : Prop where
  so : sortedS us = true
  nd : us.Nodup
  mem : ∀ k, k ∈ us ↔ k ∈ ws
theorem IsG.unique {us vs ws zs : List Str} (h : IsG us ws) (k : IsG vs zs) (e : ∀ x, x ∈ ws ↔ x ∈ zs) : us = vs :=
  sorted_unique h.so k.so ((List.perm_ext_iff_of_nodup h.nd k.nd).mpr fun x => (h.mem x).trans ((e x).trans (k.mem x).symm))
theorem IsG.len {us ws : List Str} (h : IsG us ws) : us.length ≤ ws.length := nodup_le h.nd fun x hx => (h.mem x).mp hx
theorem IsG.lenNd {us ws : List Str} (h : IsG us ws) (nd : ws.Nodup) : us.length = ws.length := Nat.le_antisymm h.len (nodup_le nd fun x hx => (h.mem x).mpr hx)
end Kp
set_option maxHeartbeats 4000000
/-! enumerate over a tuple; t[::-1]. -/
namespace Kp
open PySem PySem.Spec PyProof.Rows
set_option maxHeartbeats 1000000 in
theorem meets_enumerate_newT (l : Addr) (items : Array Value) :
    Meets (Builtin.«enumerate.__new__» ⟨[.type "enumerate", .ref l], []⟩) (fun _ R s => s.heap.IsTuple l items ∧
      R (.ok (.ret (.ref (s.heap.push { cls := .type "tuple_iterator", data := .fields #[.ref l, .int 0 0] }).objs.size)))
        { s with heap := (s.heap.push { cls := .type "tuple_iterator", data := .fields #[.ref l, .int 0 0] }).push { cls := .type "enumerate", data := .fields #[.none, .bool false, .ref s.heap.objs.size, rawInt 0, .none, .none] } }) :=
  .of_wp fun prog w A R s h => by
    obtain ⟨hp, g, d, tk, os⟩ := s; obtain ⟨hL, h⟩ := h
    have hsub := sub_enumerate
    have q1 : ∀ {A' : Around} {E : Value → Shared → Prop} {Q : Value → Shared → Prop}, Q (.ref hp.objs.size) ⟨hp.push { cls := .type "tuple_iterator", data := .fields #[.ref l, .int 0 0] }, g, d, tk, os⟩ → wpAny (model prog w) A' (pyIter (.ref l)) Q E ⟨hp, g, d, tk, os⟩ :=
      fun q => wpAny_pyIter_tuple hL q
    wp_walk using q1
    refine wpAny_stack_any fun st => wpAny_pure ?_
    split
    · rename_i c _ _ _ _ _
      cases (c == Value.type "enumerate")
      · wp_walk using q1
        exact ⟨_, rfl, h⟩
      · wp_walk using q1
        exact ⟨_, rfl, h⟩
    · wp_walk using q1
      exact ⟨_, rfl, h⟩
section
variable {prog : Program} {w : World} {A : Around} {E : Value → Shared → Prop} {s : Shared}
theorem call_enumerate_tup {l : Addr} {items : Array Value} {Q : Value → Shared → Prop} (hL : s.heap.IsTuple l items)
    (h : ∀ h', IsEnum h' (s.heap.objs.size + 1) s.heap.objs.size 0 .none → h'.IsTupleIter s.heap.objs.size l 0 → h'.objs.size = s.heap.objs.size + 2 →
      (∀ b o, s.heap.get? b = some o → h'.get? b = some o) → Q (.ref (s.heap.objs.size + 1)) { s with heap := h' }) :
    wpAny (model prog w) A (call (.type "enumerate") [.ref l]) Q E s := by
  refine callType_new F.called_enumerate (by decide) (F.typeCall_enumerate_1 _) (F.newCall_enumerate_1 _) (fun obj => F.args_object_init_2 obj _) F.entry_enumerate_new
    (meets_enumerate_newT l items) ⟨hL, ?_⟩
  have hz : (s.heap.push { cls := .type "tuple_iterator", data := .fields #[.ref l, .int 0 0] }).objs.size = s.heap.objs.size + 1 := Heap.size_push ..
  show _ ∧ _
  rw [hz]
  have he : IsEnum ((s.heap.push { cls := .type "tuple_iterator", data := .fields #[.ref l, .int 0 0] }).push
      { cls := .type "enumerate", data := .fields #[.none, .bool false, .ref s.heap.objs.size, rawInt 0, .none, .none] }) (s.heap.objs.size + 1) s.heap.objs.size 0 .none := by
    have := Heap.get?_push_size (s.heap.push { cls := .type "tuple_iterator", data := .fields #[.ref l, .int 0 0] })
      (o := { cls := .type "enumerate", data := .fields #[.none, .bool false, .ref s.heap.objs.size, rawInt 0, .none, .none] }) rfl
    rw [hz] at this; exact this
  refine ⟨⟨_, he, rfl⟩, h _ he ⟨_, Heap.get?_push_of_some _ (Heap.get?_push_size _ rfl), rfl, rfl⟩ (by rw [Heap.size_push, hz]) fun b o x => Heap.get?_push_of_some _ (Heap.get?_push_of_some _ x)⟩
theorem pyNext_enum_endT {e it l : Addr} {i : Nat} {items : Array Value} {old : Value} {Q : Option Value → Shared → Prop} (hh : A.handled = none)
    (he : IsEnum s.heap e it i old) (hit : s.heap.IsTupleIter it l i) (hl : s.heap.IsTuple l items) (hx : items[i]? = none)
    (hQ : ∀ h', Heap.ExtBut it s.heap h' → Q none { s with heap := h' }) : wpAny (model prog w) A (pyNext (.ref e)) Q E s := by
  have hT : s.TypeIs (.ref e) "enumerate" := ⟨_, he, rfl⟩
  unfold pyNext
  refine wpAny_bind (wpAny_attempt (wpAny_callSpecial?_slot (name := Str.ofString "__next__") hT F.slot_enumerate_next
    (wpAny_call_entry F.slot_enumerate_next hT F.entry_enumerate_next ?_ (F.args_enumerate_next_1 _))))
  show wpAny _ _ (field (.ref e) 2 >>= _) _ _ _
  refine wpAny_bind (wpAny_field he rfl (x := .ref it) rfl ?_)
  refine wpAny_bind (wpAny_nextOf_tuple_end hh hit hl hx fun h' x he' hx' => ?_)
  obtain ⟨o, ho, hc⟩ := hx'
  refine wpAny_bind (wpAny_isInstance (T := "StopIteration") (b := true) ⟨o, ho, hc⟩ isSubtype_stop ?_)
  exact wpAny_pure (hQ _ he')
end
end Kp
namespace Kp
open PySem PySem.Spec PyProof.Rows L2
/-- the tuple at a as it stands at each turn, each item in a new pair -/
def IteT (K : PySem.W.Frag) (a : Addr) : It :=
  ⟨fun i H => ∃ (xs : List V) (x : V), SqT K H a xs ∧ xs[i]? = some x, fun i H v H' => ∃ T x, v = .ref T ∧ H T = none ∧ H' = upd H T (.tup [.int (i : Nat), x]) ∧ ∀ xs, SqT K H a xs → xs[i]? = some x, fun i H => ∃ xs : List V, SqT K H a xs ∧ xs.length ≤ i⟩
theorem isTup_is {h : Heap} {a : Addr} {its : Array Value} (p : IsTup h a its) : h.IsTuple a its := p
theorem turn_enumT {P : Program} {w : World} {K : PySem.W.Frag} {elts : List Expr} {kk : Nat} {tpos : Pos} (a e it : Addr) :
    Turn P w K (.Tuple elts kk tpos) (IteT K a) [e, it] e (fun i h => (∃ old, IsEnum h e it ((i : Nat) : Int) old) ∧ h.IsTupleIter it a i ∧ e ≠ it) where
  mem := by simp
  obj := fun i h st b hb => by
    obtain ⟨⟨old, he⟩, ⟨o, ho, hc, hd⟩, _⟩ := st
    have e' : b = e ∨ b = it := by simpa using hb
    rcases e' with z | z
    · rw [z]; exact ⟨_, he, fun v q => nomatch q⟩
    · rw [z]; exact ⟨o, ho, fun v q => by rw [hd] at q; cases q⟩
  keep := fun i h h' st k => let ⟨⟨old, he⟩, hi, hne⟩ := st; ⟨⟨old, k e (by simp) _ he⟩, hi.at fun o q => k it (by simp) o q, hne⟩
  item := by
    intro X hP hw hK hc i pins s σ H E I hf st hg
    subst hP hw hK
    obtain ⟨⟨old, he⟩, hit, hne⟩ := st
    obtain ⟨xs, x, hq, hx⟩ := hg
    obtain ⟨its, rv, p, hz⟩ := I.tuple hq
    obtain ⟨u, hu, ru⟩ := rv.get hx
    have hel : e < s.heap.objs.size := Heap.lt_size he
    have hil : it < s.heap.objs.size := by obtain ⟨_, q, _⟩ := hit; exact Heap.lt_size q
    have hea : e ≠ a := fun z => by
      obtain ⟨o, ho, hcl, _⟩ := p
      have he' : s.heap.get? e = some _ := he
      rw [z, ho] at he'
      cases he'
      exact absurd (Value.type.inj hcl) (by decide)
    have hia : a ≠ it := fun z => by
      obtain ⟨o, ho, hcl, _⟩ := p
      obtain ⟨o2, ho2, hcl2, _⟩ := hit
      rw [z, ho2] at ho
      cases ho
      rw [hcl2] at hcl
      exact absurd (Value.type.inj hcl) (by decide)
    have hlt : i < its.toArray.size := by
      have := (List.getElem?_eq_some_iff.mp hu).1
      simpa using this
    refine wpAny_pyNext_enum_itemD (Draws.tuple (A := X.A.in1) (I.ok.hd hc) it a hia its.toArray) he ⟨hit, p⟩ hlt hne (by simp [hne, hea]) fun x' h' tk hP ho hst' hT hsz hk => ?_
    have ex : x' = u := by
      have h1 : its[i]? = some x' := by simpa using hP
      rw [hu] at h1
      exact (Option.some.inj h1).symm
    subst ex
    refine ⟨_, rfl, wpAny_letOwnedTupleGo_enum (s := { s with heap := h', toks := tk + 1 }) ho fun h'' he' sb => ?_⟩
    have hT2 : h''.get? s.heap.objs.size = some { cls := .type "tuple", data := .seq #[.int i tk, x'] } := (sb.2 _ (Nat.ne_of_gt hel)).trans hT
    have new : ObjOk X.prog X.w (upd H s.heap.objs.size (.tup [.int (i : Nat), x])) h'' s.heap.objs.size (.tup [.int (i : Nat), x]) :=
      ⟨by show 2 ≤ sizeLine; decide, [.int i tk, x'], .cons ⟨_, rfl⟩ (.cons ru .nil), ⟨_, hT2, rfl, _, rfl⟩⟩
    have I1 : Inv X pins σ (upd H s.heap.objs.size (.tup [.int (i : Nat), x])) { s with heap := h'', toks := tk + 1 } :=
      I.turnedNew (ch := [e, it]) (fun b ob hb q => (sb.2 b (fun z => hb (by simp [z]))).trans (hk b ob (fun z => hb (by simp [z])) (fun z => hb (by simp [z])) q)) hf (Nat.le_refl _) new
    refine ⟨.ref s.heap.objs.size, _, I1, rfl, ⟨_, x, rfl, I.hok.fresh (Nat.le_refl _), rfl, fun ys hy => by rw [I.tuple_inj hy hq]; exact hx⟩, ⟨⟨x', ?_⟩, hst'.1.at fun o q => (sb.2 it (Ne.symm hne)).trans q, hne⟩, fun b hb => ?_⟩
    · have e1 : ((i + 1 : Nat) : Int) = (i : Int) + 1 := by omega
      rw [e1]; exact he'
    · have hb' : b < s.heap.objs.size := by
        have e' : b = e ∨ b = it := by simpa using hb
        rcases e' with z | z
        · rw [z]; exact hel
        · rw [z]; exact hil
      rw [upd_ne (Nat.ne_of_lt hb')]
      exact (hf b hb).1
  done := by
    intro X hP hw hK hc i pins s σ H E I hf st hg
    subst hP hw hK
    obtain ⟨⟨old, he⟩, hit, hne⟩ := st
    obtain ⟨xs, hq, hx⟩ := hg
    obtain ⟨its, rv, p, hz⟩ := I.tuple hq
    obtain ⟨f0, f1, f2, f3, f4, f5⟩ := hf it (by simp)
    have hl := rv.length
    exact pyNext_enum_endT (I.ok.hd hc) he hit p (by simp; omega) fun h' eb => ⟨rfl, I.turned (t' := s.toks) (fun b o hb q => eb b o hb q) f0 f1 f3 f4 f5⟩
  self := fun A i s Q E st h => let ⟨⟨_, he⟩, _⟩ := st; wpAny_pyIter_enum he h
def iEnumT (K : PySem.W.Frag) (ta : TA) : TI := fun σ H R => ta σ H fun vs H1 => ∃ a xs, vs = [.ref a] ∧ SqT K H1 a xs ∧ R (IteT K a) H1
theorem pi_enumT {X : Cx} {K : PySem.W.Frag} {e : Expr} {ta : TA} {p pos tpos : Pos} {elts : List Expr} {kk : Nat} (hK : X.K = K) (hg : Gl X "enumerate") (hm : X.mg "enumerate" = none) (ha : PA X [e] ta) (hs : starEach [e] X.env = [(false, eval e X.env)] := by rfl) :
    PI X (.Tuple elts kk tpos) (.Call (.Name "enumerate" p) [e] [] pos) (iEnumT K ta) := by
  subst hK
  refine ⟨fun pins s σ H R I h => ?_⟩
  refine Call_ (ld_blt I hg hm boot_enumerate (PyProof.Rows.callWith_type1 (thn (ha.run pos pins s σ H _ I h) fun us s1 ⟨vs, H1, I1, r1, q1⟩ => ?_) hs rfl))
  obtain ⟨a, xs, ex, hq, q⟩ := q1
  subst ex
  cases r1 with
  | cons r rr =>
    cases rr
    cases r
    obtain ⟨its, rv, p', hz⟩ := I1.tuple hq
    refine call_enumerate_tup p' fun h' he hit hsz hk => wpAny_pyIter_enum he ?_
    have I2 : Inv X pins σ H1 { s1 with heap := h' } := I1.kept (t' := s1.toks) hk
    refine ⟨s1.heap.objs.size + 1, [s1.heap.objs.size + 1, s1.heap.objs.size], _, _, H1, rfl, I2, turn_enumT a (s1.heap.objs.size + 1) s1.heap.objs.size, ⟨⟨.none, he⟩, hit, Nat.succ_ne_self _⟩, fun b hb => ?_, q⟩
    have e' : b = s1.heap.objs.size + 1 ∨ b = s1.heap.objs.size := by simpa using hb
    have hle : s1.heap.objs.size ≤ b := by
      rcases e' with z | z
      · rw [z]; exact Nat.le_add_right _ _
      · rw [z]; exact Nat.le_refl _
    exact I1.fpOk hle (I1.hok.fresh hle)
theorem walk_enumT {K : PySem.W.Frag} {a : Addr} {xs : List V} : Walk (IteT K a) xs.length (fun H => SqT K H a xs) (YPair (fun i => some (.int (i : Nat))) (fun i => xs[i]?)) := by
  refine ⟨fun i _ hi q => ⟨xs, xs[i], q, by simp [hi]⟩, fun _ q => ⟨xs, q, Nat.le_refl _⟩, fun i H v H' _ q y => ?_⟩
  obtain ⟨T, x, h1, h2, h3, h4⟩ := y
  exact ⟨T, .int (i : Nat), x, h1, h2, h3, rfl, h4 xs q⟩
/-! ### t[::-1] of a tuple -/
def tRevT (K : PySem.W.Frag) (te : TE) : TE := fun σ H Q => te σ H fun x H1 => ∃ a xs, x = .ref a ∧ SqT K H1 a xs ∧ ∀ p, H1 p = none → Q (.ref p) (upd H1 p (.tup xs.reverse))
/-- a dict comprehension over any walk -/
theorem dc_it {J : It} {n : Nat} {G : Hp → Prop} {Y : Nat → Hp → V → Hp → Prop} (w : Walk J n G Y) {g : TG} {tt : TT} {tk tv : TE} {vs : List Nat} {σ : L2.St} {H1 : Hp} {D : Addr} {Qd : Hp → Prop} (Pv : Nat → Hp → Prop) (h0 : Pv 0 (upd H1 D (.dK []))) (hG : ∀ i H, i ≤ n → Pv i H → G H)
    (hs : ∀ i x H H', i < n → Pv i H → Y i H x H' → g x (wipe σ vs) H' fun σ2 H2 => wipe σ2 vs = wipe σ vs ∧ tt σ2 H2 fun b H3 =>
      if b = true then tk σ2 H3 fun y H4 => tv σ2 H4 fun z H5 => ∃ kvs k, y = kV k ∧ H5 D = some (.dK kvs) ∧ kvs.length < sizeLine ∧ Pv (i + 1) (upd H5 D (.dK (putK kvs k z))) else Pv (i + 1) H3) (hd : ∀ H, Pv n H → Qd H) :
    ∃ W : Nat → Nat → Hp → Prop, (∃ m, W 0 m (upd H1 D (.dK []))) ∧ ∀ i m H, W i m H →
      (J.stop i H ∧ Qd H) ∨ (J.go i H ∧ ∃ Nx : Hp → Prop, (∀ H', Nx H' → ∃ m', m' < m ∧ W (i + 1) m' H') ∧ ∀ x H', J.yld i H x H' → g x (wipe σ vs) H' fun σ2 H2 => wipe σ2 vs = wipe σ vs ∧ tt σ2 H2 fun b H3 =>
        if b = true then tk σ2 H3 fun y H4 => tv σ2 H4 fun z H5 => ∃ kvs k, y = kV k ∧ H5 D = some (.dK kvs) ∧ kvs.length < sizeLine ∧ Nx (upd H5 D (.dK (putK kvs k z))) else Nx H3) := by
  refine ⟨fun i m H => m = n - i ∧ i ≤ n ∧ Pv i H, ⟨n, by simp, Nat.zero_le _, h0⟩, ?_⟩
  rintro i m H ⟨rfl, hi, p⟩
  have q := hG i H hi p
  by_cases hlt : i < n
  · refine .inr ⟨w.goes i H hlt q, Pv (i + 1), fun H' p' => ⟨n - (i + 1), by omega, rfl, hlt, p'⟩, fun x H' y => hs i x H H' hlt p (w.yields i H x H' hlt q y)⟩
  · have e : i = n := by omega
    subst e
    exact .inl ⟨w.stops H q, hd H p⟩
end Kp
set_option maxHeartbeats 4000000
namespace Kp
open PySem PySem.Spec PyProof.Rows HT
section
variable {prog : Program} {w : World} {A : Around} {E : Value → Shared → Prop} {s : Shared}
theorem adjust_rev (n : Nat) : Builtin.Slice.sliceAdjust none none (-1) (n : Int) = ((n : Int) - 1, -1) := by
  unfold Builtin.Slice.sliceAdjust
  simp
theorem places_rev (n : Nat) : Builtin.Slice.slicePlaces ((n : Int) - 1) (-1) (-1) = n := by
  unfold Builtin.Slice.slicePlaces
  rw [if_neg (by decide)]
  by_cases h : n = 0
  · subst h
    rfl
  · rw [if_pos (by omega)]
    simp
theorem fm_map {α β : Type} {f : α → Option β} {g : α → β} : ∀ l : List α, (∀ x ∈ l, f x = some (g x)) → l.filterMap f = l.map g
  | [], _ => rfl
  | a :: l, h => by
    rw [List.filterMap_cons, h a List.mem_cons_self, List.map_cons, fm_map l fun x hx => h x (List.mem_cons_of_mem _ hx)]
theorem pick_rev (xs : Array Value) : ((List.range xs.size).filterMap fun (m : Nat) => xs[(((xs.size : Int) - 1) + (m : Int) * (-1)).toNat]?) = xs.toList.reverse := by
  have e : (List.range xs.size).filterMap (fun (m : Nat) => xs[(((xs.size : Int) - 1) + (m : Int) * (-1)).toNat]?) = (List.range xs.size).map fun m => (xs.toList.reverse)[m]?.getD .none := by
    refine fm_map _ fun m hm => ?_
    have hm' : m < xs.size := List.mem_range.mp hm
    have e1 : (((xs.size : Int) - 1) + (m : Int) * (-1)).toNat = xs.size - 1 - m := by omega
    have h1 : xs.size - 1 - m < xs.size := by omega
    rw [e1, Array.getElem?_eq_getElem h1]
    have h2 : m < xs.toList.reverse.length := by simpa using hm'
    show some _ = some _
    rw [List.getElem?_eq_getElem h2]
    simp [List.getElem_reverse]
  rw [e]
  apply List.ext_getElem
  · simp
  · intro i h1 h2
    simp only [List.getElem_map, List.getElem_range]
    rw [List.getElem?_eq_getElem h2]
    rfl
theorem applied_rev {sl : Addr} {vk : Value} {n : Nat} {Q : Int × Int × Nat → Shared → Prop} (hs : s.heap.IsSliceOf sl .none .none vk) (ps : IsPart vk (some (-1)))
    (h : Q ((n : Int) - 1, -1, n) s) : wpAny (model prog w) A (Builtin.Slice.sliceApplied (.ref sl) (pure (n : Int))) Q E s := by
  obtain ⟨os, hos, hcs, hds⟩ := id hs
  unfold Builtin.Slice.sliceApplied Builtin.Slice.sliceFields
  refine wpAny_bind (wpAny_bind (wpAny_field hos hds (x := .none) rfl (wpAny_bind (wpAny_field hos hds (x := .none) rfl (wpAny_bind (wpAny_field hos hds (x := vk) rfl (wpAny_pure ?_)))))))
  refine wpAny_bind (slicePart_ ps ?_)
  show wpAny _ _ (if ((-1 : Int) == 0) = true then _ else _) _ _ s
  rw [if_neg (by decide)]
  refine wpAny_bind (slicePart_none (wpAny_bind (slicePart_none (wpAny_bind (wpAny_pure ?_)))))
  show wpAny _ _ (match Builtin.Slice.sliceAdjust none none (-1) (n : Int) with | (lo, hi) => pure (lo, (-1 : Int), Builtin.Slice.slicePlaces lo hi (-1))) _ _ s
  rw [adjust_rev]
  show wpAny _ _ (pure ((n : Int) - 1, (-1 : Int), Builtin.Slice.slicePlaces ((n : Int) - 1) (-1) (-1))) _ _ s
  rw [places_rev]
  exact wpAny_pure h
theorem getItem_tuple_rev {t sl : Addr} {items : Array Value} {vk : Value} {Q : Value → Shared → Prop} (ht : IsTup s.heap t items) (hs : s.heap.IsSliceOf sl .none .none vk) (ps : IsPart vk (some (-1)))
    (h : Q (.ref s.heap.objs.size) { s with heap := s.heap.push { cls := .type "tuple", data := .seq items.toList.reverse.toArray } })
    (hsz : items.size ≤ sizeLine) : wpAny (model prog w) A (getItem (.ref t) (.ref sl)) Q E s := by
  have htake : sizeOk (.seq items.toList.reverse.toArray) := by
    show items.toList.reverse.toArray.size ≤ sizeLine
    rw [List.size_toArray, List.length_reverse, Array.length_toList]
    exact hsz
  obtain ⟨os, hos, hcs, hds⟩ := id hs
  have hTs : s.TypeIs (.ref sl) "slice" := ⟨os, hos, hcs⟩
  unfold getItem
  try with_reducible refine wpAny_holding ?_
  first | refine wpAny_bind (wpAny_pure ?_) | skip
  refine wpAny_bind (wpAny_sequenceKey ht.typeIs (by decide) ?_)
  refine wpAny_bind (wpAny_callSpecial?_slot (name := Str.ofString "__getitem__") ht.typeIs PyProof.Rows.slot_tuple_getitem
    (wpAny_call_entry PyProof.Rows.slot_tuple_getitem ht.typeIs entry_tuple_getitem ?_ (args_tuple_getitem _ _)))
  show wpAny _ _ (Builtin.Tuple.tupleItemsOf (.ref t) >>= _) _ _ s
  refine wpAny_bind (tupleItemsOf_ ht ?_)
  refine wpAny_bind (wpAny_typeOf hTs ?_)
  rw [if_pos (by decide)]
  refine wpAny_bind (applied_rev hs ps ?_)
  have hno : ¬ ((((items.size : Int) - 1) == 0 && (-1 : Int) == 1 && items.size == items.size) = true) := by
    rw [show ((-1 : Int) == 1) = false from by decide, Bool.and_false]
    simp
  show wpAny _ _ (if (((items.size : Int) - 1) == 0 && (-1 : Int) == 1 && items.size == items.size) = true then _ else _) _ _ s
  rw [if_neg hno, pick_rev]
  first
    | exact wpAny_bind (m := Builtin.Tuple.tupleExact _) (wpAny_newObj_type (wpAny_pure ⟨_, rfl, wpAny_pure h⟩) htake)
    | exact wpAny_bind (m := Builtin.Tuple.tupleExact _) (wpAny_newObj_type (wpAny_bind (wpAny_pure (wpAny_pure ⟨_, rfl, wpAny_pure h⟩))) htake)
    | exact wpAny_bind (wpAny_bind (m := Builtin.Tuple.tupleExact _) (wpAny_newObj_type (wpAny_pure (wpAny_pure ⟨_, rfl, wpAny_pure h⟩)) htake))
    | exact wpAny_bind (wpAny_bind (m := Builtin.Tuple.tupleExact _) (wpAny_newObj_type (wpAny_pure ⟨_, rfl, wpAny_pure h⟩) htake))
end
end Kp
namespace Kp
open PySem PySem.Spec PyProof.Rows L2
theorem pe_revT {X : Cx} {K : PySem.W.Frag} {e : Expr} {te : TE} {k : Nat} {p1 p2 p3 pos : Pos} (hK : X.K = K) (he : PE X e te) : PE X (.Subscript e (.Slice none none (some (.UnaryOp .USub (.Constant (.int 1) k p1) p2)) p3) pos) (tRevT K te) := by
  subst hK
  refine ⟨fun pins s σ H Q I h => ?_⟩
  refine Subscript_ (thn (he.run pins s σ H _ I h) fun v s1 ⟨x, H1, I1, r1, q1⟩ => ?_)
  obtain ⟨a, xs, ex, hx, q⟩ := q1
  subst ex
  cases r1
  have hst : PO X (some (.UnaryOp .USub (.Constant (.int 1) k p1) p2)) (tPart (tUn (rU fun i => .int (-i)) (tC (.int 1)))) := po_some (pe_un un_neg pe_int)
  refine wpAny_Slice ?_
  rw [evalPart_none]
  refine wpAny_pure ?_
  refine wpAny_pure ?_
  refine thn (hst.run pins s1 σ H1 (fun o H4 => o = some (-1) ∧ H4 = H1) I1 ⟨1, rfl, -1, rfl, rfl, rfl⟩) fun vs s4 ⟨o, H4, I4, ps, eo, e4⟩ => ?_
  subst eo e4
  have I5 : Inv X pins σ H4 { s4 with heap := s4.heap.push { cls := .type "slice", data := .fields #[.none, .none, vs] } } := I4.kept (t' := s4.toks) fun b ob q => Heap.get?_push_of_some _ q
  obtain ⟨its, r, ht, hz⟩ := I5.tuple hx
  have hlen := r.length
  show wpAny (model X.prog X.w) X.A (subscriptTail e (.Slice none none (some (.UnaryOp .USub (.Constant (.int 1) k p1) p2)) p3) (.ref a) (.ref s4.heap.objs.size)) (EP X pins σ Q) X.xe { s4 with heap := s4.heap.push { cls := .type "slice", data := .fields #[.none, .none, vs] } }
  refine tail_any (ops := [.ref a, .ref s4.heap.objs.size]) ht.typeIs (PyProof.Rows.slot_tuple_getitem.lookup) ?_ (by with_unfolding_all rfl)
  refine getItem_tuple_rev ht (Heap.IsSliceOf.new _ .none .none vs) ps ?_ (by rw [List.size_toArray]; omega)
  refine ⟨.ref _, _, I5.laid (t' := s4.toks) (o := .tup xs.reverse) (fun b ob q => Heap.get?_push_of_some _ q) (Nat.le_refl _) ?_, rfl, q _ (I5.hok.fresh (Nat.le_refl _))⟩
  exact ⟨by rw [List.length_reverse]; exact hz, _, r.reverse, IsTup.new _ _⟩
end Kp
set_option maxHeartbeats 2000000
/-! More calls by positional promises. -/
namespace Kp
open PySem PySem.Spec PyProof.Rows L2
section
variable {X : Cx} {k : Nat} {f C : Addr} {sp : Sp} {E : XK} {x m : Str} {e o : Expr} {es : List Expr} {t : TA} {ta te : TE} {p pos apos sp_ : Pos}
/-- f() -/
theorem pe_callR0 (F : FX X k f sp) (hr : Room k X.A) (hk : PySem.W.keepIn X.K (.ref f) = true) (hg : Gl X x) (hm : X.mg x = some (.ref f)) (hx : PsX X E) (hd : (x == ("__debug__" : Str)) = false := by decide) :
    PE X (.Call (.Name x p) [] [] pos) (tCallR sp E tNil) := by
  refine ⟨fun pins s σ H Q I h => ?_⟩
  refine wpAny_Call_Name_kw (ld_glob I hg hm ?_ hd)
  exact PySem.W.callWith_K0 I.kIn hk (wpAny_call (run_fnR (us := []) F hr hx I .nil h))
/-- f( *y ) -/
def tCallS1 (K : PySem.W.Frag) (sp : Sp) (E : XK) (te : TE) : TE := fun σ H Q => te σ H fun y H1 => ∃ a xs, y = V.ref a ∧ (SqT K H1 a xs ∨ SqL K H1 a xs) ∧ sp xs H1 Q E
theorem pe_callS1 (F : FX X k f sp) (hr : Room k X.A) (hk : PySem.W.keepIn X.K (.ref f) = true) (hg : Gl X x) (hm : X.mg x = some (.ref f)) (hx : PsX X E) (he : PE X e te) (hd : (x == ("__debug__" : Str)) = false := by decide)
    (hst : starEach [.Starred e sp_] X.env = [(true, eval e X.env)] := by rfl) : PE X (.Call (.Name x p) [.Starred e sp_] [] pos) (tCallS1 X.K sp E te) := by
  refine ⟨fun pins s σ H Q I h => ?_⟩
  refine wpAny_Call_Name_kw (ld_glob I hg hm ?_ hd)
  refine PySem.W.callWith_S (h₀ := X.base) I.ok.mod.kin hk (thn (he.run pins s σ H _ I h) fun v s1 ⟨y, H1, I1, ry, a, xs, ey, hxs, q⟩ => ?_) hst
  subst ey
  obtain rfl : v = Value.ref a := ry
  exact StX.star_any I1 hxs fun us s2 I2 rv => ⟨I2.kIn, wpAny_call (run_fnR F hr hx I2 rv q)⟩
/-- o.m(e, ..) -/
def tMethR (C : Addr) (m : Str) (sp : Sp) (E : XK) (ta : TE) (t : TA) : TE := fun σ H Q => ta σ H fun x H1 => ∃ a dx fs, x = .ref a ∧ H1 a = some (.ins C dx fs) ∧ fs.lookup m = none ∧ t σ H1 fun vs H2 => sp (.ref a :: vs) H2 Q E
theorem pe_methR {pl : Sem Bool} (he : PE X o ta) (c : Cls X.K C) (hm : Meth X.K C m f) (F : FX X k f sp) (hr : Room k X.A) (hx : PsX X E) (ha : PA X (e :: es) t)
    (hst : starEach (e :: es) X.env = (false, eval e X.env) :: starEach es X.env := by rfl) (hpl : (backTo pos (starEach es X.env)).any (·.1) = false := by rfl)
    (ht : eval (.Call (.Attribute o m apos) (e :: es) [] pos) X.env = (do
      let ov ← eval o X.env
      standAt apos.atName
      let (f, first) ← holding [ov] (getMethod ov m pl)
      callWith pos f first (backTo pos (starEach (e :: es) X.env)) (backToKw pos (keywordEach [] X.env))) := by rfl) :
    PE X (.Call (.Attribute o m apos) (e :: es) [] pos) (tMethR C m sp E ta t) := by
  refine ⟨fun pins s σ H Q I h => ?_⟩
  refine PySem.W.methodCall_KW (pl := pl) (thn (he.run pins s σ H _ I h) fun u s1 ⟨x, H1, I1, rx, a, dx, fs, ex, ea, l, q⟩ => ?_) ht
  subst ex
  obtain rfl : u = Value.ref a := rx
  refine getmeth_ok I1 ea c hm l ?_
  refine PySem.W.callWith_K (first := [.ref a]) (h₀ := X.base) I.ok.mod.kin hm.kp (thn (ha.run pos pins s1 σ H1 _ I1 q) fun us s2 ⟨vs, H2, I2, r, q2⟩ => ⟨I2.kIn, ?_⟩) hst hpl
  exact wpAny_call (run_fnR (us := .ref a :: us) (vs := .ref a :: vs) F hr hx I2 (.cons rfl r) q2)
/-- e.f, a property: the getter's promise -/
def tPropR (C : Addr) (sp : Sp) (E : XK) (ta : TE) : TE := fun σ H Q => ta σ H fun x H1 => ∃ a dx fs, x = .ref a ∧ H1 a = some (.ins C dx fs) ∧ sp [.ref a] H1 Q E
theorem pe_propR {g pa : Addr} {nm : Str} (he : PE X e ta) (c : Cls X.K C) (hp : PropOf X.K C nm pa g) (F : FX X k g sp) (hr : Room (k + 1) X.A) (hx : Passes (L2.CX X.prog X.w) X.nox E)
    (hab : attributeBase e nm X.env (eval e X.env) = eval e X.env := by rfl) : PE X (.Attribute e nm pos) (tPropR C sp E ta) := by
  refine ⟨fun pins s σ H Q I h => ?_⟩
  refine attr_of hab (thn (he.run pins s σ H _ I h) fun u s1 ⟨x, H1, I1, rx, a, dx, fs, ex, ea, q⟩ => ?_)
  subst ex
  obtain rfl : u = Value.ref a := rx
  obtain ⟨mA, O, _, _, _, _⟩ := ins_get I1.hok ea
  obtain ⟨od, J, _⟩ := O.look
  obtain ⟨rest, hrec⟩ := hp.rec_
  have I2 := I1.tok (s1.toks + 1)
  have hc : (PySem.W.clsIn X.K C).isSome = true := by
    obtain ⟨cd, hc, _⟩ := PySem.W.any_some c.hd
    rw [hc]
    rfl
  refine PySem.W.get_bind I1.kIn J (PySem.W.plainGet_of (c.get nm)).1 (PySem.W.findObj_data hc hp.at_ hp.get hp.tak) (PySem.W.plainGet_of (c.get nm)).2 (wpAny_call (PySem.W.prop_get (s := { s1 with toks := s1.toks + 1 }) I1.kIn hrec ?_))
  refine codeAny_mono (F X.A.in1 X.stack { s1 with toks := s1.toks + 1 } H1 [.ref a] [.ref a] Q E hr.in1 I2.env0.in1 (.cons rfl .nil) q) fun r s' hq => ?_
  cases r with
  | error er => exact False.elim (hx pins σ H1 { s1 with toks := s1.toks + 1 } er s' (I2.wish _) hq)
  | ok fl =>
    cases fl with
    | ret u =>
      obtain ⟨v, H', I3, rv, q3⟩ := I2.after hq
      show wpAny _ _ (handedOut u) _ _ _
      rw [PySem.W.handedOut_of (handed_of rv)]
      exact wpAny_pure ⟨v, H', I3, rv, q3⟩
    | next => exact False.elim hq
    | brk => exact False.elim hq
    | cont => exact False.elim hq
end
end Kp
set_option maxHeartbeats 2000000
/-! l.count(x), a list of texts; all and sorted over a general K. -/
namespace Kp
open PySem PySem.Spec PyProof.Rows L2
theorem countIn_strs (u : Str) : ∀ ws : List Str, countIn (.str u) (ws.map PyData.str) = ((ws.count u : Nat) : Int)
  | [] => rfl
  | a :: ws => by
    have ih := countIn_strs u ws
    rw [List.map_cons, countIn, List.count_cons]
    simp only [same]
    by_cases h : a = u
    · subst h
      simp only [beq_self_eq_true, if_true]
      rw [ih]
      omega
    · have h1 : (a == u) = false := by simpa using h
      have h2 : (u == a) = false := by simpa using fun z => h z.symm
      simp only [h1, h2, Bool.false_eq_true, if_false]
      rw [ih]
      omega
section
variable {X : Cx} {K : PySem.W.Frag}
def rCountS (K : PySem.W.Frag) : V → List V → Hp → VK → Prop := fun x vs H Q => ∃ (l : Addr) (ws : List Str) (u : Str), x = .ref l ∧ vs = [.str u] ∧ SqL K H l (ws.map V.str) ∧ Q (.int (ws.count u)) H
theorem mt_countS (hK : X.K = K) : MtM X "list.count" (rCountS K) := by
  subst hK
  intro pins s σ H x vs v us Q I rx rv h
  obtain ⟨l, ws, u, rfl, rfl, hl, q⟩ := h
  cases rx
  obtain ⟨y, rfl, ru⟩ := rv.one
  obtain ⟨t, rfl⟩ := ru
  obtain ⟨its, r, pl, _⟩ := I.list hl
  refine count_list_strs pl.isList (Vals.strs r) ?_
  rw [countIn_strs]
  exact ⟨.int _, H, I.tok _, ⟨_, rfl⟩, q⟩
theorem cr_allK (hK : X.K = K) (hc : X.calm = true) : CallR X (.builtin "all") (rAll K) := hK ▸ cr_all hc
theorem cr_sortedSK (hK : X.K = K) : CallR X (.builtin "sorted") (rSortedS K) := hK ▸ cr_sortedS
end
end Kp
set_option maxHeartbeats 2000000
/-! [y for x in a for y in b]: the inner items in one row. -/
namespace Kp
open PySem PySem.Spec PyProof.Rows L2
theorem flat_succ (f : Nat → List V) (n : Nat) : (List.range (n + 1)).flatMap f = (List.range n).flatMap f ++ f n := by
  rw [List.range_succ, List.flatMap_append]
  simp
theorem lc2_it {J : It} {n : Nat} {G : Hp → Prop} {Y : Nat → V → Prop} (w : Walk J n G (fun i H x H' => H' = H ∧ Y i x)) (f : Nat → List V) {wi1 : TI} {te : TE} {j j1 : Nat} {vs vs1 : List Nat} {σ : L2.St} {H1 : Hp} {D : Addr} {Qd : Hp → Prop} (hD : H1 D = none)
    (hw : ∀ x, wipe ((wipe σ vs).set j (some x)) vs = wipe σ vs) (hw1 : ∀ x y, wipe ((wipe ((wipe σ vs).set j (some x)) vs1).set j1 (some y)) vs1 = wipe ((wipe σ vs).set j (some x)) vs1)
    (hz : ((List.range n).flatMap f).length ≤ 40000) (hG : ∀ H, Ext H1 H → G H)
    (hin : ∀ i x H (R : It → Hp → Prop), i < n → Ext H1 H → (∃ acc, H D = some (.lst acc)) → Y i x → (∀ (J1 : It) (H' : Hp) (G1 : Hp → Prop), Ext H H' → Walk J1 (f i).length G1 (fun k H x H' => H' = H ∧ (f i)[k]? = some x) → (∀ H2, (∀ b o, b ≠ D → H' b = some o → H2 b = some o) → G1 H2) → R J1 H') → wi1 ((wipe σ vs).set j (some x)) H R)
    (he : ∀ x y H (Q' : VK), Q' y H → te ((wipe ((wipe σ vs).set j (some x)) vs1).set j1 (some y)) H Q')
    (hd : ∀ H, Ext H1 H → H D = some (.lst ((List.range n).flatMap f)) → Qd H) :
    ∃ W : Nat → Nat → Hp → Prop, (∃ m, W 0 m (upd H1 D (.lst []))) ∧ ∀ i m H, W i m H →
      (J.stop i H ∧ Qd H) ∨ (J.go i H ∧ ∃ Nx : Hp → Prop, (∀ H', Nx H' → ∃ m', m' < m ∧ W (i + 1) m' H') ∧ ∀ x H', J.yld i H x H' → gName j x (wipe σ vs) H' fun σ2 H2 => wipe σ2 vs = wipe σ vs ∧ tYes σ2 H2 fun b H3 =>
        if b = true then wi1 σ2 H3 fun J1 H4 => ∃ W1 : Nat → Nat → Hp → Prop, (∃ m, W1 0 m H4) ∧ ∀ j k H, W1 j k H →
          (J1.stop j H ∧ Nx H) ∨ (J1.go j H ∧ ∃ Nx1 : Hp → Prop, (∀ H', Nx1 H' → ∃ k', k' < k ∧ W1 (j + 1) k' H') ∧ ∀ x H', J1.yld j H x H' → gName j1 x (wipe σ2 vs1) H' fun σ3 H5 => wipe σ3 vs1 = wipe σ2 vs1 ∧ tYes σ3 H5 fun b H6 =>
            if b = true then te σ3 H6 fun y H7 => ∃ acc, H7 D = some (.lst acc) ∧ acc.length < sizeLine ∧ Nx1 (upd H7 D (.lst (acc ++ [y]))) else Nx1 H6)
        else Nx H3) := by
  let Pv : Nat → Hp → Prop := fun i H => Ext H1 H ∧ H D = some (.lst ((List.range i).flatMap f))
  have len_le : ∀ i, i ≤ n → ((List.range i).flatMap f).length ≤ ((List.range n).flatMap f).length := by
    intro i hi
    induction n with
    | zero =>
      have : i = 0 := by omega
      rw [this]
      exact Nat.le_refl _
    | succ n _ =>
      have key : ∀ d, ((List.range i).flatMap f).length ≤ ((List.range (i + d)).flatMap f).length := by
        intro d
        induction d with
        | zero => exact Nat.le_refl _
        | succ d ih =>
          rw [show i + (d + 1) = (i + d) + 1 from rfl, flat_succ, List.length_append]
          omega
      have := key (n + 1 - i)
      rwa [show i + (n + 1 - i) = n + 1 from by omega] at this
  refine ⟨fun i m H => m = n - i ∧ i ≤ n ∧ Pv i H, ⟨n, by simp, Nat.zero_le _, Ext.upd hD, upd_same⟩, ?_⟩
  rintro i m H ⟨rfl, hi, e, hl⟩
  have q := hG H e
  by_cases hlt : i < n
  · refine .inr ⟨w.goes i H hlt q, Pv (i + 1), fun H' p' => ⟨n - (i + 1), by omega, rfl, hlt, p'⟩, fun x H' y => ?_⟩
    obtain ⟨e', hy⟩ := w.yields i H x H' hlt q y
    subst e'
    refine ⟨hw x, ?_⟩
    dsimp only [tYes]
    rw [if_pos rfl]
    refine hin i x H' _ hlt e ⟨(List.range i).flatMap f, hl⟩ hy fun J1 H4 G1 e4 w1 g1 => ?_
    refine ⟨fun k m H => m = (f i).length - k ∧ k ≤ (f i).length ∧ Ext H1 H ∧ (∀ b o, b ≠ D → H4 b = some o → H b = some o) ∧ H D = some (.lst ((List.range i).flatMap f ++ (f i).take k)), ⟨(f i).length, rfl, Nat.zero_le _, Ext.trans e e4, fun _ _ _ h => h, by rw [List.take_zero, List.append_nil]; exact e4 _ _ hl⟩, ?_⟩
    rintro k m H5 ⟨rfl, hk, e5, k5, hl5⟩
    have q1 := g1 H5 k5
    by_cases hkt : k < (f i).length
    · refine .inr ⟨w1.goes k H5 hkt q1, fun H => Ext H1 H ∧ (∀ b o, b ≠ D → H4 b = some o → H b = some o) ∧ H D = some (.lst ((List.range i).flatMap f ++ (f i).take (k + 1))), fun H' p' => ⟨(f i).length - (k + 1), by omega, rfl, hkt, p'⟩, fun z H6 y6 => ?_⟩
      obtain ⟨e6, hz6⟩ := w1.yields k H5 z H6 hkt q1 y6
      subst e6
      refine ⟨hw1 x z, ?_⟩
      dsimp only [tYes]
      rw [if_pos rfl]
      refine he x z H6 _ ⟨_, hl5, ?_, ?_, ?_, ?_⟩
      · have h1 := len_le (i + 1) hlt
        rw [flat_succ, List.length_append] at h1
        rw [List.length_append, List.length_take]
        exact Nat.lt_of_le_of_lt (by omega : _ ≤ 40000) (by decide)
      · intro b o hb
        rw [upd_ne (ne_of_none hb hD)]
        exact e5 _ _ hb
      · intro b o nb hb
        rw [upd_ne nb]
        exact k5 _ _ nb hb
      · have : (f i).take (k + 1) = (f i).take k ++ [z] := by
          rw [List.take_add_one, hz6]
          rfl
        rw [this, ← List.append_assoc]
        exact upd_same
    · have ek : k = (f i).length := by omega
      subst ek
      refine .inl ⟨w1.stops H5 q1, e5, ?_⟩
      rw [flat_succ]
      rw [List.take_length] at hl5
      exact hl5
  · have ei : i = n := by omega
    subst ei
    exact .inl ⟨w.stops H q, hd H e hl⟩
end Kp
set_option maxHeartbeats 4000000
namespace Kq
open PySem PySem.Spec PyProof.Rows L2 Kp
/-! ### the pen -/
structure Pen (H : Hp) (p l : Addr) (cs : List Int) (k : Nat) : Prop where
  at_ : ∃ t r : Int, H p = some (.lst [.ref l, .int t, .int r]) ∧ 0 ≤ t ∧ t + k ≤ 100000
  cells : H l = some (.lst (cs.map V.int))
  few : cs.length ≤ 63
theorem Pen.ne {H : Hp} {p l : Addr} {cs : List Int} {k : Nat} (h : Pen H p l cs k) : l ≠ p := by
  intro e
  obtain ⟨t, r, a, _⟩ := h.at_
  have c := h.cells
  rw [e, a] at c
  cases cs with
  | nil => cases c
  | cons x cs =>
    injection c with c
    injection c with c
    injection c with c1 c2
    cases c1
theorem Pen.less {H : Hp} {p l : Addr} {cs : List Int} {k j : Nat} (h : Pen H p l cs k) (hj : j ≤ k) : Pen H p l cs j := by
  obtain ⟨t, r, a, b, c⟩ := h.at_
  exact ⟨⟨t, r, a, b, by omega⟩, h.cells, h.few⟩
/-- all but the pen is as it was -/
def Kept (p : Addr) (H H' : Hp) : Prop := ∀ b o, b ≠ p → H b = some o → H' b = some o
theorem Kept.refl (p : Addr) (H : Hp) : Kept p H H := fun _ _ _ h => h
theorem Kept.trans {p : Addr} {H H1 H2 : Hp} (a : Kept p H H1) (b : Kept p H1 H2) : Kept p H H2 := fun c o n h => b c o n (a c o n h)
theorem Kept.mut {p : Addr} {H : Hp} {o : HO} : Kept p H (upd H p o) := fun b u n h => by rw [upd_ne n]; exact h
theorem Kept.new {p q : Addr} {H : Hp} {o : HO} (h : H q = none) : Kept p H (upd H q o) := fun b u n e => by rw [upd_ne (ne_of_none e h)]; exact e
theorem Kept.of {p : Addr} {H H' : Hp} (e : Ext H H') : Kept p H H' := fun b o _ h => e b o h
theorem Pen.ext {H H' : Hp} {p l : Addr} {cs : List Int} {k : Nat} (h : Pen H p l cs k) (e : Ext H H') : Pen H' p l cs k := by
  obtain ⟨t, r, a, b⟩ := h.at_
  exact ⟨⟨t, r, e _ _ a, b⟩, e _ _ h.cells, h.few⟩
structure TxB (mg : Str → Option Value) : Prop where
  n_int : mg "int" = none
  n_len : mg "len" = none
  n_abs : mg "abs" = none
  n_list : mg "list" = none
  n_tuple : mg "tuple" = none
  n_str : mg "str" = none
  n_set : mg "set" = none
  n_min : mg "min" = none
  n_range : mg "range" = none
  n_enumerate : mg "enumerate" = none
  n_zip : mg "zip" = none
  n_sorted : mg "sorted" = none
  n_all : mg "all" = none
  n_repr : mg "repr" = none
  n_isinstance : mg "isinstance" = none
  n_super : mg "super" = none
  n_ValueError : mg "ValueError" = none
def spDraw : Sp := fun vs H Q _ => ∃ (p l : Addr) (cs : List Int) (k : Nat) (m : Int), vs = [.ref p, .int m] ∧ Pen H p l cs (k + 1) ∧ 1 ≤ m ∧ m ≤ 1000 ∧ ∀ (d : Int) (H' : Hp), 0 ≤ d → d < m → Pen H' p l cs k → Kept p H H' → Q (.int d) H'
section
variable {P : Program} {w : World} {K : PySem.W.Frag} {mg : Str → Option Value} {base : Heap} {f : Addr} {fd : FuncData}
theorem ok_draw (F : Fun K "_law_draw" "_law_draw" s_l_draw f fd) (B : TxB mg) : FnR P w K mg base (L2.CX P w) 1 f spDraw := by
  refine fnP F sc_l_draw (fun _ _ _ _ _ _ us hl => match us, hl with | [_, _], _ => rfl) (fun vs H Q E h => ?_) (fun cdv A outer s H vs Q E hr h => ?_)
  · obtain ⟨p, l, cs, k, m, rfl, _⟩ := h
    rfl
  · refine ⟨_, PSs.nox (pss_cons (ps_if (pt_cmpR op_gt (pe_ix (ix_listK (K := K) rfl) (pv 0) pe_int (fun _ _ => rfl)) pe_int (nomark _))
(pss_cons (ps_set (i := 2) sc_l_draw.nd rfl (Or.inl rfl) (pe_op op_modN (pe_callTy call_int1 (by rfl) B.n_int (by decide +kernel) (pa_cons (pe_ix (ix_listK (K := K) rfl) (pv 0) pe_int (fun _ _ => rfl)) pa_nil)) (pv 1)))
(pss_cons (ps_asg (pe_op op_fdivN (pe_callTy call_int1 (by rfl) B.n_int (by decide +kernel) (pa_cons (pe_ix (ix_listK (K := K) rfl) (pv 0) pe_int (fun _ _ => rfl)) pa_nil)) (pv 1)) (pg_sub (pv 0) pe_int set_list))
(pss_one (ps_ret (pv 2)))))
pss_nil)
(pss_cons (ps_set (i := 3) sc_l_draw.nd rfl (Or.inl rfl) (pe_ix (ix_listK (K := K) rfl) (pv 0) pe_int (fun _ _ => rfl)))
(pss_cons (ps_asg (pe_op op_add (pv 3) pe_int) (pg_sub (pv 0) pe_int set_list))
(pss_cons (ps_set (i := 4) sc_l_draw.nd rfl (Or.inl rfl) (pe_op op_add (pe_op op_mul pe_int (pv 3)) pe_int))
(Evl.pss_cut (ps_if (pt_cmpR (op_neDK (K := K) rfl hr.units) (pe_ix (ix_listK (K := K) rfl) (pv 0) pe_int (fun _ _ => rfl)) (pe_lst pa_nil) (nomark _))
(pss_one (ps_set (i := 4) sc_l_draw.nd rfl (Or.inl rfl) (pe_ix (ix_listK (K := K) rfl) (pe_ix (ix_listK (K := K) rfl) (pv 0) pe_int (fun _ _ => rfl)) (pe_op op_modN (pe_callTy call_int1 (by rfl) B.n_int (by decide +kernel) (pa_cons (pv 3) pa_nil)) (pe_callB (call_lenK (K := K) rfl) (by rfl) B.n_len (by decide +kernel) (pa_cons (pe_ix (ix_listK (K := K) rfl) (pv 0) pe_int (fun _ _ => rfl)) pa_nil))) (fun _ _ => rfl))))
pss_nil)
(Evl.pss_cut (ps_if (PW.pt (pw_and (pt_cmpR op_lt (pv 3) (pe_callB (call_lenK (K := K) rfl) (by rfl) B.n_len (by decide +kernel) (pa_cons (pe_ix (ix_listK (K := K) rfl) (pv 0) pe_int (fun _ _ => rfl)) pa_nil)) (nomark _)) (pw_and1 (pt_cmpR op_ge (pe_callB call_abs (by rfl) B.n_abs (by decide +kernel) (pa_cons (pv 4) pa_nil)) (pe_op op_pow pe_int pe_int) (nomark _)))))
(pss_cons (ps_set (i := 5) sc_l_draw.nd rfl (Or.inl rfl) (pe_op op_add (pe_op op_mul pe_int (pe_op op_sub (pe_callB call_abs (by rfl) B.n_abs (by decide +kernel) (pa_cons (pv 4) pa_nil)) (pe_op op_pow pe_int pe_int))) (pe_callTy call_int1 (by rfl) B.n_int (by decide +kernel) (pa_cons (pe_cmpR op_lt (pv 4) pe_int (nomark _)) pa_nil))))
(pss_cons (ps_asg (pe_op op_fdivN (pe_callTy call_int1 (by rfl) B.n_int (by decide +kernel) (pa_cons (pv 5) pa_nil)) (pv 1)) (pg_sub (pv 0) pe_int set_list))
(pss_one (ps_ret (pe_op op_modN (pe_callTy call_int1 (by rfl) B.n_int (by decide +kernel) (pa_cons (pv 5) pa_nil)) (pv 1))))))
pss_nil)
(pss_cons (ps_set (i := 6) sc_l_draw.nd rfl (Or.inl rfl) (pe_op op_modN (pe_callTy call_int1 (by rfl) B.n_int (by decide +kernel) (pa_cons (pe_op op_pow (pe_op op_add (pe_op op_add (pe_op op_modN (pe_callTy call_int1 (by rfl) B.n_int (by decide +kernel) (pa_cons (pv 4) pa_nil)) pe_int) (pe_op op_mul pe_int (pv 3))) pe_int) pe_int) pa_nil)) pe_int))
(pss_cons (ps_set (i := 6) sc_l_draw.nd rfl (Or.inl rfl) (pe_op op_modN (pe_callTy call_int1 (by rfl) B.n_int (by decide +kernel) (pa_cons (pe_op op_pow (pe_op op_add (pe_op op_add (pe_op op_mul (pv 6) (pe_op op_add (pe_op op_mul pe_int (pv 3)) pe_int)) (pe_op op_mul (pe_op op_mul pe_int (pv 3)) (pv 3))) pe_int) pe_int) pa_nil)) pe_int))
(pss_one (ps_ret (pe_op op_modN (pe_callTy call_int1 (by rfl) B.n_int (by decide +kernel) (pa_cons (pe_op op_fdivN (pv 6) pe_int) pa_nil)) (pv 1)))))))))))), ?_⟩
    obtain ⟨p, l, cs, k, m, rfl, pen, h1, h2, hQ⟩ := h
    have lp := pen.ne
    obtain ⟨⟨t, r, ha, t0, tk⟩, hl, hc⟩ := pen
    have hm : m ≠ 0 := by omega
    have hm2 : m.natAbs < 1073741824 := by omega
    have good : ∀ i : Int, 0 ≤ i.fmod m ∧ i.fmod m < m := fun i => ⟨Int.fmod_nonneg_of_pos i (by omega), Int.fmod_lt_of_pos i (by omega)⟩
    have pend : ∀ (H' : Hp) (t' r' : Int), H' p = some (.lst [.ref l, .int t', .int r']) → H' l = some (.lst (cs.map V.int)) → 0 ≤ t' → t' + k ≤ 100000 → Pen H' p l cs k := fun H' t' r' e1 e2 e3 e4 => ⟨⟨t', r', e1, e3, e4⟩, e2, hc⟩
    refine ⟨_, rfl, p, _, _, _, rfl, rfl, SqL.of ha, rfl, _, _, rfl, rfl, _, rfl, ?_⟩
    by_cases hr0 : r > 0
    · rw [decide_eq_true hr0]
      refine iteT ?_
      refine ⟨_, rfl, p, _, _, _, rfl, rfl, SqL.of ha, rfl, .inl ⟨_, rfl, _, rfl, _, _, rfl, rfl, hm, ?_⟩⟩
      refine ⟨_, rfl, p, _, _, _, rfl, rfl, SqL.of ha, rfl, .inl ⟨_, rfl, _, rfl, _, _, rfl, rfl, ⟨hm, hm2⟩, ?_⟩⟩
      refine ⟨_, rfl, p, _, _, 2, rfl, rfl, ha, rfl, ?_⟩
      refine ⟨_, rfl, ?_⟩
      exact hQ _ _ (good r).1 (good r).2 (pend _ t (r.fdiv m) upd_same (by rw [upd_ne lp]; exact hl) t0 (by omega)) Kept.mut
    · rw [decide_eq_false hr0]
      refine iteF ?_
      refine ⟨_, rfl, p, _, _, _, rfl, rfl, SqL.of ha, rfl, ?_⟩
      refine ⟨_, rfl, _, _, rfl, rfl, ?_⟩
      refine ⟨_, rfl, p, _, _, 1, rfl, rfl, ha, rfl, ?_⟩
      refine ⟨_, rfl, _, _, rfl, rfl, .inl ⟨by decide, by decide⟩, _, _, rfl, rfl, ?_⟩
      have ha1 : upd H p (.lst ([V.ref l, .int t, .int r].set 1 (.int (t + 1)))) p = some (.lst [.ref l, .int (t + 1), .int r]) := upd_same
      have hl1 : upd H p (.lst ([V.ref l, .int t, .int r].set 1 (.int (t + 1)))) l = some (.lst (cs.map V.int)) := by rw [upd_ne lp]; exact hl
      have kt : Kept p H (upd H p (.lst ([V.ref l, .int t, .int r].set 1 (.int (t + 1))))) := Kept.mut
      have pen1 := pend _ (t + 1) r ha1 hl1 (by omega) (by omega)
      generalize upd H p (.lst ([V.ref l, .int t, .int r].set 1 (.int (t + 1)))) = H1 at ha1 hl1 kt pen1 ⊢
      refine ⟨fun σ' H' => ∃ c : Int, σ' = [some (V.ref p), some (V.int m), none, some (V.int t), some (V.int c), none, none] ∧ Ext H1 H', ?_, ?_⟩
      · refine ⟨_, rfl, p, _, _, _, rfl, rfl, SqL.of ha1, rfl, ?_⟩
        refine ⟨by decide, fun q hq => ?_⟩
        have e2 : Ext H1 (upd H1 q (.lst [])) := Ext.upd hq
        refine ⟨_, _, Dp.lst (SqL.of (e2 _ _ hl1)) (dp_ints cs), Dp.lst (SqL.of upd_same) .nil, shaped_ints cs, rfl, _, rfl, ?_⟩
        rw [eqv_nil]
        by_cases hcs : cs = []
        · subst hcs
          refine iteF ?_
          exact ⟨_, rfl, e2⟩
        · rw [decide_eq_false (by simpa using hcs)]
          refine iteT ?_
          have hpos : 0 < cs.length := List.length_pos_iff.mpr hcs
          have hlen : cs.length = (cs.map V.int).length := (List.length_map _).symm
          have hlp : ((cs.length : Nat) : Int) ≠ 0 := by omega
          refine ⟨_, rfl, p, _, _, _, rfl, rfl, SqL.of (e2 _ _ ha1), rfl, ?_⟩
          refine ⟨_, rfl, .inl ⟨_, rfl, ?_⟩⟩
          refine ⟨_, rfl, p, _, _, _, rfl, rfl, SqL.of (e2 _ _ ha1), rfl, ?_⟩
          refine ⟨_, cs.length, rfl, .inl ⟨_, SqL.of (e2 _ _ hl1), hlen⟩, ?_⟩
          refine ⟨_, _, rfl, rfl, hlp, ?_⟩
          have b1 : 0 ≤ t.fmod (cs.length : Int) := Int.fmod_nonneg_of_pos t (by omega)
          have b2 : t.fmod (cs.length : Int) < cs.length := Int.fmod_lt_of_pos t (by omega)
          obtain ⟨j, hj⟩ := Int.eq_ofNat_of_zero_le b1
          have hjl : j < cs.length := by omega
          refine ⟨l, _, _, .int cs[j], rfl, rfl, SqL.of (e2 _ _ hl1), ?_, ?_⟩
          · rw [hj]
            exact atI_nat (by simp [hjl])
          · exact ⟨_, rfl, e2⟩
      · rintro σ' H' ⟨c, rfl, e3⟩
        have ha2 := e3 _ _ ha1
        have hl2 := e3 _ _ hl1
        have kt2 : Kept p H H' := kt.trans (Kept.of e3)
        have hlen : cs.length = (cs.map V.int).length := (List.length_map _).symm
        have end_ : ∀ i : Int, Q (.int (i.fmod m)) H' := fun i => hQ _ _ (good _).1 (good _).2 (pen1.ext e3) kt2
        refine ⟨fun σ' H2 => σ' = [some (V.ref p), some (V.int m), none, some (V.int t), some (V.int c), none, none] ∧ H2 = H', ?_, ?_⟩
        rotate_left
        · rintro σ' H2 ⟨rfl, rfl⟩
          have c1 : 0 ≤ c.fmod 2147483563 := Int.fmod_nonneg_of_pos c (by decide)
          have c2 : c.fmod 2147483563 < 2147483563 := Int.fmod_lt_of_pos c (by decide)
          have ne1 : (2147483563 : Int) ≠ 0 := by decide
          have ne2 : (2147483629 : Int) ≠ 0 := by decide
          have ne3 : (2147483587 : Int) ≠ 0 := by decide
          refine ⟨_, rfl, .inl ⟨_, rfl, _, _, rfl, rfl, ne1, ?_⟩⟩
          refine ⟨_, rfl, _, _, rfl, rfl, .inl ⟨by decide, by decide⟩, _, _, rfl, rfl, _, _, rfl, rfl, ?_⟩
          refine ⟨_, _, rfl, rfl, ⟨by decide, by decide, by omega⟩, .inl ⟨_, rfl, _, _, rfl, rfl, ne2, ?_⟩⟩
          generalize ((c.fmod 2147483563 + 49733 * t + 623) ^ (5 : Int).toNat) = Z
          have z1 : 0 ≤ Z.fmod 2147483629 := Int.fmod_nonneg_of_pos Z (by decide)
          have z2 : Z.fmod 2147483629 < 2147483629 := Int.fmod_lt_of_pos Z (by decide)
          refine ⟨_, rfl, _, rfl, _, _, rfl, rfl, .inl ⟨by decide, by decide⟩, _, _, rfl, rfl, _, _, rfl, rfl, .inl ⟨by omega, by omega⟩, ?_⟩
          refine ⟨_, rfl, _, _, rfl, rfl, .inl ⟨by decide, by decide⟩, _, rfl, _, _, rfl, rfl, .inl ⟨by omega, by omega⟩, ?_⟩
          refine ⟨_, _, rfl, rfl, _, _, rfl, rfl, _, _, rfl, rfl, ⟨by decide, by decide, ?_⟩, .inl ⟨_, rfl, _, _, rfl, rfl, ne3, ?_⟩⟩
          · have m1 : 0 ≤ Z.fmod 2147483629 * (2 * t + 287) := Int.mul_nonneg z1 (by omega)
            have m2 : Z.fmod 2147483629 * (2 * t + 287) ≤ 2147483629 * 200287 := Int.mul_le_mul (by omega) (by omega) (by omega) (by decide)
            have m3 : 0 ≤ 39799 * t * t := Int.mul_nonneg (by omega) t0
            have m4 : 39799 * t * t ≤ 3979900000 * 100000 := Int.mul_le_mul (by omega) (by omega) t0 (by decide)
            omega
          refine ⟨_, rfl, _, _, rfl, rfl, ⟨by decide, by decide⟩, .inl ⟨_, rfl, _, rfl, _, _, rfl, rfl, hm, ?_⟩⟩
          exact end_ _
        refine ⟨_, rfl, _, rfl, p, _, _, _, rfl, rfl, SqL.of ha2, rfl, ?_⟩
        refine ⟨_, cs.length, rfl, .inl ⟨_, SqL.of hl2, hlen⟩, ?_⟩
        refine ⟨_, _, rfl, rfl, _, rfl, ?_⟩
        refine ite2 (fun _ => ?_) (fun _ => ?_)
        · refine ⟨_, rfl, _, rfl, _, _, rfl, rfl, ⟨by decide, by decide, by decide⟩, _, _, rfl, rfl, _, rfl, ?_⟩
          refine ite2 (fun _ => ?_) (fun _ => ?_)
          · refine ⟨_, rfl, _, rfl, _, _, rfl, rfl, ⟨by decide, by decide, by decide⟩, _, _, rfl, rfl, _, _, rfl, rfl, .inl ⟨by decide, by decide⟩, ?_⟩
            refine ⟨_, rfl, _, _, rfl, rfl, .inr ⟨_, rfl, _, _, rfl, rfl, ?_⟩⟩
            refine ⟨_, rfl, .inl ⟨_, rfl, _, rfl, _, _, rfl, rfl, ⟨hm, hm2⟩, ?_⟩⟩
            refine ⟨_, rfl, p, _, _, 2, rfl, rfl, ha2, rfl, ?_⟩
            refine ⟨_, rfl, .inl ⟨_, rfl, _, rfl, _, _, rfl, rfl, hm, ?_⟩⟩
            exact hQ _ _ (good _).1 (good _).2 (pend _ (t + 1) _ upd_same (by rw [upd_ne lp]; exact hl2) (by omega) (by omega)) (kt2.trans Kept.mut)
          · exact ⟨rfl, rfl⟩
        · exact ⟨rfl, rfl⟩
end
end Kq
set_option maxHeartbeats 4000000
namespace Kq
open PySem PySem.Spec PyProof.Rows L2 Kp
theorem kept_l {K : PySem.W.Frag} {H H' : Hp} {p a : Addr} {xs : List V} (e : Kept p H H') (n : a ≠ p) (h : SqL K H a xs) : SqL K H' a xs := by
  rcases h with (h | ⟨o, h⟩) | h
  · exact .inl (.inl (e _ _ n h))
  · exact .inl (.inr ⟨o, e _ _ n h⟩)
  · exact .inr h
theorem yes {Q : Bool → Hp → Prop} {σ : L2.St} {H : Hp} (h : Q true H) : tYes σ H Q := h
theorem seq_nat {j n : Nat} (h : j < n) : seqIndex? (j : Int) n = some j := by
  unfold seqIndex?
  have h1 : ¬ ((j : Int) < 0) := by omega
  simp [h1, h]
theorem erase_perm : ∀ (l : List V) (j : Nat) (h : j < l.length), ([l[j]] ++ l.eraseIdx j).Perm l
  | a :: l, 0, _ => List.Perm.refl _
  | a :: l, j + 1, h => by
    have hj : j < l.length := by simpa using h
    have ih := erase_perm l j hj
    show (l[j] :: a :: l.eraseIdx j).Perm (a :: l)
    exact (List.Perm.swap a _ _).trans (List.Perm.cons a ih)
def spPick (K : PySem.W.Frag) : Sp := fun vs H Q _ => ∃ (p l : Addr) (cs : List Int) (k : Nat) (y : V), vs = [.ref p, y] ∧ Pen H p l cs (k + 1) ∧
  ((∃ q xs, y = .ref q ∧ SqL K H q xs ∧ q ≠ p ∧ 0 < xs.length ∧ xs.length ≤ 1000 ∧ ∀ (i : Nat) (v : V) (H' : Hp), xs[i]? = some v → Pen H' p l cs k → Kept p H H' → Q v H') ∨
   (∃ z : Str, y = .str z ∧ 0 < z.length ∧ z.length ≤ 1000 ∧ ∀ (c : Nat) (H' : Hp), c ∈ z.cps.toList → Pen H' p l cs k → Kept p H H' → Q (.str ⟨#[c]⟩) H'))
def spShuf (K : PySem.W.Frag) : Sp := fun vs H Q _ => ∃ (p l : Addr) (cs : List Int) (k : Nat) (q : Addr) (xs : List V), vs = [.ref p, .ref q] ∧ Pen H p l cs (k + xs.length) ∧ SqL K H q xs ∧ q ≠ p ∧ xs.length ≤ 1000 ∧
  ∀ (ys : List V) (r : Addr) (H' : Hp), ys.Perm xs → H r = none → H' r = some (.lst ys) → Pen H' p l cs k → Kept p H H' → Q (.ref r) H'
structure TxP (K : PySem.W.Frag) (mg : Str → Option Value) (fDraw fPick fShuf : Addr) : Prop where
  g_l_draw : mg "_law_draw" = some (.ref fDraw)
  g_l_pick : mg "_law_pick" = some (.ref fPick)
  g_l_shuffled : mg "_law_shuffled" = some (.ref fShuf)
  k_l_draw : PySem.W.keepIn K (.ref fDraw) = true
  k_l_pick : PySem.W.keepIn K (.ref fPick) = true
  k_l_shuffled : PySem.W.keepIn K (.ref fShuf) = true
  F_draw : ∃ fd, Fun K "_law_draw" "_law_draw" s_l_draw fDraw fd
  F_pick : ∃ fd, Fun K "_law_pick" "_law_pick" s_l_pick fPick fd
  F_shuf : ∃ fd, Fun K "_law_shuffled" "_law_shuffled" s_l_shuffled fShuf fd
section
variable {P : Program} {w : World} {K : PySem.W.Frag} {mg : Str → Option Value} {base : Heap} {fDraw fPick fShuf : Addr}
theorem pen_draw (B : TxB mg) (T : TxP K mg fDraw fPick fShuf) : FnR P w K mg base (L2.CX P w) 1 fDraw spDraw := by
  obtain ⟨fd, F⟩ := T.F_draw
  exact ok_draw F B
theorem ok_pick (B : TxB mg) (T : TxP K mg fDraw fPick fShuf) : FnR P w K mg base (L2.CX P w) 2 fPick (spPick K) := by
  obtain ⟨fd, F⟩ := T.F_pick
  have G_l_draw := pen_draw (P := P) (w := w) (base := base) B T
  refine fnP F sc_l_pick (fun _ _ _ _ _ _ us hl => match us, hl with | [_, _], _ => rfl) (fun vs H Q E h => ?_) (fun cdv A outer s H vs Q E hr h => ?_)
  · obtain ⟨p, l, cs, k, y, rfl, _⟩ := h
    rfl
  · refine ⟨_, PSs.nox (pss_one (ps_ret (pe_ix (ix_seqK (K := K) rfl) (pv 1) (pe_callR G_l_draw (hr.mono (by decide)) T.k_l_draw (by rfl) T.g_l_draw passL (pa_cons (pv 0) (pa_cons (pe_callB (call_lenK (K := K) rfl) (by rfl) B.n_len (by decide +kernel) (pa_cons (pv 1) pa_nil)) pa_nil))) (fun _ _ => rfl)))), ?_⟩
    obtain ⟨p, l, cs, k, y, rfl, pen, h⟩ := h
    rcases h with ⟨q, xs, rfl, hq, nq, h1, h2, hQ⟩ | ⟨z, rfl, h1, h2, hQ⟩
    · refine ⟨_, rfl, _, rfl, _, rfl, _, xs.length, rfl, .inl ⟨_, hq, rfl⟩, ?_⟩
      refine ⟨p, l, cs, k, _, rfl, pen, by omega, by omega, fun d H' d0 d1 pen' kt => ?_⟩
      obtain ⟨j, rfl⟩ := Int.eq_ofNat_of_zero_le d0
      have hj : j < xs.length := by omega
      have hv : xs[j]? = some xs[j] := List.getElem?_eq_getElem hj
      exact .inl ⟨q, xs, _, _, rfl, rfl, kept_l kt nq hq, atI_nat hv, hQ j _ H' hv pen' kt⟩
    · have hz : z.length ≤ sizeLine := Nat.le_trans h2 (by decide)
      refine ⟨_, rfl, _, rfl, _, rfl, _, z.length, rfl, ⟨hz, rfl⟩, ?_⟩
      refine ⟨p, l, cs, k, _, rfl, pen, by omega, by omega, fun d H' d0 d1 pen' kt => ?_⟩
      obtain ⟨j, rfl⟩ := Int.eq_ofNat_of_zero_le d0
      have hj : j < z.cps.toList.length := by
        have e : z.cps.toList.length = z.length := by simp [Str.length]
        omega
      have hv : z.cps.toList[j]? = some z.cps.toList[j] := List.getElem?_eq_getElem hj
      exact .inr (.inr ⟨z, _, _, rfl, rfl, hz, atI_nat hv, hQ _ H' (List.getElem_mem hj) pen' kt⟩)
theorem ok_shuf (B : TxB mg) (T : TxP K mg fDraw fPick fShuf) : FnR P w K mg base (L2.CX P w) 2 fShuf (spShuf K) := by
  obtain ⟨fd, F⟩ := T.F_shuf
  have G_l_draw := pen_draw (P := P) (w := w) (base := base) B T
  refine fnP F sc_l_shuffled (fun _ _ _ _ _ _ us hl => match us, hl with | [_, _], _ => rfl) (fun vs H Q E h => ?_) (fun cdv A outer s H vs Q E hr h => ?_)
  · obtain ⟨p, l, cs, k, q, xs, rfl, _⟩ := h
    rfl
  · refine ⟨_, PSs.nox (pss_cons (ps_set (i := 2) sc_l_shuffled.nd rfl (Or.inr rfl) (pe_callTy (call_list_ofK (K := K) rfl) (by rfl) B.n_list (by decide +kernel) (pa_cons (pv 1) pa_nil)))
(pss_one (ps_ret (pe_lc (own := [("_law_turn", 3)]) (g := gName 3) (tt := tYes) rfl sc_l_shuffled.nd (pi_range1 (by rfl) B.n_range (pa_cons (pe_callB (call_lenK (K := K) rfl) (by rfl) B.n_len (by decide +kernel) (pa_cons (pv 1) pa_nil)) pa_nil)) (blkOk_by (own := [("_law_turn", 3)]) (N := N_l_shuffled) (sc := defScope s_l_shuffled) (by decide +kernel)) (fun _ _ _ _ _ => (pg_name (i := 3) sc_l_shuffled.nd rfl (Or.inl rfl))) (fun _ _ _ _ _ => pts_nil) (fun _ _ _ _ _ => by exact (pe_bmK (K := K) rfl PySem.F.plainAttrs_list PySem.F.slot_list_pop PySem.F.type_list_pop mt_popAt (pv 2) (pa_cons (pe_callR G_l_draw (hr.mono (by decide)) T.k_l_draw (by rfl) T.g_l_draw passL (pa_cons (pv 0) (pa_cons (pe_callB (call_lenK (K := K) rfl) (by rfl) B.n_len (by decide +kernel) (pa_cons (pv 2) pa_nil)) pa_nil))) pa_nil))))))), ?_⟩
    obtain ⟨p, l, cs, k, q, xs, rfl, pen, hq, nq, h2, hQ⟩ := h
    refine ⟨_, rfl, _, _, rfl, .inl hq, fun L hL => ?_⟩
    refine ⟨_, rfl, _, xs.length, rfl, .inl ⟨_, ?_, rfl⟩, ?_⟩
    · exact hq.ext (Ext.upd hL)
    have lp := pen.ne
    have pL : p ≠ L := by
      obtain ⟨t, r, a, _⟩ := pen.at_
      exact ne_of_none a hL
    refine ⟨_, rfl, by omega, by omega, fun D hD => ?_⟩
    have LD : L ≠ D := ne_of_none upd_same hD
    have HD : H D = none := (Same.free (fun b o e => Ext.upd hL b o e) hD)
    have pD : p ≠ D := by
      obtain ⟨t, r, a, _⟩ := pen.at_
      exact ne_of_none a HD
    refine lc_range (lo := 0) (n := xs.length) (fun i H' => ∃ ac zs : List V, H' D = some (.lst ac) ∧ H' L = some (.lst zs) ∧ (ac ++ zs).Perm xs ∧ ac.length = i ∧ Pen H' p l cs (k + zs.length) ∧ Kept p H H') ?_ (fun i H' hi hp => ?_) (fun H' hp => ?_)
    · refine ⟨[], xs, upd_same, by rw [upd_ne LD]; exact upd_same, by simp, rfl, ?_, ?_⟩
      · exact (pen.ext (Ext.upd hL)).ext (Ext.upd hD)
      · exact Kept.of ((Ext.upd hL).trans (Ext.upd hD))
    · obtain ⟨ac, zs, h3, h4, h5, h6, h7, h8⟩ := hp
      have hlen := h5.length_eq
      rw [List.length_append] at hlen
      have hzs : 0 < zs.length := by omega
      refine ⟨rfl, ?_⟩
      refine yes ?_
      refine iteT ?_
      refine ⟨_, rfl, .inl ⟨rfl, _, SqL.of h4⟩, ?_⟩
      refine ⟨_, rfl, _, rfl, _, zs.length, rfl, .inl ⟨_, SqL.of h4, rfl⟩, ?_⟩
      refine ⟨p, l, cs, k + (zs.length - 1), _, rfl, by
        have e : k + (zs.length - 1) + 1 = k + zs.length := by omega
        rw [e]; exact h7, by omega, by omega, fun d H2 d0 d1 pen' kt => ?_⟩
      obtain ⟨j, rfl⟩ := Int.eq_ofNat_of_zero_le d0
      have hj : j < zs.length := by omega
      have h4' := kt L _ pL.symm h4
      have h3' := kt D _ pD.symm h3
      refine ⟨L, zs, _, j, zs[j], rfl, rfl, h4', by omega, by omega, seq_nat hj, List.getElem?_eq_getElem hj, ?_⟩
      refine ⟨ac, by rw [upd_ne LD.symm]; exact h3', Nat.lt_of_le_of_lt (by omega : ac.length ≤ 1000) (by decide), ac ++ [zs[j]], zs.eraseIdx j, upd_same, by rw [upd_ne LD]; exact upd_same, ?_, by simp [h6], ?_, ?_⟩
      · refine List.Perm.trans ?_ h5
        rw [List.append_assoc]
        exact List.Perm.append_left ac (erase_perm zs j hj)
      · have e : (zs.eraseIdx j).length = zs.length - 1 := List.length_eraseIdx_of_lt hj
        rw [e]
        obtain ⟨t, r, a, b⟩ := pen'.at_
        have nl1 : l ≠ L := ne_of_none pen.cells hL
        have nl2 : l ≠ D := ne_of_none pen.cells HD
        exact ⟨⟨t, r, by rw [upd_ne pD, upd_ne pL]; exact a, b⟩, by rw [upd_ne nl2, upd_ne nl1]; exact pen'.cells, pen'.few⟩
      · intro b o nb hb
        rw [upd_ne (ne_of_none hb HD), upd_ne (ne_of_none hb hL)]
        exact (h8.trans kt) b o nb hb
    · obtain ⟨ac, zs, h3, h4, h5, h6, h7, h8⟩ := hp
      have hlen := h5.length_eq
      rw [List.length_append] at hlen
      have hz : zs = [] := List.eq_nil_of_length_eq_zero (by omega)
      subst hz
      exact hQ ac D H' (by simpa using h5) HD h3 (by simpa using h7) h8
end
end Kq
set_option maxHeartbeats 4000000
namespace Kq
open PySem PySem.Spec PyProof.Rows L2 Kp
open Evl (Ev EvL EvT EvA given)
abbrev letters : Str := "abcdefghijklmnopqrstuvwxyz"
theorem let_letters : LetS letters := by decide +kernel
def pre (w : Str) : List Str := if w = "" then [] else [w]
def spare (w : Str) : List Str := pre w ++ letters.cps.toList.map fun c => cutS w none (some 7) ++ ⟨#[c]⟩
theorem str_at {ws : List Str} {i : Nat} {x : V} (h : (ws.map V.str)[i]? = some x) : ∃ u, ws[i]? = some u ∧ x = .str u := by
  rw [List.getElem?_map] at h
  cases q : ws[i]? with
  | none => rw [q] at h; cases h
  | some u =>
    rw [q] at h
    exact ⟨u, rfl, (Option.some.inj h).symm⟩
theorem spare_wordy {w u : Str} (h1 : LetS w) (h2 : w.length ≤ 8) (h : u ∈ spare w) : Wordy u := by
  unfold spare at h
  rcases List.mem_append.mp h with h | h
  · unfold pre at h
    split at h
    · cases h
    · rename_i hw
      rw [List.mem_singleton.mp h]
      refine ⟨h1, ?_, h2⟩
      rcases Nat.eq_zero_or_pos w.length with z | z
      · exact absurd (by
          have : w.cps = #[] := Array.eq_empty_of_size_eq_zero z
          cases w
          simp only at this
          subst this
          decide +kernel) hw
      · exact z
  · obtain ⟨c, hc, rfl⟩ := List.mem_map.mp h
    have hl : (cutS w none (some 7)).length ≤ 7 := cut_to w 7
    refine ⟨(h1.cut _ _).add (LetS.one (let_letters c hc)), ?_, ?_⟩
    · rw [len_add]
      show 1 ≤ _ + 1
      omega
    · rw [len_add]
      show _ + 1 ≤ 8
      omega
def spWords : Sp := fun vs H Q _ => ∃ (p l : Addr) (cs : List Int) (k m : Nat), vs = [.ref p, .int m] ∧ m ≤ 25 ∧ Pen H p l cs (k + 5 * m) ∧
  ∀ (ws : List Str) (r : Addr) (H' : Hp), ws.length = m → (∀ w ∈ ws, Wordy w) → ws.Nodup → H r = none → H' r = some (.lst (ws.map V.str)) → Pen H' p l cs k → Kept p H H' → Q (.ref r) H'
structure TxW (K : PySem.W.Frag) (mg : Str → Option Value) (fWords : Addr) : Prop where
  g_l_words : mg "_law_words" = some (.ref fWords)
  k_l_words : PySem.W.keepIn K (.ref fWords) = true
  F_words : ∃ fd, Fun K "_law_words" "_law_words" s_l_words fWords fd
section
variable {P : Program} {w : World} {K : PySem.W.Frag} {mg : Str → Option Value} {base : Heap} {fDraw fPick fShuf fWords : Addr}
theorem ok_words (B : TxB mg) (T : TxP K mg fDraw fPick fShuf) (W : TxW K mg fWords) : FnR P w K mg base (L2.CX P w) 3 fWords spWords := by
  obtain ⟨fd, F⟩ := W.F_words
  have G_l_draw := pen_draw (P := P) (w := w) (base := base) B T
  have G_l_pick := ok_pick (P := P) (w := w) (base := base) B T
  refine fnP F sc_l_words (fun _ _ _ _ _ _ us hl => match us, hl with | [_, _], _ => rfl) (fun vs H Q E h => ?_) (fun cdv A outer s H vs Q E hr h => ?_)
  · obtain ⟨p, l, cs, k, m, rfl, _⟩ := h
    rfl
  · refine ⟨_, PSs.nox (pss_cons (ps_asg (pe_tup (pa_cons pe_str (pa_cons (pe_lst pa_nil) pa_nil))) (pg_tupK (K := K) rfl rfl (pgs_cons (pg_name (i := 2) sc_l_words.nd rfl (Or.inl rfl)) (pgs_cons (pg_name (i := 3) sc_l_words.nd rfl (Or.inr rfl)) pgs_nil))))
(pss_cons (ps_for PassesOwn.never rfl (pi_range1 (by rfl) B.n_range (pa_cons (pv 1) pa_nil)) (pg_name (i := 4) sc_l_words.nd rfl (Or.inl rfl))
(pss_cons (ps_set (i := 5) sc_l_words.nd rfl (Or.inr rfl) (pe_callR G_l_pick (hr.mono (by decide)) T.k_l_pick (by rfl) T.g_l_pick passL (pa_cons (pv 0) (pa_cons (pe_lst (pa_cons pe_str (pa_cons pe_str (pa_cons pe_str (pa_cons (pe_slice sl_str (pe_callR G_l_pick (hr.mono (by decide)) T.k_l_pick (by rfl) T.g_l_pick passL (pa_cons (pv 0) (pa_cons (pe_op op_cat (pv 3) (pe_lst (pa_cons pe_str pa_nil))) pa_nil))) po_none (po_some pe_int)) pa_nil))))) pa_nil))))
(Evl.pss_cut (ps_for PassesOwn.never rfl (pi_range1 (by rfl) B.n_range (pa_cons (pe_callR G_l_draw (hr.mono (by decide)) T.k_l_draw (by rfl) T.g_l_draw passL (pa_cons (pv 0) (pa_cons pe_int pa_nil))) pa_nil)) (pg_name (i := 6) sc_l_words.nd rfl (Or.inl rfl))
(pss_one (ps_set (i := 5) sc_l_words.nd rfl (Or.inr rfl) (pe_op op_add_str (pv 5) (pe_callR G_l_pick (hr.mono (by decide)) T.k_l_pick (by rfl) T.g_l_pick passL (pa_cons (pv 0) (pa_cons (pv 2) pa_nil)))))))
(pss_cons (ps_set (i := 7) sc_l_words.nd rfl (Or.inl rfl) (pe_op op_cat (pe_op op_rep (pe_lst (pa_cons (pv 5) pa_nil)) (pe_callTy call_int1 (by rfl) B.n_int (by decide +kernel) (pa_cons (pe_cmpR op_ne (pv 5) pe_str (nomark _)) pa_nil))) (pe_lc (own := [("_law_letter", 8)]) (g := gName 8) (tt := tYes) rfl sc_l_words.nd (pi_str (pv 2)) (blkOk_by (own := [("_law_letter", 8)]) (N := N_l_words) (sc := defScope s_l_words) (by decide +kernel)) (fun _ _ _ _ _ => (pg_name (i := 8) sc_l_words.nd rfl (Or.inl rfl))) (fun _ _ _ _ _ => pts_nil) (fun _ _ _ _ _ => by exact (pe_op op_add_str (pe_slice sl_str (pv 5) po_none (po_some pe_int)) (pv 8))))))
(pss_one (ps_expr (pe_bmK (K := K) rfl PySem.F.plainAttrs_list PySem.F.slot_list_append PySem.F.type_list_append mt_append (pv 3) (pa_cons (pe_ix (ix_listK (K := K) rfl) (pe_lc (own := [("_law_one", 9)]) (g := gName 9) rfl sc_l_words.nd (pi_listK (K := K) rfl (pv 7)) (blkOk_by (own := [("_law_one", 9)]) (N := N_l_words) (sc := defScope s_l_words) (by decide +kernel)) (fun _ _ _ _ _ => (pg_name (i := 9) sc_l_words.nd rfl (Or.inl rfl))) (fun _ _ _ _ _ => (pts_one (pt_cmpR (op_notIn_seqK (K := K) rfl) (pv 9) (pv 3) (by rfl)))) (fun _ _ _ _ _ => by exact (pv 9))) pe_int (fun _ _ => rfl)) pa_nil))))))))
(pss_one (ps_ret (pv 3))))), ?_⟩
    obtain ⟨p, l, cs, k, m, rfl, hm, pen, hQ⟩ := h
    refine ⟨by decide, fun q hq => ?_⟩
    refine ⟨by show 2 ≤ sizeLine; decide, fun t ht => ?_⟩
    have qt : q ≠ t := ne_of_none upd_same ht
    have e1 : Ext H (upd (upd H q (.lst [])) t (.tup [.str letters, .ref q])) := (Ext.upd hq).trans (Ext.upd ht)
    refine ⟨t, _, rfl, SqT.of upd_same, rfl, _, _, rfl, _, _, rfl, rfl, ?_⟩
    have hq1 : upd (upd H q (.lst [])) t (.tup [.str letters, .ref q]) q = some (.lst []) := by rw [upd_ne qt]; exact upd_same
    generalize upd (upd H q (.lst [])) t (.tup [.str letters, .ref q]) = H1 at e1 hq1 ⊢
    have qp : q ≠ p := by
      obtain ⟨_, _, a, _⟩ := pen.at_
      exact (ne_of_none a hq).symm
    refine ⟨_, rfl, _, rfl, by omega, by omega, ?_⟩
    refine for_range (lo := 0) (n := (m : Int).toNat) (fun i (σ' : L2.St) H' => (∃ a4 a5 a6 a7, σ' = [some (V.ref p), some (V.int m), some (V.str letters), some (V.ref q), a4, a5, a6, a7, none, none]) ∧
      ∃ ws : List Str, ws.length = i ∧ (∀ w ∈ ws, Wordy w) ∧ ws.Nodup ∧ H' q = some (.lst (ws.map V.str)) ∧ Pen H' p l cs (k + 5 * (m - i)) ∧ Kept p H H') ?_ (fun i σ' H' hi hp => ?_) (fun σ' H' hp => ?_)
    · exact ⟨⟨_, _, _, _, rfl⟩, [], rfl, by simp, by simp, hq1, pen.ext e1, Kept.of e1⟩
    · obtain ⟨⟨a4, a5, a6, a7, rfl⟩, ws, h1, h2, h3, h4, h5, h6⟩ := hp
      have him : i < m := by omega
      have bud : k + 5 * (m - i) = (k + 5 * (m - (i + 1)) + 3) + 1 + 1 := by omega
      rw [bud] at h5
      -- the head's start
      refine ⟨_, rfl, _, rfl, _, rfl, ?_⟩
      refine ⟨by decide, fun z hz => ?_⟩
      have e2 : Ext H' (upd H' z (.lst ([V.str "z"] : List V))) := Ext.upd hz
      refine ⟨q, z, ws.map V.str, [V.str "z"], rfl, rfl, e2 _ _ h4, upd_same, by rw [List.length_map, h1]; exact Nat.le_trans (by show i + 1 ≤ 26; omega) (by decide), fun y hy => ?_⟩
      have e3 := e2.trans (Ext.upd (o := HO.lst (ws.map V.str ++ [V.str "z"])) hy)
      have yp : y ≠ p := by
        obtain ⟨_, _, a, _⟩ := h5.at_
        exact (ne_of_none (e2 _ _ a) hy).symm
      have hy1 : upd (upd H' z (.lst ([V.str "z"] : List V))) y (.lst (ws.map V.str ++ [V.str "z"])) y = some (.lst (ws.map V.str ++ [V.str "z"])) := upd_same
      have h5a := h5.ext e3
      have h4a := e3 _ _ h4
      have h6a := h6.trans (Kept.of e3)
      generalize upd (upd H' z (.lst ([V.str "z"] : List V))) y (.lst (ws.map V.str ++ [V.str "z"])) = H2 at e3 hy1 h5a h4a h6a ⊢
      have ly : (ws.map V.str ++ [V.str "z"]).length = i + 1 := by simp [h1]
      refine ⟨p, l, cs, _, .ref y, rfl, h5a, .inl ⟨y, _, rfl, SqL.of hy1, yp, by omega, by omega, fun j v H3 hv pen3 kt3 => ?_⟩⟩
      obtain ⟨u, rfl, hu⟩ : ∃ u : Str, v = .str u ∧ LetS u ∧ u.length ≤ 8 := by
        have hm : v ∈ ws.map V.str ++ [V.str "z"] := List.mem_of_getElem? hv
        rcases List.mem_append.mp hm with hm | hm
        · obtain ⟨u, hu, rfl⟩ := List.mem_map.mp hm
          exact ⟨u, rfl, (h2 u hu).1, (h2 u hu).2.2⟩
        · rw [List.mem_singleton.mp hm]
          exact ⟨_, rfl, by decide +kernel, by decide +kernel⟩
      refine ⟨_, rfl, u, rfl, Nat.le_trans hu.2 (by decide), ?_⟩
      have kt4 := h6a.trans kt3
      have h4b := kt3 _ _ qp h4a
      have hc6 : LetS (cutS u none (some 6)) ∧ (cutS u none (some 6)).length ≤ 6 := ⟨hu.1.cut _ _, cut_to u 6⟩
      generalize cutS u none (some 6) = u6 at hc6 ⊢
      refine ⟨by show 4 ≤ sizeLine; decide, fun x hx => ?_⟩
      have e4 : Ext H3 (upd H3 x (.lst [.str "", .str "", .str "a", .str u6])) := Ext.upd hx
      have xp : x ≠ p := by
        obtain ⟨_, _, a, _⟩ := pen3.at_
        exact (ne_of_none a hx).symm
      refine ⟨p, l, cs, _, .ref x, rfl, pen3.ext e4, .inl ⟨x, _, rfl, SqL.of upd_same, xp, by show 0 < 4; decide, by show 4 ≤ 1000; decide, fun j2 v2 H4 hv2 pen4 kt5 => ?_⟩⟩
      have kt6 := (kt4.trans (Kept.of e4)).trans kt5
      have h4c := kt5 _ _ qp (e4 _ _ h4b)
      obtain ⟨hd, rfl, hhd⟩ : ∃ w : Str, v2 = .str w ∧ LetS w ∧ w.length ≤ 6 := by
        have hm : v2 ∈ ([.str "", .str "", .str "a", .str u6] : List V) := List.mem_of_getElem? hv2
        simp only [List.mem_cons, List.not_mem_nil, or_false] at hm
        rcases hm with rfl | rfl | rfl | rfl
        · exact ⟨_, rfl, by decide +kernel, by decide +kernel⟩
        · exact ⟨_, rfl, by decide +kernel, by decide +kernel⟩
        · exact ⟨_, rfl, by decide +kernel, by decide +kernel⟩
        · exact ⟨u6, rfl, hc6⟩
      clear hv2 hv hc6
      refine ⟨fun σ' H5 => ∃ (w : Str) (a6 : Option V), σ' = [some (V.ref p), some (V.int m), some (V.str letters), some (V.ref q), some (V.int (0 + i)), some (V.str w), a6, a7, none, none] ∧ LetS w ∧ w.length ≤ 8 ∧ H5 q = some (.lst (ws.map V.str)) ∧ Pen H5 p l cs (k + 5 * (m - (i + 1))) ∧ Kept p H H5, ?_, ?_⟩
      · refine ⟨_, rfl, p, l, cs, _, 3, rfl, pen4, by decide, by decide, fun d H5 d0 d1 pen5 kt7 => ?_⟩
        obtain ⟨n3, rfl⟩ := Int.eq_ofNat_of_zero_le d0
        have hn3 : n3 ≤ 2 := by omega
        refine ⟨_, rfl, by omega, by omega, ?_⟩
        refine for_range (lo := 0) (n := (n3 : Int).toNat) (fun j (σ' : L2.St) H6 => ∃ (w : Str) (a6 : Option V), σ' = [some (V.ref p), some (V.int m), some (V.str letters), some (V.ref q), some (V.int (0 + i)), some (V.str w), a6, a7, none, none] ∧ LetS w ∧ w.length ≤ 6 + j ∧ H6 q = some (.lst (ws.map V.str)) ∧
          Pen H6 p l cs (k + 5 * (m - (i + 1)) + (2 - j)) ∧ Kept p H H6) ?_ (fun j3 σ6 H6 hj3 hp6 => ?_) (fun σ6 H6 hp6 => ?_)
        · exact ⟨hd, a6, rfl, hhd.1, by omega, kt7 _ _ qp h4c, pen5, kt6.trans kt7⟩
        · obtain ⟨w, b6, rfl, w1, w2, w3, w4, w5⟩ := hp6
          have b2 : k + 5 * (m - (i + 1)) + (2 - j3) = k + 5 * (m - (i + 1)) + (2 - (j3 + 1)) + 1 := by omega
          rw [b2] at w4
          refine ⟨_, rfl, _, rfl, _, rfl, p, l, cs, _, _, rfl, w4, .inr ⟨letters, rfl, by decide +kernel, by decide +kernel, fun c H7 hc pen7 kt8 => ?_⟩⟩
          have hcl : LetS ⟨#[c]⟩ := LetS.one (let_letters c hc)
          refine ⟨_, _, rfl, rfl, by show w.length + 1 ≤ sizeLine; exact Nat.le_trans (by omega : w.length + 1 ≤ 9) (by decide), ?_⟩
          exact ⟨_, _, rfl, w1.add hcl, by rw [len_add]; show w.length + 1 ≤ _; omega, kt8 _ _ qp w3, pen7, w5.trans kt8⟩
        · obtain ⟨w, b6, rfl, w1, w2, w3, w4, w5⟩ := hp6
          exact ⟨w, b6, rfl, w1, by omega, w3, w4.less (by omega), w5⟩
      · rintro σ' H5 ⟨w, a6, rfl, hw1, hw2, h4d, pen5, kt7⟩
        refine ⟨_, rfl, by show 1 ≤ sizeLine; decide, fun a ha => ?_⟩
        refine ⟨_, rfl, rfl, .inr ⟨_, rfl, ?_⟩⟩
        have ek : (if (!decide (V.str w = V.str "")) = true then (1 : Int) else 0).toNat = if w = "" then 0 else 1 := by
          by_cases h : w = ""
          · subst h
            rfl
          · have h' : ¬ V.str w = V.str "" := fun z => h (V.str.inj z)
            simp [h, h']
        have ek2 : (0 : Int) ≤ (if (!decide (V.str w = V.str "")) = true then (1 : Int) else 0) ∧ (if (!decide (V.str w = V.str "")) = true then (1 : Int) else 0) ≤ 1 := by
          split <;> decide
        refine ⟨a, _, _, rfl, rfl, upd_same, by omega, by omega, ?_, fun b hb => ?_⟩
        · rw [ek]
          split
          · show 1 * 0 ≤ sizeLine; decide
          · show 1 * 1 ≤ sizeLine; decide
        rw [ek]
        have epre : (List.replicate (if w = "" then 0 else 1) [V.str w]).flatten = (pre w).map V.str := by
          unfold pre
          split <;> rfl
        rw [epre]
        have e6 := (Ext.upd (o := HO.lst ([V.str w] : List V)) ha).trans (Ext.upd (o := HO.lst ((pre w).map V.str)) hb)
        have hb1 : upd (upd H5 a (.lst [V.str w])) b (.lst ((pre w).map V.str)) b = some (.lst ((pre w).map V.str)) := upd_same
        generalize upd (upd H5 a (.lst [V.str w])) b (.lst ((pre w).map V.str)) = H6 at e6 hb1 ⊢
        have lpre : (pre w).length ≤ 1 := by
          unfold pre
          split
          · exact Nat.zero_le _
          · exact Nat.le_refl _
        have hlt : letters.cps.toList.length = 26 := by decide +kernel
        refine Kp.run_lcS (fun _ => true) (fun i => V.str (cutS w none (some 7) ++ ⟨#[letters.cps.toList.getD i 0]⟩)) (Evl.ev_var rfl) (by decide +kernel) (fun _ => rfl) (fun _ _ _ _ _ => Kp.et_yes) (fun i c H7 _ hc _ => ?_) (fun D H7 hD e7 hD7 => ?_)
        · refine fun H8 _ Q' q => ⟨_, rfl, 7, rfl, w, rfl, Nat.le_trans hw2 (by decide), _, rfl, _, _, rfl, rfl, ?_, ?_⟩
          · show (cutS w none (some 7)).length + 1 ≤ sizeLine
            have : (cutS w none (some 7)).length ≤ 7 := cut_to w 7
            exact Nat.le_trans (by omega : _ ≤ 8) (by decide)
          · have ec : letters.cps.toList.getD i 0 = c := by
              rw [List.getD_eq_getElem?_getD, Array.getElem?_toList, hc]
              rfl
            rw [ec] at q
            exact q H8 (Evl.Ex.refl H8)
        have bD : b ≠ D := ne_of_none hb1 hD
        refine ⟨b, D, _, _, rfl, rfl, e7 _ _ hb1, hD7, ?_, fun g hg => ?_⟩
        · rw [List.length_map]
          have := Evl.given_len letters.cps.size (fun _ => true) (fun i => V.str (cutS w none (some 7) ++ ⟨#[letters.cps.toList.getD i 0]⟩))
          have h26 : letters.cps.size = 26 := by decide +kernel
          exact Nat.le_trans (by omega : _ ≤ 27) (by decide)
        have esp : (pre w).map V.str ++ given letters.cps.size (fun _ => true) (fun i => V.str (cutS w none (some 7) ++ ⟨#[letters.cps.toList.getD i 0]⟩)) = (spare w).map V.str := by
          rw [Kp.given_map fun _ _ => rfl]
          unfold spare
          rw [List.map_append, List.map_map]
          have h := Kp.range_map letters.cps.toList (fun i => V.str (cutS w none (some 7) ++ ⟨#[letters.cps.toList.getD i 0]⟩)) (fun c => V.str (cutS w none (some 7) ++ ⟨#[c]⟩)) (fun i x hx => by rw [List.getD_eq_getElem?_getD, hx]; rfl)
          rw [Array.length_toList] at h
          rw [h]
          rfl
        rw [esp]
        have e8 := (e6.trans e7).trans (Ext.upd (o := HO.lst ((spare w).map V.str)) hg)
        have hg1 : upd H7 g (.lst ((spare w).map V.str)) g = some (.lst ((spare w).map V.str)) := upd_same
        generalize upd H7 g (.lst ((spare w).map V.str)) = H8 at e8 hg1 ⊢
        have h4e := e8 _ _ h4d
        -- the first that is new
        refine ⟨_, rfl, .inl ⟨rfl, _, SqL.of h4e⟩, ?_⟩
        have lsp : (spare w).length ≤ 27 := by
          unfold spare
          rw [List.length_append, List.length_map, hlt]
          omega
        dsimp only [tCons, tOp]
        refine Kp.run_lcL (xs := (spare w).map V.str) (fun i => !decide ((spare w).getD i "" ∈ ws)) (fun i => V.str ((spare w).getD i "")) (Evl.ev_var rfl) (SqL.of hg1) (by rw [List.length_map]; omega) (fun _ => rfl) (fun i x H9 e9 hx => ?_) (fun i x H9 e9 hx _ => ?_) (fun D2 H9 hD2 e9 hD9 => ?_)
        · obtain ⟨u, hu, rfl⟩ := str_at hx
          have eu : (spare w).getD i "" = u := by rw [List.getD_eq_getElem?_getD, hu]; rfl
          rw [eu, ← Kp.inV_strs]
          refine fun H10 e10 Q' q' => ⟨_, rfl, _, rfl, q, _, rfl, .inl (SqL.of (e10 _ _ (e9 _ _ h4e))), rfl, Kp.flat_strs ws, _, rfl, q' H10 (Evl.Ex.refl H10)⟩
        · obtain ⟨u, hu, rfl⟩ := str_at hx
          have eu : (spare w).getD i "" = u := by rw [List.getD_eq_getElem?_getD, hu]; rfl
          rw [eu]
          exact Evl.ev_var rfl
        have eg : given ((spare w).map V.str).length (fun i => !decide ((spare w).getD i "" ∈ ws)) (fun i => V.str ((spare w).getD i "")) = ((spare w).filter fun u => !decide (u ∈ ws)).map V.str := by
          rw [List.length_map]
          exact Kp.given_filter (spare w) _ _ _ _ (fun i x hx => by rw [List.getD_eq_getElem?_getD, hx]; rfl) (fun i x hx => by rw [List.getD_eq_getElem?_getD, hx]; rfl)
        rw [eg] at hD9
        obtain ⟨c, hc, hnew⟩ := new_word (ws := ws) (w := cutS w none (some 7)) (cs := letters.cps.toList) (by decide +kernel) (by rw [hlt]; omega)
        have hmem : cutS w none (some 7) ++ ⟨#[c]⟩ ∈ (spare w).filter fun u => !decide (u ∈ ws) := by
          refine List.mem_filter.mpr ⟨List.mem_append_right _ (List.mem_map.mpr ⟨c, hc, rfl⟩), by simp [hnew]⟩
        have hpos := List.length_pos_of_mem hmem
        have hu0 : ((spare w).filter fun u => !decide (u ∈ ws))[0]? = some ((spare w).filter fun u => !decide (u ∈ ws))[0] := List.getElem?_eq_getElem hpos
        have hin := List.getElem_mem hpos
        generalize ((spare w).filter fun u => !decide (u ∈ ws))[0] = u at hu0 hin
        obtain ⟨hin1, hin2⟩ := List.mem_filter.mp hin
        have hun : u ∉ ws := by simpa using hin2
        have huw : Wordy u := spare_wordy hw1 hw2 hin1
        refine ⟨D2, _, 0, .str u, rfl, rfl, SqL.of hD9, ?_, ?_⟩
        · have := atI_nat (xs := ((spare w).filter fun u => !decide (u ∈ ws)).map V.str) (j := 0) (v := V.str u) (by rw [List.getElem?_map, hu0]; rfl)
          exact this
        have h4f := e9 _ _ h4e
        refine ⟨q, ws.map V.str, .str u, rfl, rfl, h4f, by rw [List.length_map, h1]; exact Nat.lt_of_le_of_lt (by omega : i ≤ 25) (by decide), ?_⟩
        refine ⟨⟨_, _, _, _, rfl⟩, ws ++ [u], by simp [h1], ?_, ?_, ?_, ?_, ?_⟩
        · intro x hx
          rcases List.mem_append.mp hx with hx | hx
          · exact h2 x hx
          · rw [List.mem_singleton.mp hx]
            exact huw
        · exact List.nodup_append.mpr ⟨h3, by simp, fun a ha b hb e => by
            rw [List.mem_singleton.mp hb] at e
            exact hun (e ▸ ha)⟩
        · rw [List.map_append]
          exact upd_same
        · obtain ⟨tt, rr, aa, bb⟩ := pen5.at_
          have ql : l ≠ q := ne_of_none pen.cells hq
          have a1 := e9 _ _ (e8 _ _ aa)
          have a2 := e9 _ _ (e8 _ _ pen5.cells)
          exact ⟨⟨tt, rr, by rw [upd_ne qp.symm]; exact a1, bb⟩, by rw [upd_ne ql]; exact a2, pen5.few⟩
        · intro b2 o nb hb2
          rw [upd_ne (ne_of_none hb2 hq)]
          exact e9 _ _ (e8 _ _ (kt7 b2 o nb hb2))
    · obtain ⟨⟨a4, a5, a6, a7, rfl⟩, ws, h1, h2, h3, h4, h5, h6⟩ := hp
      refine ⟨_, rfl, ?_⟩
      exact hQ ws q H' (by omega) h2 h3 hq h4 (h5.less (by omega)) h6
end
end Kq
set_option maxHeartbeats 4000000
namespace Kq
open PySem PySem.Spec PyProof.Rows L2 Kp
open Evl (Ev EvL EvT EvA given)
/-! ### nested parts -/
/-- v is a word or a pair (kind, parts), the words below it told from the left; d its depth at most; nothing of it is the pen -/
def NT (p : Addr) (H : Hp) : Nat → V → List Str → Prop
  | 0, v, ws => ∃ w, v = .str w ∧ ws = [w]
  | d + 1, v, ws => (∃ w, v = .str w ∧ ws = [w]) ∨ ∃ (t q : Addr) (kd : Int) (vs : List V) (wss : List (List Str)), v = .ref t ∧ t ≠ p ∧ q ≠ p ∧ H t = some (.tup [.int kd, .ref q]) ∧ H q = some (.lst vs) ∧ vs ≠ [] ∧
      wss.length = vs.length ∧ (∀ (i : Nat) v u, vs[i]? = some v → wss[i]? = some u → NT p H d v u) ∧ ws = wss.flatten
theorem NT.kept {p : Addr} {H H' : Hp} (e : Kept p H H') : ∀ {d : Nat} {v : V} {ws : List Str}, NT p H d v ws → NT p H' d v ws
  | 0, _, _, h => h
  | d + 1, v, ws, h => by
    rcases h with h | ⟨t, q, kd, vs, wss, rfl, h1, h2, h3, h4, h5, h6, h7, h8⟩
    · exact .inl h
    · exact .inr ⟨t, q, kd, vs, wss, rfl, h1, h2, e _ _ h1 h3, e _ _ h2 h4, h5, h6, fun i v u a b => NT.kept e (h7 i v u a b), h8⟩
theorem NT.up {p : Addr} {H : Hp} : ∀ {d : Nat} {v : V} {ws : List Str}, NT p H d v ws → NT p H (d + 1) v ws
  | 0, _, _, h => .inl h
  | d + 1, v, ws, h => by
    rcases h with h | ⟨t, q, kd, vs, wss, rfl, h1, h2, h3, h4, h5, h6, h7, h8⟩
    · exact .inl h
    · exact .inr ⟨t, q, kd, vs, wss, rfl, h1, h2, h3, h4, h5, h6, fun i v u a b => NT.up (h7 i v u a b), h8⟩
theorem NT.pos {p : Addr} {H : Hp} : ∀ {d : Nat} {v : V} {ws : List Str}, NT p H d v ws → ws ≠ []
  | 0, _, _, ⟨w, _, h⟩ => by rw [h]; simp
  | d + 1, v, ws, h => by
    rcases h with ⟨w, _, h⟩ | ⟨t, q, kd, vs, wss, rfl, h1, h2, h3, h4, h5, h6, h7, h8⟩
    · rw [h]; simp
    · obtain ⟨v0, vr, rfl⟩ := List.exists_cons_of_ne_nil h5
      cases wss with
      | nil => cases h6
      | cons u0 ur =>
        have := NT.pos (h7 0 v0 u0 rfl rfl)
        rw [h8]
        simp [this]
/-- parts: each a tree, the words told from the left -/
def NTs (p : Addr) (H : Hp) (d : Nat) (vs : List V) (ws : List Str) : Prop := ∃ wss : List (List Str), wss.length = vs.length ∧ (∀ (i : Nat) v u, vs[i]? = some v → wss[i]? = some u → NT p H d v u) ∧ ws = wss.flatten
theorem NTs.kept {p : Addr} {H H' : Hp} (e : Kept p H H') {d : Nat} {vs : List V} {ws : List Str} (h : NTs p H d vs ws) : NTs p H' d vs ws :=
  let ⟨wss, h1, h2, h3⟩ := h
  ⟨wss, h1, fun i v u a b => (h2 i v u a b).kept e, h3⟩
theorem NTs.up {p : Addr} {H : Hp} {d : Nat} {vs : List V} {ws : List Str} (h : NTs p H d vs ws) : NTs p H (d + 1) vs ws :=
  let ⟨wss, h1, h2, h3⟩ := h
  ⟨wss, h1, fun i v u a b => (h2 i v u a b).up, h3⟩
theorem NTs.nil {p : Addr} {H : Hp} {d : Nat} : NTs p H d [] [] := ⟨[], rfl, fun i v u h => by simp at h, rfl⟩
theorem NTs.cons {p : Addr} {H : Hp} {d : Nat} {v : V} {u : List Str} {vs : List V} {ws : List Str} (h : NT p H d v u) (k : NTs p H d vs ws) : NTs p H d (v :: vs) (u ++ ws) := by
  obtain ⟨wss, h1, h2, rfl⟩ := k
  refine ⟨u :: wss, by simp [h1], fun i a b ha hb => ?_, rfl⟩
  cases i with
  | zero =>
    simp at ha hb
    subst ha hb
    exact h
  | succ i => exact h2 i a b (by simpa using ha) (by simpa using hb)
theorem NTs.uncons {p : Addr} {H : Hp} {d : Nat} {v : V} {vs : List V} {ws : List Str} (h : NTs p H d (v :: vs) ws) : ∃ u us, ws = u ++ us ∧ NT p H d v u ∧ NTs p H d vs us := by
  obtain ⟨wss, h1, h2, rfl⟩ := h
  cases wss with
  | nil => cases h1
  | cons u wss => exact ⟨u, wss.flatten, rfl, h2 0 v u rfl rfl, wss, by simpa using h1, fun i a b ha hb => h2 (i + 1) a b (by simpa using ha) (by simpa using hb), rfl⟩
theorem NTs.append {p : Addr} {H : Hp} {d : Nat} : ∀ {vs us : List V} {ws zs : List Str}, NTs p H d vs ws → NTs p H d us zs → NTs p H d (vs ++ us) (ws ++ zs)
  | [], us, ws, zs, h, k => by
    obtain ⟨wss, h1, _, rfl⟩ := h
    have e : wss = [] := List.eq_nil_of_length_eq_zero h1
    subst e
    exact k
  | v :: vs, us, ws, zs, h, k => by
    obtain ⟨u, r, rfl, h1, h2⟩ := h.uncons
    rw [List.append_assoc]
    exact NTs.cons h1 (NTs.append h2 k)
theorem NTs.split {p : Addr} {H : Hp} {d : Nat} : ∀ {vs us : List V} {ws : List Str}, NTs p H d (vs ++ us) ws → ∃ a b, ws = a ++ b ∧ NTs p H d vs a ∧ NTs p H d us b
  | [], us, ws, h => ⟨[], ws, rfl, NTs.nil, h⟩
  | v :: vs, us, ws, h => by
    obtain ⟨u, r, rfl, h1, h2⟩ := NTs.uncons (vs := vs ++ us) h
    obtain ⟨a, b, rfl, h3, h4⟩ := NTs.split h2
    exact ⟨u ++ a, b, by rw [List.append_assoc], NTs.cons h1 h3, h4⟩
theorem NTs.words {p : Addr} {H : Hp} {d : Nat} : ∀ ws : List Str, NTs p H d (ws.map V.str) ws
  | [] => NTs.nil
  | w :: ws => by
    have h : NT p H d (.str w) [w] := by
      cases d with
      | zero => exact ⟨w, rfl, rfl⟩
      | succ d => exact .inl ⟨w, rfl, rfl⟩
    exact NTs.cons h (NTs.words ws)
theorem NTs.len {p : Addr} {H : Hp} {d : Nat} : ∀ {vs : List V} {ws : List Str}, NTs p H d vs ws → vs.length ≤ ws.length
  | [], _, _ => Nat.zero_le _
  | v :: vs, ws, h => by
    obtain ⟨u, r, rfl, h1, h2⟩ := h.uncons
    have := h1.pos
    have h3 := h2.len
    have h4 : 0 < u.length := List.length_pos_iff.mpr this
    rw [List.length_append, List.length_cons]
    omega
theorem cutV_to {xs : List V} {b : Nat} (h : b ≤ xs.length) : cutV xs none (some (b : Int)) = xs.take b := by
  unfold cutV
  rw [HT.sIx_none, HT.sIx_nat, Nat.min_eq_left h, List.drop_zero, Nat.sub_zero]
theorem cutV_from {xs : List V} {a : Nat} (h : a ≤ xs.length) : cutV xs (some (a : Int)) none = xs.drop a := by
  unfold cutV
  rw [HT.sIx_none, HT.sIx_nat, Nat.min_eq_left h, List.take_of_length_le (by rw [List.length_drop]; omega)]
theorem cutV_mid {xs : List V} {a b : Nat} (h : a ≤ xs.length) (k : b ≤ xs.length) : cutV xs (some (a : Int)) (some (b : Int)) = (xs.drop a).take (b - a) := by
  unfold cutV
  rw [HT.sIx_nat, HT.sIx_nat, Nat.min_eq_left h, Nat.min_eq_left k]
def kdx (kd : Int) (z : Nat) : Int := kd * (if decide ((z : Int) > 2) = true then 1 else 0)
def spNested (K : PySem.W.Frag) : Sp := fun vs H Q _ => ∃ (p l : Addr) (cs : List Int) (k : Nat) (q : Addr) (ws : List Str), vs = [.ref p, .ref q] ∧ SqL K H q (ws.map V.str) ∧ ws ≠ [] ∧ ws.length ≤ 25 ∧ Pen H p l cs (k + 3 * ws.length) ∧
  ∀ (v : V) (H' : Hp), NT p H' ws.length v ws → Pen H' p l cs k → Kept p H H' → Q v H'
structure TxN (K : PySem.W.Frag) (mg : Str → Option Value) (fNested fFlat fRows : Addr) : Prop where
  g_l_nested : mg "_law_nested" = some (.ref fNested)
  k_l_nested : PySem.W.keepIn K (.ref fNested) = true
  F_nested : ∃ fd, Fun K "_law_nested" "_law_nested" s_l_nested fNested fd
  g_l_flat : mg "_law_flat" = some (.ref fFlat)
  k_l_flat : PySem.W.keepIn K (.ref fFlat) = true
  F_flat : ∃ fd, Fun K "_law_flat" "_law_flat" s_l_flat fFlat fd
  g_l_rows : mg "_law_rows" = some (.ref fRows)
  k_l_rows : PySem.W.keepIn K (.ref fRows) = true
  F_rows : ∃ fd, Fun K "_law_rows" "_law_rows" s_l_rows fRows fd
section
variable {P : Program} {w : World} {K : PySem.W.Frag} {mg : Str → Option Value} {base : Heap} {fDraw fPick fShuf fNested fFlat fRows : Addr}
theorem ok_nested (B : TxB mg) (T : TxP K mg fDraw fPick fShuf) (W : TxN K mg fNested fFlat fRows) : FnR P w K mg base (L2.CX P w) 3 fNested (spNested K) := by
  obtain ⟨fd, F⟩ := W.F_nested
  have G_l_draw := pen_draw (P := P) (w := w) (base := base) B T
  refine fnP F sc_l_nested (fun _ _ _ _ _ _ us hl => match us, hl with | [_, _], _ => rfl) (fun vs H Q E h => ?_) (fun cdv A outer s H vs Q E hr h => ?_)
  · obtain ⟨p, l, cs, k, q, ws, rfl, _⟩ := h
    rfl
  · refine ⟨_, PSs.nox (pss_cons (ps_set (i := 2) sc_l_nested.nd rfl (Or.inl rfl) (pe_callTy (call_list_ofK (K := K) rfl) (by rfl) B.n_list (by decide +kernel) (pa_cons (pv 1) pa_nil)))
(pss_cons (ps_for PassesOwn.never rfl (pi_range1 (by rfl) B.n_range (pa_cons (pe_callB (call_lenK (K := K) rfl) (by rfl) B.n_len (by decide +kernel) (pa_cons (pv 1) pa_nil)) pa_nil)) (pg_name (i := 3) sc_l_nested.nd rfl (Or.inl rfl))
(pss_one (ps_if (pt_cmpR op_gt (pe_callB (call_lenK (K := K) rfl) (by rfl) B.n_len (by decide +kernel) (pa_cons (pv 2) pa_nil)) pe_int (nomark _))
(pss_cons (ps_set (i := 4) sc_l_nested.nd rfl (Or.inl rfl) (pe_callB (call_min2 rfl) (by rfl) B.n_min (by decide +kernel) (pa_cons (pe_callB (call_lenK (K := K) rfl) (by rfl) B.n_len (by decide +kernel) (pa_cons (pv 2) pa_nil)) (pa_cons (pe_op op_add pe_int (pe_callR G_l_draw (hr.mono (by decide)) T.k_l_draw (by rfl) T.g_l_draw passL (pa_cons (pv 0) (pa_cons pe_int pa_nil)))) pa_nil))))
(pss_cons (ps_par (i := 5) (j := 6) (by rfl) sc_l_nested.nd rfl rfl (by decide) rfl rfl (pa_cons (pe_callR G_l_draw (hr.mono (by decide)) T.k_l_draw (by rfl) T.g_l_draw passL (pa_cons (pv 0) (pa_cons (pe_op op_add (pe_op op_sub (pe_callB (call_lenK (K := K) rfl) (by rfl) B.n_len (by decide +kernel) (pa_cons (pv 2) pa_nil)) (pv 4)) pe_int) pa_nil))) (pa_cons (pe_op op_mul (pe_callR G_l_draw (hr.mono (by decide)) T.k_l_draw (by rfl) T.g_l_draw passL (pa_cons (pv 0) (pa_cons pe_int pa_nil))) (pe_callTy call_int1 (by rfl) B.n_int (by decide +kernel) (pa_cons (pe_cmpR op_gt (pv 4) pe_int (nomark _)) pa_nil))) pa_nil)) (by rfl))
(pss_one (ps_set (i := 2) sc_l_nested.nd rfl (Or.inl rfl) (pe_op op_cat (pe_op op_cat (pe_slice (sl_listK (K := K) rfl) (pv 2) po_none (po_some (pv 5))) (pe_lst (pa_cons (pe_tup (pa_cons (pv 6) (pa_cons (pe_slice (sl_listK (K := K) rfl) (pv 2) (po_some (pv 5)) (po_some (pe_op op_add (pv 5) (pv 4)))) pa_nil))) pa_nil))) (pe_slice (sl_listK (K := K) rfl) (pv 2) (po_some (pe_op op_add (pv 5) (pv 4))) po_none))))))
pss_nil)))
(pss_one (ps_ret (pe_ix (ix_listK (K := K) rfl) (pv 2) pe_int (fun _ _ => rfl)))))), ?_⟩
    obtain ⟨p, l, cs, k, q, ws, rfl, hq, hne, h25, pen, hQ⟩ := h
    refine ⟨_, rfl, _, _, rfl, .inl hq, fun L hL => ?_⟩
    refine ⟨_, rfl, _, ws.length, rfl, .inl ⟨_, hq.ext (Ext.upd hL), by simp⟩, ?_⟩
    refine ⟨_, rfl, by omega, by omega, ?_⟩
    have npL : ∀ {H' : Hp} {k' : Nat} {a : Addr}, Pen H' p l cs k' → H' a = none → a ≠ p := fun hp hn => by
      obtain ⟨_, _, a, _⟩ := hp.at_
      exact (ne_of_none a hn).symm
    refine for_range (lo := 0) (n := (ws.length : Int).toNat) (fun i (σ' : L2.St) H' => ∃ (a : Addr) (vs : List V) (b3 b4 b5 b6 : Option V), σ' = [some (V.ref p), some (V.ref q), some (V.ref a), b3, b4, b5, b6] ∧ a ≠ p ∧ H' a = some (.lst vs) ∧ NTs p H' i vs ws ∧ vs ≠ [] ∧ (vs.length = 1 ∨ vs.length + i ≤ ws.length) ∧
      Pen H' p l cs (k + 3 * (ws.length - i)) ∧ Kept p H H') ?_ (fun i σ' H' hi hp => ?_) (fun σ' H' hp => ?_)
    · exact ⟨L, ws.map V.str, none, none, none, none, rfl, npL pen hL, upd_same, NTs.words ws, by simpa using hne, .inr (by simp), (pen.ext (Ext.upd hL)).less (by omega), Kept.new hL⟩
    · obtain ⟨a, vs, b3, b4, b5, b6, rfl, ap, ha, ht, hv, hl, hpen, hk⟩ := hp
      have hi' : i < ws.length := by omega
      have lw := ht.len
      refine ⟨_, rfl, _, vs.length, rfl, .inl ⟨_, SqL.of ha, rfl⟩, _, _, rfl, rfl, _, rfl, ?_⟩
      refine ite2 (fun c => ?_) (fun c => ?_)
      · have h2 : 2 ≤ vs.length := by
          have := of_decide_eq_true c
          omega
        have bud : k + 3 * (ws.length - i) = k + 3 * (ws.length - (i + 1)) + 1 + 1 + 1 := by omega
        rw [bud] at hpen
        refine ⟨_, rfl, _, vs.length, rfl, .inl ⟨_, SqL.of ha, rfl⟩, _, rfl, p, l, cs, _, 3, rfl, hpen, by decide, by decide, fun d H1 d0 d1 pen1 kt1 => ?_⟩
        refine ⟨_, _, rfl, rfl, _, _, rfl, ?_⟩
        have hsz : ∃ z : Nat, (if 2 + d < (vs.length : Int) then 2 + d else (vs.length : Int)) = (z : Int) ∧ 2 ≤ z ∧ z ≤ vs.length := by
          split
          · exact ⟨(2 + d).toNat, by omega, by omega, by omega⟩
          · exact ⟨vs.length, rfl, h2, Nat.le_refl _⟩
        obtain ⟨z, ez, z2, zl⟩ := hsz
        rw [ez]
        have ha1 := kt1 _ _ ap ha
        refine ⟨_, rfl, _, rfl, _, vs.length, rfl, .inl ⟨_, SqL.of ha1, rfl⟩, _, rfl, _, _, rfl, rfl, _, _, rfl, rfl, p, l, cs, _, _, rfl, pen1, by omega, by omega, fun at_ H2 a0 a1 pen2 kt2 => ?_⟩
        obtain ⟨j, rfl⟩ := Int.eq_ofNat_of_zero_le a0
        have ha2 := kt2 _ _ ap ha1
        refine ⟨_, rfl, p, l, cs, _, 2, rfl, pen2, by decide, by decide, fun kd H3 k0 k1 pen3 kt3 => ?_⟩
        have ha3 := kt3 _ _ ap ha2
        refine ⟨_, rfl, _, _, rfl, rfl, .inr ⟨_, rfl, _, _, rfl, rfl, .inl ⟨by omega, by omega⟩, _, _, rfl, ?_⟩⟩
        have hkd : kdx kd z = 0 ∨ kdx kd z = 1 := by
          unfold kdx
          split <;> omega
        have jz : j + z ≤ vs.length := by omega
        have kt := ((hk.trans kt1).trans kt2).trans kt3
        have ht3 := ((ht.kept kt1).kept kt2).kept kt3
        -- the new parts
        refine ⟨_, rfl, _, rfl, _, rfl, a, vs, rfl, SqL.of ha3, fun s1 hs1 => ?_⟩
        generalize hh1 : upd H3 s1 _ = H4
        have f1 : Ext H3 H4 := hh1 ▸ Ext.upd hs1
        have o1 : H4 s1 = some (.lst (vs.take j)) := by
          rw [← hh1, ← cutV_to (b := j) (by omega)]
          exact upd_same
        refine ⟨_, rfl, _, rfl, _, rfl, _, rfl, _, rfl, _, rfl, _, _, rfl, rfl, _, rfl, a, vs, rfl, SqL.of (f1 _ _ ha3), fun s2 hs2 => ?_⟩
        generalize hh2 : upd H4 s2 _ = H5
        have f2 : Ext H4 H5 := hh2 ▸ Ext.upd hs2
        have ejz : ((j : Int) + (z : Int)) = ((j + z : Nat) : Int) := by omega
        have o2 : H5 s2 = some (.lst ((vs.drop j).take z)) := by
          have e1 : j + z - j = z := by omega
          have h := cutV_mid (xs := vs) (a := j) (b := j + z) (by omega) jz
          rw [e1] at h
          rw [← hh2, ← h, ← ejz]
          exact upd_same
        refine ⟨by show 2 ≤ sizeLine; decide, fun s3 hs3 => ?_⟩
        generalize hh3 : upd H5 s3 _ = H6
        have f3 : Ext H5 H6 := hh3 ▸ Ext.upd hs3
        have o3 : H6 s3 = some (.tup [.int (kdx kd z), .ref s2]) := by
          rw [← hh3]
          exact upd_same
        refine ⟨by show 1 ≤ sizeLine; decide, fun s4 hs4 => ?_⟩
        generalize hh4 : upd H6 s4 _ = H7
        have f4 : Ext H6 H7 := hh4 ▸ Ext.upd hs4
        have o4 : H7 s4 = some (.lst [.ref s3]) := by
          rw [← hh4]
          exact upd_same
        have o1' := f4 _ _ (f3 _ _ (f2 _ _ o1))
        have l25 : vs.length ≤ 25 := by omega
        refine ⟨s1, s4, _, _, rfl, rfl, o1', o4, by simp only [List.length_take, List.length_singleton]; exact Nat.le_trans (by omega : _ ≤ 26) (by decide), fun s5 hs5 => ?_⟩
        generalize hh5 : upd H7 s5 _ = H8
        have f5 : Ext H7 H8 := hh5 ▸ Ext.upd hs5
        have o5 : H8 s5 = some (.lst (vs.take j ++ [.ref s3])) := by
          rw [← hh5]
          exact upd_same
        have f15 := (((f1.trans f2).trans f3).trans f4).trans f5
        refine ⟨_, rfl, _, rfl, _, rfl, _, _, rfl, rfl, _, rfl, a, vs, rfl, SqL.of (f15 _ _ ha3), fun s6 hs6 => ?_⟩
        generalize hh6 : upd H8 s6 _ = H9
        have f6 : Ext H8 H9 := hh6 ▸ Ext.upd hs6
        have o6 : H9 s6 = some (.lst (vs.drop (j + z))) := by
          rw [← hh6, ejz, cutV_from (xs := vs) (a := j + z) jz]
          exact upd_same
        refine ⟨s5, s6, _, _, rfl, rfl, f6 _ _ o5, o6, by simp only [List.length_append, List.length_take, List.length_drop, List.length_singleton]; exact Nat.le_trans (by omega : _ ≤ 51) (by decide), fun s7 hs7 => ?_⟩
        generalize hh7 : upd H9 s7 _ = H10
        have f7 : Ext H9 H10 := hh7 ▸ Ext.upd hs7
        have o7 : H10 s7 = some (.lst (vs.take j ++ [.ref s3] ++ vs.drop (j + z))) := by
          rw [← hh7]
          exact upd_same
        have f17 := (f15.trans f6).trans f7
        have np : ∀ {H' : Hp} {a' : Addr}, Ext H3 H' → H' a' = none → a' ≠ p := fun hx hn => npL (pen3.ext hx) hn
        -- the words of the new parts
        have esp : vs = vs.take j ++ ((vs.drop j).take z ++ vs.drop (j + z)) := by
          rw [← List.drop_drop, List.take_append_drop, List.take_append_drop]
        have ht4 := ht3.kept (Kept.of f17)
        rw [esp] at ht4
        obtain ⟨wa, wb, ew, hta, htb⟩ := ht4.split
        obtain ⟨wb1, wb2, ew2, htb1, htb2⟩ := htb.split
        have ne2 : (vs.drop j).take z ≠ [] := by
          intro e
          have := congrArg List.length e
          rw [List.length_take, List.length_drop, List.length_nil] at this
          omega
        have f47 := ((f4.trans f5).trans f6).trans f7
        obtain ⟨wss, w1, w2, w3⟩ := htb1
        have ntn : NT p H10 (i + 1) (.ref s3) wb1 := .inr ⟨s3, s2, kdx kd z, (vs.drop j).take z, wss, rfl, np (f1.trans f2) hs3, np f1 hs2, f47 _ _ o3, f47 _ _ (f3 _ _ o2), ne2, w1, w2, w3⟩
        have htn : NTs p H10 (i + 1) (vs.take j ++ [.ref s3] ++ vs.drop (j + z)) ws := by
          have h := hta.up.append (NTs.cons ntn htb2.up)
          rw [List.append_assoc]
          rw [ew, ew2]
          exact h
        have llen : (vs.take j ++ [V.ref s3] ++ vs.drop (j + z)).length = vs.length - z + 1 := by
          simp only [List.length_append, List.length_take, List.length_drop, List.length_singleton]
          omega
        refine ⟨s7, _, _, _, _, _, rfl, np (f15.trans f6) hs7, o7, htn, by simp, ?_, (pen3.ext f17).less (by omega), kt.trans (Kept.of f17)⟩
        rw [llen]
        omega
      · have h1 : vs.length = 1 := by
          have c' : ¬ ((vs.length : Int) > 1) := fun z => c (decide_eq_true z)
          have := List.length_pos_iff.mpr hv
          omega
        exact ⟨a, vs, _, b4, b5, b6, rfl, ap, ha, ht.up, hv, .inl h1, hpen.less (by omega), hk⟩
    · obtain ⟨a, vs, b3, b4, b5, b6, rfl, ap, ha, ht, hv, hl, hpen, hk⟩ := hp
      have hn : (ws.length : Int).toNat = ws.length := by omega
      rw [hn] at ht hl hpen
      have h1 : 0 < vs.length := List.length_pos_iff.mpr hv
      obtain ⟨v, rfl⟩ : ∃ v, vs = [v] := List.length_eq_one_iff.mp (by omega)
      refine ⟨_, rfl, a, _, 0, v, rfl, rfl, SqL.of ha, rfl, ?_⟩
      obtain ⟨u, r, e, h2, h3⟩ := ht.uncons
      obtain ⟨wss, h4, _, rfl⟩ := h3
      have e0 : wss = [] := List.eq_nil_of_length_eq_zero h4
      subst e0
      have : ws = u := by simpa using e
      subst this
      exact hQ v H' h2 (hpen.less (by omega)) hk
end
end Kq
set_option maxHeartbeats 4000000
namespace Kq
open PySem PySem.Spec PyProof.Rows L2 Kp
theorem NTs.perm {p : Addr} {H : Hp} {d : Nat} {vs us : List V} (h : vs.Perm us) : ∀ {ws : List Str}, NTs p H d us ws → ∃ zs, NTs p H d vs zs ∧ zs.Perm ws := by
  induction h with
  | nil => intro ws k; exact ⟨ws, k, List.Perm.refl _⟩
  | cons v _ ih =>
    intro ws k
    obtain ⟨u, r, rfl, k1, k2⟩ := k.uncons
    obtain ⟨zs, z1, z2⟩ := ih k2
    exact ⟨u ++ zs, NTs.cons k1 z1, z2.append_left u⟩
  | swap a b l =>
    intro ws k
    obtain ⟨u, r, rfl, k1, k2⟩ := k.uncons
    obtain ⟨u2, r2, rfl, k3, k4⟩ := k2.uncons
    refine ⟨u2 ++ (u ++ r2), NTs.cons k3 (NTs.cons k1 k4), ?_⟩
    rw [← List.append_assoc, ← List.append_assoc]
    exact List.Perm.append_right r2 List.perm_append_comm
  | trans _ _ ih1 ih2 =>
    intro ws k
    obtain ⟨z1, a1, b1⟩ := ih2 k
    obtain ⟨z2, a2, b2⟩ := ih1 a1
    exact ⟨z2, a2, b2.trans b1⟩
def spFlat (K : PySem.W.Frag) (d : Nat) : Sp := fun vs H Q _ => ∃ (p l : Addr) (cs : List Int) (k : Nat) (v : V) (ws : List Str), vs = [.ref p, v] ∧ NT p H d v ws ∧ ws.length ≤ 25 ∧ Pen H p l cs (k + d * ws.length) ∧
  ∀ (rs : List Str) (r : Addr) (H' : Hp), rs.Perm ws → H r = none → H' r = some (.lst (rs.map V.str)) → Pen H' p l cs k → Kept p H H' → Q (.ref r) H'
def spFlatP (K : PySem.W.Frag) : Nat → Sp
  | 0 => fun _ _ _ _ => False
  | d + 1 => spFlat K d
section
variable {P : Program} {w : World} {K : PySem.W.Frag} {mg : Str → Option Value} {base : Heap} {fDraw fPick fShuf fNested fFlat fRows : Addr}
theorem ok_flatP (B : TxB mg) (T : TxP K mg fDraw fPick fShuf) (W : TxN K mg fNested fFlat fRows) : ∀ d, FnR P w K mg base (L2.CX P w) (d + 3) fFlat (spFlatP K d) := by
  intro d
  obtain ⟨fd, F⟩ := W.F_flat
  induction d with
  | zero => exact fun A outer s H us vs Q E hr e0 r h => h.elim
  | succ d G_l_flat =>
  have G_l_draw := pen_draw (P := P) (w := w) (base := base) B T
  have G_l_shuffled := ok_shuf (P := P) (w := w) (base := base) B T
  refine fnP F sc_l_flat (fun _ _ _ _ _ _ us hl => match us, hl with | [_, _], _ => rfl) (fun vs H Q E h => ?_) (fun cdv A outer s H vs Q E hr h => ?_)
  · obtain ⟨p, l, cs, k, v, ws, rfl, _⟩ := h
    rfl
  · refine ⟨_, PSs.nox (pss_cons (ps_if (pt_val (pe_callB (call_isiKK (K := K) rfl) (by rfl) B.n_isinstance (by decide +kernel) (pa_cons (pv 1) (pa_cons (pe_bltn (v := .ty "str") (u := .type "str") (by rfl) B.n_str (by decide +kernel) rfl) pa_nil))))
(pss_one (ps_ret (pe_lst (pa_cons (pv 1) pa_nil))))
pss_nil)
(pss_cons (ps_asg (pv 1) (pg_tupK (K := K) rfl rfl (pgs_cons (pg_name (i := 2) sc_l_flat.nd rfl (Or.inl rfl)) (pgs_cons (pg_name (i := 3) sc_l_flat.nd rfl (Or.inl rfl)) pgs_nil))))
(Evl.pss_cut (ps_if (pt_cmpR op_eq (pv 2) pe_int (nomark _))
(pss_one (ps_set (i := 3) sc_l_flat.nd rfl (Or.inl rfl) (pe_callR G_l_shuffled (hr.mono (by omega)) T.k_l_shuffled (by rfl) T.g_l_shuffled passL (pa_cons (pv 0) (pa_cons (pv 3) pa_nil)))))
(pss_one (ps_if (pt_cmpR op_eq (pe_callR G_l_draw (hr.mono (by omega)) T.k_l_draw (by rfl) T.g_l_draw passL (pa_cons (pv 0) (pa_cons pe_int pa_nil))) pe_int (nomark _))
(pss_one (ps_set (i := 3) sc_l_flat.nd rfl (Or.inl rfl) (pe_revLK (K := K) rfl (pv 3))))
pss_nil)))
(pss_cons (ps_set (i := 4) sc_l_flat.nd rfl (Or.inl rfl) (pe_lst pa_nil))
(pss_cons (ps_for PassesOwn.never rfl (pi_listK (K := K) rfl (pv 3)) (pg_name (i := 5) sc_l_flat.nd rfl (Or.inl rfl))
(pss_one (ps_set (i := 4) sc_l_flat.nd rfl (Or.inl rfl) (pe_op op_cat (pv 4) (pe_callR G_l_flat hr W.k_l_flat (by rfl) W.g_l_flat passL (pa_cons (pv 0) (pa_cons (pv 5) pa_nil)))))))
(pss_one (ps_ret (pv 4)))))))), ?_⟩
    obtain ⟨p, l, cs, k, v, ws, rfl, hv, h25, pen, hQ⟩ := h
    have key : (∃ w0, v = .str w0 ∧ ws = [w0]) ∨ ∃ d', d = d' + 1 ∧ ∃ (t q : Addr) (kd : Int) (vs : List V), v = .ref t ∧ t ≠ p ∧ q ≠ p ∧ H t = some (.tup [.int kd, .ref q]) ∧ H q = some (.lst vs) ∧ vs ≠ [] ∧ NTs p H d' vs ws := by
      cases d with
      | zero => exact .inl hv
      | succ d =>
        rcases hv with h | ⟨t, q, kd, vs, wss, e, h1, h2, h3, h4, h5, h6, h7, h8⟩
        · exact .inl h
        · exact .inr ⟨d, rfl, t, q, kd, vs, e, h1, h2, h3, h4, h5, wss, h6, h7, h8⟩
    rcases key with ⟨w0, rfl, rfl⟩ | ⟨d', rfl, t, q, kd, vs, rfl, tp, qp, ht, hq, hne, hts⟩
    · refine ⟨_, rfl, .str w0, _, .type "str", .type "str", true, rfl, .ty "str", .base (.str w0), kit_ty (by decide +kernel), _, rfl, ?_⟩
      refine iteT ?_
      refine ⟨_, rfl, by show 1 ≤ sizeLine; decide, fun r hr' => ?_⟩
      exact hQ [w0] r _ (List.Perm.refl _) hr' upd_same ((pen.less (Nat.le_add_right _ _)).ext (Ext.upd hr')) (Kept.new hr')
    · refine ⟨_, rfl, .ref t, _, .type "tuple", .type "str", false, rfl, .ty "str", .base (.tup ht), kit_ty (by decide +kernel), _, rfl, ?_⟩
      refine iteF ?_
      refine ⟨_, rfl, t, _, rfl, SqT.of ht, rfl, _, _, rfl, _, _, rfl, rfl, ?_⟩
      have lv := hts.len
      have hlv : 0 < vs.length := List.length_pos_iff.mpr hne
      have bud : k + (d' + 1) * ws.length = k + d' * ws.length + ws.length := by rw [Nat.succ_mul]; omega
      rw [bud] at pen
      refine ⟨fun σ' H' => ∃ (q' : Addr) (vs' : List V), σ' = [some (V.ref p), some (V.ref t), some (V.int kd), some (V.ref q'), none, none] ∧ q' ≠ p ∧ H' q' = some (.lst vs') ∧ vs'.Perm vs ∧ Pen H' p l cs (k + d' * ws.length) ∧ Kept p H H', ?_, ?_⟩
      · refine ⟨_, rfl, rfl, _, rfl, ?_⟩
        refine ite2 (fun _ => ?_) (fun _ => ?_)
        · refine ⟨_, rfl, _, rfl, p, l, cs, k + d' * ws.length, q, vs, rfl, pen.less (by omega), SqL.of hq, qp, by omega, fun ys r H' hp hn hr2 pen' kt => ?_⟩
          exact ⟨r, ys, rfl, by
            obtain ⟨_, _, a, _⟩ := pen.at_
            exact (ne_of_none a hn).symm, hr2, hp, pen', kt⟩
        · refine ⟨_, rfl, p, l, cs, k + d' * ws.length, 2, rfl, pen.less (by omega), by decide, by decide, fun dd H' d0 d1 pen' kt => ?_⟩
          have hq' := kt _ _ qp hq
          refine ⟨rfl, _, rfl, ?_⟩
          refine ite2 (fun _ => ?_) (fun _ => ?_)
          · refine ⟨_, rfl, q, vs, rfl, SqL.of hq', fun r hr2 => ?_⟩
            exact ⟨r, vs.reverse, rfl, by
              obtain ⟨_, _, a, _⟩ := pen'.at_
              exact (ne_of_none a hr2).symm, upd_same, List.reverse_perm vs, pen'.ext (Ext.upd hr2), kt.trans (Kept.new hr2)⟩
          · exact ⟨q, vs, rfl, qp, hq', List.Perm.refl _, pen', kt⟩
      · rintro σ' H1 ⟨q', vs', rfl, qp', hq', hp, pen1, kt1⟩
        obtain ⟨zs, hz, hzp⟩ := NTs.perm hp (hts.kept kt1)
        have lz := hzp.length_eq
        refine ⟨by decide, fun f hf => ?_⟩
        generalize hh1 : upd H1 f _ = H2
        have e2 : Ext H1 H2 := hh1 ▸ Ext.upd hf
        have of_ : H2 f = some (.lst (([] : List Str).map V.str)) := by
          rw [← hh1]
          exact upd_same
        have npf : ∀ {H' : Hp} {k' : Nat} {a : Addr}, Pen H' p l cs k' → H' a = none → a ≠ p := fun hp hn => by
          obtain ⟨_, _, a, _⟩ := hp.at_
          exact (ne_of_none a hn).symm
        refine ⟨_, rfl, q', rfl, ⟨vs', SqL.of (e2 _ _ hq')⟩, ?_⟩
        refine for_list (xs := vs') (fun i (σ' : L2.St) H' => ∃ (f' : Addr) (rs wb : List Str) (a5 : Option V), σ' = [some (V.ref p), some (V.ref t), some (V.int kd), some (V.ref q'), some (V.ref f'), a5] ∧ H' f' = some (.lst (rs.map V.str)) ∧ f' ≠ p ∧ H f' = none ∧ H' q' = some (.lst vs') ∧
          NTs p H' d' (vs'.drop i) wb ∧ (rs ++ wb).Perm ws ∧ Pen H' p l cs (k + d' * wb.length) ∧ Kept p H H') ?_ (fun i σ' H' _ hp' => ?_) (fun i x σ' H' hx hp' => ?_) (fun σ' H' hp' => ?_)
        · refine ⟨f, [], zs, none, rfl, of_, npf pen1 hf, ?_, e2 _ _ hq', ?_, by simpa using hzp, ?_, kt1.trans (Kept.of e2)⟩
          · cases e : H f with
            | none => rfl
            | some o =>
              rw [kt1 f o (npf pen1 hf) e] at hf
              cases hf
          · rw [List.drop_zero]
            exact hz.kept (Kept.of e2)
          · rw [lz]
            exact pen1.ext e2
        · obtain ⟨f', rs, wb, a5, rfl, g1, g2, g3, g4, g5, g6, g7, g8⟩ := hp'
          exact SqL.of g4
        · obtain ⟨f', rs, wb, a5, rfl, g1, g2, g3, g4, g5, g6, g7, g8⟩ := hp'
          have hil : i < vs'.length := (List.getElem?_eq_some_iff.mp hx).1
          rw [List.drop_eq_getElem_cons hil] at g5
          have hxe : vs'[i] = x := (List.getElem?_eq_some_iff.mp hx).2
          rw [hxe] at g5
          obtain ⟨u, us, rfl, n1, n2⟩ := g5.uncons
          have lper := g6.length_eq
          rw [List.length_append, List.length_append] at lper
          have bud2 : k + d' * (u ++ us).length = k + d' * us.length + d' * u.length := by
            rw [List.length_append, Nat.mul_add]
            omega
          rw [bud2] at g7
          refine ⟨_, rfl, _, rfl, _, rfl, ?_⟩
          refine ⟨p, l, cs, k + d' * us.length, x, u, rfl, n1, by omega, g7, fun r2 b H3 hr2 hb hb2 pen3 kt3 => ?_⟩
          have g1' := kt3 _ _ g2 g1
          have lr2 := hr2.length_eq
          refine ⟨f', b, _, _, rfl, rfl, g1', hb2, by rw [List.length_map, List.length_map]; exact Nat.le_trans (by omega : _ ≤ 50) (by decide), fun f2 hf2 => ?_⟩
          generalize hh3 : upd H3 f2 _ = H4
          have e4 : Ext H3 H4 := hh3 ▸ Ext.upd hf2
          have o4 : H4 f2 = some (.lst ((rs ++ r2).map V.str)) := by
            rw [← hh3, List.map_append]
            exact upd_same
          have kt4 := (g8.trans kt3).trans (Kept.of e4)
          refine ⟨f2, rs ++ r2, us, _, rfl, o4, npf pen3 hf2, ?_, e4 _ _ (kt3 _ _ qp' g4), (n2.kept kt3).kept (Kept.of e4), ?_, pen3.ext e4, kt4⟩
          · cases e : H f2 with
            | none => rfl
            | some o =>
              rw [(g8.trans kt3) f2 o (npf pen3 hf2) e] at hf2
              cases hf2
          · refine List.Perm.trans ?_ g6
            rw [List.append_assoc]
            exact List.Perm.append_left rs (List.Perm.append_right us hr2)
        · obtain ⟨f', rs, wb, a5, rfl, g1, g2, g3, g4, g5, g6, g7, g8⟩ := hp'
          rw [List.drop_length] at g5
          obtain ⟨wss, w1, _, rfl⟩ := g5
          have e0 : wss = [] := List.eq_nil_of_length_eq_zero w1
          subst e0
          refine ⟨_, rfl, ?_⟩
          exact hQ rs f' H' (by simpa using g6) g3 g1 (g7.less (Nat.le_add_right _ _)) g8
theorem ok_flat (B : TxB mg) (T : TxP K mg fDraw fPick fShuf) (W : TxN K mg fNested fFlat fRows) (d : Nat) : FnR P w K mg base (L2.CX P w) (d + 4) fFlat (spFlat K d) := ok_flatP B T W (d + 1)
end
end Kq
set_option maxHeartbeats 4000000
namespace Kq
open PySem PySem.Spec PyProof.Rows L2 Kp
open Evl (Ev EvL EvT EvA given)
/-- a list of lists of texts at r -/
def RowsAt (H : Hp) (r : Addr) (rows : List (List Str)) : Prop := ∃ as : List Addr, as.length = rows.length ∧ H r = some (.lst (as.map V.ref)) ∧ ∀ (i : Nat) a ws, as[i]? = some a → rows[i]? = some ws → H a = some (.lst (ws.map V.str))
theorem RowsAt.ext {H H' : Hp} {r : Addr} {rows : List (List Str)} (h : RowsAt H r rows) (e : Ext H H') : RowsAt H' r rows := by
  obtain ⟨as, h1, h2, h3⟩ := h
  exact ⟨as, h1, e _ _ h2, fun i a ws ha hw => e _ _ (h3 i a ws ha hw)⟩
theorem dp_rows {K : PySem.W.Frag} {H : Hp} : ∀ {as : List Addr} {rows : List (List Str)}, as.length = rows.length → (∀ (i : Nat) a ws, as[i]? = some a → rows[i]? = some ws → H a = some (.lst (ws.map V.str))) → DpAll K H (as.map V.ref) (rows.map fun r => PyData.list (r.map PyData.str))
  | [], [], _, _ => .nil
  | a :: as, r :: rows, h, k => .cons (.lst (SqL.of (k 0 a r rfl rfl)) (dp_strs r)) (dp_rows (by simpa using h) fun i x y hx hy => k (i + 1) x y (by simpa using hx) (by simpa using hy))
theorem shaped_rows {rows : List (List Str)} (h : ∀ r ∈ rows, ∀ w ∈ r, PyData.strOk w = true) : SeqAt.shaped (.list (rows.map fun r => PyData.list (r.map PyData.str))) = true := shaped_lst fun d hd => by
  obtain ⟨r, hr, rfl⟩ := List.mem_map.mp hd
  refine ⟨lay_all fun e he => ?_, ?_⟩
  · obtain ⟨w, hw, rfl⟩ := List.mem_map.mp he
    exact h r hr w hw
  · show PyData.depthAll (r.map PyData.str) + 1 ≤ 60
    have : PyData.depthAll (r.map PyData.str) ≤ 0 := depth_all fun e he => by
      obtain ⟨w, hw, rfl⟩ := List.mem_map.mp he
      exact Nat.le_refl _
    omega
theorem strs_perm {ys : List V} {ws : List Str} (h : ys.Perm (ws.map V.str)) : ∃ zs : List Str, ys = zs.map V.str ∧ zs.Perm ws := by
  let un : V → Str := fun v => match v with
    | .str w => w
    | _ => ""
  have hu : (ws.map V.str).map un = ws := by
    rw [List.map_map]
    exact List.map_id ws
  refine ⟨ys.map un, ?_, ?_⟩
  · rw [List.map_map]
    have : ∀ y ∈ ys, (V.str ∘ un) y = y := fun y hy => by
      obtain ⟨w, _, rfl⟩ := List.mem_map.mp (h.mem_iff.mp hy)
      rfl
    exact (List.map_congr_left this).symm ▸ (List.map_id ys).symm
  · have := h.map un
    rw [hu] at this
    exact this
structure RowI (p l f : Addr) (cs : List Int) (H0 H2 : Hp) (ws : List Str) (H : Hp) (as : List Addr) (rows : List (List Str)) (k : Nat) : Prop where
  len : as.length = rows.length
  at_ : H f = some (.lst (as.map V.ref))
  row : ∀ (i : Nat) a r, as[i]? = some a → rows[i]? = some r → H a = some (.lst (r.map V.str))
  ne : ∀ a ∈ as, a ≠ f ∧ a ≠ p
  perm : ∀ x ∈ rows, x.Perm ws
  k2 : Kept p H2 H
  pen : Pen H p l cs k
  kt : Kept p H0 H
theorem RowI.step {p l f : Addr} {cs : List Int} {H0 H2 : Hp} {ws : List Str} {H H' : Hp} {as : List Addr} {rows : List (List Str)} {k k' : Nat} (I : RowI p l f cs H0 H2 ws H as rows k) (e : Kept p H H') (fp : f ≠ p) (hp : Pen H' p l cs k') : RowI p l f cs H0 H2 ws H' as rows k' :=
  ⟨I.len, e _ _ fp I.at_, fun i a r ha hr => e _ _ (I.ne a (List.mem_of_getElem? ha)).2 (I.row i a r ha hr), I.ne, I.perm, I.k2.trans e, hp, I.kt.trans e⟩
theorem RowI.add {p l f : Addr} {cs : List Int} {H0 H2 : Hp} {ws : List Str} {H : Hp} {as : List Addr} {rows : List (List Str)} {k : Nat} (I : RowI p l f cs H0 H2 ws H as rows k) (hf0 : H0 f = none) (fp : f ≠ p) (fl : f ≠ l) {a : Addr} {r : List Str} (ha : H a = some (.lst (r.map V.str))) (af : a ≠ f) (ap : a ≠ p) (hr : r.Perm ws) (hf2 : H2 f = none) : RowI p l f cs H0 H2 ws (upd H f (.lst (as.map V.ref ++ [.ref a]))) (as ++ [a]) (rows ++ [r]) k := by
  refine ⟨by simp [I.len], by rw [List.map_append]; exact upd_same, fun i x y hx hy => ?_, fun x hx => ?_, fun x hx => ?_, ?_, ?_, ?_⟩
  · by_cases hi : i < as.length
    · rw [List.getElem?_append_left hi] at hx
      rw [List.getElem?_append_left (by rw [← I.len]; exact hi)] at hy
      rw [upd_ne (I.ne x (List.mem_of_getElem? hx)).1]
      exact I.row i x y hx hy
    · rw [List.getElem?_append_right (by omega)] at hx
      rw [List.getElem?_append_right (by rw [← I.len]; omega), ← I.len] at hy
      have e0 : i - as.length = 0 := by
        have := (List.getElem?_eq_some_iff.mp hx).1
        simp at this
        omega
      rw [e0] at hx hy
      simp at hx hy
      subst hx hy
      rw [upd_ne af]
      exact ha
  · rcases List.mem_append.mp hx with hx | hx
    · exact I.ne x hx
    · rw [List.mem_singleton.mp hx]
      exact ⟨af, ap⟩
  · rcases List.mem_append.mp hx with hx | hx
    · exact I.perm x hx
    · rw [List.mem_singleton.mp hx]
      exact hr
  · intro b o nb hb
    rw [upd_ne (ne_of_none hb hf2)]
    exact I.k2 b o nb hb
  · obtain ⟨t, rr, a1, b1⟩ := I.pen.at_
    exact ⟨⟨t, rr, by rw [upd_ne fp.symm]; exact a1, b1⟩, by rw [upd_ne fl.symm]; exact I.pen.cells, I.pen.few⟩
  · intro b o nb hb
    rw [upd_ne (ne_of_none hb hf0)]
    exact I.kt b o nb hb
def rowsBud (L many : Nat) : Nat := 4 * L + many * (1 + L + L * L)
def spRows (K : PySem.W.Frag) : Sp := fun vs H Q _ => ∃ (p l : Addr) (cs : List Int) (k m : Nat) (q : Addr) (ws : List Str), vs = [.ref p, .ref q, .int m] ∧ SqL K H q (ws.map V.str) ∧ q ≠ p ∧ ws ≠ [] ∧ ws.length ≤ 25 ∧ (∀ w ∈ ws, Wordy w) ∧ m ≤ 10 ∧ Pen H p l cs (k + rowsBud ws.length m) ∧
  ∀ (rows : List (List Str)) (r : Addr) (H' : Hp), rows.length = m → (∀ x ∈ rows, x.Perm ws) → H r = none → RowsAt H' r rows → Pen H' p l cs k → Kept p H H' → Q (.ref r) H'
section
variable {P : Program} {w : World} {K : PySem.W.Frag} {mg : Str → Option Value} {base : Heap} {fDraw fPick fShuf fNested fFlat fRows : Addr}
theorem ok_rows (B : TxB mg) (T : TxP K mg fDraw fPick fShuf) (W : TxN K mg fNested fFlat fRows) : FnR P w K mg base (L2.CX P w) 30 fRows (spRows K) := by
  obtain ⟨fd, F⟩ := W.F_rows
  have G_l_draw := pen_draw (P := P) (w := w) (base := base) B T
  have G_l_shuffled := ok_shuf (P := P) (w := w) (base := base) B T
  have G_l_nested := ok_nested (P := P) (w := w) (base := base) B T W
  refine fnP F sc_l_rows (fun _ _ _ _ _ _ us hl => match us, hl with | [_, _, _], _ => rfl) (fun vs H Q E h => ?_) (fun cdv A outer s H vs Q E hr h => ?_)
  · obtain ⟨p, l, cs, k, m, q, ws, rfl, _⟩ := h
    rfl
  · obtain ⟨p, l, cs, k, m, q, ws, rfl, hq, qp, hne, h25, hw, hm, pen, hQ⟩ := h
    have G_l_flat := (ok_flat (P := P) (w := w) (base := base) B T W ws.length).mono (k := 29) (by omega)
    refine ⟨_, PSs.nox (pss_cons (ps_par (i := 3) (j := 4) (by rfl) sc_l_rows.nd rfl rfl (by decide) rfl rfl (pa_cons (pe_callR G_l_nested (hr.mono (by decide)) W.k_l_nested (by rfl) W.g_l_nested passL (pa_cons (pv 0) (pa_cons (pe_callR G_l_shuffled (hr.mono (by decide)) T.k_l_shuffled (by rfl) T.g_l_shuffled passL (pa_cons (pv 0) (pa_cons (pv 1) pa_nil))) pa_nil))) (pa_cons (pe_lst pa_nil) pa_nil)) (by rfl))
(pss_cons (ps_for PassesOwn.never rfl (pi_range1 (by rfl) B.n_range (pa_cons (pv 2) pa_nil)) (pg_name (i := 5) sc_l_rows.nd rfl (Or.inl rfl))
(pss_cons (ps_par (i := 6) (j := 7) (by rfl) sc_l_rows.nd rfl rfl (by decide) rfl rfl (pa_cons (pe_callR G_l_draw (hr.mono (by decide)) T.k_l_draw (by rfl) T.g_l_draw passL (pa_cons (pv 0) (pa_cons pe_int pa_nil))) (pa_cons (pe_callR G_l_flat hr W.k_l_flat (by rfl) W.g_l_flat passL (pa_cons (pv 0) (pa_cons (pv 3) pa_nil))) pa_nil)) (by rfl))
(Evl.pss_cut (ps_if (pt_cmpR op_eq (pv 6) pe_int (nomark _))
(pss_one (ps_set (i := 7) sc_l_rows.nd rfl (Or.inl rfl) (pe_callR G_l_shuffled (hr.mono (by decide)) T.k_l_shuffled (by rfl) T.g_l_shuffled passL (pa_cons (pv 0) (pa_cons (pv 1) pa_nil)))))
pss_nil)
(Evl.pss_cut (ps_if (PW.pt (pw_and (pt_cmpR (op_in_seqK (K := K) rfl) (pv 6) (pe_tup (pa_cons pe_int (pa_cons pe_int pa_nil))) rfl) (pw_and1 (pt_cmpR (op_neDK (K := K) rfl hr.units) (pv 4) (pe_lst pa_nil) (nomark _)))))
(pss_one (ps_set (i := 7) sc_l_rows.nd rfl (Or.inl rfl) (pe_ifExp (pt_cmpR op_eq (pv 6) pe_int (nomark _)) (pe_revLK (K := K) rfl (pe_ix (ix_listK (K := K) rfl) (pv 4) (pe_un un_neg pe_int) (fun _ _ => rfl))) (pe_callTy (call_list_ofK (K := K) rfl) (by rfl) B.n_list (by decide +kernel) (pa_cons (pe_ix (ix_listK (K := K) rfl) (pv 4) pe_int (fun _ _ => rfl)) pa_nil)))))
pss_nil)
(pss_one (ps_expr (pe_bmK (K := K) rfl PySem.F.plainAttrs_list PySem.F.slot_list_append PySem.F.type_list_append mt_append (pv 4) (pa_cons (pv 7) pa_nil))))))))
(pss_one (ps_ret (pv 4))))), ?_⟩
    have npf : ∀ {H' : Hp} {k' : Nat} {a : Addr}, Pen H' p l cs k' → H' a = none → a ≠ p := fun hp hn => by
      obtain ⟨_, _, a, _⟩ := hp.at_
      exact (ne_of_none a hn).symm
    have bud : k + rowsBud ws.length m = k + m * (1 + ws.length + ws.length * ws.length) + 3 * ws.length + ws.length := by
      unfold rowsBud
      omega
    rw [bud] at pen
    refine ⟨_, rfl, _, rfl, _, rfl, p, l, cs, _, q, ws.map V.str, rfl, by rw [List.length_map]; exact pen, hq, qp, by rw [List.length_map]; omega, fun ys r H1 hys hn hr1 pen1 kt1 => ?_⟩
    obtain ⟨zs, rfl, hz⟩ := strs_perm hys
    have lz := hz.length_eq
    refine ⟨p, l, cs, k + m * (1 + ws.length + ws.length * ws.length), r, zs, rfl, SqL.of hr1, by intro e; subst e; exact hne (List.eq_nil_of_length_eq_zero (by simpa using lz.symm)), by omega, by rw [lz]; exact pen1, fun v H2 hv pen2 kt2 => ?_⟩
    rw [lz] at hv
    refine ⟨by decide, fun f hf => ?_⟩
    generalize hh3 : upd H2 f _ = H3
    have e3 : Ext H2 H3 := hh3 ▸ Ext.upd hf
    have of_ : H3 f = some (.lst []) := by
      rw [← hh3]
      exact upd_same
    have fp := npf pen2 hf
    have kt12 := kt1.trans kt2
    have hf0 : H f = none := by
      cases e : H f with
      | none => rfl
      | some o =>
        rw [kt12 f o fp e] at hf
        cases hf
    have fl : f ≠ l := fun z => by
      rw [z, pen.cells] at hf0
      cases hf0
    refine ⟨_, _, rfl, ?_⟩
    refine ⟨_, rfl, m, rfl, by omega, by omega, ?_⟩
    refine for_range (lo := 0) (n := (m : Int).toNat) (fun i (σ' : L2.St) H' => ∃ (as : List Addr) (rows : List (List Str)) (a5 a6 a7 : Option V), σ' = [some (V.ref p), some (V.ref q), some (V.int m), some v, some (V.ref f), a5, a6, a7] ∧ rows.length = i ∧
      RowI p l f cs H H2 ws H' as rows (k + (m - i) * (1 + ws.length + ws.length * ws.length))) ?_ (fun i σ' H' hi hp => ?_) (fun σ' H' hp => ?_)
    · exact ⟨[], [], none, none, none, rfl, rfl, rfl, of_, fun i a r h => by simp at h, fun a h => by simp at h, fun x h => by simp at h, Kept.of e3, pen2.ext e3, kt12.trans (Kept.of e3)⟩
    · obtain ⟨as, rows, a5, a6, a7, rfl, hlen, I⟩ := hp
      have him : i < m := by omega
      have bud2 : k + (m - i) * (1 + ws.length + ws.length * ws.length) = k + (m - (i + 1)) * (1 + ws.length + ws.length * ws.length) + ws.length + ws.length * ws.length + 1 := by
        have e : m - i = (m - (i + 1)) + 1 := by omega
        rw [e, Nat.succ_mul]
        omega
      rw [bud2] at I
      refine ⟨_, rfl, p, l, cs, _, 8, rfl, I.pen, by decide, by decide, fun dw H4 d0 d1 pen4 kt4 => ?_⟩
      have I4 := I.step kt4 fp pen4
      refine ⟨_, rfl, _, rfl, p, l, cs, k + (m - (i + 1)) * (1 + ws.length + ws.length * ws.length) + ws.length, v, zs, rfl, hv.kept I4.k2, by omega, by rw [lz]; exact pen4, fun rs a H5 hrs ha0 ha pen5 kt5 => ?_⟩
      have I5 := I4.step kt5 fp pen5
      have af : a ≠ f := fun z => by
        rw [z, I4.at_] at ha0
        cases ha0
      refine ⟨_, _, rfl, ?_⟩
      refine ⟨fun σ' H' => ∃ (a : Addr) (row : List Str), σ' = [some (V.ref p), some (V.ref q), some (V.int m), some v, some (V.ref f), some (V.int (0 + i)), some (V.int dw), some (V.ref a)] ∧ H' a = some (.lst (row.map V.str)) ∧ row.Perm ws ∧ a ≠ f ∧ a ≠ p ∧ RowI p l f cs H H2 ws H' as rows (k + (m - (i + 1)) * (1 + ws.length + ws.length * ws.length)), ?_, ?_⟩
      · refine ⟨_, rfl, rfl, _, rfl, ?_⟩
        refine ite2 (fun _ => ?_) (fun _ => ?_)
        · refine ⟨_, rfl, _, rfl, p, l, cs, k + (m - (i + 1)) * (1 + ws.length + ws.length * ws.length), q, ws.map V.str, rfl, by rw [List.length_map]; exact pen5, kept_l I5.kt qp hq, qp, by rw [List.length_map]; omega, fun ys b H6 hys hb0 hb pen6 kt6 => ?_⟩
          obtain ⟨us, rfl, hus⟩ := strs_perm hys
          refine ⟨b, us, rfl, hb, hus, fun z => ?_, npf pen5 hb0, I5.step kt6 fp pen6⟩
          rw [z, I5.at_] at hb0
          cases hb0
        · exact ⟨a, rs, rfl, ha, hrs.trans hz, af, npf pen4 ha0, I5.step (Kept.refl _ _) fp (pen5.less (by omega))⟩
      · rintro σ' H6 ⟨a, row, rfl, ha, hrow, af, ap, I6⟩
        refine ⟨fun σ' H' => ∃ (a : Addr) (row : List Str), σ' = [some (V.ref p), some (V.ref q), some (V.int m), some v, some (V.ref f), some (V.int (0 + i)), some (V.int dw), some (V.ref a)] ∧ H' a = some (.lst (row.map V.str)) ∧ row.Perm ws ∧ a ≠ f ∧ a ≠ p ∧ RowI p l f cs H H2 ws H' as rows (k + (m - (i + 1)) * (1 + ws.length + ws.length * ws.length)), ?_, ?_⟩
        · have way0 : RowI p l f cs H H2 ws H6 as rows (k + (m - (i + 1)) * (1 + ws.length + ws.length * ws.length)) := I6
          refine ⟨_, rfl, by show 2 ≤ sizeLine; decide, fun tq htq => ?_⟩
          generalize hh7 : upd H6 tq _ = H7
          have e7 : Ext H6 H7 := hh7 ▸ Ext.upd htq
          have o7 : H7 tq = some (.tup [.int 1, .int 2]) := by
            rw [← hh7]
            exact upd_same
          have I7 := I6.step (Kept.of e7) fp (I6.pen.ext e7)
          have ha7 := e7 _ _ ha
          refine ⟨tq, _, rfl, .inr (SqT.of o7), rfl, rfl, _, rfl, ?_⟩
          have stay : ∀ H', Ext H7 H' → ∃ (a_1 : Addr) (row_1 : List Str), ([some (V.ref p), some (V.ref q), some (V.int m), some v, some (V.ref f), some (V.int (0 + i)), some (V.int dw), some (V.ref a)] : L2.St) = [some (V.ref p), some (V.ref q), some (V.int m), some v, some (V.ref f), some (V.int (0 + i)), some (V.int dw), some (V.ref a_1)] ∧
              H' a_1 = some (.lst (row_1.map V.str)) ∧ row_1.Perm ws ∧ a_1 ≠ f ∧ a_1 ≠ p ∧ RowI p l f cs H H2 ws H' as rows (k + (m - (i + 1)) * (1 + ws.length + ws.length * ws.length)) := fun H' e => ⟨a, row, rfl, e _ _ ha7, hrow, af, ap, I7.step (Kept.of e) fp (I7.pen.ext e)⟩
          cases hin : inV (.int dw) [.int 1, .int 2] with
          | false =>
            refine iteF ?_
            exact stay H7 (fun _ _ h => h)
          | true =>
            refine iteT ?_
            refine ⟨_, rfl, by decide, fun z hz => ?_⟩
            generalize hh8 : upd H7 z _ = H8
            have e8 : Ext H7 H8 := hh8 ▸ Ext.upd hz
            have o8 : H8 z = some (.lst []) := by
              rw [← hh8]
              exact upd_same
            refine ⟨_, _, Dp.lst (SqL.of (e8 _ _ I7.at_)) (dp_rows I7.len fun i a r ha hr => e8 _ _ (I7.row i a r ha hr)), Dp.lst (SqL.of o8) .nil, shaped_rows fun r hr x hx => ?_, rfl, _, rfl, ?_⟩
            · exact letS_ok (hw x ((I7.perm r hr).mem_iff.mp hx)).1
            rw [eqv_nil]
            by_cases hrows : rows = []
            · subst hrows
              refine iteF ?_
              exact stay H8 e8
            · rw [decide_eq_false (by simpa using hrows)]
              refine iteT ?_
              have hpos : 0 < rows.length := List.length_pos_iff.mpr hrows
              have I8 := I7.step (Kept.of e8) fp (I7.pen.ext e8)
              refine ⟨_, rfl, rfl, _, rfl, ?_⟩
              refine ite2 (fun _ => ?_) (fun _ => ?_)
              · -- the last one, turned
                have hla : as.length - 1 < as.length := by rw [I8.len]; omega
                have hlr : as.length - 1 < rows.length := by rw [← I8.len]; exact hla
                have hga : as[as.length - 1]? = some as[as.length - 1] := List.getElem?_eq_getElem hla
                have hgr : rows[as.length - 1]? = some rows[as.length - 1] := List.getElem?_eq_getElem hlr
                have hrow8 := I8.row _ _ _ hga hgr
                refine ⟨_, rfl, _, rfl, f, _, _, .ref as[as.length - 1], rfl, rfl, SqL.of I8.at_, ?_, ?_⟩
                · have e : as.map V.ref = (as.take (as.length - 1)).map V.ref ++ [V.ref as[as.length - 1]] := by
                    have h := List.take_append_drop (as.length - 1) as
                    have hd : as.drop (as.length - 1) = [as[as.length - 1]] := by
                      rw [List.drop_eq_getElem_cons hla]
                      have : as.length - 1 + 1 = as.length := by omega
                      rw [this, List.drop_length]
                    rw [hd] at h
                    conv => lhs; rw [← h]
                    rw [List.map_append]
                    rfl
                  rw [e]
                  exact atI_last _ _
                · refine ⟨_, _, rfl, SqL.of hrow8, fun b hb => ?_⟩
                  generalize hh9 : upd H8 b _ = H9
                  have e9 : Ext H8 H9 := hh9 ▸ Ext.upd hb
                  have bf : b ≠ f := (ne_of_none I8.at_ hb).symm
                  exact ⟨b, rows[as.length - 1].reverse, rfl, by rw [← hh9, List.map_reverse]; exact upd_same, (List.reverse_perm _).trans (I8.perm _ (List.mem_of_getElem? hgr)), bf, npf I8.pen hb, I8.step (Kept.of e9) fp (I8.pen.ext e9)⟩
              · have hla : 0 < as.length := by rw [I8.len]; omega
                have hga : as[0]? = some as[0] := List.getElem?_eq_getElem hla
                have hgr : rows[0]? = some rows[0] := List.getElem?_eq_getElem hpos
                have hrow8 := I8.row _ _ _ hga hgr
                refine ⟨_, rfl, f, _, 0, .ref as[0], rfl, rfl, SqL.of I8.at_, atI_nat (j := 0) (by rw [List.getElem?_map, hga]; rfl), ?_⟩
                refine ⟨_, _, rfl, .inl (SqL.of hrow8), fun b hb => ?_⟩
                generalize hh9 : upd H8 b _ = H9
                have e9 : Ext H8 H9 := hh9 ▸ Ext.upd hb
                have bf : b ≠ f := (ne_of_none I8.at_ hb).symm
                exact ⟨b, rows[0], rfl, by rw [← hh9]; exact upd_same, I8.perm _ (List.mem_of_getElem? hgr), bf, npf I8.pen hb, I8.step (Kept.of e9) fp (I8.pen.ext e9)⟩
        · rintro σ' H7 ⟨a, row, rfl, ha, hrow, af, ap, I7⟩
          refine ⟨_, rfl, .inl ⟨rfl, _, SqL.of I7.at_⟩, _, rfl, f, _, _, rfl, rfl, I7.at_, by rw [List.length_map, I7.len, hlen]; exact Nat.lt_of_le_of_lt (by omega : i ≤ 10) (by decide), ?_⟩
          refine ⟨as ++ [a], rows ++ [row], _, _, _, rfl, by simp [hlen], I7.add hf0 fp fl ha af ap hrow hf⟩
    · obtain ⟨as, rows, a5, a6, a7, rfl, hlen, I⟩ := hp
      refine ⟨_, rfl, ?_⟩
      exact hQ rows f H' (by omega) I.perm hf0 ⟨as, I.len, I.at_, I.row⟩ (I.pen.less (Nat.le_add_right _ _)) I.kt
end
end Kq
set_option maxHeartbeats 4000000
namespace Kq
open PySem PySem.Spec PyProof.Rows L2 Kp
open Evl (Ev EvL EvT EvA given)
/-! ### words and groups -/
theorem let_all : ∀ c, c < 26 → 97 + c ∈ letters.cps.toList := by decide +kernel
theorem let_in (c : Nat) (h : 97 ≤ c ∧ c ≤ 122) : c ∈ letters.cps.toList := by
  have := let_all (c - 97) (by omega)
  rwa [show 97 + (c - 97) = c from by omega] at this
def spIsWord : Sp := fun vs H Q _ => ∃ z : Str, vs = [.str z] ∧ Wordy z ∧ Q (.bl true) H
structure TxG (K : PySem.W.Frag) (mg : Str → Option Value) (tL tM : Tok) (fIsWord CG gI gLen gAnd gEq : Addr) : Prop where
  g_LETTERS : mg "LETTERS" = some (.str letters tL)
  g_MOST_WORDS : mg "MOST_WORDS" = some (.int 24 tM)
  g_is_word : mg "is_word" = some (.ref fIsWord)
  k_is_word : PySem.W.keepIn K (.ref fIsWord) = true
  F_is_word : ∃ fd, Fun K "is_word" "is_word" s_is_word fIsWord fd
  g_Group : mg "Group" = some (.ref CG)
  cl : Cls K CG
  mak : Mk K CG gI
  sf : PySem.W.selfFirst K CG = true
  row : NoAttr K CG "row"
  ca : PySem.W.findIn K (.ref CG) "__class__" = some (some (.builtin "object.__class__"))
  cn : PySem.W.specialIn K (.builtin "object.__class__") "__get__" = some (some (.builtin "getset_descriptor.__get__"))
  ct : PySem.W.takesIn K (.builtin "object.__class__") = some true
  cm : PySem.W.mroIn K CG (.type "object") = some true
  isi : PySem.W.kitOne K (.ref CG) (.ref CG) = some true
  isl : PySem.W.kitOne K (.ref CG) (.type "list") = some false
  len : OwnM K CG "__len__" gLen
  and : OwnM K CG "__and__" gAnd
  eq : OwnM K CG "__eq__" gEq
  ne : PySem.W.findIn K (.ref CG) "__ne__" = some (some (.builtin "object.__ne__"))
  F_init : ∃ fd, Fun K "__init__" "Group.__init__" s_Group_init gI fd
  F_len : ∃ fd, Fun K "__len__" "Group.__len__" s_Group_len gLen fd
  F_and : ∃ fd, Fun K "__and__" "Group.__and__" s_Group_and gAnd fd
  F_eq : ∃ fd, Fun K "__eq__" "Group.__eq__" s_Group_eq gEq fd
section
variable {P : Program} {w : World} {K : PySem.W.Frag} {mg : Str → Option Value} {base : Heap} {tL tM : Tok} {fIsWord CG gI gLen gAnd gEq : Addr}
theorem ok_is_word (B : TxB mg) (T : TxG K mg tL tM fIsWord CG gI gLen gAnd gEq) : FnR P w K mg base (L2.CX P w) 1 fIsWord spIsWord := by
  obtain ⟨fd, F⟩ := T.F_is_word
  refine fnP F sc_is_word (fun _ _ _ _ _ _ us hl => match us, hl with | [_], _ => rfl) (fun vs H Q E h => ?_) (fun cdv A outer s H vs Q E hr h => ?_)
  · obtain ⟨z, rfl, _⟩ := h
    rfl
  · refine ⟨_, PSs.nox (pss_cons (ps_if (PW.pt (pw_or (pt_not (pt_val (pe_callB (call_isiKK (K := K) rfl) (by rfl) B.n_isinstance (by decide +kernel) (pa_cons (pv 0) (pa_cons (pe_bltn (v := .ty "str") (u := .type "str") (by rfl) B.n_str (by decide +kernel) rfl) pa_nil))))) (pw_or1 (pt_not (pt_chain op_le op_le pe_int (pe_callB call_len_str (by rfl) B.n_len (by decide +kernel) (pa_cons (pv 0) pa_nil)) pe_int)))))
(pss_one (ps_ret pe_bl))
pss_nil)
(pss_cons (ps_for PassesOwn.never rfl (pi_str (pv 0)) (pg_name (i := 1) sc_is_word.nd rfl (Or.inl rfl))
(pss_one (ps_if (pt_cmpR op_notIn_sign (pv 1) (pe_glob (v := .str letters) (by rfl) T.g_LETTERS ⟨_, rfl⟩) rfl)
(pss_one (ps_ret pe_bl))
pss_nil)))
(pss_one (ps_ret pe_bl)))), ?_⟩
    obtain ⟨z, rfl, hz, hQ⟩ := h
    refine ⟨_, rfl, .str z, _, .type "str", .type "str", true, rfl, .ty "str", .base (.str z), kit_ty (by decide +kernel), _, rfl, ?_⟩
    refine iteF ?_
    have hl : z.length ≤ sizeLine := Nat.le_trans hz.2.2 (by decide)
    refine ⟨_, rfl, z, rfl, hl, _, _, rfl, rfl, _, rfl, ?_⟩
    have c1 : decide ((1 : Int) ≤ (z.length : Int)) = true := decide_eq_true (by have := hz.2.1; omega)
    have c2 : decide ((z.length : Int) ≤ 8) = true := decide_eq_true (by have := hz.2.2; omega)
    rw [c1]
    refine iteT ?_
    refine ⟨_, _, rfl, rfl, _, rfl, ?_⟩
    rw [c2]
    refine iteF ?_
    refine ⟨_, rfl, z, rfl, ?_⟩
    refine for_it walk_str (fun i (σ' : L2.St) H' => ∃ a1, σ' = [some (V.str z), a1] ∧ H' = H) ?_ (fun _ _ _ _ _ => True.intro) (fun i x σ' H' H'' hi hp hy => ?_) (fun σ' H' hp => ?_)
    · exact ⟨_, rfl, rfl⟩
    · obtain ⟨a1, rfl, rfl⟩ := hp
      obtain ⟨rfl, c, hc, rfl⟩ := hy
      refine ⟨_, rfl, c, letters, rfl, rfl, _, rfl, ?_⟩
      have hcm : c ∈ z.cps.toList := by
        rw [← Array.getElem?_toList] at hc
        exact List.mem_of_getElem? hc
      have hcl : c ∈ letters.cps.toList := let_in c (hz.1 c hcm)
      rw [decide_eq_true hcl]
      refine iteF ?_
      exact ⟨_, rfl, rfl⟩
    · obtain ⟨a1, rfl, rfl⟩ := hp
      exact hQ
/-- a group at g: its words -/
def GrpAt (CG : Addr) (H : Hp) (g : Addr) (ws : List Str) : Prop := ∃ dx t, H g = some (.ins CG dx [("row", .ref t)]) ∧ H t = some (.tup (ws.map V.str))
theorem GrpAt.ext {CG : Addr} {H H' : Hp} {g : Addr} {ws : List Str} (h : GrpAt CG H g ws) (e : Ext H H') : GrpAt CG H' g ws :=
  let ⟨dx, t, a, b⟩ := h
  ⟨dx, t, e _ _ a, e _ _ b⟩
def spGI (K : PySem.W.Frag) (CG : Addr) : Sp := fun vs H Q _ => ∃ (x p dx : Addr) (ws : List Str), vs = [.ref x, .ref p] ∧ H x = some (.ins CG dx []) ∧ H p = some (.tup (ws.map V.str)) ∧ (∀ w ∈ ws, Wordy w) ∧ ws.length ≤ 60 ∧ (∀ us, IsG us ws → us.length ≤ 24) ∧
  ∀ (us : List Str) (t : Addr) (H' : Hp), IsG us ws → (∀ b o, b ≠ x → H b = some o → H' b = some o) → H' x = some (.ins CG dx [("row", .ref t)]) → H' t = some (.tup (us.map V.str)) → Q .non H'
theorem ok_group_init (B : TxB mg) (T : TxG K mg tL tM fIsWord CG gI gLen gAnd gEq) : FnR P w K mg base (L2.CX P w) 2 gI (spStar 1 (spGI K CG)) := by
  obtain ⟨fd, F⟩ := T.F_init
  have G_is_word := ok_is_word (P := P) (w := w) (base := base) B T
  refine fnS (ps := ["self"]) F sc_Group_init (fun kV doc pm an cdv ct => StX.bind_star1 (B := fun us => bindArgs (PySem.W.fnOf "__init__" "Group.__init__" (defArgs s_Group_init) (defBody s_Group_init) (defScope s_Group_init) .none kV doc pm an cdv ct) ⟨us, []⟩) (fun _ => rfl) (fun _ _ _ => rfl)) (fun cdv A outer s H vs Q E hr h => ?_)
  · refine ⟨_, PSs.nox (pss_cons (ps_for PassesOwn.never rfl (pi_tupK (K := K) rfl (pv 1)) (pg_name (i := 2) sc_Group_init.nd rfl (Or.inl rfl))
(pss_one (ps_if (pt_not (pt_val (pe_callR G_is_word (hr.mono (by decide)) T.k_is_word (by rfl) T.g_is_word passL (pa_cons (pv 2) pa_nil))))
(pss_one ps_never)
pss_nil)))
(pss_cons (ps_set (i := 3) sc_Group_init.nd rfl (Or.inl rfl) (pe_callB (cr_sortSet rfl) (by rfl) B.n_sorted (by decide +kernel) (pa_cons (pe_callTy (cr_setOf rfl) (by rfl) B.n_set (by decide +kernel) (pa_cons (pv 1) pa_nil)) pa_nil)))
(pss_cons (ps_if (pt_cmpR op_gt (pe_callB (call_lenK (K := K) rfl) (by rfl) B.n_len (by decide +kernel) (pa_cons (pv 3) pa_nil)) (pe_glob (v := .int 24) (by rfl) T.g_MOST_WORDS ⟨_, rfl⟩) (nomark _))
(pss_one ps_never)
pss_nil)
(pss_one (ps_fld (pv 0) (pe_callTy (call_tuple_ofK (K := K) rfl) (by rfl) B.n_tuple (by decide +kernel) (pa_cons (pv 3) pa_nil)) rfl))))), ?_⟩
    obtain ⟨x, p, dx, ws, rfl, hx, hp, hw, h60, h24, hQ⟩ := h
    refine ⟨_, rfl, p, rfl, ⟨_, SqT.of hp⟩, ?_⟩
    refine for_tup (xs := ws.map V.str) (fun i (σ' : L2.St) H' => ∃ a2, σ' = [some (V.ref x), some (V.ref p), a2, none] ∧ H' = H) ?_ (fun i σ' H' _ hp' => ?_) (fun i y σ' H' hy hp' => ?_) (fun σ' H' hp' => ?_)
    · exact ⟨_, rfl, rfl⟩
    · obtain ⟨a2, rfl, rfl⟩ := hp'
      exact SqT.of hp
    · obtain ⟨a2, rfl, rfl⟩ := hp'
      obtain ⟨u, hu, rfl⟩ := str_at hy
      refine ⟨_, rfl, u, rfl, hw u (List.mem_of_getElem? hu), _, rfl, ?_⟩
      refine iteF ?_
      exact ⟨_, rfl, rfl⟩
    · obtain ⟨a2, rfl, rfl⟩ := hp'
      refine ⟨_, rfl, p, ws, rfl, SqT.of hp, h60, fun a n ha hn => ?_⟩
      generalize hh1 : upd H' a _ = H1
      have e1 : Ext H' H1 := hh1 ▸ Ext.upd ha
      have o1 : H1 a = some (TSO w a (fun x => decide (x ∈ ws)) n) := by
        rw [← hh1]
        exact upd_same
      refine ⟨a, _, n, rfl, o1, by omega, fun us q so nd mem ln hq => ?_⟩
      generalize hh2 : upd H1 q _ = H2
      have e2 : Ext H1 H2 := hh2 ▸ Ext.upd hq
      have o2 : H2 q = some (.lst (us.map V.str)) := by
        rw [← hh2]
        exact upd_same
      have ig : IsG us ws := ⟨so, nd, fun k => by rw [mem k]; simp⟩
      have l24 := h24 us ig
      refine ⟨_, rfl, _, us.length, rfl, .inl ⟨_, SqL.of o2, by simp⟩, _, _, rfl, rfl, _, rfl, ?_⟩
      rw [decide_eq_false (by omega)]
      refine iteF ?_
      refine ⟨_, rfl, q, _, rfl, .inl ⟨SqL.of o2, fun t ht => ?_⟩⟩
      generalize hh3 : upd H2 t _ = H3
      have e3 : Ext H2 H3 := hh3 ▸ Ext.upd ht
      have o3 : H3 t = some (.tup (us.map V.str)) := by
        rw [← hh3]
        exact upd_same
      have e13 := (e1.trans e2).trans e3
      have hx3 := e13 _ _ hx
      refine ⟨_, rfl, x, CG, dx, [], rfl, hx3, T.cl, T.row, by decide, ?_⟩
      have xt : x ≠ t := ne_of_none ((e1.trans e2) _ _ hx) ht
      exact hQ us t _ ig (fun b o nb hb => by rw [upd_ne nb]; exact e13 _ _ hb) upd_same (by rw [upd_ne xt.symm]; exact o3)
/-- a group is made -/
theorem mk_group {H : Hp} {Q : VK} {E : XK} {ws : List Str} (hw : ∀ w ∈ ws, Wordy w) (h60 : ws.length ≤ 60) (h24 : ∀ us, IsG us ws → us.length ≤ 24) (k : ∀ (g : Addr) (us : List Str) (H' : Hp), IsG us ws → Ext H H' → H g = none → GrpAt CG H' g us → Q (.ref g) H') :
    mkSp CG (spStar 1 (spGI K CG)) E (ws.map V.str) H Q := by
  intro x dx hx hdx ne
  refine ⟨[V.ref x], ws.map V.str, rfl, rfl, by rw [List.length_map]; exact Nat.le_trans h60 (by decide), fun p hp => ?_⟩
  have xdx : x ≠ dx := ne.symm
  have hx1 : upd (upd H dx (.own x)) x (.ins CG dx []) x = some (.ins CG dx []) := upd_same
  have px : p ≠ x := fun z => by rw [z, hx1] at hp; cases hp
  have e1 : Ext H (upd (upd H dx (.own x)) x (.ins CG dx [])) := (Ext.upd hdx).trans (Ext.upd (by rw [upd_ne xdx]; exact hx))
  have e2 := e1.trans (Ext.upd (o := HO.tup (ws.map V.str)) hp)
  refine ⟨x, p, dx, ws, rfl, by rw [upd_ne px.symm]; exact hx1, upd_same, hw, h60, h24, fun us t H' ig kp hx' ht => ⟨rfl, ?_⟩⟩
  refine k x us H' ig (fun b o hb => ?_) hx ⟨dx, t, hx', ht⟩
  exact kp b o (ne_of_none hb hx) (e2 _ _ hb)
def spGLen (CG : Addr) : Sp := fun vs H Q _ => ∃ (g : Addr) (ws : List Str), vs = [.ref g] ∧ GrpAt CG H g ws ∧ Q (.int ws.length) H
def spGAnd (CG : Addr) : Sp := fun vs H Q _ => ∃ (a b : Addr) (ws us : List Str), vs = [.ref a, .ref b] ∧ GrpAt CG H a ws ∧ GrpAt CG H b us ∧ (∀ w ∈ ws, Wordy w) ∧ ws.length ≤ 24 ∧
  ∀ (g : Addr) (zs : List Str) (H' : Hp), IsG zs (ws.filter fun x => decide (x ∈ us)) → Ext H H' → GrpAt CG H' g zs → Q (.ref g) H'
def spGEq (CG : Addr) : Sp := fun vs H Q _ => ∃ (a b : Addr) (ws us : List Str), vs = [.ref a, .ref b] ∧ GrpAt CG H a ws ∧ GrpAt CG H b us ∧ (∀ w ∈ ws, Wordy w) ∧ (∀ w ∈ us, Wordy w) ∧ Q (.bl (decide (ws = us))) H
theorem ty_grp (T : TxG K mg tL tM fIsWord CG gI gLen gAnd gEq) {H : Hp} {g : Addr} {ws : List Str} (h : GrpAt CG H g ws) : TyX K H (.ref g) (.ref CG) :=
  let ⟨dx, t, a, b⟩ := h
  .base (.ins a T.cl T.ca T.cn T.ct T.cm)
theorem ok_group_len (B : TxB mg) (T : TxG K mg tL tM fIsWord CG gI gLen gAnd gEq) : FnR P w K mg base (L2.CX P w) 1 gLen (spGLen CG) := by
  obtain ⟨fd, F⟩ := T.F_len
  refine fnP F sc_Group_len (fun _ _ _ _ _ _ us hl => match us, hl with | [_], _ => rfl) (fun vs H Q E h => ?_) (fun cdv A outer s H vs Q E hr h => ?_)
  · obtain ⟨g, ws, rfl, _⟩ := h
    rfl
  · refine ⟨_, PSs.nox (pss_one (ps_ret (pe_callB (call_lenK (K := K) rfl) (by rfl) B.n_len (by decide +kernel) (pa_cons (pe_fldK (K := K) rfl (pv 0)) pa_nil)))), ?_⟩
    obtain ⟨g, ws, rfl, ⟨dx, t, ha, hb⟩, hQ⟩ := h
    refine ⟨_, rfl, g, CG, dx, _, .ref t, rfl, ha, T.cl, T.row, rfl, ?_⟩
    exact ⟨_, ws.length, rfl, .inr ⟨_, SqT.of hb, by simp⟩, hQ⟩
theorem ok_group_eq (B : TxB mg) (T : TxG K mg tL tM fIsWord CG gI gLen gAnd gEq) : FnR P w K mg base (L2.CX P w) 1 gEq (spGEq CG) := by
  obtain ⟨fd, F⟩ := T.F_eq
  refine fnP F sc_Group_eq (fun _ _ _ _ _ _ us hl => match us, hl with | [_, _], _ => rfl) (fun vs H Q E h => ?_) (fun cdv A outer s H vs Q E hr h => ?_)
  · obtain ⟨g, b, ws, us, rfl, _⟩ := h
    rfl
  · refine ⟨_, PSs.nox (pss_one (ps_ret (pe_and (pe_callB (call_isiKK (K := K) rfl) (by rfl) B.n_isinstance (by decide +kernel) (pa_cons (pv 1) (pa_cons (pe_glob (v := .ref _) (by rfl) T.g_Group rfl) pa_nil))) (pe_one (pe_cmpR (op_eqDK (K := K) rfl hr.units) (pe_fldK (K := K) rfl (pv 0)) (pe_fldK (K := K) rfl (pv 1)) (nomark _)))))), ?_⟩
    obtain ⟨a, b, ws, us, rfl, ga, gb, hw, hu, hQ⟩ := h
    refine ⟨_, rfl, .ref b, .ref CG, .ref CG, .ref CG, true, rfl, .own CG, ty_grp T gb, T.isi, ?_⟩
    obtain ⟨dx, t, ha, ht⟩ := ga
    obtain ⟨dy, t', hb, ht'⟩ := gb
    refine ⟨true, rfl, iteT ?_⟩
    refine ⟨_, rfl, a, CG, dx, _, .ref t, rfl, ha, T.cl, T.row, rfl, ?_⟩
    refine ⟨_, rfl, b, CG, dy, _, .ref t', rfl, hb, T.cl, T.row, rfl, ?_⟩
    refine ⟨_, _, Dp.tup (SqT.of ht) (dp_strs ws), Dp.tup (SqT.of ht') (dp_strs us), shaped_strsT fun c hc => letS_ok (hw c hc).1, shaped_strsT fun c hc => letS_ok (hu c hc).1, ?_⟩
    rw [eqv_strsT]
    exact hQ
theorem ok_group_and (B : TxB mg) (T : TxG K mg tL tM fIsWord CG gI gLen gAnd gEq) : FnR P w K mg base (L2.CX P w) 4 gAnd (spGAnd CG) := by
  obtain ⟨fd, F⟩ := T.F_and
  have G_init := ok_group_init (P := P) (w := w) (base := base) B T
  refine fnP F sc_Group_and (fun _ _ _ _ _ _ us hl => match us, hl with | [_, _], _ => rfl) (fun vs H Q E h => ?_) (fun cdv A outer s H vs Q E hr h => ?_)
  · obtain ⟨g, b, ws, us, rfl, _⟩ := h
    rfl
  · refine ⟨_, PSs.nox (pss_cons (ps_if (pt_not (pt_val (pe_callB (call_isiKK (K := K) rfl) (by rfl) B.n_isinstance (by decide +kernel) (pa_cons (pv 1) (pa_cons (pe_glob (v := .ref _) (by rfl) T.g_Group rfl) pa_nil)))))
(pss_one ps_never)
pss_nil)
(pss_cons (ps_setLc (i := 2) (own := [("word", 3)]) (g := gName 3) rfl sc_Group_and.nd rfl rfl (sw_true rfl rfl rfl (by decide +kernel)) (pi_tupK (K := K) rfl (pe_fldK (K := K) rfl (pv 0))) (blkOk_by (own := [("word", 3)]) (N := N_Group_and) (sc := defScope s_Group_and) (by decide +kernel)) (fun _ _ _ _ _ => (pg_name (i := 3) sc_Group_and.nd rfl (Or.inl rfl))) (fun _ _ _ _ _ => (pts_one (pt_cmpR (op_in_seqK (K := K) rfl) (pv 3) (pe_fldK (K := K) rfl (pv 1)) (by rfl)))) (fun _ _ _ _ _ => by exact (pv 3)))
(pss_one (ps_ret (pe_mkS1 (E := E0) T.mak G_init (hr.mono (by decide)) (by rfl) T.g_Group passL (pv 2)))))), ?_⟩
    obtain ⟨a, b, ws, us, rfl, ga, gb, hw, h24, hQ⟩ := h
    refine ⟨_, rfl, .ref b, .ref CG, .ref CG, .ref CG, true, rfl, .own CG, ty_grp T gb, T.isi, _, rfl, ?_⟩
    refine iteF ?_
    obtain ⟨dx, t, ha, ht⟩ := ga
    obtain ⟨dy, t', hb, ht'⟩ := gb
    dsimp only [tNext, tSeq, tAsg]
    refine Kp.run_lcT (a := t) (xs := ws.map V.str) (fun i => decide (ws.getD i "" ∈ us)) (fun i => V.str (ws.getD i "")) ?_ (SqT.of ht) (by rw [List.length_map]; omega) (fun _ => rfl) (fun i x H9 e9 hx => ?_) (fun i x H9 e9 hx _ => ?_) (fun D H2 hD e2 hD2 => ?_)
    · exact fun H1 e1 Q' q => ⟨_, rfl, a, CG, dx, _, .ref t, rfl, e1 _ _ ha, T.cl, T.row, rfl, q H1 (Evl.Ex.refl H1)⟩
    · obtain ⟨u, hu, rfl⟩ := str_at hx
      have eu : ws.getD i "" = u := by rw [List.getD_eq_getElem?_getD, hu]; rfl
      rw [eu, ← Kp.inV_strs]
      exact fun H10 e10 Q' q' => ⟨_, rfl, _, rfl, b, CG, dy, _, .ref t', rfl, e10 _ _ (e9 _ _ hb), T.cl, T.row, rfl, t', _, rfl, .inr (SqT.of (e10 _ _ (e9 _ _ ht'))), rfl, Kp.flat_strs us, _, rfl, q' H10 (Evl.Ex.refl H10)⟩
    · obtain ⟨u, hu, rfl⟩ := str_at hx
      have eu : ws.getD i "" = u := by rw [List.getD_eq_getElem?_getD, hu]; rfl
      rw [eu]
      exact Evl.ev_var rfl
    have eg : given (ws.map V.str).length (fun i => decide (ws.getD i "" ∈ us)) (fun i => V.str (ws.getD i "")) = (ws.filter fun u => decide (u ∈ us)).map V.str := by
      rw [List.length_map]
      exact Kp.given_filter ws _ _ _ _ (fun i x hx => by rw [List.getD_eq_getElem?_getD, hx]; rfl) (fun i x hx => by rw [List.getD_eq_getElem?_getD, hx]; rfl)
    rw [eg] at hD2
    have lf : (ws.filter fun u => decide (u ∈ us)).length ≤ ws.length := List.length_filter_le _ _
    refine ⟨_, rfl, D, _, rfl, .inr (SqL.of hD2), ?_⟩
    exact mk_group (fun x hx => hw x (List.mem_filter.mp hx).1) (by omega) (fun us' ig => by have := ig.len; omega) fun g zs H' ig e3 _ hg => hQ g zs H' ig (Ext.trans e2 e3) hg
end
end Kq
set_option maxHeartbeats 4000000
namespace Kq
open PySem PySem.Spec PyProof.Rows L2 Kp
open Evl (Ev EvL EvT EvA given)
/-! ### orders -/
structure TxO (K : PySem.W.Frag) (mg : Str → Option Value) (CO oI : Addr) (mc : Value) (pOf oOf oInv oAdd oEq : Addr) : Prop where
  g_Order : mg "Order" = some (.ref CO)
  cl : Cls K CO
  mak : Mk K CO oI
  sf : PySem.W.selfFirst K CO = true
  row : NoAttr K CO "row"
  group : NoAttr K CO "group"
  place_of : NoAttr K CO "place_of"
  ca : PySem.W.findIn K (.ref CO) "__class__" = some (some (.builtin "object.__class__"))
  cn : PySem.W.specialIn K (.builtin "object.__class__") "__get__" = some (some (.builtin "getset_descriptor.__get__"))
  ct : PySem.W.takesIn K (.builtin "object.__class__") = some true
  cm : PySem.W.mroIn K CO (.type "object") = some true
  isi : PySem.W.kitOne K (.ref CO) (.ref CO) = some true
  isl : PySem.W.kitOne K (.ref CO) (.type "list") = some false
  inv : OwnM K CO "__invert__" oInv
  add : OwnM K CO "__add__" oAdd
  eq : OwnM K CO "__eq__" oEq
  rd : ClX.CRead K CO mc
  ofm : ClX.CMet K CO mc "of" pOf oOf
  F_init : ∃ fd, Fun K "__init__" "Order.__init__" s_Order_init oI fd
  F_of : ∃ fd, Fun K "of" "Order.of" s_Order_of oOf fd
  F_inv : ∃ fd, Fun K "__invert__" "Order.__invert__" s_Order_invert oInv fd
  F_add : ∃ fd, Fun K "__add__" "Order.__add__" s_Order_add oAdd fd
  F_eq : ∃ fd, Fun K "__eq__" "Order.__eq__" s_Order_eq oEq fd
/-- an order at o: its words, all unlike -/
def OrdAt (CG CO : Addr) (H : Hp) (o : Addr) (ws : List Str) : Prop := ∃ dx t g d us, H o = some (.ins CO dx [("row", .ref t), ("group", .ref g), ("place_of", .ref d)]) ∧ H t = some (.tup (ws.map V.str)) ∧ GrpAt CG H g us ∧ IsG us ws
theorem OrdAt.ext {CG CO : Addr} {H H' : Hp} {o : Addr} {ws : List Str} (h : OrdAt CG CO H o ws) (e : Ext H H') : OrdAt CG CO H' o ws :=
  let ⟨dx, t, g, d, us, a, b, c, i⟩ := h
  ⟨dx, t, g, d, us, e _ _ a, e _ _ b, c.ext e, i⟩
/-- words that an order takes -/
structure OkW (ws : List Str) : Prop where
  wd : ∀ w ∈ ws, Wordy w
  nd : ws.Nodup
  ne : ws ≠ []
  few : ws.length ≤ 24
def spOI (K : PySem.W.Frag) (CG CO : Addr) : Sp := fun vs H Q _ => ∃ (x p dx : Addr) (ws : List Str), vs = [.ref x, .ref p] ∧ H x = some (.ins CO dx []) ∧ H p = some (.tup (ws.map V.str)) ∧ OkW ws ∧
  ∀ (g d : Addr) (us : List Str) (H' : Hp), IsG us ws → (∀ b o, b ≠ x → H b = some o → H' b = some o) → H' x = some (.ins CO dx [("row", .ref p), ("group", .ref g), ("place_of", .ref d)]) → GrpAt CG H' g us → Q .non H'
section
variable {P : Program} {w : World} {K : PySem.W.Frag} {mg : Str → Option Value} {base : Heap} {tL tM : Tok} {fIsWord CG gI gLen gAnd gEq CO oI pOf oOf oInv oAdd oEq : Addr} {mc : Value}
theorem ok_order_init (B : TxB mg) (T : TxG K mg tL tM fIsWord CG gI gLen gAnd gEq) (O : TxO K mg CO oI mc pOf oOf oInv oAdd oEq) : FnR P w K mg base (L2.CX P w) 4 oI (spStar 1 (spOI K CG CO)) := by
  obtain ⟨fd, F⟩ := O.F_init
  have G_is_word := ok_is_word (P := P) (w := w) (base := base) B T
  have G_init := ok_group_init (P := P) (w := w) (base := base) B T
  refine fnS (ps := ["self"]) F sc_Order_init (fun kV doc pm an cdv ct => StX.bind_star1 (B := fun us => bindArgs (PySem.W.fnOf "__init__" "Order.__init__" (defArgs s_Order_init) (defBody s_Order_init) (defScope s_Order_init) .none kV doc pm an cdv ct) ⟨us, []⟩) (fun _ => rfl) (fun _ _ _ => rfl)) (fun cdv A outer s H vs Q E hr h => ?_)
  · refine ⟨_, PSs.nox (pss_cons (ps_if (pt_cmpR op_eq (pe_callB (call_lenK (K := K) rfl) (by rfl) B.n_len (by decide +kernel) (pa_cons (pv 1) pa_nil)) pe_int (nomark _))
(pss_one ps_never)
pss_nil)
(pss_cons (ps_for PassesOwn.never rfl (pi_tupK (K := K) rfl (pv 1)) (pg_name (i := 2) sc_Order_init.nd rfl (Or.inl rfl))
(pss_one (ps_if (pt_not (pt_val (pe_callR G_is_word (hr.mono (by decide)) T.k_is_word (by rfl) T.g_is_word passL (pa_cons (pv 2) pa_nil))))
(pss_one ps_never)
pss_nil)))
(pss_cons (ps_if (pt_cmpR op_lt (pe_callB cr_lenSet (by rfl) B.n_len (by decide +kernel) (pa_cons (pe_callTy (cr_setOf rfl) (by rfl) B.n_set (by decide +kernel) (pa_cons (pv 1) pa_nil)) pa_nil)) (pe_callB (call_lenK (K := K) rfl) (by rfl) B.n_len (by decide +kernel) (pa_cons (pv 1) pa_nil)) (nomark _))
(pss_one ps_never)
pss_nil)
(pss_cons (ps_if (pt_cmpR op_gt (pe_callB (call_lenK (K := K) rfl) (by rfl) B.n_len (by decide +kernel) (pa_cons (pv 1) pa_nil)) (pe_glob (v := .int 24) (by rfl) T.g_MOST_WORDS ⟨_, rfl⟩) (nomark _))
(pss_one ps_never)
pss_nil)
(pss_cons (ps_fld (pv 0) (pe_callTy (call_tuple_ofK (K := K) rfl) (by rfl) B.n_tuple (by decide +kernel) (pa_cons (pv 1) pa_nil)) rfl)
(pss_cons (ps_fld (pv 0) (pe_mkS1 (E := E0) T.mak G_init (hr.mono (by decide)) (by rfl) T.g_Group passL (pv 1)) rfl)
(pss_one (ps_fld (pv 0) (pe_dc (own := [("at", 3), ("word", 2)]) (tt := tYes) rfl sc_Order_init.nd (pi_enumT (K := K) rfl (by rfl) B.n_enumerate (pa_cons (pv 1) pa_nil)) (blkOk_by (own := [("at", 3), ("word", 2)]) (N := N_Order_init) (sc := defScope s_Order_init) (by decide +kernel)) (fun _ _ _ _ _ => (pg_tupK (n := 2) (K := K) rfl rfl (pgs_cons (pg_name (i := 3) sc_Order_init.nd rfl (Or.inl rfl)) (pgs_cons (pg_name (i := 2) sc_Order_init.nd rfl (Or.inl rfl)) pgs_nil)))) (fun _ _ _ _ _ => pts_nil) (fun _ _ _ _ _ => by exact (pv 2)) (fun _ _ _ _ _ => by exact (pv 3))) rfl)))))))), ?_⟩
    obtain ⟨x, p, dx, ws, rfl, hx, hp, ok, hQ⟩ := h
    have hw := ok.wd
    have lpos : 0 < ws.length := List.length_pos_iff.mpr ok.ne
    have l24 := ok.few
    refine ⟨_, rfl, _, ws.length, rfl, .inr ⟨_, SqT.of hp, by simp⟩, rfl, _, rfl, ?_⟩
    refine ite2 (fun c => ?_) (fun _ => ?_)
    · exact absurd (V.int.inj (of_decide_eq_true c)) (by omega)
    refine ⟨_, rfl, p, rfl, ⟨_, SqT.of hp⟩, ?_⟩
    refine for_tup (xs := ws.map V.str) (fun i (σ' : L2.St) H' => ∃ a2, σ' = [some (V.ref x), some (V.ref p), a2, none] ∧ H' = H) ?_ (fun i σ' H' _ hp' => ?_) (fun i y σ' H' hy hp' => ?_) (fun σ' H' hp' => ?_)
    · exact ⟨_, rfl, rfl⟩
    · obtain ⟨a2, rfl, rfl⟩ := hp'
      exact SqT.of hp
    · obtain ⟨a2, rfl, rfl⟩ := hp'
      obtain ⟨u, hu, rfl⟩ := str_at hy
      refine ⟨_, rfl, u, rfl, hw u (List.mem_of_getElem? hu), _, rfl, ?_⟩
      refine iteF ?_
      exact ⟨_, rfl, rfl⟩
    · obtain ⟨a2, rfl, rfl⟩ := hp'
      refine ⟨_, rfl, p, ws, rfl, SqT.of hp, by omega, fun a n ha hn => ?_⟩
      generalize hh1 : upd H' a _ = H1
      have e1 : Ext H' H1 := hh1 ▸ Ext.upd ha
      have o1 : H1 a = some (TSO w a (fun x => decide (x ∈ ws)) n) := by
        rw [← hh1]
        exact upd_same
      refine ⟨a, _, n, rfl, o1, fun ys nd mem ln => ?_⟩
      refine ⟨_, rfl, _, ws.length, rfl, .inr ⟨_, SqT.of (e1 _ _ hp), by simp⟩, _, _, rfl, rfl, _, rfl, ?_⟩
      have nle : ws.length ≤ n := ln ▸ nodup_le ok.nd fun y hy => (mem y).mpr (decide_eq_true hy)
      rw [decide_eq_false (by omega)]
      refine iteF ?_
      refine ⟨_, rfl, _, ws.length, rfl, .inr ⟨_, SqT.of (e1 _ _ hp), by simp⟩, _, _, rfl, rfl, _, rfl, ?_⟩
      rw [decide_eq_false (by omega)]
      refine iteF ?_
      refine ⟨_, rfl, p, _, rfl, .inr ⟨SqT.of (e1 _ _ hp), ?_⟩⟩
      refine ⟨_, rfl, x, CO, dx, [], rfl, e1 _ _ hx, O.cl, O.row, by decide, ?_⟩
      generalize hh2 : upd H1 x _ = H2
      have px : p ≠ x := fun z => by rw [z, hx] at hp; cases hp
      have ax : a ≠ x := ne_of_none hx ha |>.symm
      have k2 : ∀ b o, b ≠ x → H' b = some o → H2 b = some o := fun b o nb hb => by
        rw [← hh2, upd_ne nb]
        exact e1 _ _ hb
      have hx2 : H2 x = some (.ins CO dx [("row", .ref p)]) := by
        rw [← hh2]
        exact upd_same
      have hp2 : H2 p = some (.tup (ws.map V.str)) := k2 _ _ px hp
      refine ⟨_, rfl, p, _, rfl, .inl (SqT.of hp2), ?_⟩
      refine mk_group hw (by omega) (fun us ig => by have := ig.len; omega) fun g us H3 ig e3 hg0 hg => ?_
      refine ⟨_, rfl, x, CO, dx, _, rfl, e3 _ _ hx2, O.cl, O.group, by simp, ?_⟩
      generalize hh4 : upd H3 x _ = H4
      have k4 : ∀ b o, b ≠ x → H3 b = some o → H4 b = some o := fun b o nb hb => by
        rw [← hh4, upd_ne nb]
        exact hb
      have hx4 : H4 x = some (.ins CO dx [("row", .ref p), ("group", .ref g)]) := by
        rw [← hh4]
        exact upd_same
      have hp4 : H4 p = some (.tup (ws.map V.str)) := k4 _ _ px (e3 _ _ hp2)
      have hg4 : GrpAt CG H4 g us := by
        obtain ⟨dy, t, ga, gb⟩ := hg
        have gx : g ≠ x := ne_of_none hx2 hg0 |>.symm
        refine ⟨dy, t, k4 _ _ gx ga, k4 _ _ (fun z => ?_) gb⟩
        rw [z, e3 _ _ hx2] at gb
        cases gb
      refine ⟨_, rfl, p, _, rfl, SqT.of hp4, fun D hD => ?_⟩
      have xD : x ≠ D := ne_of_none hx4 hD
      refine dc_it (walk_enumT (xs := ws.map V.str)) (fun i H5 => ∃ kvs, H5 D = some (.dK kvs) ∧ kvs.length ≤ i ∧ Ext H4 H5) ?_ ?_ (fun i y H5 H6 hi hp' hy => ?_) (fun H5 hp' => ?_)
      · exact ⟨[], upd_same, Nat.le_refl _, Ext.upd hD⟩
      · exact fun i H5 _ hq => SqT.of (hq.choose_spec.2.2 _ _ hp4)
      · obtain ⟨kvs, hd, hl, e⟩ := hp'
        obtain ⟨T, x1, x2, rfl, hT, rfl, h1, h2⟩ := hy
        cases h1
        obtain ⟨u, hu, rfl⟩ := str_at h2
        have eT := e.trans (Ext.upd (o := HO.tup [.int ((i : Nat) : Int), .str u]) hT)
        have dT : D ≠ T := ne_of_none hd hT
        refine ⟨T, _, rfl, SqT.of upd_same, rfl, ?_⟩
        refine ⟨_, _, rfl, _, _, rfl, rfl, rfl, ?_⟩
        refine ⟨_, rfl, _, rfl, kvs, .inr u, rfl, by rw [upd_ne dT]; exact hd, by have := hl; rw [List.length_map] at hi; exact Nat.lt_of_le_of_lt (Nat.le_trans hl (by omega)) (show 24 < sizeLine by decide), ?_⟩
        refine ⟨_, upd_same, ?_, fun b o hb => ?_⟩
        · have := length_putK kvs (.inr u) (V.int ((i : Nat) : Int))
          omega
        · rw [upd_ne (ne_of_none hb hD)]
          exact eT _ _ hb
      · obtain ⟨kvs, hd, hl, e⟩ := hp'
        refine ⟨_, rfl, x, CO, dx, _, rfl, e _ _ hx4, O.cl, O.place_of, by simp, ?_⟩
        refine hQ g D us _ ig (fun b o nb hb => ?_) upd_same ?_
        · rw [upd_ne nb]
          exact e _ _ (k4 _ _ nb (e3 _ _ (k2 _ _ nb hb)))
        · obtain ⟨dy, t, ga, gb⟩ := hg4
          refine ⟨dy, t, ?_, ?_⟩
          · have gx : g ≠ x := fun z => by
              rw [z] at hg0
              rw [hx2] at hg0
              cases hg0
            rw [upd_ne gx]
            exact e _ _ ga
          · have tx : t ≠ x := fun z => by
              rw [z, hx4] at gb
              cases gb
            rw [upd_ne tx]
            exact e _ _ gb
end
end Kq
set_option maxHeartbeats 4000000
namespace Kq
open PySem PySem.Spec PyProof.Rows L2 Kp
open Evl (Ev EvL EvT EvA given)
theorem OkW.perm {ws us : List Str} (h : OkW ws) (p : us.Perm ws) : OkW us :=
  ⟨fun w hw => h.wd w (p.mem_iff.mp hw), p.nodup_iff.mpr h.nd, fun z => h.ne (by rw [z] at p; exact p.symm.eq_nil), by rw [p.length_eq]; exact h.few⟩
theorem ext_none {H H' : Hp} {o : Addr} (e : Ext H H') (h : H' o = none) : H o = none := by
  cases h2 : H o with
  | none => rfl
  | some x =>
    rw [e _ _ h2] at h
    cases h
section
variable {P : Program} {w : World} {K : PySem.W.Frag} {mg : Str → Option Value} {base : Heap} {tL tM : Tok} {fIsWord CG gI gLen gAnd gEq CO oI pOf oOf oInv oAdd oEq : Addr} {mc : Value}
/-- an order is made -/
theorem mk_order {H : Hp} {Q : VK} {E : XK} {ws : List Str} (ok : OkW ws) (k : ∀ (o : Addr) (H' : Hp), Ext H H' → H o = none → OrdAt CG CO H' o ws → Q (.ref o) H') :
    mkSp CO (spStar 1 (spOI K CG CO)) E (ws.map V.str) H Q := by
  intro x dx hx hdx ne
  refine ⟨[V.ref x], ws.map V.str, rfl, rfl, by rw [List.length_map]; exact Nat.le_trans ok.few (by decide), fun p hp => ?_⟩
  have xdx : x ≠ dx := ne.symm
  have hx1 : upd (upd H dx (.own x)) x (.ins CO dx []) x = some (.ins CO dx []) := upd_same
  have px : p ≠ x := fun z => by rw [z, hx1] at hp; cases hp
  have e1 : Ext H (upd (upd H dx (.own x)) x (.ins CO dx [])) := (Ext.upd hdx).trans (Ext.upd (by rw [upd_ne xdx]; exact hx))
  have e2 := e1.trans (Ext.upd (o := HO.tup (ws.map V.str)) hp)
  refine ⟨x, p, dx, ws, rfl, by rw [upd_ne px.symm]; exact hx1, upd_same, ok, fun g d us H' ig kp hx' hg => ⟨rfl, ?_⟩⟩
  refine k x H' (fun b o hb => ?_) hx ⟨dx, p, g, d, us, hx', kp _ _ px upd_same, hg, ig⟩
  exact kp b o (ne_of_none hb hx) (e2 _ _ hb)
theorem ty_ord (O : TxO K mg CO oI mc pOf oOf oInv oAdd oEq) {H : Hp} {o : Addr} {ws : List Str} (h : OrdAt CG CO H o ws) : TyX K H (.ref o) (.ref CO) :=
  let ⟨_, _, _, _, _, a, _⟩ := h
  .base (.ins a O.cl O.ca O.cn O.ct O.cm)
def spOOf (CG CO : Addr) : Sp := fun vs H Q _ => ∃ (p : Addr) (ws : List Str), vs = [.ref CO, .ref p] ∧ H p = some (.lst (ws.map V.str)) ∧ OkW ws ∧ ∀ (o : Addr) (H' : Hp), Ext H H' → H o = none → OrdAt CG CO H' o ws → Q (.ref o) H'
theorem ok_order_of (B : TxB mg) (T : TxG K mg tL tM fIsWord CG gI gLen gAnd gEq) (O : TxO K mg CO oI mc pOf oOf oInv oAdd oEq) : FnR P w K mg base (L2.CX P w) 6 oOf (spOOf CG CO) := by
  obtain ⟨fd, F⟩ := O.F_of
  have G_oinit := ok_order_init (P := P) (w := w) (base := base) B T O
  refine fnP F sc_Order_of (fun _ _ _ _ _ _ us hl => match us, hl with | [_, _], _ => rfl) (fun vs H Q E h => ?_) (fun cdv A outer s H vs Q E hr h => ?_)
  · obtain ⟨p, ws, rfl, _⟩ := h
    rfl
  · refine ⟨_, PSs.nox (pss_cons (ps_if (pt_not (pt_val (pe_callB (call_isiTK (K := K) rfl) (by rfl) B.n_isinstance (by decide +kernel) (pa_cons (pv 1) (pa_cons (pe_tup (pa_cons (pe_bltn (v := .ty "list") (u := .type "list") (by rfl) B.n_list (by decide +kernel) rfl) (pa_cons (pe_bltn (v := .ty "tuple") (u := .type "tuple") (by rfl) B.n_tuple (by decide +kernel) rfl) pa_nil))) pa_nil)))))
(pss_one ps_never)
pss_nil)
(pss_one (ps_ret (pe_clsS1 (i := 0) (E := E0) O.mak G_oinit (hr.mono (by decide)) passL (pv 1))))), ?_⟩
    obtain ⟨p, ws, rfl, hp, ok, hQ⟩ := h
    refine ⟨_, rfl, ?_⟩
    refine ⟨by decide, fun t ht => ?_⟩
    have e1 := Ext.upd (o := HO.tup [V.ty "list", V.ty "tuple"]) ht
    refine ⟨_, t, _, .type "list", [.type "list", .type "tuple"], true, rfl, upd_same, .cons (.ty "list") (.cons (.ty "tuple") .nil), .base (.lst (e1 _ _ hp)), kitAny_cons (kit_ty (b := "list") (r := true) (by decide +kernel)) (fun z => nomatch z) (fun _ => rfl), _, rfl, ?_⟩
    refine iteF ?_
    refine ⟨rfl, _, rfl, p, _, rfl, .inr (SqL.of (e1 _ _ hp)), ?_⟩
    exact mk_order ok fun o H' e2 ho oo => hQ o H' (e1.trans e2) (ext_none e1 ho) oo
def spOInv (CG CO : Addr) : Sp := fun vs H Q _ => ∃ (a : Addr) (ws : List Str), vs = [.ref a] ∧ OrdAt CG CO H a ws ∧ OkW ws ∧ ∀ (o : Addr) (H' : Hp), Ext H H' → H o = none → OrdAt CG CO H' o ws.reverse → Q (.ref o) H'
theorem ok_order_inv (B : TxB mg) (T : TxG K mg tL tM fIsWord CG gI gLen gAnd gEq) (O : TxO K mg CO oI mc pOf oOf oInv oAdd oEq) : FnR P w K mg base (L2.CX P w) 6 oInv (spOInv CG CO) := by
  obtain ⟨fd, F⟩ := O.F_inv
  have G_oinit := ok_order_init (P := P) (w := w) (base := base) B T O
  refine fnP F sc_Order_invert (fun _ _ _ _ _ _ us hl => match us, hl with | [_], _ => rfl) (fun vs H Q E h => ?_) (fun cdv A outer s H vs Q E hr h => ?_)
  · obtain ⟨p, ws, rfl, _⟩ := h
    rfl
  · refine ⟨_, PSs.nox (pss_cons (ps_set (i := 1) sc_Order_invert.nd rfl (Or.inl rfl) (pe_revT (K := K) rfl (pe_fldK (K := K) rfl (pv 0))))
(pss_one (ps_ret (pe_mkS1 (E := E0) O.mak G_oinit (hr.mono (by decide)) (by rfl) O.g_Order passL (pv 1))))), ?_⟩
    obtain ⟨a, ws, rfl, oa, ok, hQ⟩ := h
    obtain ⟨dx, t, g, d, us, ha, ht, hg, ig⟩ := oa
    refine ⟨_, rfl, a, CO, dx, _, .ref t, rfl, ha, O.cl, O.row, rfl, ?_⟩
    refine ⟨t, _, rfl, SqT.of ht, fun p hp => ?_⟩
    have e1 := Ext.upd (o := HO.tup (ws.map V.str).reverse) hp
    refine ⟨_, rfl, p, _, rfl, .inl (SqT.of upd_same), ?_⟩
    rw [← List.map_reverse]
    rw [← List.map_reverse] at e1
    exact mk_order (ok.perm (List.reverse_perm ws)) fun o H' e2 ho oo => hQ o H' (e1.trans e2) (ext_none e1 ho) oo
def spOAdd (CG CO : Addr) : Sp := fun vs H Q _ => ∃ (a b : Addr) (ws us : List Str), vs = [.ref a, .ref b] ∧ OrdAt CG CO H a ws ∧ OrdAt CG CO H b us ∧ OkW (ws ++ us) ∧ ∀ (o : Addr) (H' : Hp), Ext H H' → H o = none → OrdAt CG CO H' o (ws ++ us) → Q (.ref o) H'
theorem ok_order_add (B : TxB mg) (T : TxG K mg tL tM fIsWord CG gI gLen gAnd gEq) (O : TxO K mg CO oI mc pOf oOf oInv oAdd oEq) : FnR P w K mg base (L2.CX P w) 6 oAdd (spOAdd CG CO) := by
  obtain ⟨fd, F⟩ := O.F_add
  have G_oinit := ok_order_init (P := P) (w := w) (base := base) B T O
  refine fnP F sc_Order_add (fun _ _ _ _ _ _ us hl => match us, hl with | [_, _], _ => rfl) (fun vs H Q E h => ?_) (fun cdv A outer s H vs Q E hr h => ?_)
  · obtain ⟨a, b, ws, us, rfl, _⟩ := h
    rfl
  · refine ⟨_, PSs.nox (pss_cons (ps_if (pt_not (pt_val (pe_callB (call_isiKK (K := K) rfl) (by rfl) B.n_isinstance (by decide +kernel) (pa_cons (pv 1) (pa_cons (pe_glob (v := .ref _) (by rfl) O.g_Order rfl) pa_nil)))))
(pss_one ps_never)
pss_nil)
(pss_cons (ps_for PassesOwn.never rfl (pi_tupK (K := K) rfl (pe_fldK (K := K) rfl (pv 1))) (pg_name (i := 2) sc_Order_add.nd rfl (Or.inl rfl))
(pss_one (ps_if (pt_cmpR (op_in_seqK (K := K) rfl) (pv 2) (pe_fldK (K := K) rfl (pv 0)) (by rfl))
(pss_one ps_never)
pss_nil)))
(pss_one (ps_ret (pe_mkSS (E := E0) O.mak G_oinit (hr.mono (by decide)) (by rfl) O.g_Order passL (StX.pa_star (pe_fldK (K := K) rfl (pv 0)) (StX.pa_star (pe_fldK (K := K) rfl (pv 1)) pa_nil))))))), ?_⟩
    obtain ⟨a, b, ws, us, rfl, oa, ob, ok, hQ⟩ := h
    refine ⟨_, rfl, .ref b, .ref CO, .ref CO, .ref CO, true, rfl, .own CO, ty_ord O ob, O.isi, _, rfl, ?_⟩
    refine iteF ?_
    obtain ⟨dx, t, g, d, us', ha, ht, hg, ig⟩ := oa
    obtain ⟨dy, t', g', d', us'', hb, ht', hg', ig'⟩ := ob
    refine ⟨_, rfl, b, CO, dy, _, .ref t', rfl, hb, O.cl, O.row, rfl, t', rfl, ⟨_, SqT.of ht'⟩, ?_⟩
    refine for_tup (xs := us.map V.str) (fun i (σ' : L2.St) H' => ∃ a2, σ' = [some (V.ref a), some (V.ref b), a2] ∧ H' = H) ?_ (fun i σ' H' _ hp' => ?_) (fun i y σ' H' hy hp' => ?_) (fun σ' H' hp' => ?_)
    · exact ⟨_, rfl, rfl⟩
    · obtain ⟨a2, rfl, rfl⟩ := hp'
      exact SqT.of ht'
    · obtain ⟨a2, rfl, rfl⟩ := hp'
      obtain ⟨u, hu, rfl⟩ := str_at hy
      have hun : u ∉ ws := fun z => (List.nodup_append.mp ok.nd).2.2 u z u (List.mem_of_getElem? hu) rfl
      have hv := Kp.inV_strs u ws
      refine ⟨_, rfl, _, rfl, a, CO, dx, _, .ref t, rfl, ha, O.cl, O.row, rfl, t, _, rfl, .inr (SqT.of ht), rfl, Kp.flat_strs ws, _, rfl, ?_⟩
      rw [hv, decide_eq_false hun]
      refine iteF ?_
      exact ⟨_, rfl, rfl⟩
    · obtain ⟨a2, rfl, rfl⟩ := hp'
      refine ⟨_, rfl, a, CO, dx, _, .ref t, rfl, ha, O.cl, O.row, rfl, t, _, rfl, .inl (SqT.of ht), ?_⟩
      refine ⟨_, rfl, b, CO, dy, _, .ref t', rfl, hb, O.cl, O.row, rfl, t', _, rfl, .inl (SqT.of ht'), ?_⟩
      have e : ws.map V.str ++ (us.map V.str ++ []) = (ws ++ us).map V.str := by rw [List.append_nil, List.map_append]
      show mkSp CO (spStar 1 (spOI K CG CO)) E0 (ws.map V.str ++ (us.map V.str ++ [])) H' Q
      rw [e]
      exact mk_order ok hQ
/-- two orders of one row -/
def OrdEq (CG CO : Addr) : Addr → Addr → Hp → Prop := fun a b H => ∃ ws, OrdAt CG CO H a ws ∧ OrdAt CG CO H b ws ∧ ∀ w ∈ ws, Wordy w
theorem ok_order_eq (B : TxB mg) (T : TxG K mg tL tM fIsWord CG gI gLen gAnd gEq) (O : TxO K mg CO oI mc pOf oOf oInv oAdd oEq) : FnR P w K mg base (L2.CX P w) 1 oEq (spEq (OrdEq CG CO)) := by
  obtain ⟨fd, F⟩ := O.F_eq
  refine fnP F sc_Order_eq (fun _ _ _ _ _ _ us hl => match us, hl with | [_, _], _ => rfl) (fun vs H Q E h => ?_) (fun cdv A outer s H vs Q E hr h => ?_)
  · obtain ⟨g, b, rfl, _⟩ := h
    rfl
  · refine ⟨_, PSs.nox (pss_one (ps_ret (pe_and (pe_callB (call_isiKK (K := K) rfl) (by rfl) B.n_isinstance (by decide +kernel) (pa_cons (pv 1) (pa_cons (pe_glob (v := .ref _) (by rfl) O.g_Order rfl) pa_nil))) (pe_one (pe_cmpR (op_eqDK (K := K) rfl hr.units) (pe_fldK (K := K) rfl (pv 0)) (pe_fldK (K := K) rfl (pv 1)) (nomark _)))))), ?_⟩
    obtain ⟨a, b, rfl, ⟨ws, oa, ob, hw⟩, hQ⟩ := h
    refine ⟨_, rfl, .ref b, .ref CO, .ref CO, .ref CO, true, rfl, .own CO, ty_ord O ob, O.isi, ?_⟩
    obtain ⟨dx, t, g, d, us', ha, ht, hg, ig⟩ := oa
    obtain ⟨dy, t', g', d', us'', hb, ht', hg', ig'⟩ := ob
    refine ⟨true, rfl, iteT ?_⟩
    refine ⟨_, rfl, a, CO, dx, _, .ref t, rfl, ha, O.cl, O.row, rfl, ?_⟩
    refine ⟨_, rfl, b, CO, dy, _, .ref t', rfl, hb, O.cl, O.row, rfl, ?_⟩
    refine ⟨_, _, Dp.tup (SqT.of ht) (dp_strs ws), Dp.tup (SqT.of ht') (dp_strs ws), shaped_strsT fun c hc => letS_ok (hw c hc).1, shaped_strsT fun c hc => letS_ok (hw c hc).1, ?_⟩
    rw [eqv_strsT, decide_eq_true rfl]
    exact hQ H Ext.rfl'
end
end Kq
set_option maxHeartbeats 4000000
namespace Kq
open PySem PySem.Spec PyProof.Rows L2 Kp
open Evl (Ev EvL EvT EvA given)
/-! ### books -/
structure TxBk (K : PySem.W.Frag) (mg : Str → Option Value) (tO : Tok) (CG CO CB fIsInt bI bNW bNP bCh bTu bLen bIx bAdd bEq pOf bOf pChs bChs : Addr) (mc : Value) : Prop where
  n_bool : mg "bool" = none
  g_Book : mg "Book" = some (.ref CB)
  g_MOST_ORDERS : mg "MOST_ORDERS" = some (.int 8 tO)
  g_is_integer : mg "is_integer" = some (.ref fIsInt)
  k_is_integer : PySem.W.keepIn K (.ref fIsInt) = true
  F_is_integer : ∃ fd, Fun K "is_integer" "is_integer" s_is_integer fIsInt fd
  cl : Cls K CB
  mak : Mk K CB bI
  sf : PySem.W.selfFirst K CB = true
  group : NoAttr K CB "group"
  held : NoAttr K CB "held"
  past : NoAttr K CB "past"
  ca : PySem.W.findIn K (.ref CB) "__class__" = some (some (.builtin "object.__class__"))
  cn : PySem.W.specialIn K (.builtin "object.__class__") "__get__" = some (some (.builtin "getset_descriptor.__get__"))
  ct : PySem.W.takesIn K (.builtin "object.__class__") = some true
  cm : PySem.W.mroIn K CB (.type "object") = some true
  isi : PySem.W.kitOne K (.ref CB) (.ref CB) = some true
  isl : PySem.W.kitOne K (.ref CB) (.type "list") = some false
  m_need_words : Meth K CB "need_words" bNW
  m_need_place : Meth K CB "need_place" bNP
  m_change : Meth K CB "change" bCh
  m_turn : Meth K CB "turn" bTu
  len : OwnM K CB "__len__" bLen
  ix : OwnM K CB "__getitem__" bIx
  add : OwnM K CB "__add__" bAdd
  eq : OwnM K CB "__eq__" bEq
  ne : PySem.W.findIn K (.ref CB) "__ne__" = some (some (.builtin "object.__ne__"))
  rd : ClX.CRead K CB mc
  ofm : ClX.CMet K CB mc "of" pOf bOf
  chs : PropOf K CB "changes" pChs bChs
  nG : CB ≠ CG
  nO : CB ≠ CO
  F_init : ∃ fd, Fun K "__init__" "Book.__init__" s_Book_init bI fd
  F_of : ∃ fd, Fun K "of" "Book.of" s_Book_of bOf fd
  F_changes : ∃ fd, Fun K "changes" "Book.changes" s_Book_changes bChs fd
  F_need_words : ∃ fd, Fun K "need_words" "Book.need_words" s_Book_need_words bNW fd
  F_need_place : ∃ fd, Fun K "need_place" "Book.need_place" s_Book_need_place bNP fd
  F_change : ∃ fd, Fun K "change" "Book.change" s_Book_change bCh fd
  F_turn : ∃ fd, Fun K "turn" "Book.turn" s_Book_turn bTu fd
  F_len : ∃ fd, Fun K "__len__" "Book.__len__" s_Book_len bLen fd
  F_getitem : ∃ fd, Fun K "__getitem__" "Book.__getitem__" s_Book_getitem bIx fd
  F_add : ∃ fd, Fun K "__add__" "Book.__add__" s_Book_add bAdd fd
  F_eq : ∃ fd, Fun K "__eq__" "Book.__eq__" s_Book_eq bEq fd
/-- orders at os: their rows -/
def OrdsAt (CG CO : Addr) (H : Hp) (os : List Addr) (wss : List (List Str)) : Prop := os.length = wss.length ∧ ∀ (i : Nat) o ws, os[i]? = some o → wss[i]? = some ws → OrdAt CG CO H o ws
theorem OrdsAt.ext {CG CO : Addr} {H H' : Hp} {os : List Addr} {wss : List (List Str)} (h : OrdsAt CG CO H os wss) (e : Ext H H') : OrdsAt CG CO H' os wss := ⟨h.1, fun i o ws a b => (h.2 i o ws a b).ext e⟩
/-- rows that a book takes -/
structure OkB (us : List Str) (wss : List (List Str)) : Prop where
  ne : wss ≠ []
  few : wss.length ≤ 8
  ok : ∀ ws ∈ wss, OkW ws
  same : ∀ ws ∈ wss, IsG us ws
structure BkX (CG CO CB : Addr) (H : Hp) (b g h p : Addr) (os : List Addr) (us : List Str) (wss : List (List Str)) (n : Nat) : Prop where
  at_ : ∃ dx, H b = some (.ins CB dx [("group", .ref g), ("held", .ref h), ("past", .ref p)])
  grp : GrpAt CG H g us
  held : H h = some (.lst (os.map V.ref))
  past : ∃ ps, H p = some (.lst ps) ∧ ps.length = n
  ords : OrdsAt CG CO H os wss
  ok : OkB us wss
/-- a book at b: the rows of its orders, n changes -/
def BkAt (CG CO CB : Addr) (H : Hp) (b : Addr) (wss : List (List Str)) (n : Nat) : Prop := ∃ g h p os us, BkX CG CO CB H b g h p os us wss n
theorem BkX.ext {CG CO CB : Addr} {H H' : Hp} {b g h p : Addr} {os : List Addr} {us : List Str} {wss : List (List Str)} {n : Nat} (k : BkX CG CO CB H b g h p os us wss n) (e : Ext H H') : BkX CG CO CB H' b g h p os us wss n :=
  ⟨let ⟨dx, a⟩ := k.at_; ⟨dx, e _ _ a⟩, k.grp.ext e, e _ _ k.held, let ⟨ps, a, c⟩ := k.past; ⟨ps, e _ _ a, c⟩, k.ords.ext e, k.ok⟩
theorem BkAt.ext {CG CO CB : Addr} {H H' : Hp} {b : Addr} {wss : List (List Str)} {n : Nat} (k : BkAt CG CO CB H b wss n) (e : Ext H H') : BkAt CG CO CB H' b wss n :=
  let ⟨g, h, p, os, us, k⟩ := k
  ⟨g, h, p, os, us, k.ext e⟩
/-- what stands at D is no part of a group or an order -/
structure Off (CG CO : Addr) (H : Hp) (D : Addr) : Prop where
  g : ∀ dx fs, H D ≠ some (.ins CG dx fs)
  o : ∀ dx fs, H D ≠ some (.ins CO dx fs)
  t : ∀ xs, H D ≠ some (.tup xs)
theorem Off.lst {CG CO : Addr} {H : Hp} {D : Addr} {xs : List V} (h : H D = some (.lst xs)) : Off CG CO H D  := by
  refine ⟨fun _ _ z => ?_, fun _ _ z => ?_, fun _ z => ?_⟩ <;> · rw [h] at z; cases z
theorem GrpAt.kept {CG CO D : Addr} {H H' : Hp} {g : Addr} {ws : List Str} (h : GrpAt CG H g ws) (n : Off CG CO H D) (e : Kept D H H') : GrpAt CG H' g ws :=
  let ⟨dx, t, a, b⟩ := h
  ⟨dx, t, e _ _ (fun z => n.g _ _ (z ▸ a)) a, e _ _ (fun z => n.t _ (z ▸ b)) b⟩
theorem OrdAt.kept {CG CO D : Addr} {H H' : Hp} {o : Addr} {ws : List Str} (h : OrdAt CG CO H o ws) (n : Off CG CO H D) (e : Kept D H H') : OrdAt CG CO H' o ws :=
  let ⟨dx, t, g, d, us, a, b, c, i⟩ := h
  ⟨dx, t, g, d, us, e _ _ (fun z => n.o _ _ (z ▸ a)) a, e _ _ (fun z => n.t _ (z ▸ b)) b, c.kept n e, i⟩
theorem BkX.kept {CG CO CB D : Addr} {H H' : Hp} {b g h p : Addr} {os : List Addr} {us : List Str} {wss : List (List Str)} {n : Nat} (k : BkX CG CO CB H b g h p os us wss n) (f : Off CG CO H D) (nb : b ≠ D) (nh : h ≠ D) (np : p ≠ D) (e : Kept D H H') : BkX CG CO CB H' b g h p os us wss n :=
  ⟨let ⟨dx, a⟩ := k.at_; ⟨dx, e _ _ nb a⟩, k.grp.kept f e, e _ _ nh k.held, let ⟨ps, a, c⟩ := k.past; ⟨ps, e _ _ np a, c⟩, ⟨k.ords.1, fun i o ws a c => (k.ords.2 i o ws a c).kept f e⟩, k.ok⟩
def spIsInt : Sp := fun vs H Q _ => ∃ v a b : Int, vs = [.int v, .int a, .int b] ∧ a ≤ v ∧ v ≤ b ∧ Q (.bl true) H
section
variable {P : Program} {w : World} {K : PySem.W.Frag} {mg : Str → Option Value} {base : Heap} {tL tM tO : Tok} {fIsWord CG gI gLen gAnd gEq CO oI pOf oOf oInv oAdd oEq CB fIsInt bI bNW bNP bCh bTu bLen bIx bAdd bEq pOfB bOf pChs bChs : Addr} {mc mcB : Value}
theorem ok_is_integer (B : TxB mg) (Bk : TxBk K mg tO CG CO CB fIsInt bI bNW bNP bCh bTu bLen bIx bAdd bEq pOfB bOf pChs bChs mcB) : FnR P w K mg base (L2.CX P w) 1 fIsInt spIsInt := by
  obtain ⟨fd, F⟩ := Bk.F_is_integer
  refine fnP F sc_is_integer (fun _ _ _ _ _ _ us hl => match us, hl with | [_, _, _], _ => rfl) (fun vs H Q E h => ?_) (fun cdv A outer s H vs Q E hr h => ?_)
  · obtain ⟨v, a, b, rfl, _⟩ := h
    rfl
  · refine ⟨_, PSs.nox (pss_cons (ps_if (PW.pt (pw_or (pt_val (pe_callB (call_isiKK (K := K) rfl) (by rfl) B.n_isinstance (by decide +kernel) (pa_cons (pv 0) (pa_cons (pe_bltn (v := .ty "bool") (u := .type "bool") (by rfl) Bk.n_bool (by decide +kernel) rfl) pa_nil)))) (pw_or1 (pt_not (pt_val (pe_callB (call_isiKK (K := K) rfl) (by rfl) B.n_isinstance (by decide +kernel) (pa_cons (pv 0) (pa_cons (pe_bltn (v := .ty "int") (u := .type "int") (by rfl) B.n_int (by decide +kernel) rfl) pa_nil))))))))
(pss_one (ps_ret pe_bl))
pss_nil)
(pss_one (ps_ret (pe_chain op_le op_le (pv 1) (pv 0) (pv 2))))), ?_⟩
    obtain ⟨v, a, b, rfl, h1, h2, hQ⟩ := h
    refine ⟨_, rfl, .int v, _, .type "int", .type "bool", false, rfl, .ty "bool", .base (.int v), kit_ty (by decide +kernel), _, rfl, ?_⟩
    refine iteF ?_
    refine ⟨_, rfl, .int v, _, .type "int", .type "int", true, rfl, .ty "int", .base (.int v), kit_ty (by decide +kernel), _, rfl, ?_⟩
    refine iteF ?_
    refine ⟨_, rfl, _, rfl, _, _, rfl, rfl, _, rfl, ?_⟩
    rw [decide_eq_true h1]
    refine iteT ?_
    refine ⟨_, rfl, _, _, rfl, rfl, ?_⟩
    show Q (V.bl (decide (v ≤ b))) H
    rw [decide_eq_true h2]
    exact hQ
def spNW (CG CO CB : Addr) : Sp := fun vs H Q _ => ∃ (b o : Addr) (dx : Addr) (g : Addr) (fs : List (Str × V)) (us ws : List Str), vs = [.ref b, .ref o] ∧ H b = some (.ins CB dx (("group", .ref g) :: fs)) ∧ GrpAt CG H g us ∧ OrdAt CG CO H o ws ∧ IsG us ws ∧ (∀ w ∈ ws, Wordy w) ∧ Q .non H
theorem ok_need_words (B : TxB mg) (T : TxG K mg tL tM fIsWord CG gI gLen gAnd gEq) (O : TxO K mg CO oI mc pOf oOf oInv oAdd oEq) (Bk : TxBk K mg tO CG CO CB fIsInt bI bNW bNP bCh bTu bLen bIx bAdd bEq pOfB bOf pChs bChs mcB) :
    FnR P w K mg base (L2.CX P w) 3 bNW (spNW CG CO CB) := by
  obtain ⟨fd, F⟩ := Bk.F_need_words
  have G_eq := ok_group_eq (P := P) (w := w) (base := base) B T
  refine fnP F sc_Book_need_words (fun _ _ _ _ _ _ us hl => match us, hl with | [_, _], _ => rfl) (fun vs H Q E h => ?_) (fun cdv A outer s H vs Q E hr h => ?_)
  · obtain ⟨b, o, dx, g, fs, us, ws, rfl, _⟩ := h
    rfl
  · refine ⟨_, PSs.nox (pss_one (ps_if (pt_cmpR (op_neO (E := E0) T.ne T.cm T.eq.at_ T.eq.fn G_eq (hr.mono (by decide)) passL) (pe_fldK (K := K) rfl (pv 1)) (pe_fldK (K := K) rfl (pv 0)) (nomark _))
(pss_one ps_never)
pss_nil)), ?_⟩
    obtain ⟨b, o, dx, g, fs, us, ws, rfl, hb, hg, ho, ig, hw, hQ⟩ := h
    obtain ⟨dy, t, g', d, us', ha, ht, hg', ig'⟩ := ho
    refine ⟨_, rfl, o, CO, dy, _, .ref g', rfl, ha, O.cl, O.group, rfl, ?_⟩
    refine ⟨_, rfl, b, CB, dx, _, .ref g, rfl, hb, Bk.cl, Bk.group, rfl, ?_⟩
    have e : us' = us := ig'.unique ig fun _ => Iff.rfl
    have hu : ∀ w ∈ us, Wordy w := fun x hx => hw x ((ig.mem x).mp hx)
    rw [e] at hg'
    obtain ⟨d1, t1, q1, r1⟩ := id hg'
    obtain ⟨d2, t2, q2, r2⟩ := id hg
    refine ⟨g', d1, _, g, d2, _, rfl, rfl, q1, q2, g', g, us, us, rfl, hg', hg, hu, hu, _, rfl, ?_⟩
    rw [decide_eq_true rfl]
    refine ⟨_, rfl, iteF ?_⟩
    exact hQ
end
end Kq
set_option maxHeartbeats 4000000
namespace Kq
open PySem PySem.Spec PyProof.Rows L2 Kp
open Evl (Ev EvL EvT EvA given)
def spNP (CG CO CB : Addr) : Sp := fun vs H Q _ => ∃ (b : Addr) (i : Int) (wss : List (List Str)) (n : Nat), vs = [.ref b, .int i] ∧ BkAt CG CO CB H b wss n ∧ 0 ≤ i ∧ i < wss.length ∧ Q .non H
def spBLen (CG CO CB : Addr) : Sp := fun vs H Q _ => ∃ (b : Addr) (wss : List (List Str)) (n : Nat), vs = [.ref b] ∧ BkAt CG CO CB H b wss n ∧ Q (.int wss.length) H
def spBCh (CG CO CB : Addr) : Sp := fun vs H Q _ => ∃ (b : Addr) (wss : List (List Str)) (n : Nat), vs = [.ref b] ∧ BkAt CG CO CB H b wss n ∧ n ≤ 1000 ∧ Q (.int n) H
def spBIx (CG CO CB : Addr) : Sp := fun vs H Q _ => ∃ (b : Addr) (i : Nat) (wss : List (List Str)) (n : Nat), vs = [.ref b, .int i] ∧ BkAt CG CO CB H b wss n ∧ i < wss.length ∧ ∀ (o : Addr) (ws : List Str), wss[i]? = some ws → OrdAt CG CO H o ws → Q (.ref o) H
def spChange (CB : Addr) : Sp := fun vs H Q _ => ∃ (b q dx g h p : Addr) (hs ps : List V), vs = [.ref b, .ref q] ∧ H b = some (.ins CB dx [("group", .ref g), ("held", .ref h), ("past", .ref p)]) ∧ H p = some (.lst ps) ∧ ps.length ≤ 1000 ∧ ∀ H', Kept b H H' → Q .non H'
def spTurn (CG CO CB : Addr) : Sp := fun vs H Q _ => ∃ (b : Addr) (i : Nat) (wss : List (List Str)) (n : Nat), vs = [.ref b, .int i] ∧ BkAt CG CO CB H b wss n ∧ n ≤ 1000 ∧ i < wss.length ∧ ∀ H', Kept b H H' → Q .non H'
section
variable {P : Program} {w : World} {K : PySem.W.Frag} {mg : Str → Option Value} {base : Heap} {tL tM tO : Tok} {fIsWord CG gI gLen gAnd gEq CO oI pOf oOf oInv oAdd oEq CB fIsInt bI bNW bNP bCh bTu bLen bIx bAdd bEq pOfB bOf pChs bChs : Addr} {mc mcB : Value}
theorem ok_need_place (B : TxB mg) (Bk : TxBk K mg tO CG CO CB fIsInt bI bNW bNP bCh bTu bLen bIx bAdd bEq pOfB bOf pChs bChs mcB) : FnR P w K mg base (L2.CX P w) 2 bNP (spNP CG CO CB) := by
  obtain ⟨fd, F⟩ := Bk.F_need_place
  have G_is_integer := ok_is_integer (P := P) (w := w) (base := base) B Bk
  refine fnP F sc_Book_need_place (fun _ _ _ _ _ _ us hl => match us, hl with | [_, _], _ => rfl) (fun vs H Q E h => ?_) (fun cdv A outer s H vs Q E hr h => ?_)
  · obtain ⟨b, i, wss, n, rfl, _⟩ := h
    rfl
  · refine ⟨_, PSs.nox (pss_one (ps_if (pt_not (pt_val (pe_callR G_is_integer (hr.mono (by decide)) Bk.k_is_integer (by rfl) Bk.g_is_integer passL (pa_cons (pv 1) (pa_cons pe_int (pa_cons (pe_op op_sub (pe_callB (call_lenK (K := K) rfl) (by rfl) B.n_len (by decide +kernel) (pa_cons (pe_fldK (K := K) rfl (pv 0)) pa_nil)) pe_int) pa_nil))))))
(pss_one ps_never)
pss_nil)), ?_⟩
    obtain ⟨b, i, wss, n, rfl, ⟨g, h, p, os, us, k⟩, h0, h1, hQ⟩ := h
    obtain ⟨dx, hb⟩ := k.at_
    have hl := k.ords.1
    refine ⟨_, rfl, _, rfl, b, CB, dx, _, .ref h, rfl, hb, Bk.cl, Bk.held, rfl, _, os.length, rfl, .inl ⟨_, SqL.of k.held, by simp⟩, _, _, rfl, rfl, i, 0, _, rfl, h0, by omega, _, rfl, ?_⟩
    refine iteF ?_
    exact hQ
theorem ok_book_len (B : TxB mg) (Bk : TxBk K mg tO CG CO CB fIsInt bI bNW bNP bCh bTu bLen bIx bAdd bEq pOfB bOf pChs bChs mcB) : FnR P w K mg base (L2.CX P w) 1 bLen (spBLen CG CO CB) := by
  obtain ⟨fd, F⟩ := Bk.F_len
  refine fnP F sc_Book_len (fun _ _ _ _ _ _ us hl => match us, hl with | [_], _ => rfl) (fun vs H Q E h => ?_) (fun cdv A outer s H vs Q E hr h => ?_)
  · obtain ⟨b, wss, n, rfl, _⟩ := h
    rfl
  · refine ⟨_, PSs.nox (pss_one (ps_ret (pe_callB (call_lenK (K := K) rfl) (by rfl) B.n_len (by decide +kernel) (pa_cons (pe_fldK (K := K) rfl (pv 0)) pa_nil)))), ?_⟩
    obtain ⟨b, wss, n, rfl, ⟨g, h, p, os, us, k⟩, hQ⟩ := h
    obtain ⟨dx, hb⟩ := k.at_
    rw [← k.ords.1] at hQ
    exact ⟨_, rfl, b, CB, dx, _, .ref h, rfl, hb, Bk.cl, Bk.held, rfl, _, os.length, rfl, .inl ⟨_, SqL.of k.held, by simp⟩, hQ⟩
theorem ok_book_changes (B : TxB mg) (Bk : TxBk K mg tO CG CO CB fIsInt bI bNW bNP bCh bTu bLen bIx bAdd bEq pOfB bOf pChs bChs mcB) : FnR P w K mg base (L2.CX P w) 1 bChs (spBCh CG CO CB) := by
  obtain ⟨fd, F⟩ := Bk.F_changes
  refine fnP F sc_Book_changes (fun _ _ _ _ _ _ us hl => match us, hl with | [_], _ => rfl) (fun vs H Q E h => ?_) (fun cdv A outer s H vs Q E hr h => ?_)
  · obtain ⟨b, wss, n, rfl, _⟩ := h
    rfl
  · refine ⟨_, PSs.nox (pss_one (ps_ret (pe_callB (call_lenK (K := K) rfl) (by rfl) B.n_len (by decide +kernel) (pa_cons (pe_fldK (K := K) rfl (pv 0)) pa_nil)))), ?_⟩
    obtain ⟨b, wss, n, rfl, ⟨g, h, p, os, us, k⟩, hn, hQ⟩ := h
    obtain ⟨dx, hb⟩ := k.at_
    obtain ⟨ps, hp, rfl⟩ := k.past
    exact ⟨_, rfl, b, CB, dx, _, .ref p, rfl, hb, Bk.cl, Bk.past, rfl, _, ps.length, rfl, .inl ⟨_, SqL.of hp, rfl⟩, hQ⟩
theorem ok_book_ix (B : TxB mg) (Bk : TxBk K mg tO CG CO CB fIsInt bI bNW bNP bCh bTu bLen bIx bAdd bEq pOfB bOf pChs bChs mcB) : FnR P w K mg base (L2.CX P w) 3 bIx (spBIx CG CO CB) := by
  obtain ⟨fd, F⟩ := Bk.F_getitem
  have G_np := ok_need_place (P := P) (w := w) (base := base) B Bk
  refine fnP F sc_Book_getitem (fun _ _ _ _ _ _ us hl => match us, hl with | [_, _], _ => rfl) (fun vs H Q E h => ?_) (fun cdv A outer s H vs Q E hr h => ?_)
  · obtain ⟨b, i, wss, n, rfl, _⟩ := h
    rfl
  · refine ⟨_, PSs.nox (pss_cons (ps_expr (Kp.pe_methR (E := E0) (pv 0) Bk.cl Bk.m_need_place G_np (hr.mono (by decide)) passL (pa_cons (pv 1) pa_nil)))
(pss_one (ps_ret (pe_ix (ix_listK (K := K) rfl) (pe_fldK (K := K) rfl (pv 0)) (pv 1) (fun _ _ => rfl))))), ?_⟩
    obtain ⟨b, i, wss, n, rfl, bk, h1, hQ⟩ := h
    obtain ⟨g, h, p, os, us, k⟩ := id bk
    obtain ⟨dx, hb⟩ := k.at_
    have hl := k.ords.1
    refine ⟨_, rfl, b, dx, _, rfl, hb, rfl, _, rfl, b, i, wss, n, rfl, bk, by omega, by omega, ?_⟩
    have ho : os[i]? = some os[i] := List.getElem?_eq_getElem (by omega)
    have hw : wss[i]? = some wss[i] := List.getElem?_eq_getElem h1
    refine ⟨_, rfl, b, CB, dx, _, .ref h, rfl, hb, Bk.cl, Bk.held, rfl, _, rfl, h, _, _, _, rfl, rfl, SqL.of k.held, atI_nat (by rw [List.getElem?_map, ho]; rfl), ?_⟩
    exact hQ _ _ hw (k.ords.2 i _ _ ho hw)
theorem ok_book_change (B : TxB mg) (Bk : TxBk K mg tO CG CO CB fIsInt bI bNW bNP bCh bTu bLen bIx bAdd bEq pOfB bOf pChs bChs mcB) : FnR P w K mg base (L2.CX P w) 1 bCh (spChange CB) := by
  obtain ⟨fd, F⟩ := Bk.F_change
  refine fnP F sc_Book_change (fun _ _ _ _ _ _ us hl => match us, hl with | [_, _], _ => rfl) (fun vs H Q E h => ?_) (fun cdv A outer s H vs Q E hr h => ?_)
  · obtain ⟨b, q, dx, g, h, p, hs, ps, rfl, _⟩ := h
    rfl
  · refine ⟨_, PSs.nox (pss_cons (ps_fld (pv 0) (pe_lst (StX.pa_star (pe_fldK (K := K) rfl (pv 0)) (pa_cons (pe_fldK (K := K) rfl (pv 0)) pa_nil))) rfl)
(pss_one (ps_fld (pv 0) (pv 1) rfl))), ?_⟩
    obtain ⟨b, q, dx, g, h, p, hs, ps, rfl, hb, hp, hl, hQ⟩ := h
    refine ⟨_, rfl, b, CB, dx, _, .ref p, rfl, hb, Bk.cl, Bk.past, rfl, p, ps, rfl, .inr (SqL.of hp), ?_⟩
    refine ⟨_, rfl, b, CB, dx, _, .ref h, rfl, hb, Bk.cl, Bk.held, rfl, ?_⟩
    refine ⟨by show (ps ++ [V.ref h]).length ≤ _; rw [List.length_append]; exact Nat.le_trans (Nat.succ_le_succ hl) (by decide), fun p' hp' => ?_⟩
    have e1 := Ext.upd (o := HO.lst (ps ++ [V.ref h])) hp'
    refine ⟨_, rfl, b, CB, dx, _, rfl, e1 _ _ hb, Bk.cl, Bk.past, by simp, ?_⟩
    refine ⟨_, rfl, _, rfl, b, CB, dx, _, rfl, upd_same, Bk.cl, Bk.held, (show (3 : Nat) < 1000 by decide), ?_⟩
    refine hQ _ fun a o na ha => ?_
    rw [upd_ne na, upd_ne na]
    exact e1 _ _ ha
theorem ok_book_turn (B : TxB mg) (T : TxG K mg tL tM fIsWord CG gI gLen gAnd gEq) (O : TxO K mg CO oI mc pOf oOf oInv oAdd oEq) (Bk : TxBk K mg tO CG CO CB fIsInt bI bNW bNP bCh bTu bLen bIx bAdd bEq pOfB bOf pChs bChs mcB) : FnR P w K mg base (L2.CX P w) 7 bTu (spTurn CG CO CB) := by
  obtain ⟨fd, F⟩ := Bk.F_turn
  have G_np := ok_need_place (P := P) (w := w) (base := base) B Bk
  have G_ch := ok_book_change (P := P) (w := w) (base := base) B Bk
  have G_inv := ok_order_inv (P := P) (w := w) (base := base) B T O
  refine fnP F sc_Book_turn (fun _ _ _ _ _ _ us hl => match us, hl with | [_, _], _ => rfl) (fun vs H Q E h => ?_) (fun cdv A outer s H vs Q E hr h => ?_)
  · obtain ⟨b, i, wss, n, rfl, _⟩ := h
    rfl
  · refine ⟨_, PSs.nox (pss_cons (ps_expr (Kp.pe_methR (E := E0) (pv 0) Bk.cl Bk.m_need_place G_np (hr.mono (by decide)) passL (pa_cons (pv 1) pa_nil)))
(pss_one (ps_expr (Kp.pe_methR (E := E0) (pv 0) Bk.cl Bk.m_change G_ch (hr.mono (by decide)) passL (pa_cons (pe_lst (StX.pa_star (pe_slice (sl_listK (K := K) rfl) (pe_fldK (K := K) rfl (pv 0)) po_none (po_some (pv 1))) (pa_cons (pe_un (un_own (E := E0) O.inv.at_ O.inv.fn G_inv (hr.mono (by decide)) passL) (pe_ix (ix_listK (K := K) rfl) (pe_fldK (K := K) rfl (pv 0)) (pv 1) (fun _ _ => rfl))) (StX.pa_star (pe_slice (sl_listK (K := K) rfl) (pe_fldK (K := K) rfl (pv 0)) (po_some (pe_op op_add (pv 1) pe_int)) po_none) pa_nil)))) pa_nil))))), ?_⟩
    obtain ⟨b, i, wss, n, rfl, bk, hn, h1, hQ⟩ := h
    obtain ⟨g, h, p, os, us, k⟩ := id bk
    obtain ⟨dx, hb⟩ := k.at_
    have hl := k.ords.1
    refine ⟨_, rfl, b, dx, _, rfl, hb, rfl, _, rfl, b, i, wss, n, rfl, bk, by omega, by omega, ?_⟩
    refine ⟨_, rfl, b, dx, _, rfl, hb, rfl, ?_⟩
    refine ⟨_, rfl, b, CB, dx, _, .ref h, rfl, hb, Bk.cl, Bk.held, rfl, ?_⟩
    refine ⟨_, rfl, i, rfl, h, os.map V.ref, rfl, SqL.of k.held, fun p1 hp1 => ?_⟩
    generalize hh1 : upd H p1 _ = H1
    have e1 : Ext H H1 := hh1 ▸ Ext.upd hp1
    have o1 : H1 p1 = some (.lst (cutV (os.map V.ref) none (some i))) := by
      rw [← hh1]
      exact upd_same
    have k1 := k.ext e1
    have ho : os[i]? = some os[i] := List.getElem?_eq_getElem (by omega)
    have hw : wss[i]? = some wss[i] := List.getElem?_eq_getElem h1
    have oo := k1.ords.2 i _ _ ho hw
    obtain ⟨dy, t, g', d, us', ha, _, _, _⟩ := id oo
    refine ⟨p1, _, rfl, .inr (SqL.of o1), ?_⟩
    refine ⟨_, rfl, b, CB, dx, _, .ref h, rfl, e1 _ _ hb, Bk.cl, Bk.held, rfl, _, rfl, h, _, _, _, rfl, rfl, SqL.of k1.held, atI_nat (by rw [List.getElem?_map, ho]; rfl), os[i], dy, _, rfl, ha, os[i], wss[i], rfl, oo, k.ok.ok _ (List.getElem_mem h1), fun o2 H2 e2 _ _ => ?_⟩
    have k2 := k1.ext e2
    obtain ⟨dx2, hb2⟩ := k2.at_
    refine ⟨_, rfl, b, CB, dx2, _, .ref h, rfl, hb2, Bk.cl, Bk.held, rfl, ?_⟩
    refine ⟨_, rfl, _, _, rfl, rfl, _, rfl, h, _, rfl, SqL.of k2.held, fun p3 hp3 => ?_⟩
    generalize hh3 : upd H2 p3 _ = H3
    have e3 : Ext H2 H3 := hh3 ▸ Ext.upd hp3
    have o3 : H3 p3 = some (.lst (cutV (os.map V.ref) (some ((i : Int) + 1)) none)) := by
      rw [← hh3]
      exact upd_same
    have k3 := k2.ext e3
    refine ⟨p3, _, rfl, .inr (SqL.of o3), ?_⟩
    have c1 := cutV_length (os.map V.ref) none (some (i : Int))
    have c2 := cutV_length (os.map V.ref) (some ((i : Int) + 1)) none
    have c3 : (os.map V.ref).length ≤ 8 := by rw [List.length_map, hl]; exact k.ok.few
    refine ⟨?_, fun q hq => ?_⟩
    · have c4 : (cutV (os.map V.ref) none (some (i : Int)) ++ V.ref o2 :: (cutV (os.map V.ref) (some ((i : Int) + 1)) none ++ [])).length ≤ 17 := by
        simp only [List.length_append, List.length_cons, List.length_nil]
        omega
      exact Nat.le_trans c4 (by decide)
    · generalize hh4 : upd H3 q _ = H4
      have e4 : Ext H3 H4 := hh4 ▸ Ext.upd hq
      have k4 := k3.ext e4
      obtain ⟨dx4, hb4⟩ := k4.at_
      obtain ⟨ps, hps, hpl⟩ := k4.past
      exact ⟨b, q, dx4, g, h, p, [], ps, rfl, hb4, hps, by omega, fun H' e5 => hQ H' fun a o na ha => e5 _ _ na (e4 _ _ (e3 _ _ (e2 _ _ (e1 _ _ ha))))⟩
end
end Kq
set_option maxHeartbeats 4000000
namespace Kq
open PySem PySem.Spec PyProof.Rows L2 Kp
open Evl (Ev EvL EvT EvA given)
theorem ref_at {os : List Addr} {i : Nat} {y : V} (h : (os.map V.ref)[i]? = some y) : ∃ o, os[i]? = some o ∧ y = .ref o := by
  rw [List.getElem?_map] at h
  cases q : os[i]? with
  | none => rw [q] at h; cases h
  | some o => rw [q] at h; exact ⟨o, rfl, (Option.some.inj h).symm⟩
theorem OrdsAt.get {CG CO : Addr} {H : Hp} {os : List Addr} {wss : List (List Str)} (h : OrdsAt CG CO H os wss) {i : Nat} {o : Addr} (ho : os[i]? = some o) : ∃ ws, wss[i]? = some ws ∧ ws ∈ wss ∧ OrdAt CG CO H o ws := by
  have hi : i < wss.length := by rw [← h.1]; exact (List.getElem?_eq_some_iff.mp ho).1
  have hw : wss[i]? = some wss[i] := List.getElem?_eq_getElem hi
  exact ⟨_, hw, List.getElem_mem hi, h.2 i o _ ho hw⟩
def spBI (CG CO CB : Addr) : Sp := fun vs H Q _ => ∃ (x p dx : Addr) (os : List Addr) (us : List Str) (wss : List (List Str)), vs = [.ref x, .ref p] ∧ H x = some (.ins CB dx []) ∧ H p = some (.tup (os.map V.ref)) ∧ OrdsAt CG CO H os wss ∧ OkB us wss ∧
  ∀ (g h q : Addr) (H' : Hp), H h = none → H q = none → Kept x H H' → BkX CG CO CB H' x g h q os us wss 0 → Q .non H'
theorem kept_none {x a : Addr} {H H' : Hp} {o : HO} (e : Kept x H H') (hx : H' x = some o) (h : H' a = none) : H a = none := by
  cases q : H a with
  | none => rfl
  | some u =>
    have n : a ≠ x := fun z => by rw [z, hx] at h; cases h
    rw [e _ _ n q] at h
    cases h
section
variable {P : Program} {w : World} {K : PySem.W.Frag} {mg : Str → Option Value} {base : Heap} {tL tM tO : Tok} {fIsWord CG gI gLen gAnd gEq CO oI pOf oOf oInv oAdd oEq CB fIsInt bI bNW bNP bCh bTu bLen bIx bAdd bEq pOfB bOf pChs bChs : Addr} {mc mcB : Value}
theorem ok_book_init (B : TxB mg) (T : TxG K mg tL tM fIsWord CG gI gLen gAnd gEq) (O : TxO K mg CO oI mc pOf oOf oInv oAdd oEq) (Bk : TxBk K mg tO CG CO CB fIsInt bI bNW bNP bCh bTu bLen bIx bAdd bEq pOfB bOf pChs bChs mcB) : FnR P w K mg base (L2.CX P w) 4 bI (spStar 1 (spBI CG CO CB)) := by
  obtain ⟨fd, F⟩ := Bk.F_init
  have G_nw := ok_need_words (P := P) (w := w) (base := base) B T O Bk
  refine fnS (ps := ["self"]) F sc_Book_init (fun kV doc pm an cdv ct => StX.bind_star1 (B := fun us => bindArgs (PySem.W.fnOf "__init__" "Book.__init__" (defArgs s_Book_init) (defBody s_Book_init) (defScope s_Book_init) .none kV doc pm an cdv ct) ⟨us, []⟩) (fun _ => rfl) (fun _ _ _ => rfl)) (fun cdv A outer s H vs Q E hr h => ?_)
  · refine ⟨_, PSs.nox (pss_cons (ps_if (pt_cmpR op_eq (pe_callB (call_lenK (K := K) rfl) (by rfl) B.n_len (by decide +kernel) (pa_cons (pv 1) pa_nil)) pe_int (nomark _))
(pss_one ps_never)
pss_nil)
(pss_cons (ps_for PassesOwn.never rfl (pi_enumT (K := K) rfl (by rfl) B.n_enumerate (pa_cons (pv 1) pa_nil)) (pg_tupK (n := 2) (K := K) rfl rfl (pgs_cons (pg_name (i := 2) sc_Book_init.nd rfl (Or.inl rfl)) (pgs_cons (pg_name (i := 3) sc_Book_init.nd rfl (Or.inl rfl)) pgs_nil)))
(pss_one (ps_if (pt_not (pt_val (pe_callB (call_isiKK (K := K) rfl) (by rfl) B.n_isinstance (by decide +kernel) (pa_cons (pv 3) (pa_cons (pe_glob (v := .ref _) (by rfl) O.g_Order rfl) pa_nil)))))
(pss_one ps_never)
pss_nil)))
(pss_cons (ps_fld (pv 0) (pe_fldK (K := K) rfl (pe_ix (ix_tupK (K := K) rfl) (pv 1) pe_int (fun _ _ => rfl))) rfl)
(pss_cons (ps_for PassesOwn.never rfl (pi_tupK (K := K) rfl (pv 1)) (pg_name (i := 3) sc_Book_init.nd rfl (Or.inl rfl))
(pss_one (ps_expr (Kp.pe_methR (E := E0) (pv 0) Bk.cl Bk.m_need_words G_nw (hr.mono (by decide)) passL (pa_cons (pv 3) pa_nil)))))
(pss_cons (ps_if (pt_cmpR op_gt (pe_callB (call_lenK (K := K) rfl) (by rfl) B.n_len (by decide +kernel) (pa_cons (pv 1) pa_nil)) (pe_glob (v := .int 8) (by rfl) Bk.g_MOST_ORDERS ⟨_, rfl⟩) (nomark _))
(pss_one ps_never)
pss_nil)
(pss_cons (ps_fld (pv 0) (pe_callTy (call_list_ofK (K := K) rfl) (by rfl) B.n_list (by decide +kernel) (pa_cons (pv 1) pa_nil)) rfl)
(pss_one (ps_fld (pv 0) (pe_lst pa_nil) rfl)))))))), ?_⟩
    obtain ⟨x, p, dx, os, us, wss, rfl, hx, hp, ho, ok, hQ⟩ := h
    have hl := ho.1
    have wpos : 0 < wss.length := List.length_pos_iff.mpr ok.ne
    have w8 := ok.few
    have px : p ≠ x := fun z => by rw [z, hx] at hp; cases hp
    refine ⟨_, rfl, _, os.length, rfl, .inr ⟨_, SqT.of hp, by simp⟩, rfl, _, rfl, ?_⟩
    refine ite2 (fun c => ?_) (fun _ => ?_)
    · exact absurd (V.int.inj (of_decide_eq_true c)) (by omega)
    refine ⟨_, rfl, p, _, rfl, SqT.of hp, ?_⟩
    refine for_it (walk_enumT (xs := os.map V.ref)) (fun i (σ' : L2.St) H' => ∃ a2 a3, σ' = [some (V.ref x), some (V.ref p), a2, a3] ∧ Ext H H') ?_ (fun i σ' H' hi hp' => ?_) (fun i y σ' H' H'' hi hp' hy => ?_) (fun σ' H' hp' => ?_)
    · exact ⟨_, _, rfl, Ext.rfl'⟩
    · obtain ⟨a2, a3, rfl, e⟩ := hp'
      exact SqT.of (e _ _ hp)
    · obtain ⟨a2, a3, rfl, e⟩ := hp'
      obtain ⟨t, x1, x2, rfl, ht, rfl, h1, h2⟩ := hy
      cases h1
      obtain ⟨o, ho1, rfl⟩ := ref_at h2
      obtain ⟨ws, _, _, oo⟩ := ho.get ho1
      have e2 := e.trans (Ext.upd (o := HO.tup [.int ((i : Nat) : Int), .ref o]) ht)
      refine ⟨t, _, rfl, SqT.of upd_same, rfl, ?_⟩
      refine ⟨_, _, rfl, _, _, rfl, rfl, ?_⟩
      refine ⟨_, rfl, .ref o, .ref CO, .ref CO, .ref CO, true, rfl, .own CO, ty_ord O (oo.ext e2), O.isi, _, rfl, ?_⟩
      refine iteF ?_
      exact ⟨_, _, rfl, e2⟩
    · obtain ⟨a2, a3, rfl, e⟩ := hp'
      have op0 : os[0]? = some os[0] := List.getElem?_eq_getElem (by omega)
      obtain ⟨ws0, _, wm0, oo⟩ := ho.get op0
      have oo1 := oo.ext e
      obtain ⟨dy, t, g, d, us', ha, ht, hg, ig⟩ := id oo1
      refine ⟨_, rfl, p, _, _, _, rfl, rfl, SqT.of (e _ _ hp), by exact atI_nat (j := 0) (by rw [List.getElem?_map, op0]; rfl), os[0], CO, dy, _, .ref g, rfl, ha, O.cl, O.group, rfl, ?_⟩
      refine ⟨_, rfl, x, CB, dx, _, rfl, e _ _ hx, Bk.cl, Bk.group, by decide, ?_⟩
      generalize hh1 : upd H' x _ = H1
      have k1 : Kept x H' H1 := by
        rw [← hh1]
        exact Kept.mut
      have hx1 : H1 x = some (.ins CB dx [("group", .ref g)]) := by
        rw [← hh1]
        exact upd_same
      have fx : Off CG CO H' x := by
        have hx' := e _ _ hx
        refine ⟨fun _ _ z => ?_, fun _ _ z => ?_, fun _ z => ?_⟩
        · rw [hx'] at z
          cases z
          exact Bk.nG rfl
        · rw [hx'] at z
          cases z
          exact Bk.nO rfl
        · rw [hx'] at z
          cases z
      have hp1 : H1 p = some (.tup (os.map V.ref)) := k1 _ _ px (e _ _ hp)
      have hg1 := hg.kept fx k1
      have ho1 : OrdsAt CG CO H1 os wss := ⟨hl, fun i o ws a b => ((ho.2 i o ws a b).ext e).kept fx k1⟩
      have eus : us' = us := ig.unique (ok.same _ wm0) fun _ => Iff.rfl
      subst eus
      refine ⟨_, rfl, p, rfl, ⟨_, SqT.of hp1⟩, ?_⟩
      refine for_tup (xs := os.map V.ref) (fun i (σ' : L2.St) H' => ∃ a2 a3, σ' = [some (V.ref x), some (V.ref p), a2, a3] ∧ H' = H1) ?_ (fun i σ' H' _ hp' => ?_) (fun i y σ' H' hy hp' => ?_) (fun σ' H5 hp' => ?_)
      · exact ⟨_, _, rfl, rfl⟩
      · obtain ⟨_, _, rfl, rfl⟩ := hp'
        exact SqT.of hp1
      · obtain ⟨_, _, rfl, rfl⟩ := hp'
        obtain ⟨o, hoo, rfl⟩ := ref_at hy
        obtain ⟨ws, _, wm, oo⟩ := ho1.get hoo
        refine ⟨_, rfl, x, dx, _, rfl, hx1, rfl, _, rfl, x, o, dx, g, [], us', ws, rfl, hx1, hg1, oo, ok.same _ wm, (ok.ok _ wm).wd, ?_⟩
        exact ⟨_, _, rfl, rfl⟩
      · obtain ⟨_, _, rfl, rfl⟩ := hp'
        refine ⟨_, rfl, _, os.length, rfl, .inr ⟨_, SqT.of hp1, by simp⟩, _, _, rfl, rfl, _, rfl, ?_⟩
        rw [decide_eq_false (by omega)]
        refine iteF ?_
        have kH5 : Kept x H H5 := (Kept.of e).trans k1
        refine ⟨_, rfl, p, _, rfl, .inr (SqT.of hp1), fun h hh => ?_⟩
        have h0 := kept_none kH5 hx1 hh
        generalize hh2 : upd H5 h _ = H2
        have e2 : Ext H5 H2 := hh2 ▸ Ext.upd hh
        have o2 : H2 h = some (.lst (os.map V.ref)) := by
          rw [← hh2]
          exact upd_same
        refine ⟨_, rfl, x, CB, dx, _, rfl, e2 _ _ hx1, Bk.cl, Bk.held, (show (1 : Nat) < 1000 by decide), ?_⟩
        generalize hh3 : upd H2 x _ = H3
        have k3 : Kept x H2 H3 := by
          rw [← hh3]
          exact Kept.mut
        have hx3 : H3 x = some (.ins CB dx [("group", .ref g), ("held", .ref h)]) := by
          rw [← hh3]
          exact upd_same
        have kH3 : Kept x H H3 := (kH5.trans (Kept.of e2)).trans k3
        refine ⟨by decide, fun q hq => ?_⟩
        have q0 := kept_none kH3 hx3 hq
        generalize hh4 : upd H3 q _ = H4
        have e4 : Ext H3 H4 := hh4 ▸ Ext.upd hq
        have o4 : H4 q = some (.lst []) := by
          rw [← hh4]
          exact upd_same
        refine ⟨_, rfl, x, CB, dx, _, rfl, e4 _ _ hx3, Bk.cl, Bk.past, (show (2 : Nat) < 1000 by decide), ?_⟩
        generalize hh6 : upd H4 x _ = H6
        have k6 : Kept x H4 H6 := by
          rw [← hh6]
          exact Kept.mut
        have hx6 : H6 x = some (.ins CB dx [("group", .ref g), ("held", .ref h), ("past", .ref q)]) := by
          rw [← hh6]
          exact upd_same
        have nh : h ≠ x := fun z => by rw [z, hx1] at hh; cases hh
        have nq : q ≠ x := fun z => by rw [z, hx3] at hq; cases hq
        have f5 : ∀ {Hz : Hp} {fs : List (Str × V)}, Hz x = some (.ins CB dx fs) → Off CG CO Hz x := fun {Hz fs} hz => by
          refine ⟨fun _ _ z => ?_, fun _ _ z => ?_, fun _ z => ?_⟩
          · rw [hz] at z
            cases z
            exact Bk.nG rfl
          · rw [hz] at z
            cases z
            exact Bk.nO rfl
          · rw [hz] at z
            cases z
        have g2 := hg1.ext e2
        have g3 := g2.kept (f5 (e2 _ _ hx1)) k3
        have g4 := g3.ext e4
        have s2 := ho1.ext e2
        have s3 : OrdsAt CG CO H3 os wss := ⟨hl, fun i o ws a b => (s2.2 i o ws a b).kept (f5 (e2 _ _ hx1)) k3⟩
        have s4 := s3.ext e4
        refine hQ g h q H6 h0 q0 ((kH3.trans (Kept.of e4)).trans k6) ⟨⟨dx, hx6⟩, g4.kept (f5 (e4 _ _ hx3)) k6, k6 _ _ nh (e4 _ _ (k3 _ _ nh o2)), ⟨[], k6 _ _ nq o4, rfl⟩, ⟨hl, fun i o ws a b => (s4.2 i o ws a b).kept (f5 (e4 _ _ hx3)) k6⟩, ok⟩
end
end Kq
set_option maxHeartbeats 4000000
namespace Kq
open PySem PySem.Spec PyProof.Rows L2 Kp
open Evl (Ev EvL EvT EvA given)
/-- a comprehension whose items are made: each stays told whatever happens to the list -/
theorem mk_lc {J : It} {n : Nat} {G : Hp → Prop} {Y : Nat → Hp → V → Hp → Prop} (w : Walk J n G Y) {g : TG} {te : TE} {vs : List Nat} {σ : L2.St} {H1 : Hp} {D : Addr} {Qd : Hp → Prop} (hD : H1 D = none) (hz : n ≤ 40000) (R : Nat → V → Hp → Prop) (hG : ∀ H, Ext H1 H → G H)
    (hs : ∀ i x H H' acc, i < n → Ext H1 H → H D = some (.lst acc) → Y i H x H' → ∀ Q' : VK, (∀ y H4, Ext H H4 → (∀ H5, Kept D H4 H5 → R i y H5) → Q' y H4) → g x (wipe σ vs) H' fun σ2 H2 => wipe σ2 vs = wipe σ vs ∧ te σ2 H2 Q')
    (hd : ∀ H acc, Ext H1 H → H D = some (.lst acc) → acc.length = n → (∀ i y, acc[i]? = some y → R i y H) → Qd H) :
    ∃ W : Nat → Nat → Hp → Prop, (∃ m, W 0 m (upd H1 D (.lst []))) ∧ ∀ i m H, W i m H →
      (J.stop i H ∧ Qd H) ∨ (J.go i H ∧ ∃ Nx : Hp → Prop, (∀ H', Nx H' → ∃ m', m' < m ∧ W (i + 1) m' H') ∧ ∀ x H', J.yld i H x H' → g x (wipe σ vs) H' fun σ2 H2 => wipe σ2 vs = wipe σ vs ∧ tYes σ2 H2 fun b H3 =>
        if b = true then te σ2 H3 fun y H4 => ∃ acc, H4 D = some (.lst acc) ∧ acc.length < sizeLine ∧ Nx (upd H4 D (.lst (acc ++ [y]))) else Nx H3) := by
  refine lc_it w (fun i H => ∃ acc : List V, H D = some (.lst acc) ∧ acc.length = i ∧ Ext H1 H ∧ ∀ i' y, acc[i']? = some y → ∀ H5, Kept D H H5 → R i' y H5) ⟨[], upd_same, rfl, Ext.upd hD, fun _ _ h => by simp at h⟩ (fun i H _ ⟨acc, _, _, e, _⟩ => hG H e) (fun i x H H' hi ⟨acc, ha, hl, e, hr⟩ hy => ?_) (fun H ⟨acc, ha, hl, e, hr⟩ => hd H acc e ha hl fun i y hy => hr i y hy H (Kept.refl D H))
  refine hs i x H H' acc hi e ha hy _ fun y H4 e4 r4 => ?_
  refine ⟨acc, e4 _ _ ha, Nat.lt_of_le_of_lt (by omega : acc.length ≤ 40000) (by decide), acc ++ [y], upd_same, by simp [hl], ?_, fun i' z hz' H5 k5 => ?_⟩
  · intro b o hb
    rw [upd_ne (ne_of_none hb hD)]
    exact e4 _ _ (e _ _ hb)
  · have k6 : Kept D H4 H5 := Kept.mut.trans k5
    by_cases hlt : i' < acc.length
    · rw [List.getElem?_append_left hlt] at hz'
      exact hr i' z hz' H5 ((Kept.of e4).trans k6)
    · rw [List.getElem?_append_right (by omega)] at hz'
      have : i' - acc.length = 0 := by
        cases q : i' - acc.length with
        | zero => rfl
        | succ m => rw [q] at hz'; simp at hz'
      rw [this] at hz'
      have e1 : y = z := Option.some.inj hz'
      have e2 : i' = i := by omega
      subst e1 e2
      exact r4 H5 k6
/-- the addresses of what was made -/
theorem refs_of {acc : List V} {n : Nat} {R : Nat → Addr → Prop} (hl : acc.length = n) (h : ∀ i y, acc[i]? = some y → ∃ o, y = .ref o ∧ R i o) : ∃ os : List Addr, acc = os.map V.ref ∧ os.length = n ∧ ∀ i o, os[i]? = some o → R i o := by
  let un : V → Addr := fun v => match v with
    | .ref a => a
    | _ => 0
  have e : acc = (acc.map un).map V.ref := by
    apply List.ext_getElem?
    intro i
    rw [List.getElem?_map, List.getElem?_map]
    cases q : acc[i]? with
    | none => rfl
    | some y =>
      obtain ⟨o, rfl, _⟩ := h i y q
      rfl
  refine ⟨acc.map un, e, by rw [List.length_map]; exact hl, fun i o ho => ?_⟩
  rw [List.getElem?_map] at ho
  cases q : acc[i]? with
  | none => rw [q] at ho; cases ho
  | some y =>
    rw [q] at ho
    obtain ⟨o', rfl, r⟩ := h i y q
    cases ho
    exact r
section
variable {P : Program} {w : World} {K : PySem.W.Frag} {mg : Str → Option Value} {base : Heap} {tL tM tO : Tok} {fIsWord CG gI gLen gAnd gEq CO oI pOf oOf oInv oAdd oEq CB fIsInt bI bNW bNP bCh bTu bLen bIx bAdd bEq pOfB bOf pChs bChs : Addr} {mc mcB : Value}
/-- a book is made -/
theorem mk_book {H : Hp} {Q : VK} {E : XK} {os : List Addr} {us : List Str} {wss : List (List Str)} (ho : OrdsAt CG CO H os wss) (ok : OkB us wss)
    (k : ∀ (b g h q : Addr) (H' : Hp), Ext H H' → H b = none → H h = none → H q = none → BkX CG CO CB H' b g h q os us wss 0 → Q (.ref b) H') : mkSp CB (spStar 1 (spBI CG CO CB)) E (os.map V.ref) H Q := by
  intro x dx hx hdx ne
  have o8 : os.length ≤ 8 := by rw [ho.1]; exact ok.few
  refine ⟨[V.ref x], os.map V.ref, rfl, rfl, by rw [List.length_map]; exact Nat.le_trans o8 (by decide), fun p hp => ?_⟩
  have xdx : x ≠ dx := ne.symm
  have hx1 : upd (upd H dx (.own x)) x (.ins CB dx []) x = some (.ins CB dx []) := upd_same
  have px : p ≠ x := fun z => by rw [z, hx1] at hp; cases hp
  have e1 : Ext H (upd (upd H dx (.own x)) x (.ins CB dx [])) := (Ext.upd hdx).trans (Ext.upd (by rw [upd_ne xdx]; exact hx))
  have e2 := e1.trans (Ext.upd (o := HO.tup (os.map V.ref)) hp)
  refine ⟨x, p, dx, os, us, wss, rfl, by rw [upd_ne px.symm]; exact hx1, upd_same, ho.ext e2, ok, fun g h q H' h0 q0 kp bk => ⟨rfl, ?_⟩⟩
  exact k x g h q H' (fun b o hb => kp b o (ne_of_none hb hx) (e2 _ _ hb)) hx (ext_none e2 h0) (ext_none e2 q0) bk
def spBOf (CG CO CB : Addr) : Sp := fun vs H Q _ => ∃ (p : Addr) (os : List Addr) (us : List Str) (wss : List (List Str)), vs = [.ref CB, .ref p] ∧ H p = some (.lst (os.map V.ref)) ∧ OrdsAt CG CO H os wss ∧ OkB us wss ∧
  ∀ (b g h q : Addr) (H' : Hp), Ext H H' → H b = none → H h = none → H q = none → BkX CG CO CB H' b g h q os us wss 0 → Q (.ref b) H'
theorem ok_book_of (B : TxB mg) (T : TxG K mg tL tM fIsWord CG gI gLen gAnd gEq) (O : TxO K mg CO oI mc pOf oOf oInv oAdd oEq) (Bk : TxBk K mg tO CG CO CB fIsInt bI bNW bNP bCh bTu bLen bIx bAdd bEq pOfB bOf pChs bChs mcB) : FnR P w K mg base (L2.CX P w) 6 bOf (spBOf CG CO CB) := by
  obtain ⟨fd, F⟩ := Bk.F_of
  have G_binit := ok_book_init (P := P) (w := w) (base := base) B T O Bk
  refine fnP F sc_Book_of (fun _ _ _ _ _ _ us hl => match us, hl with | [_, _], _ => rfl) (fun vs H Q E h => ?_) (fun cdv A outer s H vs Q E hr h => ?_)
  · obtain ⟨p, os, us, wss, rfl, _⟩ := h
    rfl
  · refine ⟨_, PSs.nox (pss_cons (ps_if (pt_not (pt_val (pe_callB (call_isiTK (K := K) rfl) (by rfl) B.n_isinstance (by decide +kernel) (pa_cons (pv 1) (pa_cons (pe_tup (pa_cons (pe_bltn (v := .ty "list") (u := .type "list") (by rfl) B.n_list (by decide +kernel) rfl) (pa_cons (pe_bltn (v := .ty "tuple") (u := .type "tuple") (by rfl) B.n_tuple (by decide +kernel) rfl) pa_nil))) pa_nil)))))
(pss_one ps_never)
pss_nil)
(pss_one (ps_ret (pe_clsS1 (i := 0) (E := E0) Bk.mak G_binit (hr.mono (by decide)) passL (pv 1))))), ?_⟩
    obtain ⟨p, os, us, wss, rfl, hp, ho, ok, hQ⟩ := h
    refine ⟨_, rfl, ?_⟩
    refine ⟨by decide, fun t ht => ?_⟩
    have e1 := Ext.upd (o := HO.tup [V.ty "list", V.ty "tuple"]) ht
    refine ⟨_, t, _, .type "list", [.type "list", .type "tuple"], true, rfl, upd_same, .cons (.ty "list") (.cons (.ty "tuple") .nil), .base (.lst (e1 _ _ hp)), kitAny_cons (kit_ty (b := "list") (r := true) (by decide +kernel)) (fun z => nomatch z) (fun _ => rfl), _, rfl, ?_⟩
    refine iteF ?_
    refine ⟨rfl, _, rfl, p, _, rfl, .inr (SqL.of (e1 _ _ hp)), ?_⟩
    exact mk_book (ho.ext e1) ok fun b g h q H' e2 b0 h0 q0 bk => hQ b g h q H' (e1.trans e2) (ext_none e1 b0) (ext_none e1 h0) (ext_none e1 q0) bk
/-- two books of the same rows -/
def BkEq (CG CO CB : Addr) : Addr → Addr → Hp → Prop := fun a b H => ∃ wss n m, BkAt CG CO CB H a wss n ∧ BkAt CG CO CB H b wss m
theorem ordEq_mon : ∀ a b H H', Ext H H' → OrdEq CG CO a b H → OrdEq CG CO a b H' := fun a b H H' e ⟨ws, h1, h2, h3⟩ => ⟨ws, h1.ext e, h2.ext e, h3⟩
theorem bkEq_mon : ∀ a b H H', Ext H H' → BkEq CG CO CB a b H → BkEq CG CO CB a b H' := fun a b H H' e ⟨ws, n, m, h1, h2⟩ => ⟨ws, n, m, h1.ext e, h2.ext e⟩
theorem ty_bk (Bk : TxBk K mg tO CG CO CB fIsInt bI bNW bNP bCh bTu bLen bIx bAdd bEq pOfB bOf pChs bChs mcB) {H : Hp} {b : Addr} {wss : List (List Str)} {n : Nat} (h : BkAt CG CO CB H b wss n) : TyX K H (.ref b) (.ref CB) := by
  obtain ⟨g, h', p, os, us, k⟩ := h
  obtain ⟨dx, a⟩ := k.at_
  exact .base (.ins a Bk.cl Bk.ca Bk.cn Bk.ct Bk.cm)
theorem ok_book_eq (B : TxB mg) (T : TxG K mg tL tM fIsWord CG gI gLen gAnd gEq) (O : TxO K mg CO oI mc pOf oOf oInv oAdd oEq) (Bk : TxBk K mg tO CG CO CB fIsInt bI bNW bNP bCh bTu bLen bIx bAdd bEq pOfB bOf pChs bChs mcB) : FnR P w K mg base (L2.CX P w) 3 bEq (spEq (BkEq CG CO CB)) := by
  obtain ⟨fd, F⟩ := Bk.F_eq
  have G_oeq := ok_order_eq (P := P) (w := w) (base := base) B T O
  refine fnP F sc_Book_eq (fun _ _ _ _ _ _ us hl => match us, hl with | [_, _], _ => rfl) (fun vs H Q E h => ?_) (fun cdv A outer s H vs Q E hr h => ?_)
  · obtain ⟨a, b, rfl, _⟩ := h
    rfl
  · refine ⟨_, PSs.nox (pss_one (ps_ret (pe_and (pe_callB (call_isiKK (K := K) rfl) (by rfl) B.n_isinstance (by decide +kernel) (pa_cons (pv 1) (pa_cons (pe_glob (v := .ref _) (by rfl) Bk.g_Book rfl) pa_nil))) (pe_one (pe_cmpR (op_eqG (rcG_list (mon_ins ordEq_mon) (eqG_insR (E := E0) G_oeq O.eq.at_ O.eq.fn passL)) (hr.mono (by decide))) (pe_fldK (K := K) rfl (pv 0)) (pe_fldK (K := K) rfl (pv 1)) (nomark _)))))), ?_⟩
    obtain ⟨a, b, rfl, ⟨wss, n, m, ba, bb⟩, hQ⟩ := h
    refine ⟨_, rfl, .ref b, .ref CB, .ref CB, .ref CB, true, rfl, .own CB, ty_bk Bk bb, Bk.isi, ?_⟩
    obtain ⟨g, h, p, os, us, k⟩ := ba
    obtain ⟨g', h', p', os', us', k'⟩ := bb
    obtain ⟨dx, ha⟩ := k.at_
    obtain ⟨dy, hb⟩ := k'.at_
    refine ⟨true, rfl, iteT ?_⟩
    refine ⟨_, rfl, a, CB, dx, _, .ref h, rfl, ha, Bk.cl, Bk.held, rfl, ?_⟩
    refine ⟨_, rfl, b, CB, dy, _, .ref h', rfl, hb, Bk.cl, Bk.held, rfl, ?_⟩
    refine ⟨⟨h, h', _, _, rfl, rfl, k.held, k'.held, by rw [List.length_map, List.length_map, k.ords.1, k'.ords.1], fun i x y hx hy => ?_⟩, fun H' e => hQ H' e⟩
    obtain ⟨o, ho, rfl⟩ := ref_at hx
    obtain ⟨o', ho', rfl⟩ := ref_at hy
    obtain ⟨ws, hw, wm, oo⟩ := k.ords.get ho
    have oo' := k'.ords.2 i o' ws ho' hw
    obtain ⟨d1, t1, g1, q1, u1, a1, _⟩ := id oo
    obtain ⟨d2, t2, g2, q2, u2, a2, _⟩ := id oo'
    exact ⟨o, o', d1, d2, _, _, rfl, rfl, a1, a2, ws, oo, oo', (k.ok.ok _ wm).wd⟩
end
end Kq
set_option maxHeartbeats 4000000
namespace Kq
open PySem PySem.Spec PyProof.Rows L2 Kp
open Evl (Ev EvL EvT EvA given)
/-- the rows side by side -/
def side (xs ys : List (List Str)) : List (List Str) := List.zipWith (· ++ ·) xs ys
theorem side_at {xs ys : List (List Str)} {i : Nat} {x y : List Str} (hx : xs[i]? = some x) (hy : ys[i]? = some y) : (side xs ys)[i]? = some (x ++ y) := by
  unfold side
  rw [List.getElem?_zipWith, hx, hy]
def spBAdd (CG CO CB : Addr) : Sp := fun vs H Q _ => ∃ (a b : Addr) (wss wts : List (List Str)) (n m : Nat) (us : List Str), vs = [.ref a, .ref b] ∧ BkAt CG CO CB H a wss n ∧ BkAt CG CO CB H b wts m ∧ wss.length = wts.length ∧ OkB us (side wss wts) ∧
  ∀ (b g h q : Addr) (os : List Addr) (H' : Hp), Ext H H' → H b = none → H h = none → H q = none → BkX CG CO CB H' b g h q os us (side wss wts) 0 → Q (.ref b) H'
section
variable {P : Program} {w : World} {K : PySem.W.Frag} {mg : Str → Option Value} {base : Heap} {tL tM tO : Tok} {fIsWord CG gI gLen gAnd gEq CO oI pOf oOf oInv oAdd oEq CB fIsInt bI bNW bNP bCh bTu bLen bIx bAdd bEq pOfB bOf pChs bChs : Addr} {mc mcB : Value}
theorem ok_book_add (B : TxB mg) (T : TxG K mg tL tM fIsWord CG gI gLen gAnd gEq) (O : TxO K mg CO oI mc pOf oOf oInv oAdd oEq) (Bk : TxBk K mg tO CG CO CB fIsInt bI bNW bNP bCh bTu bLen bIx bAdd bEq pOfB bOf pChs bChs mcB) : FnR P w K mg base (L2.CX P w) 7 bAdd (spBAdd CG CO CB) := by
  obtain ⟨fd, F⟩ := Bk.F_add
  have G_binit := ok_book_init (P := P) (w := w) (base := base) B T O Bk
  have G_oadd := ok_order_add (P := P) (w := w) (base := base) B T O
  have G_gand := ok_group_and (P := P) (w := w) (base := base) B T
  have G_glen := ok_group_len (P := P) (w := w) (base := base) B T
  refine fnP F sc_Book_add (fun _ _ _ _ _ _ us hl => match us, hl with | [_, _], _ => rfl) (fun vs H Q E h => ?_) (fun cdv A outer s H vs Q E hr h => ?_)
  · obtain ⟨a, b, wss, wts, n, m, us, rfl, _⟩ := h
    rfl
  · refine ⟨_, PSs.nox (pss_cons (ps_if (pt_not (pt_val (pe_callB (call_isiKK (K := K) rfl) (by rfl) B.n_isinstance (by decide +kernel) (pa_cons (pv 1) (pa_cons (pe_glob (v := .ref _) (by rfl) Bk.g_Book rfl) pa_nil)))))
(pss_one ps_never)
pss_nil)
(pss_cons (ps_if (pt_cmpR op_ne (pe_callB (call_lenK (K := K) rfl) (by rfl) B.n_len (by decide +kernel) (pa_cons (pe_fldK (K := K) rfl (pv 0)) pa_nil)) (pe_callB (call_lenK (K := K) rfl) (by rfl) B.n_len (by decide +kernel) (pa_cons (pe_fldK (K := K) rfl (pv 1)) pa_nil)) (nomark _))
(pss_one ps_never)
pss_nil)
(pss_cons (ps_set (i := 2) sc_Book_add.nd rfl (Or.inl rfl) (pe_op (op_bin (E := E0) T.and.at_ T.and.fn T.sf G_gand (hr.mono (by decide)) passL) (pe_fldK (K := K) rfl (pv 0)) (pe_fldK (K := K) rfl (pv 1))))
(pss_cons (ps_if (pt_cmpR op_gt (pe_callB (call_lenO (E := E0) T.len.at_ T.len.fn G_glen (hr.mono (by decide)) passL) (by rfl) B.n_len (by decide +kernel) (pa_cons (pv 2) pa_nil)) pe_int (nomark _))
(pss_one ps_never)
pss_nil)
(pss_cons (ps_setLc (i := 3) (own := [("one", 4), ("two", 5)]) (tt := tYes) rfl sc_Book_add.nd rfl rfl (sw_true rfl rfl rfl (by decide +kernel)) (pi_zipK (K := K) rfl (by rfl) B.n_zip (pa_cons (pe_fldK (K := K) rfl (pv 0)) (pa_cons (pe_fldK (K := K) rfl (pv 1)) pa_nil))) (blkOk_by (own := [("one", 4), ("two", 5)]) (N := N_Book_add) (sc := defScope s_Book_add) (by decide +kernel)) (fun _ _ _ _ _ => (pg_tupK (n := 2) (K := K) rfl rfl (pgs_cons (pg_name (i := 4) sc_Book_add.nd rfl (Or.inl rfl)) (pgs_cons (pg_name (i := 5) sc_Book_add.nd rfl (Or.inl rfl)) pgs_nil)))) (fun _ _ _ _ _ => pts_nil) (fun _ _ _ _ _ => by exact (pe_op (op_bin (E := E0) O.add.at_ O.add.fn O.sf G_oadd (hr.mono (by decide)) passL) (pv 4) (pv 5))))
(pss_one (ps_ret (pe_mkS1 (E := E0) Bk.mak G_binit (hr.mono (by decide)) (by rfl) Bk.g_Book passL (pv 3))))))))), ?_⟩
    obtain ⟨a, b, wss, wts, n, m, us, rfl, ba, bb, hl, ok, hQ⟩ := h
    refine ⟨_, rfl, .ref b, .ref CB, .ref CB, .ref CB, true, rfl, .own CB, ty_bk Bk bb, Bk.isi, _, rfl, ?_⟩
    refine iteF ?_
    obtain ⟨g, h, p, os, us1, k⟩ := ba
    obtain ⟨g', h', p', os', us2, k'⟩ := bb
    obtain ⟨dx, ha⟩ := k.at_
    obtain ⟨dy, hb⟩ := k'.at_
    refine ⟨_, rfl, a, CB, dx, _, .ref h, rfl, ha, Bk.cl, Bk.held, rfl, _, os.length, rfl, .inl ⟨_, SqL.of k.held, by simp⟩, ?_⟩
    refine ⟨_, rfl, b, CB, dy, _, .ref h', rfl, hb, Bk.cl, Bk.held, rfl, _, os'.length, rfl, .inl ⟨_, SqL.of k'.held, by simp⟩, ?_⟩
    have hol : os.length = os'.length := by rw [k.ords.1, k'.ords.1, hl]
    refine ⟨rfl, _, rfl, ?_⟩
    refine ite2 (fun c => ?_) (fun _ => ?_)
    · rw [hol] at c
      simp at c
    have wne : wss ≠ [] := k.ok.ne
    have lp : 0 < wss.length := List.length_pos_iff.mpr wne
    have w0 : wss[0]? = some wss[0] := List.getElem?_eq_getElem lp
    have t0 : wts[0]? = some wts[0] := List.getElem?_eq_getElem (by omega)
    have s0 := side_at w0 t0
    have ok0 := ok.ok _ (List.mem_of_getElem? s0)
    have ig1 := k.ok.same _ (List.mem_of_getElem? w0)
    have ig2 := k'.ok.same _ (List.mem_of_getElem? t0)
    have okw := k.ok.ok _ (List.mem_of_getElem? w0)
    have hu1 : ∀ x ∈ us1, Wordy x := fun x hx => okw.wd x ((ig1.mem x).mp hx)
    have l24 : us1.length ≤ 24 := Nat.le_trans ig1.len okw.few
    have fe : (us1.filter fun x => decide (x ∈ us2)) = [] := List.filter_eq_nil_iff.mpr fun x hx hd =>
      (List.nodup_append.mp ok0.nd).2.2 x ((ig1.mem x).mp hx) x ((ig2.mem x).mp (of_decide_eq_true hd)) rfl
    obtain ⟨d1, t1, q1, r1⟩ := id k.grp
    obtain ⟨d2, t2, q2, r2⟩ := id k'.grp
    refine ⟨_, rfl, a, CB, dx, _, .ref g, rfl, ha, Bk.cl, Bk.group, rfl, _, rfl, b, CB, dy, _, .ref g', rfl, hb, Bk.cl, Bk.group, rfl, g, d1, _, g', d2, _, rfl, rfl, q1, q2, g, g', us1, us2, rfl, k.grp, k'.grp, hu1, l24, fun z zs H1 ig e1 hz => ?_⟩
    have z0 : zs.length = 0 := by
      have := ig.len
      rw [fe] at this
      exact Nat.le_zero.mp this
    obtain ⟨d3, t3, q3, r3⟩ := id hz
    refine ⟨_, rfl, z, d3, _, rfl, q3, z, zs, rfl, hz, (zs.length : Int), rfl, by omega, by omega, _, _, rfl, rfl, _, rfl, ?_⟩
    rw [decide_eq_false (by omega)]
    refine iteF ?_
    have k1 := k.ext e1
    have k2 := k'.ext e1
    refine ⟨_, rfl, a, CB, dx, _, .ref h, rfl, e1 _ _ ha, Bk.cl, Bk.held, rfl, _, rfl, b, CB, dy, _, .ref h', rfl, e1 _ _ hb, Bk.cl, Bk.held, rfl, h, h', _, _, rfl, SqL.of k1.held, SqL.of k2.held, fun D hD => ?_⟩
    have n8 : min (os.map V.ref).length (os'.map V.ref).length = wss.length := by
      rw [List.length_map, List.length_map, ← hol, Nat.min_self, k.ords.1]
    refine mk_lc (walk_zip rfl) hD (by rw [n8]; exact Nat.le_trans k.ok.few (by decide)) (fun i y H5 => ∃ o, y = .ref o ∧ ∀ ws, (side wss wts)[i]? = some ws → OrdAt CG CO H5 o ws) (fun H5 e5 => ⟨SqL.of (e5 _ _ k1.held), SqL.of (e5 _ _ k2.held)⟩) (fun i x H5 H6 acc hi e5 hacc hy Q' q' => ?_) (fun H5 acc e5 hacc hn hr => ?_)
    · obtain ⟨tt, x1, x2, rfl, htt, rfl, h1, h2⟩ := hy
      obtain ⟨o1, ho1, rfl⟩ := ref_at h1
      obtain ⟨o2, ho2, rfl⟩ := ref_at h2
      have e6 : Ext H5 (upd H5 tt (.tup [.ref o1, .ref o2])) := Ext.upd htt
      have e7 := e5.trans e6
      obtain ⟨ws, hws, wm, oo1⟩ := (k1.ords.ext e7).get ho1
      obtain ⟨wt, hwt, wtm, oo2⟩ := (k2.ords.ext e7).get ho2
      have okk := ok.ok _ (List.mem_of_getElem? (side_at hws hwt))
      refine ⟨tt, _, rfl, SqT.of upd_same, rfl, ?_⟩
      refine ⟨_, _, rfl, _, _, rfl, rfl, rfl, ?_⟩
      obtain ⟨f1, _, _, _, _, a1, _⟩ := id oo1
      obtain ⟨f2, _, _, _, _, a2, _⟩ := id oo2
      refine ⟨_, rfl, _, rfl, o1, f1, _, o2, f2, _, rfl, rfl, a1, a2, o1, o2, ws, wt, rfl, oo1, oo2, okk, fun o H7 e8 ho oo => ?_⟩
      refine q' _ H7 (e6.trans e8) fun H8 k8 => ⟨o, rfl, fun ws' hws' => ?_⟩
      rw [side_at hws hwt] at hws'
      cases hws'
      exact oo.kept (Off.lst (e8 _ _ (e6 _ _ hacc))) k8
    · obtain ⟨os3, rfl, l3, r3⟩ := refs_of hn hr
      have os3 : OrdsAt CG CO H5 os3 (side wss wts) := by
        refine ⟨?_, fun i o ws ho hw => r3 i o ho ws hw⟩
        rw [l3, n8]
        unfold side
        rw [List.length_zipWith, ← hl, Nat.min_self]
      refine ⟨_, rfl, D, _, rfl, .inr (SqL.of hacc), ?_⟩
      exact mk_book os3 ok fun b g h q H' e2 b0 h0 q0 bk => hQ b g h q _ H' ((e1.trans e5).trans e2) (ext_none e1 (ext_none e5 b0)) (ext_none e1 (ext_none e5 h0)) (ext_none e1 (ext_none e5 q0)) bk
end
end Kq
set_option maxHeartbeats 2000000
namespace Kq
open PySem PySem.Spec PyProof.Rows L2 Kp
open Evl (given given_yes given_no)
/-! ### what lots are refused with, in plain terms -/
abbrev Lot := Option (List (List Str))
inductive Due where
  | book (at_ : Option Nat)
  | unlike
  | taken (w : Str)
  | many
/-- the first words of the lots, in one row -/
def firsts (ls : List (List (List Str))) : List Str := ls.flatMap (·.headD [])
def dupC (ws : List Str) : List Str := ws.filter fun w => decide (1 < ws.count w)
def dupR : List Str → List Str
  | a :: b :: l => if b = a then b :: dupR (b :: l) else dupR (b :: l)
  | _ => []
/-- all books, l the first one, of as many orders -/
structure Even_ (lots : List Lot) (ls : List (List (List Str))) (l : List (List Str)) : Prop where
  e : lots = ls.map some
  h0 : ls[0]? = some l
  eq : ∀ m ∈ ls, m.length = l.length
def DueIs (lots : List Lot) : Option Due → Prop
  | some (.book none) => lots = []
  | some (.book (some i)) => lots[i]? = some none ∧ ∀ j, j < i → ∃ l, lots[j]? = some (some l)
  | some .unlike => ∃ (ls : List (List (List Str))) (l m : List (List Str)), lots = ls.map some ∧ ls[0]? = some l ∧ m ∈ ls ∧ m.length ≠ l.length
  | some (.taken w) => ∃ (ls : List (List (List Str))) (l : List (List Str)) (ws : List Str), Even_ lots ls l ∧ sortedS ws = true ∧ ws.Perm (firsts ls) ∧ (dupC ws).head? = some w
  | some .many => ∃ (ls : List (List (List Str))) (l : List (List Str)), Even_ lots ls l ∧ (∀ ws, ws.Perm (firsts ls) → dupC ws = []) ∧ 24 < (firsts ls).length
  | none => ∃ (ls : List (List (List Str))) (l : List (List Str)), Even_ lots ls l ∧ (∀ ws, ws.Perm (firsts ls) → dupC ws = []) ∧ (firsts ls).length ≤ 24
theorem map_some_inj {α : Type} : ∀ {a b : List α}, a.map some = b.map some → a = b
  | [], [], _ => rfl
  | [], _ :: _, h => by simp at h
  | _ :: _, [], h => by simp at h
  | x :: a, y :: b, h => by
    rw [List.map_cons, List.map_cons] at h
    injection h with h1 h2
    injection h1 with h1
    rw [h1, map_some_inj h2]
theorem dupC_perm {a b : List Str} (p : a.Perm b) : dupC a = [] → dupC b = [] := fun h => by
  unfold dupC at h ⊢
  rw [List.filter_eq_nil_iff] at h ⊢
  intro x hx
  have := h x (p.mem_iff.mpr hx)
  rwa [p.count_eq] at this
theorem odd_no {ls : List (List (List Str))} {i : Nat} (h : (ls.map some)[i]? = some (Option.none : Lot)) : False := by
  rw [List.getElem?_map] at h
  cases q : ls[i]? with
  | none => rw [q] at h; cases h
  | some x => rw [q] at h; cases h
theorem Even_.uniq {lots : List Lot} {ls ms : List (List (List Str))} {l m : List (List Str)} (h : Even_ lots ls l) (k : Even_ lots ms m) : ms = ls := map_some_inj (k.e.symm.trans h.e)
/-- which way it went -/
inductive Way (lots : List Lot) : Nat → Prop
  | nil (h : lots = []) : Way lots 0
  | odd {i : Nat} (h : lots[i]? = some none) : Way lots 1
  | unlike {ls : List (List (List Str))} {l m : List (List Str)} (e : lots = ls.map some) (h0 : ls[0]? = some l) (hm : m ∈ ls) (ne : m.length ≠ l.length) : Way lots 2
  | taken {ls : List (List (List Str))} {l : List (List Str)} {ws : List Str} {w : Str} (h : Even_ lots ls l) (p : ws.Perm (firsts ls)) (d : (dupC ws).head? = some w) : Way lots 3
  | many {ls : List (List (List Str))} {l : List (List Str)} (h : Even_ lots ls l) (d : ∀ ws, ws.Perm (firsts ls) → dupC ws = []) (z : 24 < (firsts ls).length) : Way lots 4
  | fine {ls : List (List (List Str))} {l : List (List Str)} (h : Even_ lots ls l) (d : ∀ ws, ws.Perm (firsts ls) → dupC ws = []) (z : (firsts ls).length ≤ 24) : Way lots 5
theorem Way.lt {lots : List Lot} {a b : Nat} (h : Way lots a) (k : Way lots b) (hab : a < b) : False := by
  cases h with
  | nil h =>
    subst h
    have z : ∀ {ls : List (List (List Str))} {l}, ([] : List Lot) = ls.map some → ls[0]? = some l → False := fun {ls l} e h0 => by
      have : ls = [] := List.map_eq_nil_iff.mp e.symm
      rw [this] at h0
      cases h0
    cases k with
    | nil => omega
    | odd h => simp at h
    | unlike e h0 => exact z e h0
    | taken h => exact z h.e h.h0
    | many h => exact z h.e h.h0
    | fine h => exact z h.e h.h0
  | odd h =>
    cases k with
    | nil => omega
    | odd h => omega
    | unlike e => exact odd_no (e ▸ h)
    | taken k => exact odd_no (k.e ▸ h)
    | many k => exact odd_no (k.e ▸ h)
    | fine k => exact odd_no (k.e ▸ h)
  | unlike e h0 hm ne =>
    have z : ∀ {ls : List (List (List Str))} {l : List (List Str)}, Even_ lots ls l → False := fun {ls l} k => by
      have q := map_some_inj (k.e.symm.trans e)
      subst q
      have := k.h0.symm.trans h0
      cases this
      exact ne (k.eq _ hm)
    cases k with
    | nil => omega
    | odd h => omega
    | unlike => omega
    | taken k => exact z k
    | many k => exact z k
    | fine k => exact z k
  | taken h p d =>
    cases k with
    | nil => omega
    | odd h => omega
    | unlike => omega
    | taken => omega
    | many k d' =>
      rw [h.uniq k] at d'
      rw [d' _ p] at d
      cases d
    | fine k d' =>
      rw [h.uniq k] at d'
      rw [d' _ p] at d
      cases d
  | many h d z =>
    cases k with
    | nil => omega
    | odd h => omega
    | unlike => omega
    | taken => omega
    | many => omega
    | fine k d' z' =>
      rw [h.uniq k] at z'
      omega
  | fine =>
    cases k <;> omega
def kind : Option Due → Nat
  | some (.book none) => 0
  | some (.book (some _)) => 1
  | some .unlike => 2
  | some (.taken _) => 3
  | some .many => 4
  | none => 5
theorem DueIs.way {lots : List Lot} : ∀ {r : Option Due}, DueIs lots r → Way lots (kind r)
  | some (.book none), h => .nil h
  | some (.book (some _)), h => .odd h.1
  | some .unlike, ⟨_, _, _, a, b, c, d⟩ => .unlike a b c d
  | some (.taken _), ⟨_, _, _, a, _, c, d⟩ => .taken a c d
  | some .many, ⟨_, _, a, b, c⟩ => .many a b c
  | none, ⟨_, _, a, b, c⟩ => .fine a b c
theorem DueIs.uniq {lots : List Lot} {r s : Option Due} (h : DueIs lots r) (k : DueIs lots s) : r = s := by
  have hk : kind r = kind s := by
    rcases Nat.lt_trichotomy (kind r) (kind s) with q | q | q
    · exact (h.way.lt k.way q).elim
    · exact q
    · exact (k.way.lt h.way q).elim
  match r, s, h, k, hk with
  | some (.book none), some (.book none), _, _, _ => rfl
  | some .unlike, some .unlike, _, _, _ => rfl
  | some .many, some .many, _, _, _ => rfl
  | none, none, _, _, _ => rfl
  | some (.book (some i)), some (.book (some j)), h, k, _ =>
    have e : i = j := by
      rcases Nat.lt_trichotomy i j with q | q | q
      · obtain ⟨l, hl⟩ := k.2 i q
        rw [h.1] at hl
        cases hl
      · exact q
      · obtain ⟨l, hl⟩ := h.2 j q
        rw [k.1] at hl
        cases hl
    rw [e]
  | some (.taken w), some (.taken u), ⟨ls, l, ws, a, so, p, d⟩, ⟨ms, m, us, a', so', p', d'⟩, _ =>
    have e : ws = us := sorted_unique so so' (by rw [a'.uniq a] at p; exact p.trans p'.symm)
    rw [e, d'] at d
    cases d
    rfl
/-! ### what stands twice in a sorted row -/
theorem head_dup : ∀ {l : List Str}, l.Pairwise leS → (dupR l).head? = (dupC l).head?
  | [], _ => rfl
  | [a], _ => by
    have : dupC [a] = [] := List.filter_eq_nil_iff.mpr fun x hx => by
      rcases List.mem_singleton.mp hx with rfl
      simp
    rw [this]
    rfl
  | a :: b :: l, h => by
    have ih := head_dup (List.pairwise_cons.mp h).2
    by_cases e : b = a
    · subst e
      have h1 : dupR (b :: b :: l) = b :: dupR (b :: l) := if_pos rfl
      have h2 : (dupC (b :: b :: l)).head? = some b := by
        unfold dupC
        rw [List.filter_cons_of_pos]
        · rfl
        · simp
      rw [h1, h2]
      rfl
    · have h1 : dupR (a :: b :: l) = dupR (b :: l) := if_neg e
      have na : a ∉ b :: l := fun hm => by
        rcases List.mem_cons.mp hm with q | q
        · exact e q.symm
        · have r1 : leS a b := (List.pairwise_cons.mp h).1 b List.mem_cons_self
          have r2 : leS b a := (List.pairwise_cons.mp (List.pairwise_cons.mp h).2).1 a q
          exact e (str_ext (lt_tri r1 r2))
      have h2 : dupC (a :: b :: l) = dupC (b :: l) := by
        show List.filter _ (a :: b :: l) = _
        have c0 : (b :: l).count a = 0 := List.count_eq_zero.mpr na
        rw [List.filter_cons_of_neg (by rw [List.count_cons, c0]; simp)]
        refine List.filter_congr fun x hx => ?_
        have nx : a ≠ x := fun z => na (z ▸ hx)
        rw [List.count_cons_of_ne nx]
      rw [h1, h2]
      exact ih
end Kq
set_option maxHeartbeats 4000000
namespace Kq
open PySem PySem.Spec PyProof.Rows L2 Kp
open Evl (Ev EvL EvT EvA given)
/-! ### refusals -/
structure TxEr (P : Program) (K : PySem.W.Frag) (mg : Str → Option Value) (CBB CUn CTa CTM iBB iUn iTa iTM : Addr) : Prop where
  e_BadBook : ErrC P K CBB iBB ["at"]
  e_Unlike : ErrC P K CUn iUn ["part"]
  e_Taken : ErrC P K CTa iTa ["word"]
  e_TooMany : ErrC P K CTM iTM ["what", "most"]
  g_BadBook : mg "BadBook" = some (.ref CBB)
  g_Unlike : mg "Unlike" = some (.ref CUn)
  g_Taken : mg "Taken" = some (.ref CTa)
  g_TooMany : mg "TooMany" = some (.ref CTM)
/-- the error that tells of d -/
def ErrAt (CBB CUn CTa CTM : Addr) (d : Due) (cls : Value) (dd : Option Addr) (H : Hp) : Prop := match d with
  | .book none => cls = .ref CBB ∧ ∃ a, dd = some a ∧ H a = some (.xd [("at", .non)])
  | .book (some i) => cls = .ref CBB ∧ ∃ a, dd = some a ∧ H a = some (.xd [("at", .int (i : Nat))])
  | .unlike => cls = .ref CUn ∧ ∃ a, dd = some a ∧ H a = some (.xd [("part", .str "orders")])
  | .taken w => cls = .ref CTa ∧ ∃ a, dd = some a ∧ H a = some (.xd [("word", .str w)])
  | .many => cls = .ref CTM ∧ ∃ a, dd = some a ∧ H a = some (.xd [("most", .int 24), ("what", .str "words")])
/-- the value x is the lot l -/
def LotAt (K : PySem.W.Frag) (CG CO CB : Addr) (H : Hp) (x : V) : Lot → Prop
  | some wss => ∃ b n, x = .ref b ∧ BkAt CG CO CB H b wss n
  | none => ∀ H', LamX.ExtN H H' → ∃ t, TyX K H' x t ∧ PySem.W.kitOne K t (.ref CB) = some false
theorem LotAt.ext {K : PySem.W.Frag} {CG CO CB : Addr} {H H' : Hp} {x : V} {l : Lot} (h : LotAt K CG CO CB H x l) (e : Ext H H') : LotAt K CG CO CB H' x l := by
  cases l with
  | none => exact fun H2 e2 => h H2 ((LamX.ExtN.of e).trans e2)
  | some wss => exact let ⟨b, n, a, c⟩ := h; ⟨b, n, a, c.ext e⟩
def LotsAt (K : PySem.W.Frag) (CG CO CB : Addr) (H : Hp) (xs : List V) (lots : List Lot) : Prop := xs.length = lots.length ∧ ∀ (i : Nat) x l, xs[i]? = some x → lots[i]? = some l → LotAt K CG CO CB H x l
theorem LotsAt.ext {K : PySem.W.Frag} {CG CO CB : Addr} {H H' : Hp} {xs : List V} {lots : List Lot} (h : LotsAt K CG CO CB H xs lots) (e : Ext H H') : LotsAt K CG CO CB H' xs lots := ⟨h.1, fun i x l a b => (h.2 i x l a b).ext e⟩
theorem LotsAt.get {K : PySem.W.Frag} {CG CO CB : Addr} {H : Hp} {xs : List V} {lots : List Lot} (h : LotsAt K CG CO CB H xs lots) {i : Nat} {x : V} (hx : xs[i]? = some x) : ∃ l, lots[i]? = some l ∧ LotAt K CG CO CB H x l := by
  have hi : i < lots.length := by rw [← h.1]; exact (List.getElem?_eq_some_iff.mp hx).1
  exact ⟨_, List.getElem?_eq_getElem hi, h.2 i x _ hx (List.getElem?_eq_getElem hi)⟩
/-- how a check ends -/
def Ends_ (CBB CUn CTa CTM : Addr) (lots : List Lot) (H : Hp) (Q : VK) (E : XK) : Prop := ∀ r, DueIs lots r → match r with
  | none => ∀ H', Ext H H' → Q .non H'
  | some d => ∀ cls dd H', Ext H H' → ErrAt CBB CUn CTa CTM d cls dd H' → E cls dd H'
def spNB (K : PySem.W.Frag) (CG CO CB CBB CUn CTa CTM : Addr) : Sp := fun vs H Q E => ∃ (p : Addr) (xs : List V) (lots : List Lot), vs = [.ref p] ∧ H p = some (.tup xs) ∧ LotsAt K CG CO CB H xs lots ∧ lots.length ≤ 3 ∧
  (∀ ls, lots = ls.map some → (firsts ls).length < 64) ∧ Ends_ CBB CUn CTa CTM lots H Q E
theorem all_some : ∀ {lots : List Lot}, (∀ j, j < lots.length → ∃ l, lots[j]? = some (some l)) → ∃ ls : List (List (List Str)), lots = ls.map some
  | [], _ => ⟨[], rfl⟩
  | a :: lots, h => by
    obtain ⟨l, hl⟩ := h 0 (Nat.zero_lt_succ _)
    obtain ⟨ls, e⟩ := all_some (lots := lots) fun j hj => by
      obtain ⟨m, hm⟩ := h (j + 1) (Nat.succ_lt_succ hj)
      exact ⟨m, by simpa using hm⟩
    have e0 : a = some l := by simpa using hl
    exact ⟨l :: ls, by rw [e0, e]; rfl⟩
theorem all_len {ls : List (List (List Str))} {l0 : List (List Str)} : (((List.range ls.length).map fun i => decide (V.int ((ls.getD i []).length : Nat) = V.int (l0.length : Nat))).all id) = true ↔ ∀ m ∈ ls, m.length = l0.length := by
  rw [List.all_eq_true]
  constructor
  · intro h m hm
    obtain ⟨i, hi, rfl⟩ := List.mem_iff_getElem.mp hm
    have := h (decide (V.int ((ls.getD i []).length : Nat) = V.int (l0.length : Nat))) (List.mem_map.mpr ⟨i, List.mem_range.mpr hi, rfl⟩)
    have q := V.int.inj (of_decide_eq_true this)
    rw [List.getD_eq_getElem?_getD, List.getElem?_eq_getElem hi] at q
    exact Int.ofNat.inj q
  · intro h b hb
    obtain ⟨i, hi, rfl⟩ := List.mem_map.mp hb
    have hi := List.mem_range.mp hi
    have q := h _ (List.getElem_mem hi)
    have e : ls.getD i [] = ls[i] := by rw [List.getD_eq_getElem?_getD, List.getElem?_eq_getElem hi]; rfl
    rw [e, q]
    exact decide_eq_true rfl
theorem firsts_perm : ∀ {ls : List (List (List Str))} {gs : Nat → List Str}, (∀ i l, ls[i]? = some l → (gs i).Perm (l.headD [])) → ((List.range ls.length).flatMap gs).Perm (firsts ls)
  | [], _, _ => List.Perm.refl _
  | l :: ls, gs, h => by
    have ih := firsts_perm (ls := ls) (gs := fun i => gs (i + 1)) fun i m hm => h (i + 1) m (by simpa using hm)
    have h0 := h 0 l rfl
    rw [List.length_cons, List.range_succ_eq_map, List.flatMap_cons, List.flatMap_map]
    exact h0.append ih
theorem OkB.head {us : List Str} {wss : List (List Str)} (h : OkB us wss) : us.Perm (wss.headD []) := by
  cases wss with
  | nil => exact absurd rfl h.ne
  | cons a r =>
    have ig := h.same a List.mem_cons_self
    exact (List.perm_ext_iff_of_nodup ig.nd (h.ok a List.mem_cons_self).nd).mpr ig.mem
section
variable {P : Program} {w : World} {K : PySem.W.Frag} {mg : Str → Option Value} {base : Heap} {tL tM tO : Tok} {fIsWord CG gI gLen gAnd gEq CO oI pOf oOf oInv oAdd oEq CB fIsInt bI bNW bNP bCh bTu bLen bIx bAdd bEq pOfB bOf pChs bChs CBB CUn CTa CTM iBB iUn iTa iTM : Addr} {mc mcB : Value}
theorem ok_need_books {fNB : Addr} (B : TxB mg) (T : TxG K mg tL tM fIsWord CG gI gLen gAnd gEq) (O : TxO K mg CO oI mc pOf oOf oInv oAdd oEq) (Bk : TxBk K mg tO CG CO CB fIsInt bI bNW bNP bCh bTu bLen bIx bAdd bEq pOfB bOf pChs bChs mcB) (Er : TxEr P K mg CBB CUn CTa CTM iBB iUn iTa iTM)
    {fd : FuncData} (F : Fun K "need_books" "need_books" s_need_books fNB fd) : FnR P w K mg base (L2.CX P w) 20 fNB (spNB K CG CO CB CBB CUn CTa CTM) := by
  have G_blen := ok_book_len (P := P) (w := w) (base := base) B Bk
  refine fnP F sc_need_books (fun _ _ _ _ _ _ us hl => match us, hl with | [_], _ => rfl) (fun vs H Q E h => ?_) (fun cdv A outer s H vs Q E hr h => ?_)
  · obtain ⟨p, xs, lots, rfl, _⟩ := h
    rfl
  · refine ⟨_, (pss_cons (ps_if (pt_cmpR op_eq (pe_callB (call_lenK (K := K) rfl) (by rfl) B.n_len (by decide +kernel) (pa_cons (pv 0) pa_nil)) pe_int (nomark _))
(pss_one (ps_raiseE (k := 8) rfl (takes_of rfl rfl rfl rfl) Er.e_BadBook (hr.mono (by decide)) (pa_cons pe_non pa_nil) B.n_super Er.g_BadBook))
pss_nil)
(pss_cons (ps_for (passes_of rfl) rfl (pi_enumT (K := K) rfl (by rfl) B.n_enumerate (pa_cons (pv 0) pa_nil)) (pg_tupK (n := 2) (K := K) rfl rfl (pgs_cons (pg_name (i := 1) sc_need_books.nd rfl (Or.inl rfl)) (pgs_cons (pg_name (i := 2) sc_need_books.nd rfl (Or.inl rfl)) pgs_nil)))
(pss_one (ps_if (pt_not (pt_val (pe_callB (call_isiKK (K := K) rfl) (by rfl) B.n_isinstance (by decide +kernel) (pa_cons (pv 2) (pa_cons (pe_glob (v := .ref _) (by rfl) Bk.g_Book rfl) pa_nil)))))
(pss_one (ps_raiseE (k := 8) rfl (takes_of rfl rfl rfl rfl) Er.e_BadBook (hr.mono (by decide)) (pa_cons (pv 1) pa_nil) B.n_super Er.g_BadBook))
pss_nil)))
(pss_cons (ps_if (pt_not (pt_val (pe_callB (cr_allK (K := K) rfl rfl) (by rfl) B.n_all (by decide +kernel) (pa_cons (pe_lc (own := [("book", 2)]) (g := gName 2) (tt := tYes) rfl sc_need_books.nd (pi_tupK (K := K) rfl (pv 0)) (blkOk_by (own := [("book", 2)]) (N := N_need_books) (sc := defScope s_need_books) (by decide +kernel)) (fun _ _ _ _ _ => (pg_name (i := 2) sc_need_books.nd rfl (Or.inl rfl))) (fun _ _ _ _ _ => pts_nil) (fun _ _ _ _ _ => by exact (pe_cmpR op_eq (pe_callB (call_lenO (E := E0) Bk.len.at_ Bk.len.fn G_blen (hr.mono (by decide)) passL) (by rfl) B.n_len (by decide +kernel) (pa_cons (pv 2) pa_nil)) (pe_callB (call_lenO (E := E0) Bk.len.at_ Bk.len.fn G_blen (hr.mono (by decide)) passL) (by rfl) B.n_len (by decide +kernel) (pa_cons (pe_ix (ix_tupK (K := K) rfl) (pv 0) pe_int (fun _ _ => rfl)) pa_nil)) (nomark _)))) pa_nil))))
(pss_one (ps_raiseE (k := 8) rfl (takes_of rfl rfl rfl rfl) Er.e_Unlike (hr.mono (by decide)) (pa_cons pe_str pa_nil) B.n_super Er.g_Unlike))
pss_nil)
(pss_cons (ps_set (i := 3) sc_need_books.nd rfl (Or.inr rfl) (pe_callB (cr_sortedSK (K := K) rfl) (by rfl) B.n_sorted (by decide +kernel) (pa_cons (pe_lc2 (own := [("book", 2), ("word", 5)]) (vs1 := [5]) (g := gName 2) (g1 := gName 5) (tt := tYes) (tt1 := tYes) rfl sc_need_books.nd (pi_tupK (K := K) rfl (pv 0)) (blkOk_by (own := [("book", 2), ("word", 5)]) (N := N_need_books) (sc := defScope s_need_books) (by decide +kernel)) (by decide) (fun _ _ _ _ _ => (pg_name (i := 2) sc_need_books.nd rfl (Or.inl rfl))) (fun _ _ _ _ _ => pts_nil) (fun _ _ _ _ _ => (pi_tupK (K := K) rfl (pe_fldK (K := K) rfl (pe_fldK (K := K) rfl (pv 2))))) (fun _ _ _ _ _ => (pg_name (i := 5) sc_need_books.nd rfl (Or.inl rfl))) (fun _ _ _ _ _ => pts_nil) (fun _ _ _ _ _ => by exact (pv 5))) pa_nil)))
(pss_cons (ps_setLc (i := 4) (own := [("word", 5)]) (g := gName 5) rfl sc_need_books.nd rfl rfl (sw_true rfl rfl rfl (by decide +kernel)) (pi_listK (K := K) rfl (pv 3)) (blkOk_by (own := [("word", 5)]) (N := N_need_books) (sc := defScope s_need_books) (by decide +kernel)) (fun _ _ _ _ _ => (pg_name (i := 5) sc_need_books.nd rfl (Or.inl rfl))) (fun _ _ _ _ _ => (pts_one (pt_cmpR op_gt (pe_bmK (K := K) rfl PySem.F.plainAttrs_list PySem.F.slot_list_count PySem.F.type_list_count (mt_countS (K := K) rfl) (pv 3) (pa_cons (pv 5) pa_nil)) pe_int (nomark _)))) (fun _ _ _ _ _ => by exact (pv 5)))
(pss_cons (ps_if (pt_cmpR op_gt (pe_callB (call_lenK (K := K) rfl) (by rfl) B.n_len (by decide +kernel) (pa_cons (pv 4) pa_nil)) pe_int (nomark _))
(pss_one (ps_raiseE (k := 8) rfl (takes_of rfl rfl rfl rfl) Er.e_Taken (hr.mono (by decide)) (pa_cons (pe_ix (ix_listK (K := K) rfl) (pv 4) pe_int (fun _ _ => rfl)) pa_nil) B.n_super Er.g_Taken))
pss_nil)
(pss_one (ps_if (pt_cmpR op_gt (pe_callB (call_lenK (K := K) rfl) (by rfl) B.n_len (by decide +kernel) (pa_cons (pv 3) pa_nil)) (pe_glob (v := .int 24) (by rfl) T.g_MOST_WORDS ⟨_, rfl⟩) (nomark _))
(pss_one (ps_raiseE (k := 8) rfl (takes_of rfl rfl rfl rfl) Er.e_TooMany (hr.mono (by decide)) (pa_cons pe_str (pa_cons (pe_glob (v := .int 24) (by rfl) T.g_MOST_WORDS ⟨_, rfl⟩) pa_nil)) B.n_super Er.g_TooMany))
pss_nil)))))))), ?_⟩
    obtain ⟨p, xs, lots, rfl, hp, hL, l3, h64, hE⟩ := h
    have hlen := hL.1
    refine ⟨_, rfl, _, xs.length, rfl, .inr ⟨_, SqT.of hp, rfl⟩, rfl, _, rfl, ?_⟩
    refine ite2 (fun c => ?_) (fun c0 => ?_)
    · have z : xs.length = 0 := by have := V.int.inj (of_decide_eq_true c); omega
      have z2 : lots = [] := List.eq_nil_of_length_eq_zero (by omega)
      exact ⟨rfl, by decide, fun d hd => hE (some (.book none)) z2 _ _ _ (Ext.upd hd) ⟨rfl, d, rfl, upd_same⟩⟩
    have xpos : 0 < xs.length := by
      refine Nat.pos_of_ne_zero fun z => c0 ?_
      rw [z]
      rfl
    refine ⟨_, rfl, p, _, rfl, SqT.of hp, ?_⟩
    refine for_it (walk_enumT (xs := xs)) (fun i (σ' : L2.St) H' => ∃ a1 a2, σ' = [some (V.ref p), a1, a2, none, none, none] ∧ Ext H H' ∧ ∀ j, j < i → ∃ l, lots[j]? = some (some l)) ?_ (fun i σ' H' hi hp' => ?_) (fun i y σ' H' H'' hi hp' hy => ?_) (fun σ' H' hp' => ?_)
    · exact ⟨_, _, rfl, Ext.rfl', fun j hj => absurd hj (Nat.not_lt_zero j)⟩
    · obtain ⟨a2, a3, rfl, e, _⟩ := hp'
      exact SqT.of (e _ _ hp)
    · obtain ⟨a2, a3, rfl, e, hj⟩ := hp'
      obtain ⟨t, x1, x2, rfl, ht, rfl, h1, h2⟩ := hy
      cases h1
      obtain ⟨l, hl, lot⟩ := (hL.ext e).get h2
      have e2 := e.trans (Ext.upd (o := HO.tup [.int ((i : Nat) : Int), x2]) ht)
      have lot2 := lot.ext (Ext.upd (o := HO.tup [.int ((i : Nat) : Int), x2]) ht)
      refine ⟨t, _, rfl, SqT.of upd_same, rfl, ?_⟩
      refine ⟨_, _, rfl, _, _, rfl, rfl, ?_⟩
      cases l with
      | some wss =>
        obtain ⟨b, n, rfl, bk⟩ := lot2
        refine ⟨_, rfl, .ref b, .ref CB, .ref CB, .ref CB, true, rfl, .own CB, ty_bk Bk bk, Bk.isi, _, rfl, ?_⟩
        refine iteF ?_
        refine ⟨_, _, rfl, e2, fun j hj2 => ?_⟩
        by_cases q : j < i
        · exact hj j q
        · have : j = i := by omega
          subst this
          exact ⟨_, hl⟩
      | none =>
        obtain ⟨ty, hty, hk⟩ := lot2 _ (LamX.ExtN.refl _)
        refine ⟨_, rfl, x2, .ref CB, ty, .ref CB, false, rfl, .own CB, hty, hk, _, rfl, ?_⟩
        refine iteT ?_
        refine ⟨_, rfl, rfl, (show (1 : Nat) ≤ 1000 by decide), fun d hd => hE (some (.book (some i))) ⟨hl, hj⟩ _ _ _ (e2.trans (Ext.upd hd)) ⟨rfl, d, rfl, upd_same⟩⟩
    · obtain ⟨a1, a2, rfl, e, hj⟩ := hp'
      obtain ⟨ls, rfl⟩ := all_some (lots := lots) fun j hj2 => hj j (by omega)
      rw [List.length_map] at hlen l3
      have bks : ∀ (i : Nat) x, xs[i]? = some x → ∃ b n wss, x = .ref b ∧ ls[i]? = some wss ∧ BkAt CG CO CB H' b wss n := fun i x hx => by
        obtain ⟨l, hl, lot⟩ := (hL.ext e).get hx
        rw [List.getElem?_map] at hl
        cases q : ls[i]? with
        | none => rw [q] at hl; cases hl
        | some wss =>
          rw [q] at hl
          cases hl
          obtain ⟨b, n, hb, bk⟩ := lot
          exact ⟨b, n, wss, hb, rfl, bk⟩
      have x0 : xs[0]? = some xs[0] := List.getElem?_eq_getElem xpos
      obtain ⟨b0, n0, l0, ex0, hl0, bk0⟩ := bks 0 _ x0
      have hp1 := e _ _ hp
      dsimp only [tNext, tSeq, tIfS, tNot, tB, tCB, tCons]
      refine Kp.run_lcT (a := p) (xs := xs) (fun _ => true) (fun i => V.bl (decide (V.int ((ls.getD i []).length : Nat) = V.int (l0.length : Nat)))) (Evl.ev_var rfl) (SqT.of hp1) (by omega) (fun _ => rfl) (fun _ _ _ _ _ => Kp.et_yes) (fun i x H9 e9 hx _ => ?_) (fun D H2 hD e2 hD2 => ?_)
      · obtain ⟨b, n, wss, rfl, hl, bk⟩ := bks i x hx
        have eg : ls.getD i [] = wss := by rw [List.getD_eq_getElem?_getD, hl]; rfl
        rw [eg]
        refine fun H10 e10 Q' q' => ?_
        have e0 : Ext H' H10 := Ext.trans e9 e10
        have bk1 := bk.ext e0
        have bk2 := bk0.ext e0
        obtain ⟨_, _, _, _, _, k1⟩ := id bk1
        obtain ⟨_, _, _, _, _, k2⟩ := id bk2
        obtain ⟨d1, a1⟩ := k1.at_
        obtain ⟨d2, a2⟩ := k2.at_
        have w1 := k1.ok.few
        have w2 := k2.ok.few
        refine ⟨_, rfl, b, d1, _, rfl, a1, b, wss, n, rfl, bk1, (wss.length : Int), rfl, by omega, by omega, ?_⟩
        refine ⟨_, rfl, p, xs, 0, _, rfl, rfl, SqT.of (e0 _ _ hp1), atI_nat (j := 0) x0, ?_⟩
        rw [ex0]
        exact ⟨b0, d2, _, rfl, a2, b0, l0, n0, rfl, bk2, (l0.length : Int), rfl, by omega, by omega, rfl, q' H10 (Evl.Ex.refl H10)⟩
      · rw [given_map (fun _ _ => rfl)] at hD2
        have e12 := e.trans e2
        refine ⟨D, (List.range xs.length).map fun i => decide (V.int ((ls.getD i []).length : Nat) = V.int (l0.length : Nat)), rfl, SqL.of (by rw [hD2, List.map_map]; rfl), _, rfl, ?_⟩
        rw [hlen]
        refine ite2 (fun c => ?_) (fun c => ?_)
        · have nall : ¬ ∀ m ∈ ls, m.length = l0.length := fun z => by
            rw [all_len.mpr z] at c
            cases c
          obtain ⟨m, hm⟩ := Classical.not_forall.mp nall
          obtain ⟨hm, ne⟩ := Classical.not_imp.mp hm
          exact ⟨rfl, by decide, fun d hd => hE (some .unlike) ⟨ls, l0, m, rfl, hl0, hm, ne⟩ _ _ _ (e12.trans (Ext.upd hd)) ⟨rfl, d, rfl, upd_same⟩⟩
        have hall : ∀ m ∈ ls, m.length = l0.length := all_len.mp (by simpa using c)
        have ev : Even_ (ls.map some) ls l0 := ⟨rfl, hl0, hall⟩
        have bks2 : ∀ i : Nat, ∃ us : List Str, ∀ x, xs[i]? = some x → ∃ (b g dx : Addr) (fs : List (Str × V)) (wss : List (List Str)), x = .ref b ∧ ls[i]? = some wss ∧ H2 b = some (.ins CB dx (("group", .ref g) :: fs)) ∧ GrpAt CG H2 g us ∧ us.Perm (wss.headD []) := fun i => by
          cases q : xs[i]? with
          | none => exact ⟨[], fun x hx => by cases hx⟩
          | some x =>
            obtain ⟨b, n, wss, rfl, hl, bk⟩ := bks i x q
            obtain ⟨g, h', p', os, us, k⟩ := bk.ext e2
            obtain ⟨dx, a⟩ := k.at_
            exact ⟨us, fun y hy => by cases hy; exact ⟨b, g, dx, _, wss, rfl, hl, a, k.grp, k.ok.head⟩⟩
        obtain ⟨gs, hgs⟩ := Classical.axiomOfChoice bks2
        have pm : ((List.range ls.length).flatMap gs).Perm (firsts ls) := firsts_perm fun i l hl => by
          have hi : i < xs.length := by rw [hlen]; exact (List.getElem?_eq_some_iff.mp hl).1
          obtain ⟨b, g, dx, fs, wss, _, hl2, _, _, pr⟩ := hgs i _ (List.getElem?_eq_getElem hi)
          rw [hl] at hl2
          cases hl2
          exact pr
        have f64 := h64 ls rfl
        have fl : ((List.range xs.length).flatMap fun i => (gs i).map V.str) = ((List.range ls.length).flatMap gs).map V.str := by
          rw [hlen, List.map_flatMap]
        have hp2 := e2 _ _ hp1
        dsimp only [tAsg, tCB, tCons]
        refine ⟨_, rfl, p, rfl, ⟨_, SqT.of hp2⟩, fun D3 hD3 => ?_⟩
        refine lc2_it (J := Itt K p) (n := xs.length) (G := fun H => SqT K H p xs) (Y := fun i x => xs[i]? = some x) walk_tup (fun i => (gs i).map V.str) hD3 (fun _ => rfl) (fun _ _ => rfl) (by rw [fl, List.length_map, pm.length_eq]; omega) (fun H e9 => SqT.of (e9 _ _ hp2)) (fun i x H9 R hi e9 hacc hx k => ?_) (fun x y H9 Q' q => ⟨y, rfl, q⟩) (fun H5 e5 hD5 => ?_)
        · obtain ⟨acc, hacc⟩ := hacc
          obtain ⟨b, g, dx, fs, wss, rfl, hl, a, ⟨dg, t, ga, gt⟩, _⟩ := hgs i x hx
          have gt9 := e9 _ _ gt
          have tD : t ≠ D3 := fun z => by
            rw [z, hacc] at gt9
            cases gt9
          exact ⟨_, rfl, b, CB, dx, _, .ref g, rfl, e9 _ _ a, Bk.cl, Bk.group, rfl, g, CG, dg, _, .ref t, rfl, e9 _ _ ga, T.cl, T.row, rfl, t, rfl, ⟨_, SqT.of gt9⟩, k (Itt K t) H9 (fun H => SqT K H t ((gs i).map V.str)) Ext.rfl' walk_tup fun H2 k2 => SqT.of (k2 _ _ tD gt9)⟩
        · rw [fl] at hD5
          have e15 := e12.trans e5
          refine ⟨D3, _, rfl, SqL.of hD5, by rw [pm.length_eq]; omega, fun ys q yp so hq => ?_⟩
          generalize hh6 : upd H5 q _ = H6
          have e6 : Ext H5 H6 := hh6 ▸ Ext.upd hq
          have o6 : H6 q = some (.lst (ys.map V.str)) := by
            rw [← hh6]
            exact upd_same
          have e16 := e15.trans e6
          have ypf : ys.Perm (firsts ls) := yp.trans pm
          have yl : ys.length < 64 := by rw [ypf.length_eq]; exact f64
          dsimp only [gName, tNext, tSeq, tAsg]
          refine Kp.run_lcL (a := q) (xs := ys.map V.str) (fun i => decide ((1 : Int) < ((ys.count (ys.getD i "") : Nat) : Int))) (fun i => V.str (ys.getD i "")) (Evl.ev_var rfl) (SqL.of o6) (by rw [List.length_map]; omega) (fun _ => rfl) (fun i x H9 e9 hx => ?_) (fun i x H9 e9 hx _ => ?_) (fun D7 H7 hD7 e7 hD7' => ?_)
          · obtain ⟨u, hu, rfl⟩ := str_at hx
            have eu : ys.getD i "" = u := by rw [List.getD_eq_getElem?_getD, hu]; rfl
            rw [eu]
            exact fun H10 e10 Q' q' => ⟨_, rfl, .inl ⟨rfl, _, SqL.of (e10 _ _ (e9 _ _ o6))⟩, _, rfl, q, ys, u, rfl, rfl, SqL.of (e10 _ _ (e9 _ _ o6)), _, _, rfl, rfl, _, rfl, q' H10 (Evl.Ex.refl H10)⟩
          · obtain ⟨u, hu, rfl⟩ := str_at hx
            have eu : ys.getD i "" = u := by rw [List.getD_eq_getElem?_getD, hu]; rfl
            rw [eu]
            exact Evl.ev_var rfl
          · have eg : given (ys.map V.str).length (fun i => decide ((1 : Int) < ((ys.count (ys.getD i "") : Nat) : Int))) (fun i => V.str (ys.getD i "")) = (dupC ys).map V.str := by
              rw [List.length_map]
              refine Kp.given_filter ys _ _ (fun u => decide (1 < ys.count u)) _ (fun i x hx => ?_) (fun i x hx => by rw [List.getD_eq_getElem?_getD, hx]; rfl)
              rw [List.getD_eq_getElem?_getD, hx]
              show decide ((1 : Int) < ((ys.count x : Nat) : Int)) = decide (1 < ys.count x)
              rw [decide_eq_decide]
              omega
            rw [eg] at hD7'
            have e17 := e16.trans e7
            have dl : (dupC ys).length < 64 := Nat.lt_of_le_of_lt (List.length_filter_le _ _) yl
            refine ⟨_, rfl, _, (dupC ys).length, rfl, .inl ⟨_, SqL.of hD7', by simp⟩, _, _, rfl, rfl, _, rfl, ?_⟩
            refine ite2 (fun c => ?_) (fun c => ?_)
            · have c2 : 0 < (dupC ys).length := by have := of_decide_eq_true c; omega
              have d0 : (dupC ys)[0]? = some (dupC ys)[0] := List.getElem?_eq_getElem c2
              have dh : (dupC ys).head? = some (dupC ys)[0] := by rw [List.head?_eq_getElem?]; exact d0
              refine ⟨_, rfl, D7, _, 0, _, rfl, rfl, SqL.of hD7', atI_nat (j := 0) (by rw [List.getElem?_map, d0]; rfl), ?_⟩
              exact ⟨rfl, (show (1 : Nat) ≤ 1000 by decide), fun d hd => hE (some (.taken _)) ⟨ls, l0, ys, ev, so, ypf, dh⟩ _ _ _ (e17.trans (Ext.upd hd)) ⟨rfl, d, rfl, upd_same⟩⟩
            · have c2 : dupC ys = [] := by
                refine List.eq_nil_of_length_eq_zero ?_
                have : ¬ (0 : Int) < ((dupC ys).length : Nat) := fun z => c (decide_eq_true z)
                omega
              have dn : ∀ ws, ws.Perm (firsts ls) → dupC ws = [] := fun ws pw => dupC_perm (ypf.trans pw.symm) c2
              refine ⟨_, rfl, _, ys.length, rfl, .inl ⟨_, SqL.of (e7 _ _ o6), by simp⟩, _, _, rfl, rfl, _, rfl, ?_⟩
              refine ite2 (fun c => ?_) (fun c => ?_)
              · have c3 : 24 < (firsts ls).length := by have := of_decide_eq_true c; rw [← ypf.length_eq]; omega
                exact ⟨rfl, by decide, fun d hd => hE (some .many) ⟨ls, l0, ev, dn, c3⟩ _ _ _ (e17.trans (Ext.upd hd)) ⟨rfl, d, rfl, upd_same⟩⟩
              · have c3 : (firsts ls).length ≤ 24 := by
                  have : ¬ (24 : Int) < (ys.length : Nat) := fun z => c (decide_eq_true z)
                  rw [← ypf.length_eq]
                  omega
                exact hE none ⟨ls, l0, ev, dn, c3⟩ _ e17
end
end Kq
set_option maxHeartbeats 4000000
namespace Kq
open PySem PySem.Spec PyProof.Rows L2 Kp
open Evl (Ev EvL EvT EvA given)
/-! ### books beside one another -/
structure TxBs (K : PySem.W.Frag) (mg : Str → Option Value) (fNB fBe fDi fTree : Addr) : Prop where
  g_need_books : mg "need_books" = some (.ref fNB)
  k_need_books : PySem.W.keepIn K (.ref fNB) = true
  F_need_books : ∃ fd, Fun K "need_books" "need_books" s_need_books fNB fd
  g_beside : mg "beside" = some (.ref fBe)
  k_beside : PySem.W.keepIn K (.ref fBe) = true
  F_beside : ∃ fd, Fun K "beside" "beside" s_beside fBe fd
  g_dissolving : mg "dissolving" = some (.ref fDi)
  k_dissolving : PySem.W.keepIn K (.ref fDi) = true
  F_dissolving : ∃ fd, Fun K "dissolving" "dissolving" s_dissolving fDi fd
  g_tree_of : mg "tree_of" = some (.ref fTree)
  k_tree_of : PySem.W.keepIn K (.ref fTree) = true
/-- the rows of books side by side -/
def sides (ls : List (List (List Str))) : List (List Str) := (List.range (ls.headD []).length).map fun k => ls.flatMap fun l => l.getD k []
theorem sides_len {ls : List (List (List Str))} {l0 : List (List Str)} (h0 : ls[0]? = some l0) : (sides ls).length = l0.length := by
  unfold sides
  rw [List.length_map, List.length_range]
  cases ls with
  | nil => cases h0
  | cons a r =>
    cases h0
    rfl
theorem sides_at {ls : List (List (List Str))} {l0 : List (List Str)} (h0 : ls[0]? = some l0) {i : Nat} (hi : i < l0.length) : (sides ls)[i]? = some (ls.flatMap fun l => l.getD i []) := by
  have e : (ls.headD []).length = l0.length := by
    cases ls with
    | nil => cases h0
    | cons a r =>
      cases h0
      rfl
  unfold sides
  rw [List.getElem?_map, List.getElem?_range (by rw [e]; exact hi)]
  rfl
theorem flatMap_perm {α : Type} {f g : α → List Str} : ∀ {ls : List α}, (∀ l ∈ ls, (f l).Perm (g l)) → (ls.flatMap f).Perm (ls.flatMap g)
  | [], _ => List.Perm.refl _
  | a :: ls, h => by
    rw [List.flatMap_cons, List.flatMap_cons]
    exact (h a List.mem_cons_self).append (flatMap_perm fun l hl => h l (List.mem_cons_of_mem _ hl))
theorem OkB.row {us : List Str} {wss : List (List Str)} (h : OkB us wss) {i : Nat} (hi : i < wss.length) : (wss.getD i []).Perm (wss.headD []) ∧ OkW (wss.getD i []) := by
  have e : wss.getD i [] = wss[i] := by rw [List.getD_eq_getElem?_getD, List.getElem?_eq_getElem hi]; rfl
  have hm := List.getElem_mem hi
  rw [e]
  exact ⟨((List.perm_ext_iff_of_nodup (h.same _ hm).nd (h.ok _ hm).nd).mpr (h.same _ hm).mem).symm.trans h.head, h.ok _ hm⟩
theorem dup_nodup {ws : List Str} (h : dupC ws = []) : ws.Nodup := by
  rw [List.nodup_iff_count]
  intro a
  by_cases q : a ∈ ws
  · have := List.filter_eq_nil_iff.mp h a q
    simpa using this
  · rw [List.count_eq_zero.mpr q]
    exact Nat.zero_le _
theorem side_ok {ls : List (List (List Str))} {l0 : List (List Str)} (h0 : ls[0]? = some l0) (hall : ∀ m ∈ ls, m.length = l0.length) (hok : ∀ m ∈ ls, ∃ us, OkB us m) (dn : ∀ ws, ws.Perm (firsts ls) → dupC ws = []) (few : (firsts ls).length ≤ 24) {i : Nat} (hi : i < l0.length) :
    OkW (ls.flatMap fun l => l.getD i []) ∧ (ls.flatMap fun l => l.getD i []).Perm (firsts ls) := by
  have pr : (ls.flatMap fun l => l.getD i []).Perm (firsts ls) := flatMap_perm fun l hl => by
    obtain ⟨us, ok⟩ := hok l hl
    exact (ok.row (by rw [hall l hl]; exact hi)).1
  refine ⟨⟨fun x hx => ?_, dup_nodup (dn _ pr), fun z => ?_, by rw [pr.length_eq]; exact few⟩, pr⟩
  · obtain ⟨l, hl, hxl⟩ := List.mem_flatMap.mp hx
    obtain ⟨us, ok⟩ := hok l hl
    exact (ok.row (by rw [hall l hl]; exact hi)).2.wd x hxl
  · have hm := List.mem_of_getElem? h0
    obtain ⟨us, ok⟩ := hok l0 hm
    have r := (ok.row hi).2.ne
    exact r (List.flatMap_eq_nil_iff.mp z l0 hm)
theorem range_flat {β : Type} {g : List (List Str) → List β} : ∀ (ls : List (List (List Str))), ((List.range ls.length).flatMap fun m => g (ls.getD m [])) = ls.flatMap g
  | [] => rfl
  | a :: ls => by
    have ih := range_flat (g := g) ls
    rw [List.length_cons, List.range_succ_eq_map, List.flatMap_cons, List.flatMap_map, List.flatMap_cons]
    exact congrArg (g a ++ ·) ih
theorem LotsAt.books {K : PySem.W.Frag} {CG CO CB : Addr} {H : Hp} {xs : List V} {ls : List (List (List Str))} (hL : LotsAt K CG CO CB H xs (ls.map some)) {i : Nat} {x : V} (hx : xs[i]? = some x) : ∃ b n wss, x = .ref b ∧ ls[i]? = some wss ∧ BkAt CG CO CB H b wss n := by
  obtain ⟨l, hl, lot⟩ := hL.get hx
  rw [List.getElem?_map] at hl
  cases q : ls[i]? with
  | none => rw [q] at hl; cases hl
  | some wss =>
    rw [q] at hl
    cases hl
    obtain ⟨b, n, hb, bk⟩ := lot
    exact ⟨b, n, wss, hb, rfl, bk⟩
def spBes (K : PySem.W.Frag) (CG CO CB CBB CUn CTa CTM : Addr) : Sp := fun vs H Q E => ∃ (p : Addr) (xs : List V) (lots : List Lot), vs = [.ref p] ∧ H p = some (.tup xs) ∧ LotsAt K CG CO CB H xs lots ∧ lots.length ≤ 3 ∧
  (∀ ls, lots = ls.map some → (firsts ls).length < 64) ∧ ∀ r, DueIs lots r → match r with
    | none => ∀ ls, lots = ls.map some → ∀ (b g h q : Addr) (os : List Addr) (us : List Str) (H' : Hp), Ext H H' → H b = none → BkX CG CO CB H' b g h q os us (sides ls) 0 → Q (.ref b) H'
    | some d => ∀ cls dd H', Ext H H' → ErrAt CBB CUn CTa CTM d cls dd H' → E cls dd H'
section
variable {P : Program} {w : World} {K : PySem.W.Frag} {mg : Str → Option Value} {base : Heap} {tL tM tO : Tok} {fIsWord CG gI gLen gAnd gEq CO oI pOf oOf oInv oAdd oEq CB fIsInt bI bNW bNP bCh bTu bLen bIx bAdd bEq pOfB bOf pChs bChs CBB CUn CTa CTM iBB iUn iTa iTM fNB fBe fDi fTree : Addr} {mc mcB : Value}
theorem ok_beside (B : TxB mg) (T : TxG K mg tL tM fIsWord CG gI gLen gAnd gEq) (O : TxO K mg CO oI mc pOf oOf oInv oAdd oEq) (Bk : TxBk K mg tO CG CO CB fIsInt bI bNW bNP bCh bTu bLen bIx bAdd bEq pOfB bOf pChs bChs mcB) (Er : TxEr P K mg CBB CUn CTa CTM iBB iUn iTa iTM)
    (S : TxBs K mg fNB fBe fDi fTree) : FnR P w K mg base (L2.CX P w) 21 fBe (spStar 0 (spBes K CG CO CB CBB CUn CTa CTM)) := by
  obtain ⟨fd, F⟩ := S.F_beside
  obtain ⟨fd', F'⟩ := S.F_need_books
  have G_nb := ok_need_books (P := P) (w := w) (base := base) B T O Bk Er F'
  have G_blen := ok_book_len (P := P) (w := w) (base := base) B Bk
  have G_bix := ok_book_ix (P := P) (w := w) (base := base) B Bk
  have G_oof := ok_order_of (P := P) (w := w) (base := base) B T O
  have G_binit := ok_book_init (P := P) (w := w) (base := base) B T O Bk
  refine fnS (ps := []) F sc_beside (fun kV doc pm an cdv ct => bind_star0 (B := fun us => bindArgs (PySem.W.fnOf "beside" "beside" (defArgs s_beside) (defBody s_beside) (defScope s_beside) .none kV doc pm an cdv ct) ⟨us, []⟩) rfl (fun _ _ => rfl)) (fun cdv A outer s H vs Q E hr h => ?_)
  · refine ⟨_, (pss_cons (ps_expr (pe_callR (E := E) G_nb (hr.mono (by decide)) S.k_need_books (by rfl) S.g_need_books (passes_call (takes_of rfl rfl rfl rfl) fun _ _ _ _ h => h) (pa_cons (pv 0) pa_nil)))
(pss_cons (ps_setLc (i := 1) (own := [("k", 2)]) (g := gName 2) (tt := tYes) rfl sc_beside.nd rfl rfl (sw_true rfl rfl rfl (by decide +kernel)) (pi_range1 (by rfl) B.n_range (pa_cons (pe_callB (call_lenO (E := E0) Bk.len.at_ Bk.len.fn G_blen (hr.mono (by decide)) passL) (by rfl) B.n_len (by decide +kernel) (pa_cons (pe_ix (ix_tupK (K := K) rfl) (pv 0) pe_int (fun _ _ => rfl)) pa_nil)) pa_nil)) (blkOk_by (own := [("k", 2)]) (N := N_beside) (sc := defScope s_beside) (by decide +kernel)) (fun _ _ _ _ _ => (pg_name (i := 2) sc_beside.nd rfl (Or.inr rfl))) (fun _ _ _ _ _ => pts_nil) (fun _ _ _ _ _ => by exact (ClX.pe_cmeth (E := E0) (pe_glob (v := .ref _) (by rfl) O.g_Order rfl) O.rd O.ofm G_oof (hr.mono (by decide)) passL (pa_cons (pe_lc2 (own := [("book", 3), ("word", 4)]) (vs1 := [4]) (g := gName 3) (g1 := gName 4) (tt := tYes) (tt1 := tYes) rfl sc_beside.nd (pi_tupK (K := K) rfl (pv 0)) (blkOk_by (by kernel_rfl)) (by decide) (fun _ _ _ _ _ => (pg_name (i := 3) sc_beside.nd rfl (Or.inl rfl))) (fun _ _ _ _ _ => pts_nil) (fun _ _ _ _ _ => (pi_tupK (K := K) rfl (pe_fldK (K := K) rfl (pe_ixO (E := E0) Bk.ix.at_ Bk.ix.fi Bk.ix.fn G_bix (hr.mono (by decide)) (fun _ => passL) (pv 3) (pv 2))))) (fun _ _ _ _ _ => (pg_name (i := 4) sc_beside.nd rfl (Or.inl rfl))) (fun _ _ _ _ _ => pts_nil) (fun _ _ _ _ _ => by exact (pv 4))) pa_nil))))
(pss_one (ps_ret (pe_mkS1 (E := E0) Bk.mak G_binit (hr.mono (by decide)) (by rfl) Bk.g_Book passL (pv 1)))))), ?_⟩
    obtain ⟨p, xs, lots, rfl, hp, hL, l3, h64, hE⟩ := h
    refine ⟨_, rfl, p, xs, lots, rfl, hp, hL, l3, h64, fun r dr => ?_⟩
    cases r with
    | some d => exact hE (some d) dr
    | none =>
      intro H1 e1
      have hE' := hE none dr
      obtain ⟨ls, l0, ⟨rfl, hl0, hall⟩, dn, few⟩ := dr
      have hlen : xs.length = ls.length := by rw [hL.1, List.length_map]
      have hL1 := hL.ext e1
      have hp1 := e1 _ _ hp
      have lpos : 0 < ls.length := (List.getElem?_eq_some_iff.mp hl0).1
      have x0 : xs[0]? = some xs[0] := List.getElem?_eq_getElem (by omega)
      obtain ⟨b0, n0, l0', ex0, hl0', bk0⟩ := hL1.books x0
      rw [hl0] at hl0'
      cases hl0'
      have hok : ∀ m ∈ ls, ∃ us, OkB us m := fun m hm => by
        obtain ⟨i, hi, rfl⟩ := List.mem_iff_getElem.mp hm
        obtain ⟨b, n, wss, _, hl, bk⟩ := hL1.books (List.getElem?_eq_getElem (show i < xs.length by omega))
        rw [List.getElem?_eq_getElem hi] at hl
        cases hl
        obtain ⟨_, _, _, _, us, k⟩ := bk
        exact ⟨us, k.ok⟩
      obtain ⟨_, _, _, _, us0, k0⟩ := id bk0
      have l8 := k0.ok.few
      have lp0 : 0 < l0.length := List.length_pos_iff.mpr k0.ok.ne
      obtain ⟨d0, a0⟩ := k0.at_
      refine ⟨_, rfl, p, xs, 0, _, rfl, rfl, SqT.of hp1, atI_nat (j := 0) x0, ?_⟩
      rw [ex0]
      refine ⟨b0, d0, _, rfl, a0, b0, l0, n0, rfl, bk0, (l0.length : Int), rfl, by omega, by omega, _, rfl, by omega, by omega, fun D hD => ?_⟩
      refine mk_lc (walk_range (lo := 0) (n := l0.length)) hD (by omega) (fun i y H5 => ∃ o, y = .ref o ∧ OrdAt CG CO H5 o (ls.flatMap fun l => l.getD i [])) (fun _ _ => True.intro) (fun i x H5 H6 acc hi e5 hacc hy Q' q' => ?_) (fun H5 acc e5 hacc hn hr => ?_)
      · obtain ⟨rfl, rfl⟩ := hy
        obtain ⟨okr, pr⟩ := side_ok hl0 hall hok dn few hi
        have hp5 := e5 _ _ hp1
        refine ⟨rfl, rfl, ?_⟩
        refine ⟨_, rfl, p, rfl, ⟨_, SqT.of hp5⟩, fun D3 hD3 => ?_⟩
        have fl : ((List.range xs.length).flatMap fun m => ((ls.getD m []).getD i []).map V.str) = (ls.flatMap fun l => l.getD i []).map V.str := by
          rw [hlen, range_flat (g := fun l => (l.getD i []).map V.str), List.map_flatMap]
        refine lc2_it (J := Itt K p) (n := xs.length) (G := fun H => SqT K H p xs) (Y := fun i x => xs[i]? = some x) walk_tup (fun m => ((ls.getD m []).getD i []).map V.str) hD3 (fun _ => rfl) (fun _ _ => rfl) (by rw [fl, List.length_map]; have := okr.few; omega) (fun H e9 => SqT.of (e9 _ _ hp5)) (fun m x H9 R hm e9 hacc9 hx k => ?_) (fun x y H9 Q' q => ⟨y, rfl, q⟩) (fun H7 e7 hD7 => ?_)
        · obtain ⟨acc9, hacc9⟩ := hacc9
          obtain ⟨b, n, wss, rfl, hl, bk⟩ := (hL1.ext (e5.trans e9)).books hx
          obtain ⟨_, _, _, _, _, kb⟩ := id bk
          obtain ⟨d1, a1⟩ := kb.at_
          have hw : i < wss.length := by rw [hall _ (List.mem_of_getElem? hl)]; exact hi
          have eg0 : ls.getD m [] = wss := by rw [List.getD_eq_getElem?_getD, hl]; rfl
          have eg : (ls.getD m []).getD i [] = wss.getD i [] := by rw [eg0]
          refine ⟨_, rfl, _, rfl, b, d1, _, rfl, a1, b, i, wss, n, (by show [V.ref b, V.int (0 + (i : Int))] = _; rw [Int.zero_add]), bk, hw, fun o ws hws oo => ?_⟩
          have e2 : wss.getD i [] = ws := by rw [List.getD_eq_getElem?_getD, hws]; rfl
          obtain ⟨dy, t, g', d', us', ha, ht, _, _⟩ := oo
          have tD : t ≠ D3 := fun z => by
            rw [z, hacc9] at ht
            cases ht
          refine ⟨o, CO, dy, _, .ref t, rfl, ha, O.cl, O.row, rfl, t, rfl, ⟨_, SqT.of ht⟩, ?_⟩
          refine k (Itt K t) H9 (fun H => SqT K H t (((ls.getD m []).getD i []).map V.str)) Ext.rfl' walk_tup fun H2 k2 => ?_
          rw [eg, e2]
          exact SqT.of (k2 _ _ tD ht)
        · rw [fl] at hD7
          refine ⟨D3, _, rfl, hD7, okr, fun o H8 e8 ho oo => ?_⟩
          have e58 := e7.trans e8
          exact q' _ H8 e58 fun H9 k9 => ⟨o, rfl, oo.kept (Off.lst (e58 _ _ hacc)) k9⟩
      · obtain ⟨os3, rfl, l3', r3⟩ := refs_of hn hr
        have sl := sides_len hl0
        have ords : OrdsAt CG CO H5 os3 (sides ls) := by
          refine ⟨by rw [l3', sl], fun i o ws ho hw => ?_⟩
          have hi : i < l0.length := by rw [← l3']; exact (List.getElem?_eq_some_iff.mp ho).1
          rw [sides_at hl0 hi] at hw
          cases hw
          exact r3 i o ho
        have oz : os3[0]? = some os3[0] := List.getElem?_eq_getElem (by omega)
        obtain ⟨_, _, _, _, us, _, _, _, ig⟩ := r3 0 _ oz
        have ok : OkB us (sides ls) := by
          refine ⟨fun z => ?_, by rw [sl]; exact l8, fun ws hw => ?_, fun ws hw => ?_⟩
          · rw [z] at sl
            simp at sl
            omega
          · obtain ⟨i, hi, rfl⟩ := List.mem_iff_getElem.mp hw
            have q := sides_at hl0 (i := i) (by omega)
            rw [List.getElem?_eq_getElem hi] at q
            rw [Option.some.inj q]
            exact (side_ok hl0 hall hok dn few (by omega)).1
          · obtain ⟨i, hi, rfl⟩ := List.mem_iff_getElem.mp hw
            have q := sides_at hl0 (i := i) (by omega)
            rw [List.getElem?_eq_getElem hi] at q
            rw [Option.some.inj q]
            have p1 := (side_ok hl0 hall hok dn few (i := i) (by omega)).2
            have p2 := (side_ok hl0 hall hok dn few lp0).2
            exact ⟨ig.so, ig.nd, fun x => (ig.mem x).trans ((p2.trans p1.symm).mem_iff)⟩
        refine ⟨_, rfl, D, _, rfl, .inr (SqL.of hacc), ?_⟩
        have e15 := e1.trans e5
        exact mk_book ords ok fun b g h q H' e2 b1 h1 q1 bk => hE' ls rfl b g h q _ us H' (e15.trans e2) (ext_none e15 b1) bk
end
end Kq
set_option maxHeartbeats 4000000
namespace Kq
open PySem PySem.Spec PyProof.Rows L2 Kp
open Evl (Ev EvL EvT EvA given)
def spDis (K : PySem.W.Frag) (CG CO CB CBB CUn CTa CTM : Addr) : Sp := fun vs H _ E => ∃ (p : Addr) (xs : List V) (lots : List Lot) (d : Due), vs = [.ref p] ∧ H p = some (.tup xs) ∧ LotsAt K CG CO CB H xs lots ∧ lots.length ≤ 3 ∧
  (∀ ls, lots = ls.map some → (firsts ls).length < 64) ∧ DueIs lots (some d) ∧ ∀ cls dd H', Ext H H' → ErrAt CBB CUn CTa CTM d cls dd H' → E cls dd H'
def spNo : Sp := fun _ _ _ _ => False
section
variable {P : Program} {w : World} {K : PySem.W.Frag} {mg : Str → Option Value} {base : Heap} {tL tM tO : Tok} {fIsWord CG gI gLen gAnd gEq CO oI pOf oOf oInv oAdd oEq CB fIsInt bI bNW bNP bCh bTu bLen bIx bAdd bEq pOfB bOf pChs bChs CBB CUn CTa CTM iBB iUn iTa iTM fNB fBe fDi fTree : Addr} {mc mcB : Value}
theorem fn_no {f : Addr} : FnR P w K mg base (L2.CX P w) 1 f spNo := fun _ _ _ _ _ _ _ _ _ _ _ h => h.elim
theorem ok_dissolving (B : TxB mg) (T : TxG K mg tL tM fIsWord CG gI gLen gAnd gEq) (O : TxO K mg CO oI mc pOf oOf oInv oAdd oEq) (Bk : TxBk K mg tO CG CO CB fIsInt bI bNW bNP bCh bTu bLen bIx bAdd bEq pOfB bOf pChs bChs mcB) (Er : TxEr P K mg CBB CUn CTa CTM iBB iUn iTa iTM)
    (S : TxBs K mg fNB fBe fDi fTree) : FnR P w K mg base (L2.CX P w) 22 fDi (spStar 0 (spDis K CG CO CB CBB CUn CTa CTM)) := by
  obtain ⟨fd, F⟩ := S.F_dissolving
  have G_be := ok_beside (P := P) (w := w) (base := base) B T O Bk Er S
  refine fnS (ps := []) F sc_dissolving (fun kV doc pm an cdv ct => bind_star0 (B := fun us => bindArgs (PySem.W.fnOf "dissolving" "dissolving" (defArgs s_dissolving) (defBody s_dissolving) (defScope s_dissolving) .none kV doc pm an cdv ct) ⟨us, []⟩) rfl (fun _ _ => rfl)) (fun cdv A outer s H vs Q E hr h => ?_)
  · refine ⟨_, (pss_cons (ps_set (i := 1) sc_dissolving.nd rfl (Or.inr rfl) (pe_callR (E := E0) fn_no (hr.mono (by decide)) S.k_tree_of (by rfl) S.g_tree_of passL (pa_cons (pe_callS1 (E := E) G_be (hr.mono (by decide)) S.k_beside (by rfl) S.g_beside (passes_call (takes_of rfl rfl rfl rfl) fun _ _ _ _ h => h) (pv 0)) pa_nil)))
(pss_one ps_never)), ?_⟩
    obtain ⟨p, xs, lots, d, rfl, hp, hL, l3, h64, hd, hE⟩ := h
    refine ⟨_, rfl, p, xs, rfl, .inl (SqT.of hp), [], xs, rfl, rfl, by rw [hL.1]; exact Nat.le_trans l3 (by decide), fun p' hp' => ?_⟩
    have e1 := Ext.upd (o := HO.tup xs) hp'
    refine ⟨p', xs, lots, rfl, upd_same, hL.ext e1, l3, h64, fun r dr => ?_⟩
    cases hd.uniq dr
    exact fun cls dd H' e h => hE cls dd H' (e1.trans e) h
end
end Kq
set_option maxHeartbeats 4000000
namespace Kq
open PySem PySem.Spec PyProof.Rows L2 Kp
open Evl (Ev EvL EvT EvA given)
/-! ### the law's own books -/
structure TxLb (K : PySem.W.Frag) (mg : Str → Option Value) (fPen fBook fBeL fDiL fJoin : Addr) : Prop where
  g_l_pen : mg "_law_pen" = some (.ref fPen)
  k_l_pen : PySem.W.keepIn K (.ref fPen) = true
  F_pen : ∃ fd, Fun K "_law_pen" "_law_pen" s_l_pen fPen fd
  g_l_book : mg "_law_book" = some (.ref fBook)
  k_l_book : PySem.W.keepIn K (.ref fBook) = true
  F_book : ∃ fd, Fun K "_law_book" "_law_book" s_l_book fBook fd
  g_l_beside : mg "_law_beside" = some (.ref fBeL)
  k_l_beside : PySem.W.keepIn K (.ref fBeL) = true
  F_beside : ∃ fd, Fun K "_law_beside" "_law_beside" s_l_beside fBeL fd
  g_l_dissolving : mg "_law_dissolving" = some (.ref fDiL)
  k_l_dissolving : PySem.W.keepIn K (.ref fDiL) = true
  F_dissolving : ∃ fd, Fun K "_law_dissolving" "_law_dissolving" s_l_dissolving fDiL fd
  g_l_joined : mg "_law_joined" = some (.ref fJoin)
  k_l_joined : PySem.W.keepIn K (.ref fJoin) = true
  F_joined : ∃ fd, Fun K "_law_joined" "_law_joined" s_l_joined fJoin fd
/-- rows that a book can be made of -/
structure OkR (rows : List (List Str)) : Prop where
  ne : rows ≠ []
  few : rows.length ≤ 8
  ok : ∀ ws ∈ rows, OkW ws
  same : ∀ a ∈ rows, ∀ b ∈ rows, ∀ x, x ∈ a ↔ x ∈ b
theorem OkR.okB {rows : List (List Str)} (h : OkR rows) {us ws : List Str} (hw : ws ∈ rows) (ig : IsG us ws) : OkB us rows := ⟨h.ne, h.few, h.ok, fun a ha => ⟨ig.so, ig.nd, fun x => (ig.mem x).trans (h.same ws hw a ha x)⟩⟩
def spPenL (K : PySem.W.Frag) : Sp := fun vs H Q _ => ∃ (q : Addr) (cs : List Int), vs = [.ref q] ∧ SqL K H q (cs.map V.int) ∧ ∀ (p l : Addr) (cs' : List Int) (H' : Hp), Ext H H' → H p = none → Pen H' p l cs' 100000 → Q (.ref p) H'
def spLBook (CG CO CB : Addr) : Sp := fun vs H Q _ => ∃ (r : Addr) (rows : List (List Str)), vs = [.ref r] ∧ RowsAt H r rows ∧ OkR rows ∧
  ∀ (b g h q : Addr) (os : List Addr) (us : List Str) (H' : Hp), Ext H H' → H b = none → H h = none → H q = none → BkX CG CO CB H' b g h q os us rows 0 → Q (.ref b) H'
def spJoined : Sp := fun vs H Q _ => ∃ (r : Addr) (rows : List (List Str)), vs = [.ref r] ∧ RowsAt H r rows ∧ rows.length ≤ 100 ∧ rows.flatten.length ≤ 1000 ∧ ∀ (f : Addr) (H' : Hp), Ext H H' → H f = none → H' f = some (.lst (rows.flatten.map V.str)) → Q (.ref f) H'
theorem cut_ints (cs : List Int) : ∃ cs' : List Int, cutV (cs.map V.int) none (some 63) = cs'.map V.int ∧ cs'.length ≤ 63 := by
  refine ⟨cs.take (min 63 cs.length), ?_, by rw [List.length_take]; omega⟩
  unfold cutV
  rw [show (some (63 : Int)) = some (((63 : Nat) : Int)) from rfl, HT.sIx_none, HT.sIx_nat, List.drop_zero, Nat.sub_zero, List.map_take, List.length_map]
section
variable {P : Program} {w : World} {K : PySem.W.Frag} {mg : Str → Option Value} {base : Heap} {tL tM tO : Tok} {fIsWord CG gI gLen gAnd gEq CO oI pOf oOf oInv oAdd oEq CB fIsInt bI bNW bNP bCh bTu bLen bIx bAdd bEq pOfB bOf pChs bChs fPen fBook fBeL fDiL fJoin : Addr} {mc mcB : Value}
theorem ok_pen (B : TxB mg) (L : TxLb K mg fPen fBook fBeL fDiL fJoin) : FnR P w K mg base (L2.CX P w) 1 fPen (spPenL K) := by
  obtain ⟨fd, F⟩ := L.F_pen
  refine fnP F sc_l_pen (fun _ _ _ _ _ _ us hl => match us, hl with | [_], _ => rfl) (fun vs H Q E h => ?_) (fun cdv A outer s H vs Q E hr h => ?_)
  · obtain ⟨q, cs, rfl, _⟩ := h
    rfl
  · refine ⟨_, PSs.nox (pss_one (ps_ret (pe_lst (pa_cons (pe_callTy (call_list_ofK (K := K) rfl) (by rfl) B.n_list (by decide +kernel) (pa_cons (pe_slice (sl_listK (K := K) rfl) (pv 0) po_none (po_some pe_int)) pa_nil)) (pa_cons pe_int (pa_cons pe_int pa_nil)))))), ?_⟩
    obtain ⟨q, cs, rfl, hq, hQ⟩ := h
    refine ⟨_, rfl, _, rfl, q, _, rfl, hq, fun p1 hp1 => ?_⟩
    generalize hh1 : upd H p1 _ = H1
    have e1 : Ext H H1 := hh1 ▸ Ext.upd hp1
    have o1 : H1 p1 = some (.lst (cutV (cs.map V.int) none (some 63))) := by
      rw [← hh1]
      exact upd_same
    refine ⟨p1, _, rfl, .inl (SqL.of o1), fun l hl => ?_⟩
    generalize hh2 : upd H1 l _ = H2
    have e2 : Ext H1 H2 := hh2 ▸ Ext.upd hl
    obtain ⟨cs', c1, c2⟩ := cut_ints cs
    have o2 : H2 l = some (.lst (cs'.map V.int)) := by
      rw [← hh2, c1]
      exact upd_same
    refine ⟨(show (3 : Nat) ≤ sizeLine by decide), fun p hp => ?_⟩
    have e3 := Ext.upd (o := HO.lst [V.ref l, V.int 0, V.int 0]) hp
    have e123 := (e1.trans e2).trans e3
    exact hQ p l cs' _ e123 (ext_none (e1.trans e2) hp) ⟨⟨0, 0, upd_same, by omega, by omega⟩, e3 _ _ o2, c2⟩
theorem ok_law_book (B : TxB mg) (T : TxG K mg tL tM fIsWord CG gI gLen gAnd gEq) (O : TxO K mg CO oI mc pOf oOf oInv oAdd oEq) (Bk : TxBk K mg tO CG CO CB fIsInt bI bNW bNP bCh bTu bLen bIx bAdd bEq pOfB bOf pChs bChs mcB) (L : TxLb K mg fPen fBook fBeL fDiL fJoin) :
    FnR P w K mg base (L2.CX P w) 8 fBook (spLBook CG CO CB) := by
  obtain ⟨fd, F⟩ := L.F_book
  have G_oof := ok_order_of (P := P) (w := w) (base := base) B T O
  have G_bof := ok_book_of (P := P) (w := w) (base := base) B T O Bk
  refine fnP F sc_l_book (fun _ _ _ _ _ _ us hl => match us, hl with | [_], _ => rfl) (fun vs H Q E h => ?_) (fun cdv A outer s H vs Q E hr h => ?_)
  · obtain ⟨r, rows, rfl, _⟩ := h
    rfl
  · refine ⟨_, PSs.nox (pss_one (ps_ret (ClX.pe_cmeth (E := E0) (pe_glob (v := .ref _) (by rfl) Bk.g_Book rfl) Bk.rd Bk.ofm G_bof (hr.mono (by decide)) passL (pa_cons (pe_lc (own := [("_law_row", 1)]) (g := gName 1) (tt := tYes) rfl sc_l_book.nd (pi_listK (K := K) rfl (pv 0)) (blkOk_by (own := [("_law_row", 1)]) (N := N_l_book) (sc := defScope s_l_book) (by decide +kernel)) (fun _ _ _ _ _ => (pg_name (i := 1) sc_l_book.nd rfl (Or.inl rfl))) (fun _ _ _ _ _ => pts_nil) (fun _ _ _ _ _ => by exact (ClX.pe_cmeth (E := E0) (pe_glob (v := .ref _) (by rfl) O.g_Order rfl) O.rd O.ofm G_oof (hr.mono (by decide)) passL (pa_cons (pv 1) pa_nil)))) pa_nil)))), ?_⟩
    obtain ⟨r, rows, rfl, hr', ok, hQ⟩ := h
    obtain ⟨as, hl, ha, hrow⟩ := id hr'
    refine ⟨rfl, ?_⟩
    refine ⟨_, rfl, r, rfl, ⟨_, SqL.of ha⟩, fun D hD => ?_⟩
    have l8 := ok.few
    refine mk_lc (walk_list (xs := as.map V.ref)) hD (by rw [List.length_map]; omega) (fun i y H5 => ∃ o, y = .ref o ∧ ∀ ws, rows[i]? = some ws → OrdAt CG CO H5 o ws) (fun H5 e5 => SqL.of (e5 _ _ ha)) (fun i x H5 H6 acc hi e5 hacc hy Q' q' => ?_) (fun H5 acc e5 hacc hn hr => ?_)
    · obtain ⟨rfl, hx⟩ := hy
      obtain ⟨a, haa, rfl⟩ := ref_at hx
      have hi' : i < rows.length := by rw [← hl]; exact (List.getElem?_eq_some_iff.mp haa).1
      have hw : rows[i]? = some rows[i] := List.getElem?_eq_getElem hi'
      refine ⟨rfl, rfl, _, rfl, a, rows[i], rfl, e5 _ _ (hrow i a _ haa hw), ok.ok _ (List.getElem_mem hi'), fun o H7 e7 ho oo => ?_⟩
      refine q' _ H7 e7 fun H8 k8 => ⟨o, rfl, fun ws hws => ?_⟩
      rw [hw] at hws
      cases hws
      exact oo.kept (Off.lst (e7 _ _ hacc)) k8
    · obtain ⟨os3, rfl, l3, r3⟩ := refs_of hn hr
      rw [List.length_map] at l3
      have rp : 0 < rows.length := List.length_pos_iff.mpr ok.ne
      have oz : os3[0]? = some os3[0] := List.getElem?_eq_getElem (by omega)
      have w0 : rows[0]? = some rows[0] := List.getElem?_eq_getElem rp
      obtain ⟨_, _, _, _, us, _, _, _, ig⟩ := r3 0 _ oz _ w0
      refine ⟨D, os3, us, rows, rfl, hacc, ⟨by rw [l3, hl], fun i o ws a b => r3 i o a ws b⟩, ok.okB (List.getElem_mem rp) ig, fun b g h q H' e2 b0 h0 q0 bk => ?_⟩
      exact hQ b g h q _ us H' (e5.trans e2) (ext_none e5 b0) (ext_none e5 h0) (ext_none e5 q0) bk
theorem ok_joined (B : TxB mg) (L : TxLb K mg fPen fBook fBeL fDiL fJoin) : FnR P w K mg base (L2.CX P w) 1 fJoin spJoined := by
  obtain ⟨fd, F⟩ := L.F_joined
  refine fnP F sc_l_joined (fun _ _ _ _ _ _ us hl => match us, hl with | [_], _ => rfl) (fun vs H Q E h => ?_) (fun cdv A outer s H vs Q E hr h => ?_)
  · obtain ⟨r, rows, rfl, _⟩ := h
    rfl
  · refine ⟨_, PSs.nox (pss_cons (ps_set (i := 1) sc_l_joined.nd rfl (Or.inl rfl) (pe_lst pa_nil))
(pss_cons (ps_for PassesOwn.never rfl (pi_listK (K := K) rfl (pv 0)) (pg_name (i := 2) sc_l_joined.nd rfl (Or.inl rfl))
(pss_one (ps_set (i := 1) sc_l_joined.nd rfl (Or.inl rfl) (pe_op op_cat (pv 1) (pv 2)))))
(pss_one (ps_ret (pv 1))))), ?_⟩
    obtain ⟨r, rows, rfl, hr', h100, h1000, hQ⟩ := h
    obtain ⟨as, hl, ha, hrow⟩ := id hr'
    refine ⟨by decide, fun f hf => ?_⟩
    have e1 := Ext.upd (o := HO.lst []) hf
    refine ⟨_, rfl, r, rfl, ⟨_, SqL.of (e1 _ _ ha)⟩, ?_⟩
    refine for_list (xs := as.map V.ref) (fun i (σ' : L2.St) H' => ∃ f' a2, σ' = [some (V.ref r), some (V.ref f'), a2] ∧ Ext H H' ∧ H f' = none ∧ H' f' = some (.lst ((rows.take i).flatten.map V.str))) ?_ (fun i σ' H' _ hp' => ?_) (fun i y σ' H' hy hp' => ?_) (fun σ' H' hp' => ?_)
    · exact ⟨f, _, rfl, e1, hf, upd_same⟩
    · obtain ⟨_, _, rfl, e, _⟩ := hp'
      exact SqL.of (e _ _ ha)
    · obtain ⟨f', a2, rfl, e, hf', hv⟩ := hp'
      obtain ⟨a, haa, rfl⟩ := ref_at hy
      have hi' : i < rows.length := by rw [← hl]; exact (List.getElem?_eq_some_iff.mp haa).1
      have hw : rows[i]? = some rows[i] := List.getElem?_eq_getElem hi'
      have hai := e _ _ (hrow i a _ haa hw)
      have tk : rows.take (i + 1) = rows.take i ++ [rows[i]] := by
        rw [List.take_add_one, hw]
        rfl
      have ft : (rows.take (i + 1)).flatten = (rows.take i).flatten ++ rows[i] := by
        rw [tk, List.flatten_append]
        simp
      have lt : (rows.take (i + 1)).flatten.length ≤ rows.flatten.length := by
        have q : rows.flatten = (rows.take (i + 1)).flatten ++ (rows.drop (i + 1)).flatten := by rw [← List.flatten_append, List.take_append_drop]
        rw [q, List.length_append]
        omega
      rw [ft, List.length_append] at lt
      refine ⟨_, rfl, _, rfl, f', a, _, _, rfl, rfl, hv, hai, by rw [List.length_map, List.length_map]; exact Nat.le_trans (show _ ≤ 1000 by omega) (by decide), fun g hg => ?_⟩
      refine ⟨g, _, rfl, e.trans (Ext.upd hg), ext_none e hg, ?_⟩
      rw [ft, List.map_append]
      exact upd_same
    · obtain ⟨f', a2, rfl, e, hf', hv⟩ := hp'
      rw [List.length_map, hl, List.take_length] at hv
      exact ⟨_, rfl, hQ f' H' e hf' hv⟩
end
end Kq
set_option maxHeartbeats 4000000
namespace Kq
open PySem PySem.Spec PyProof.Rows L2 Kp
open Evl (Ev EvL EvT EvA given)
def spBesL (K : PySem.W.Frag) (CG CO CB CBB CUn CTa CTM : Addr) : Sp := fun vs H Q E => ∃ (q : Addr) (xs : List V) (lots : List Lot), vs = [.ref q] ∧ H q = some (.lst xs) ∧ LotsAt K CG CO CB H xs lots ∧ 0 < lots.length ∧ lots.length ≤ 3 ∧
  (∀ ls, lots = ls.map some → (firsts ls).length < 64) ∧ ∀ r, DueIs lots r → match r with
    | none => ∀ ls, lots = ls.map some → ∀ (b g h q : Addr) (os : List Addr) (us : List Str) (H' : Hp), Ext H H' → H b = none → BkX CG CO CB H' b g h q os us (sides ls) 0 → Q (.ref b) H'
    | some d => ∀ cls dd H', Ext H H' → ErrAt CBB CUn CTa CTM d cls dd H' → E cls dd H'
def spDisL (K : PySem.W.Frag) (CG CO CB CBB CUn CTa CTM : Addr) : Sp := fun vs H _ E => ∃ (q : Addr) (xs : List V) (lots : List Lot) (d : Due), vs = [.ref q] ∧ H q = some (.lst xs) ∧ LotsAt K CG CO CB H xs lots ∧ 0 < lots.length ∧ lots.length ≤ 3 ∧
  (∀ ls, lots = ls.map some → (firsts ls).length < 64) ∧ DueIs lots (some d) ∧ ∀ cls dd H', Ext H H' → ErrAt CBB CUn CTa CTM d cls dd H' → E cls dd H'
theorem few3 {α : Type} : ∀ {xs : List α}, 0 < xs.length → xs.length ≤ 3 → (∃ a, xs = [a]) ∨ (∃ a b, xs = [a, b]) ∨ ∃ a b c, xs = [a, b, c]
  | [], h, _ => absurd h (Nat.lt_irrefl 0)
  | [a], _, _ => .inl ⟨a, rfl⟩
  | [a, b], _, _ => .inr (.inl ⟨a, b, rfl⟩)
  | [a, b, c], _, _ => .inr (.inr ⟨a, b, c, rfl⟩)
  | _ :: _ :: _ :: _ :: _, _, h => by simp at h
section
variable {P : Program} {w : World} {K : PySem.W.Frag} {mg : Str → Option Value} {base : Heap} {tL tM tO : Tok} {fIsWord CG gI gLen gAnd gEq CO oI pOf oOf oInv oAdd oEq CB fIsInt bI bNW bNP bCh bTu bLen bIx bAdd bEq pOfB bOf pChs bChs CBB CUn CTa CTM iBB iUn iTa iTM fNB fBe fDi fTree fPen fBook fBeL fDiL fJoin : Addr} {mc mcB : Value}
theorem ok_l_beside (B : TxB mg) (T : TxG K mg tL tM fIsWord CG gI gLen gAnd gEq) (O : TxO K mg CO oI mc pOf oOf oInv oAdd oEq) (Bk : TxBk K mg tO CG CO CB fIsInt bI bNW bNP bCh bTu bLen bIx bAdd bEq pOfB bOf pChs bChs mcB) (Er : TxEr P K mg CBB CUn CTa CTM iBB iUn iTa iTM)
    (S : TxBs K mg fNB fBe fDi fTree) (L : TxLb K mg fPen fBook fBeL fDiL fJoin) : FnR P w K mg base (L2.CX P w) 22 fBeL (spBesL K CG CO CB CBB CUn CTa CTM) := by
  obtain ⟨fd, F⟩ := L.F_beside
  have G_x := ok_beside (P := P) (w := w) (base := base) B T O Bk Er S
  refine fnP F sc_l_beside (fun _ _ _ _ _ _ us hl => match us, hl with | [_], _ => rfl) (fun vs H Q E h => ?_) (fun cdv A outer s H vs Q E hr h => ?_)
  · obtain ⟨q, xs, lots, rfl, _⟩ := h
    rfl
  · refine ⟨_, (pss_cons (ps_if (pt_cmpR op_eq (pe_callB (call_lenK (K := K) rfl) (by rfl) B.n_len (by decide +kernel) (pa_cons (pv 0) pa_nil)) pe_int (nomark _))
(pss_one (ps_ret (pe_callR (E := E) G_x (hr.mono (by decide)) S.k_beside (by rfl) S.g_beside (passes_call (takes_of rfl rfl rfl rfl) fun _ _ _ _ h => h) (pa_cons (pe_ix (ix_listK (K := K) rfl) (pv 0) pe_int (fun _ _ => rfl)) pa_nil))))
pss_nil)
(pss_one (ps_ret (pe_ifExp (pt_cmpR op_eq (pe_callB (call_lenK (K := K) rfl) (by rfl) B.n_len (by decide +kernel) (pa_cons (pv 0) pa_nil)) pe_int (nomark _)) (pe_callR (E := E) G_x (hr.mono (by decide)) S.k_beside (by rfl) S.g_beside (passes_call (takes_of rfl rfl rfl rfl) fun _ _ _ _ h => h) (pa_cons (pe_ix (ix_listK (K := K) rfl) (pv 0) pe_int (fun _ _ => rfl)) (pa_cons (pe_ix (ix_listK (K := K) rfl) (pv 0) pe_int (fun _ _ => rfl)) pa_nil))) (pe_callR (E := E) G_x (hr.mono (by decide)) S.k_beside (by rfl) S.g_beside (passes_call (takes_of rfl rfl rfl rfl) fun _ _ _ _ h => h) (pa_cons (pe_ix (ix_listK (K := K) rfl) (pv 0) pe_int (fun _ _ => rfl)) (pa_cons (pe_ix (ix_listK (K := K) rfl) (pv 0) pe_int (fun _ _ => rfl)) (pa_cons (pe_ix (ix_listK (K := K) rfl) (pv 0) pe_int (fun _ _ => rfl)) pa_nil)))))))), ?_⟩
    obtain ⟨q, xs, lots, rfl, hq, hL, l0, l3, h64, hE⟩ := h
    have hlen := hL.1
    refine ⟨_, rfl, _, xs.length, rfl, .inl ⟨_, SqL.of hq, rfl⟩, rfl, _, rfl, ?_⟩
    rcases few3 (xs := xs) (by omega) (by omega) with ⟨a, rfl⟩ | ⟨a, b, rfl⟩ | ⟨a, b, c, rfl⟩
    · refine iteT ?_
      refine ⟨_, rfl, q, _, 0, _, rfl, rfl, SqL.of hq, rfl, [], [a], rfl, rfl, (show 1 ≤ sizeLine by decide), fun p' hp' => ?_⟩
      have e1 := Ext.upd (o := HO.tup [a]) hp'
      exact ⟨p', _, lots, rfl, upd_same, hL.ext e1, l3, h64, fun r dr => by
        cases r with
        | none => exact fun ls e b g h q os us H' e2 hb bk => hE none dr ls e b g h q os us H' (e1.trans e2) (ext_none e1 hb) bk
        | some d => exact fun cls dd H' e2 he => hE (some d) dr cls dd H' (e1.trans e2) he⟩
    · refine iteF ?_
      refine ⟨_, rfl, _, 2, rfl, .inl ⟨_, SqL.of hq, rfl⟩, rfl, _, rfl, ?_⟩
      refine iteT ?_
      refine ⟨_, rfl, q, _, 0, _, rfl, rfl, SqL.of hq, rfl, _, rfl, q, _, 1, _, rfl, rfl, SqL.of hq, rfl, [], [a, b], rfl, rfl, (show 2 ≤ sizeLine by decide), fun p' hp' => ?_⟩
      have e1 := Ext.upd (o := HO.tup [a, b]) hp'
      exact ⟨p', _, lots, rfl, upd_same, hL.ext e1, l3, h64, fun r dr => by
        cases r with
        | none => exact fun ls e b g h q os us H' e2 hb bk => hE none dr ls e b g h q os us H' (e1.trans e2) (ext_none e1 hb) bk
        | some d => exact fun cls dd H' e2 he => hE (some d) dr cls dd H' (e1.trans e2) he⟩
    · refine iteF ?_
      refine ⟨_, rfl, _, 3, rfl, .inl ⟨_, SqL.of hq, rfl⟩, rfl, _, rfl, ?_⟩
      refine iteF ?_
      refine ⟨_, rfl, q, _, 0, _, rfl, rfl, SqL.of hq, rfl, _, rfl, q, _, 1, _, rfl, rfl, SqL.of hq, rfl, _, rfl, q, _, 2, _, rfl, rfl, SqL.of hq, rfl, [], [a, b, c], rfl, rfl, (show 3 ≤ sizeLine by decide), fun p' hp' => ?_⟩
      have e1 := Ext.upd (o := HO.tup [a, b, c]) hp'
      exact ⟨p', _, lots, rfl, upd_same, hL.ext e1, l3, h64, fun r dr => by
        cases r with
        | none => exact fun ls e b g h q os us H' e2 hb bk => hE none dr ls e b g h q os us H' (e1.trans e2) (ext_none e1 hb) bk
        | some d => exact fun cls dd H' e2 he => hE (some d) dr cls dd H' (e1.trans e2) he⟩
theorem ok_l_dissolving (B : TxB mg) (T : TxG K mg tL tM fIsWord CG gI gLen gAnd gEq) (O : TxO K mg CO oI mc pOf oOf oInv oAdd oEq) (Bk : TxBk K mg tO CG CO CB fIsInt bI bNW bNP bCh bTu bLen bIx bAdd bEq pOfB bOf pChs bChs mcB) (Er : TxEr P K mg CBB CUn CTa CTM iBB iUn iTa iTM)
    (S : TxBs K mg fNB fBe fDi fTree) (L : TxLb K mg fPen fBook fBeL fDiL fJoin) : FnR P w K mg base (L2.CX P w) 23 fDiL (spDisL K CG CO CB CBB CUn CTa CTM) := by
  obtain ⟨fd, F⟩ := L.F_dissolving
  have G_x := ok_dissolving (P := P) (w := w) (base := base) B T O Bk Er S
  refine fnP F sc_l_dissolving (fun _ _ _ _ _ _ us hl => match us, hl with | [_], _ => rfl) (fun vs H Q E h => ?_) (fun cdv A outer s H vs Q E hr h => ?_)
  · obtain ⟨q, xs, lots, d, rfl, _⟩ := h
    rfl
  · refine ⟨_, (pss_cons (ps_if (pt_cmpR op_eq (pe_callB (call_lenK (K := K) rfl) (by rfl) B.n_len (by decide +kernel) (pa_cons (pv 0) pa_nil)) pe_int (nomark _))
(pss_one (ps_ret (pe_callR (E := E) G_x (hr.mono (by decide)) S.k_dissolving (by rfl) S.g_dissolving (passes_call (takes_of rfl rfl rfl rfl) fun _ _ _ _ h => h) (pa_cons (pe_ix (ix_listK (K := K) rfl) (pv 0) pe_int (fun _ _ => rfl)) pa_nil))))
pss_nil)
(pss_one (ps_ret (pe_ifExp (pt_cmpR op_eq (pe_callB (call_lenK (K := K) rfl) (by rfl) B.n_len (by decide +kernel) (pa_cons (pv 0) pa_nil)) pe_int (nomark _)) (pe_callR (E := E) G_x (hr.mono (by decide)) S.k_dissolving (by rfl) S.g_dissolving (passes_call (takes_of rfl rfl rfl rfl) fun _ _ _ _ h => h) (pa_cons (pe_ix (ix_listK (K := K) rfl) (pv 0) pe_int (fun _ _ => rfl)) (pa_cons (pe_ix (ix_listK (K := K) rfl) (pv 0) pe_int (fun _ _ => rfl)) pa_nil))) (pe_callR (E := E) G_x (hr.mono (by decide)) S.k_dissolving (by rfl) S.g_dissolving (passes_call (takes_of rfl rfl rfl rfl) fun _ _ _ _ h => h) (pa_cons (pe_ix (ix_listK (K := K) rfl) (pv 0) pe_int (fun _ _ => rfl)) (pa_cons (pe_ix (ix_listK (K := K) rfl) (pv 0) pe_int (fun _ _ => rfl)) (pa_cons (pe_ix (ix_listK (K := K) rfl) (pv 0) pe_int (fun _ _ => rfl)) pa_nil)))))))), ?_⟩
    obtain ⟨q, xs, lots, d, rfl, hq, hL, l0, l3, h64, hd, hE⟩ := h
    have hlen := hL.1
    refine ⟨_, rfl, _, xs.length, rfl, .inl ⟨_, SqL.of hq, rfl⟩, rfl, _, rfl, ?_⟩
    rcases few3 (xs := xs) (by omega) (by omega) with ⟨a, rfl⟩ | ⟨a, b, rfl⟩ | ⟨a, b, c, rfl⟩
    · refine iteT ?_
      refine ⟨_, rfl, q, _, 0, _, rfl, rfl, SqL.of hq, rfl, [], [a], rfl, rfl, (show 1 ≤ sizeLine by decide), fun p' hp' => ?_⟩
      have e1 := Ext.upd (o := HO.tup [a]) hp'
      exact ⟨p', _, lots, d, rfl, upd_same, hL.ext e1, l3, h64, hd, fun cls dd H' e2 he => hE cls dd H' (e1.trans e2) he⟩
    · refine iteF ?_
      refine ⟨_, rfl, _, 2, rfl, .inl ⟨_, SqL.of hq, rfl⟩, rfl, _, rfl, ?_⟩
      refine iteT ?_
      refine ⟨_, rfl, q, _, 0, _, rfl, rfl, SqL.of hq, rfl, _, rfl, q, _, 1, _, rfl, rfl, SqL.of hq, rfl, [], [a, b], rfl, rfl, (show 2 ≤ sizeLine by decide), fun p' hp' => ?_⟩
      have e1 := Ext.upd (o := HO.tup [a, b]) hp'
      exact ⟨p', _, lots, d, rfl, upd_same, hL.ext e1, l3, h64, hd, fun cls dd H' e2 he => hE cls dd H' (e1.trans e2) he⟩
    · refine iteF ?_
      refine ⟨_, rfl, _, 3, rfl, .inl ⟨_, SqL.of hq, rfl⟩, rfl, _, rfl, ?_⟩
      refine iteF ?_
      refine ⟨_, rfl, q, _, 0, _, rfl, rfl, SqL.of hq, rfl, _, rfl, q, _, 1, _, rfl, rfl, SqL.of hq, rfl, _, rfl, q, _, 2, _, rfl, rfl, SqL.of hq, rfl, [], [a, b, c], rfl, rfl, (show 3 ≤ sizeLine by decide), fun p' hp' => ?_⟩
      have e1 := Ext.upd (o := HO.tup [a, b, c]) hp'
      exact ⟨p', _, lots, d, rfl, upd_same, hL.ext e1, l3, h64, hd, fun cls dd H' e2 he => hE cls dd H' (e1.trans e2) he⟩
end
end Kq
set_option maxHeartbeats 4000000
namespace Kq
open PySem PySem.Spec PyProof.Rows L2 Kp
open Evl (Ev EvL EvT EvA given)
/-! ### what the law expects -/
/-- no list and no book -/
def OddV (K : PySem.W.Frag) (CB : Addr) (H : Hp) (x : V) : Prop := ∀ H', LamX.ExtN H H' → ∃ t, TyX K H' x t ∧ PySem.W.kitOne K t (.ref CB) = some false ∧ PySem.W.kitOne K t (.type "list") = some false
/-- the value x is the lot l of rows -/
def RowLot (K : PySem.W.Frag) (CB : Addr) (H : Hp) (x : V) : Lot → Prop
  | some rows => ∃ a, x = .ref a ∧ RowsAt H a rows ∧ OkR rows
  | none => OddV K CB H x
theorem RowLot.ext {K : PySem.W.Frag} {CB : Addr} {H H' : Hp} {x : V} {l : Lot} (h : RowLot K CB H x l) (e : Ext H H') : RowLot K CB H' x l := by
  cases l with
  | none => exact fun H2 e2 => h H2 ((LamX.ExtN.of e).trans e2)
  | some rows => exact let ⟨a, b, c, d⟩ := h; ⟨a, b, c.ext e, d⟩
def RowLots (K : PySem.W.Frag) (CB : Addr) (H : Hp) (xs : List V) (lots : List Lot) : Prop := xs.length = lots.length ∧ ∀ (i : Nat) x l, xs[i]? = some x → lots[i]? = some l → RowLot K CB H x l
theorem RowLots.ext {K : PySem.W.Frag} {CB : Addr} {H H' : Hp} {xs : List V} {lots : List Lot} (h : RowLots K CB H xs lots) (e : Ext H H') : RowLots K CB H' xs lots := ⟨h.1, fun i x l a b => (h.2 i x l a b).ext e⟩
theorem RowLots.get {K : PySem.W.Frag} {CB : Addr} {H : Hp} {xs : List V} {lots : List Lot} (h : RowLots K CB H xs lots) {i : Nat} {x : V} (hx : xs[i]? = some x) : ∃ l, lots[i]? = some l ∧ RowLot K CB H x l := by
  have hi : i < lots.length := by rw [← h.1]; exact (List.getElem?_eq_some_iff.mp hx).1
  exact ⟨_, List.getElem?_eq_getElem hi, h.2 i x _ hx (List.getElem?_eq_getElem hi)⟩
/-- the pair that tells of d -/
def dueV : Due → List V
  | .book none => [.str "book", .str "None"]
  | .book (some i) => [.str "book", .str (toString ((i : Nat) : Int))]
  | .unlike => [.str "unlike", .str "'orders'"]
  | .taken w => [.str "taken", .str (reprText w)]
  | .many => [.str "many", .str "'words'", .str "24"]
def spWrong (K : PySem.W.Frag) (CB : Addr) : Sp := fun vs H Q _ => ∃ (q : Addr) (xs : List V) (lots : List Lot), vs = [.ref q] ∧ H q = some (.lst xs) ∧ RowLots K CB H xs lots ∧ 0 < lots.length ∧ lots.length ≤ 3 ∧
  (∀ ls, lots = ls.map some → (firsts ls).length < 64) ∧ ∀ r, DueIs lots r → match r with
    | none => ∀ H', Ext H H' → Q .non H'
    | some d => ∀ (p : Addr) (H' : Hp), Ext H H' → H' p = some (.tup (dueV d)) → Q (.ref p) H'
theorem first_of {n i : Nat} {f : Nat → Bool} (h : ((List.range n).filter f)[0]? = some i) : i < n ∧ f i = true ∧ ∀ j, j < i → f j = false := by
  rw [← List.head?_eq_getElem?, List.head?_filter, List.find?_range_eq_some] at h
  exact ⟨List.mem_range.mp h.2.1, h.1, fun j hj => by simpa using h.2.2 j hj⟩
theorem dp_all {K : PySem.W.Frag} {H : Hp} : ∀ {l : List V}, (∀ x ∈ l, ∃ d, Dp K H x d ∧ d.canLay0 = true ∧ d.depth ≤ 60) → ∃ ds : List PyData, DpAll K H l ds ∧ (ds = [] ↔ l = []) ∧ ∀ d ∈ ds, d.canLay0 = true ∧ d.depth ≤ 60
  | [], _ => ⟨[], .nil, by simp, by simp⟩
  | x :: l, h => by
    obtain ⟨d, h1, h2⟩ := h x List.mem_cons_self
    obtain ⟨ds, h3, _, h4⟩ := dp_all (l := l) fun y hy => h y (List.mem_cons_of_mem _ hy)
    exact ⟨d :: ds, .cons h1 h3, by simp, fun e he => by
      rcases List.mem_cons.mp he with rfl | he
      · exact h2
      · exact h4 e he⟩
theorem RowsAt.dp {K : PySem.W.Frag} {H : Hp} {a : Addr} {rows : List (List Str)} (h : RowsAt H a rows) (ok : OkR rows) : ∃ d, Dp K H (.ref a) d ∧ d.canLay0 = true ∧ d.depth ≤ 60 := by
  obtain ⟨as, h1, h2, h3⟩ := h
  refine ⟨_, .lst (SqL.of h2) (dp_rows h1 h3), ?_, ?_⟩
  · exact lay_all fun d hd => by
      obtain ⟨r, hr, rfl⟩ := List.mem_map.mp hd
      exact lay_all fun e he => by
        obtain ⟨w, hw, rfl⟩ := List.mem_map.mp he
        exact letS_ok ((ok.ok r hr).wd w hw).1
  · have : PyData.depthAll (rows.map fun r => PyData.list (r.map PyData.str)) ≤ 1 := depth_all fun d hd => by
      obtain ⟨r, hr, rfl⟩ := List.mem_map.mp hd
      show PyData.depthAll (r.map PyData.str) + 1 ≤ 1
      have : PyData.depthAll (r.map PyData.str) ≤ 0 := depth_all fun e he => by
        obtain ⟨w, hw, rfl⟩ := List.mem_map.mp he
        exact Nat.le_refl _
      omega
    show PyData.depthAll _ + 1 ≤ 60
    omega
/-- doubles beside one another, by index -/
theorem given_dup : ∀ ys : List Str, given (ys.length - 1) (fun i => decide (ys.getD (i + 1) "" = ys.getD i "")) (fun i => V.str (ys.getD (i + 1) "")) = (dupR ys).map V.str
  | [] => rfl
  | [a] => rfl
  | a :: b :: l => by
    have ih := given_dup (b :: l)
    unfold given at ih ⊢
    rw [show (a :: b :: l).length - 1 = l.length + 1 from rfl, List.range_succ_eq_map, List.filter_cons, List.filter_map]
    have ih' : ((List.range l.length).filter (fun i => decide ((b :: l).getD (i + 1) "" = (b :: l).getD i ""))).map (fun i => V.str ((b :: l).getD (i + 1) "")) = (dupR (b :: l)).map V.str := ih
    by_cases e : b = a
    · have h1 : dupR (a :: b :: l) = b :: dupR (b :: l) := if_pos e
      rw [h1, if_pos (decide_eq_true (show (a :: b :: l).getD (0 + 1) "" = (a :: b :: l).getD 0 "" from e)), List.map_cons, List.map_cons, List.map_map, ← ih']
      rfl
    · have h1 : dupR (a :: b :: l) = dupR (b :: l) := if_neg e
      rw [h1, if_neg (by rw [decide_eq_true_eq]; exact e), List.map_map, ← ih']
      rfl
theorem dupR_mem {c : Str} : ∀ {ys : List Str}, c ∈ dupR ys → c ∈ ys
  | a :: b :: l, h => by
    have h' : c ∈ (if b = a then b :: dupR (b :: l) else dupR (b :: l)) := h
    by_cases e : b = a
    · rw [if_pos e] at h'
      rcases List.mem_cons.mp h' with q | q
      · rw [q]
        exact List.mem_cons_of_mem _ List.mem_cons_self
      · exact List.mem_cons_of_mem _ (dupR_mem q)
    · rw [if_neg e] at h'
      exact List.mem_cons_of_mem _ (dupR_mem h')
section
variable {P : Program} {w : World} {K : PySem.W.Frag} {mg : Str → Option Value} {base : Heap} {fPen fBook fBeL fDiL fJoin fWr CB : Addr}
theorem ok_wrong (B : TxB mg) (L : TxLb K mg fPen fBook fBeL fDiL fJoin) {fd : FuncData} (F : Fun K "_law_wrong" "_law_wrong" s_l_wrong fWr fd) : FnR P w K mg base (L2.CX P w) 5 fWr (spWrong K CB) := by
  have G_l_joined := ok_joined (P := P) (w := w) (base := base) B L
  refine fnP F sc_l_wrong (fun _ _ _ _ _ _ us hl => match us, hl with | [_], _ => rfl) (fun vs H Q E h => ?_) (fun cdv A outer s H vs Q E hr h => ?_)
  · obtain ⟨q, xs, lots, rfl, _⟩ := h
    rfl
  · refine ⟨_, PSs.nox (pss_cons (ps_setLc (i := 1) (own := [("_law_at", 4)]) (g := gName 4) rfl sc_l_wrong.nd rfl rfl (sw_true rfl rfl rfl (by decide +kernel)) (pi_range1 (by rfl) B.n_range (pa_cons (pe_callB (call_lenK (K := K) rfl) (by rfl) B.n_len (by decide +kernel) (pa_cons (pv 0) pa_nil)) pa_nil)) (blkOk_by (own := [("_law_at", 4)]) (N := N_l_wrong) (sc := defScope s_l_wrong) (by decide +kernel)) (fun _ _ _ _ _ => (pg_name (i := 4) sc_l_wrong.nd rfl (Or.inl rfl))) (fun _ _ _ _ _ => (pts_one (pt_not (pt_val (pe_callB (call_isiKK (K := K) rfl) (by rfl) B.n_isinstance (by decide +kernel) (pa_cons (pe_ix (ix_listK (K := K) rfl) (pv 0) (pv 4) (fun _ _ => rfl)) (pa_cons (pe_bltn (v := .ty "list") (u := .type "list") (by rfl) B.n_list (by decide +kernel) rfl) pa_nil))))))) (fun _ _ _ _ _ => by exact (pv 4)))
(pss_cons (ps_if (pt_cmpR (op_neDK (K := K) rfl hr.units) (pv 1) (pe_lst pa_nil) (nomark _))
(pss_one (ps_ret (pe_tup (pa_cons pe_str (pa_cons (pe_callB call_repr_any (by rfl) B.n_repr (by decide +kernel) (pa_cons (pe_ix (ix_listK (K := K) rfl) (pv 1) pe_int (fun _ _ => rfl)) pa_nil)) pa_nil)))))
pss_nil)
(pss_cons (ps_if (pt_cmpR (op_neDK (K := K) rfl hr.units) (pe_lc (own := [("_law_lot", 5)]) (g := gName 5) rfl sc_l_wrong.nd (pi_listK (K := K) rfl (pv 0)) (blkOk_by (own := [("_law_lot", 5)]) (N := N_l_wrong) (sc := defScope s_l_wrong) (by decide +kernel)) (fun _ _ _ _ _ => (pg_name (i := 5) sc_l_wrong.nd rfl (Or.inl rfl))) (fun _ _ _ _ _ => (pts_one (pt_cmpR op_ne (pe_callB (call_lenK (K := K) rfl) (by rfl) B.n_len (by decide +kernel) (pa_cons (pv 5) pa_nil)) (pe_callB (call_lenK (K := K) rfl) (by rfl) B.n_len (by decide +kernel) (pa_cons (pe_ix (ix_listK (K := K) rfl) (pv 0) pe_int (fun _ _ => rfl)) pa_nil)) (nomark _)))) (fun _ _ _ _ _ => by exact (pv 5))) (pe_lst pa_nil) (nomark _))
(pss_one (ps_ret (pe_tup (pa_cons pe_str (pa_cons pe_str pa_nil)))))
pss_nil)
(pss_cons (ps_set (i := 2) sc_l_wrong.nd rfl (Or.inr rfl) (pe_callB (cr_sortedSK (K := K) rfl) (by rfl) B.n_sorted (by decide +kernel) (pa_cons (pe_callR G_l_joined (hr.mono (by decide)) L.k_l_joined (by rfl) L.g_l_joined passL (pa_cons (pe_lc (own := [("_law_lot", 5)]) (g := gName 5) (tt := tYes) rfl sc_l_wrong.nd (pi_listK (K := K) rfl (pv 0)) (blkOk_by (own := [("_law_lot", 5)]) (N := N_l_wrong) (sc := defScope s_l_wrong) (by decide +kernel)) (fun _ _ _ _ _ => (pg_name (i := 5) sc_l_wrong.nd rfl (Or.inl rfl))) (fun _ _ _ _ _ => pts_nil) (fun _ _ _ _ _ => by exact (pe_ix (ix_listK (K := K) rfl) (pv 5) pe_int (fun _ _ => rfl)))) pa_nil)) pa_nil)))
(pss_cons (ps_setLc (i := 3) (own := [("_law_k", 6)]) (g := gName 6) rfl sc_l_wrong.nd rfl rfl (sw_true rfl rfl rfl (by decide +kernel)) (pi_range2 (by rfl) B.n_range (pa_cons pe_int (pa_cons (pe_callB (call_lenK (K := K) rfl) (by rfl) B.n_len (by decide +kernel) (pa_cons (pv 2) pa_nil)) pa_nil))) (blkOk_by (own := [("_law_k", 6)]) (N := N_l_wrong) (sc := defScope s_l_wrong) (by decide +kernel)) (fun _ _ _ _ _ => (pg_name (i := 6) sc_l_wrong.nd rfl (Or.inl rfl))) (fun _ _ _ _ _ => (pts_one (pt_cmpR op_eq (pe_ix (ix_listK (K := K) rfl) (pv 2) (pv 6) (fun _ _ => rfl)) (pe_ix (ix_listK (K := K) rfl) (pv 2) (pe_op op_sub (pv 6) pe_int) (fun _ _ => rfl)) (nomark _)))) (fun _ _ _ _ _ => by exact (pe_ix (ix_listK (K := K) rfl) (pv 2) (pv 6) (fun _ _ => rfl))))
(pss_cons (ps_if (pt_cmpR (op_neDK (K := K) rfl hr.units) (pv 3) (pe_lst pa_nil) (nomark _))
(pss_one (ps_ret (pe_tup (pa_cons pe_str (pa_cons (pe_callB call_repr_any (by rfl) B.n_repr (by decide +kernel) (pa_cons (pe_ix (ix_listK (K := K) rfl) (pv 3) pe_int (fun _ _ => rfl)) pa_nil)) pa_nil)))))
pss_nil)
(pss_one (ps_ret (pe_ifExp (pt_cmpR op_gt (pe_callB (call_lenK (K := K) rfl) (by rfl) B.n_len (by decide +kernel) (pa_cons (pv 2) pa_nil)) pe_int (nomark _)) (pe_tup (pa_cons pe_str (pa_cons pe_str (pa_cons pe_str pa_nil)))) pe_non))))))))), ?_⟩
    obtain ⟨q, xs, lots, rfl, hq, hL, l0, l3, h64, hQ⟩ := h
    have hlen := hL.1
    dsimp only [tNext, tSeq, tAsg]
    refine Evl.el_lcR1 (n := (xs.length : Int)) (fun i => (lots.getD i none).isNone) (fun i => V.int (i : Int)) (fun H1 e1 Q' q' => ⟨_, rfl, _, xs.length, rfl, .inl ⟨_, SqL.of (e1 _ _ hq), rfl⟩, q' H1 (Evl.Ex.refl H1)⟩) (by omega) (fun _ => rfl) (fun i H9 e9 hi => ?_) (fun i H9 e9 hi _ => Evl.ev_var rfl) H (Evl.Ex.refl H) _ (fun D H2 hD e2 hD2 => ?_)
    · have hx : xs[i]? = some xs[i] := List.getElem?_eq_getElem (by omega)
      obtain ⟨l, hl, lot⟩ := hL.get hx
      have eg : lots.getD i none = l := by rw [List.getD_eq_getElem?_getD, hl]; rfl
      rw [eg]
      refine fun H10 e10 Q' q' => ⟨_, rfl, _, rfl, q, xs, i, _, rfl, rfl, SqL.of (e10 _ _ (e9 _ _ hq)), atI_nat hx, ?_⟩
      have lot2 := lot.ext (Ext.trans e9 e10)
      cases l with
      | none =>
        obtain ⟨t, ty, _, k⟩ := lot2 _ (LamX.ExtN.refl _)
        exact ⟨_, _, t, .type "list", false, rfl, .ty "list", ty, k, _, rfl, q' H10 (Evl.Ex.refl H10)⟩
      | some rows =>
        obtain ⟨a, ea, ⟨as, h1, h2, h3⟩, _⟩ := lot2
        exact ⟨_, _, .type "list", .type "list", true, rfl, .ty "list", by rw [ea]; exact .base (.lst h2), kit_ty (by decide +kernel), _, rfl, q' H10 (Evl.Ex.refl H10)⟩
    · have eg : given (xs.length : Int).toNat (fun i => (lots.getD i none).isNone) (fun i => V.int (i : Int)) = (((List.range lots.length).filter fun i => (lots.getD i none).isNone).map fun (i : Nat) => (i : Int)).map V.int := by
        rw [List.map_map, ← hlen]
        rfl
      rw [eg] at hD2
      generalize ho : (List.range lots.length).filter (fun i => (lots.getD i none).isNone) = odd at hD2
      refine ⟨_, rfl, by decide, fun t ht => ?_⟩
      have e3 := Ext.upd (o := HO.lst []) ht
      have e23 := Ext.trans e2 e3
      refine ⟨_, _, Dp.lst (SqL.of (e3 _ _ hD2)) (dp_ints _), Dp.lst (SqL.of upd_same) .nil, shaped_ints _, rfl, _, rfl, ?_⟩
      rw [eqv_nil]
      cases hod : odd with
      | cons i0 os =>
        refine iteT ?_
        rw [hod] at hD2 ho
        obtain ⟨i1, i2, i3⟩ := first_of (i := i0) (by rw [ho]; rfl)
        have d0 : DueIs lots (some (.book (some i0))) := by
          have hi := List.getElem?_eq_getElem i1
          refine ⟨?_, fun j hj => ?_⟩
          · rw [List.getD_eq_getElem?_getD, hi] at i2
            rw [hi]
            cases q : lots[i0] with
            | none => rfl
            | some l => rw [q] at i2; cases i2
          · have hj2 := List.getElem?_eq_getElem (show j < lots.length by omega)
            have := i3 j hj
            rw [List.getD_eq_getElem?_getD, hj2] at this
            cases q : lots[j] with
            | none => rw [q] at this; cases this
            | some l => exact ⟨l, by rw [hj2, q]⟩
        refine ⟨_, rfl, D, _, 0, _, rfl, rfl, SqL.of (e3 _ _ hD2), atI_nat (j := 0) rfl, .inr ⟨_, rfl, ?_, (show (2 : Nat) ≤ sizeLine by decide), fun p hp => ?_⟩⟩
        · have : i0 = 0 ∨ i0 = 1 ∨ i0 = 2 := by omega
          rcases this with rfl | rfl | rfl <;> decide
        · exact hQ _ d0 p _ (Ext.trans e23 (Ext.upd hp)) upd_same
      | nil =>
        refine iteF ?_
        obtain ⟨ls, rfl⟩ := all_some (lots := lots) fun j hj => by
          have hj2 := List.getElem?_eq_getElem hj
          cases q : lots[j] with
          | some l => exact ⟨l, by rw [hj2, q]⟩
          | none =>
            have : j ∈ (List.range lots.length).filter (fun i => (lots.getD i none).isNone) := by
              refine List.mem_filter.mpr ⟨List.mem_range.mpr hj, ?_⟩
              rw [List.getD_eq_getElem?_getD, hj2, q]
              rfl
            rw [ho, hod] at this
            cases this
        rw [List.length_map] at hlen l0 l3
        have lts : ∀ (H' : Hp), Ext H H' → ∀ (i : Nat) x, xs[i]? = some x → ∃ a rows, x = .ref a ∧ ls[i]? = some rows ∧ RowsAt H' a rows ∧ OkR rows := fun H' e i x hx => by
          obtain ⟨l, hl, lot⟩ := (hL.ext e).get hx
          rw [List.getElem?_map] at hl
          cases q : ls[i]? with
          | none => rw [q] at hl; cases hl
          | some rows =>
            rw [q] at hl
            cases hl
            obtain ⟨a, h1, h2, h3⟩ := lot
            exact ⟨a, rows, h1, rfl, h2, h3⟩
        have x0 : xs[0]? = some xs[0] := List.getElem?_eq_getElem (by omega)
        obtain ⟨a0, r0, ex0, hr0, _, ok0⟩ := lts _ Ext.rfl' 0 _ x0
        generalize hh4 : upd H2 t _ = H4
        rw [hh4] at e23
        have hq4 := e23 _ _ hq
        dsimp only [tNext, tSeq, tIfS, tTest, tOp]
        refine Kp.run_lcL (a := q) (xs := xs) (fun i => !decide (V.int ((ls.getD i []).length : Nat) = V.int (r0.length : Nat))) (fun i => xs.getD i .non) (Evl.ev_var rfl) (SqL.of hq4) (by omega) (fun _ => rfl) (fun i x H9 e9 hx => ?_) (fun i x H9 e9 hx _ => ?_) (fun D5 H5 hD5 e5 hD5' => ?_)
        · obtain ⟨a, rows, rfl, hl, _, _⟩ := lts _ Ext.rfl' i x hx
          have eg : ls.getD i [] = rows := by rw [List.getD_eq_getElem?_getD, hl]; rfl
          rw [eg]
          refine fun H10 e10 Q' q' => ?_
          have e0 := e23.trans (Ext.trans e9 e10)
          obtain ⟨a', rows', ea, hl', ⟨as, h1, h2, h3⟩, _⟩ := lts _ e0 i _ hx
          obtain ⟨b', rows0, eb, hl0', ⟨bs, g1, g2, g3⟩, _⟩ := lts _ e0 0 _ x0
          cases ea
          rw [hl] at hl'
          cases hl'
          rw [hr0] at hl0'
          cases hl0'
          refine ⟨_, rfl, _, rows.length, rfl, .inl ⟨_, SqL.of h2, by rw [List.length_map, h1]⟩, _, rfl, q, xs, 0, _, rfl, rfl, SqL.of (e0 _ _ hq), atI_nat (j := 0) x0, _, r0.length, rfl, by rw [eb]; exact .inl ⟨_, SqL.of g2, by rw [List.length_map, g1]⟩, rfl, _, rfl, q' H10 (Evl.Ex.refl H10)⟩
        · have eg : xs.getD i .non = x := by rw [List.getD_eq_getElem?_getD, hx]; rfl
          rw [eg]
          exact Evl.ev_var rfl
        · have e25 := e23.trans e5
          refine ⟨by decide, fun t2 ht2 => ?_⟩
          have e6 := Ext.upd (o := HO.lst []) ht2
          have e26 := e25.trans e6
          generalize hgl : given xs.length (fun i => !decide (V.int ((ls.getD i []).length : Nat) = V.int (r0.length : Nat))) (fun i => xs.getD i .non) = gl at hD5'
          have mg_ : ∀ x ∈ gl, ∃ d, Dp K (upd H5 t2 (.lst [])) x d ∧ d.canLay0 = true ∧ d.depth ≤ 60 := fun x hx => by
            rw [← hgl] at hx
            obtain ⟨i, hi, rfl⟩ := List.mem_map.mp hx
            have hi2 := List.mem_range.mp (List.mem_filter.mp hi).1
            have hxi : xs[i]? = some xs[i] := List.getElem?_eq_getElem hi2
            obtain ⟨a, rows, ea, _, ra, ok⟩ := lts _ e26 i _ hxi
            have eg : xs.getD i .non = .ref a := by rw [List.getD_eq_getElem?_getD, hxi, ← ea]; rfl
            rw [eg]
            exact ra.dp ok
          obtain ⟨ds, dp, dn, dk⟩ := dp_all mg_
          refine ⟨_, _, Dp.lst (SqL.of (e6 _ _ hD5')) dp, Dp.lst (SqL.of upd_same) .nil, shaped_lst dk, rfl, _, rfl, ?_⟩
          rw [eqv_nil]
          have hls : ∀ (i : Nat) m, ls[i]? = some m → ((!decide (V.int ((ls.getD i []).length : Nat) = V.int (r0.length : Nat))) = true ↔ m.length ≠ r0.length) := fun i m hm => by
            have : ls.getD i [] = m := by rw [List.getD_eq_getElem?_getD, hm]; rfl
            rw [this]
            simp
            omega
          by_cases hgn : gl = []
          · rw [decide_eq_true (dn.mpr hgn)]
            refine iteF ?_
            have hall : ∀ m ∈ ls, m.length = r0.length := fun m hm => by
              obtain ⟨i, hi, rfl⟩ := List.mem_iff_getElem.mp hm
              by_cases z : ls[i].length = r0.length
              · exact z
              · have fi := (hls i _ (List.getElem?_eq_getElem hi)).mpr z
                have : xs.getD i .non ∈ gl := by
                  rw [← hgl]
                  exact List.mem_map.mpr ⟨i, List.mem_filter.mpr ⟨List.mem_range.mpr (by omega), fi⟩, rfl⟩
                rw [hgn] at this
                cases this
            have ev : Even_ (ls.map some) ls r0 := ⟨rfl, hr0, hall⟩
            have hds : ∀ i : Nat, ∃ a0 : Addr, ∀ x, xs[i]? = some x → ∃ (a : Addr) (rows : List (List Str)) (as : List Addr) (w0 : List Str), x = .ref a ∧ ls[i]? = some rows ∧ H a = some (.lst (as.map V.ref)) ∧ as[0]? = some a0 ∧ rows.headD [] = w0 ∧ H a0 = some (.lst (w0.map V.str)) := fun i => by
              cases q : xs[i]? with
              | none => exact ⟨0, fun x hx => by cases hx⟩
              | some x =>
                obtain ⟨a, rows, ea, hl, ⟨as, h1, h2, h3⟩, ok⟩ := lts _ Ext.rfl' i x q
                have rp : 0 < rows.length := List.length_pos_iff.mpr ok.ne
                have as0 : as[0]? = some as[0] := List.getElem?_eq_getElem (by omega)
                have rw0 : rows[0]? = some rows[0] := List.getElem?_eq_getElem rp
                refine ⟨as[0], fun y hy => ?_⟩
                cases hy
                refine ⟨a, rows, as, rows[0], ea, hl, h2, as0, ?_, h3 0 _ _ as0 rw0⟩
                cases rows with
                | nil => exact absurd rp (Nat.lt_irrefl 0)
                | cons r rs => rfl
            obtain ⟨hd, hhd⟩ := Classical.axiomOfChoice hds
            have f64 := h64 ls rfl
            generalize hh7 : upd H5 t2 _ = H7
            rw [hh7] at e26
            have hq7 := e26 _ _ hq
            dsimp only [tNext, tSeq, tAsg, tCB, tCons, tCallR]
            refine Kp.run_lcL (a := q) (xs := xs) (fun _ => true) (fun i => V.ref (hd i)) (Evl.ev_var rfl) (SqL.of hq7) (by omega) (fun _ => rfl) (fun _ _ _ _ _ => Kp.et_yes) (fun i x H9 e9 hx _ => ?_) (fun D8 H8 hD8 e8 hD8' => ?_)
            · obtain ⟨a, rows, as, w0, rfl, hl, ha, has, _, _⟩ := hhd i x hx
              refine fun H10 e10 Q' q' => ?_
              have e0 := e26.trans (Ext.trans e9 e10)
              exact ⟨_, rfl, a, _, 0, _, rfl, rfl, SqL.of (e0 _ _ ha), atI_nat (j := 0) (by rw [List.getElem?_map, has]; rfl), q' H10 (Evl.Ex.refl H10)⟩
            · rw [given_map (fun _ _ => rfl)] at hD8'
              have e28 := e26.trans e8
              have ra : RowsAt H8 D8 (ls.map (·.headD [])) := by
                refine ⟨(List.range xs.length).map hd, by rw [List.length_map, List.length_map, List.length_range, hlen], by rw [List.map_map]; exact hD8', fun i a w hai hwi => ?_⟩
                rw [List.getElem?_map] at hai hwi
                cases q1 : (List.range xs.length)[i]? with
                | none => rw [q1] at hai; cases hai
                | some j =>
                  rw [q1] at hai
                  cases hai
                  have hij : i < xs.length ∧ j = i := by
                    have hi := (List.getElem?_eq_some_iff.mp q1).1
                    rw [List.length_range] at hi
                    rw [List.getElem?_range hi] at q1
                    exact ⟨hi, (Option.some.inj q1).symm⟩
                  obtain ⟨hi, rfl⟩ := hij
                  obtain ⟨a, rows, as, w0, _, hl, _, _, hw0, ha0⟩ := hhd j _ (List.getElem?_eq_getElem hi)
                  rw [hl] at hwi
                  cases hwi
                  show H8 (hd j) = some (.lst ((rows.headD []).map V.str))
                  rw [hw0]
                  exact e28 _ _ ha0
              have hfl : (ls.map (·.headD [])).flatten = firsts ls := rfl
              refine ⟨D8, _, rfl, ra, by rw [List.length_map]; omega, by rw [hfl]; omega, fun f H11 e11 hf0 hf => ?_⟩
              rw [hfl] at hf
              refine ⟨f, _, rfl, SqL.of hf, f64, fun ys q2 yp so hq2 => ?_⟩
              generalize hh12 : upd H11 q2 _ = H12
              have e12 : Ext H11 H12 := hh12 ▸ Ext.upd hq2
              have o12 : H12 q2 = some (.lst (ys.map V.str)) := by
                rw [← hh12]
                exact upd_same
              have e212 := (e28.trans e11).trans e12
              have yl : ys.length < 64 := by rw [yp.length_eq]; exact f64
              have hdp := head_dup (sorted_pw so)
              have at1 : ∀ i : Nat, i + 1 < ys.length → atI (ys.map V.str) (1 + (i : Int)) = some (V.str (ys.getD (i + 1) "")) := fun i hi => by
                rw [show (1 + (i : Int)) = ((i + 1 : Nat) : Int) from by omega]
                refine atI_nat ?_
                rw [List.getElem?_map, List.getD_eq_getElem?_getD, List.getElem?_eq_getElem hi]
                rfl
              have at0 : ∀ i : Nat, i + 1 < ys.length → atI (ys.map V.str) (1 + (i : Int) - 1) = some (V.str (ys.getD i "")) := fun i hi => by
                rw [show (1 + (i : Int) - 1) = ((i : Nat) : Int) from by omega]
                refine atI_nat ?_
                rw [List.getElem?_map, List.getD_eq_getElem?_getD, List.getElem?_eq_getElem (show i < ys.length by omega)]
                rfl
              dsimp only [gName, tNext, tSeq, tAsg]
              have wr := walk_range (lo := 1) (n := ((ys.length : Int) - 1).toNat)
              have nn : ((ys.length : Int) - 1).toNat = ys.length - 1 := by omega
              refine Kp.el_lcW (J := Itr 1 ((ys.length : Int) - 1).toNat) (Y := fun i x => x = V.int (1 + (i : Nat))) wr (fun i => decide (ys.getD (i + 1) "" = ys.getD i "")) (fun i => V.str (ys.getD (i + 1) "")) (fun H1 e1 R k => ⟨_, rfl, _, ys.length, rfl, .inl ⟨_, SqL.of (e1 _ _ o12), by simp⟩, 1, _, rfl, by omega, k H1 (Evl.Ex.refl H1)⟩) (fun _ _ => True.intro) (by omega) (fun _ => rfl) (fun i x H9 e9 hi hx => ?_) (fun i x H9 e9 hi hx _ => ?_) H12 (Evl.Ex.refl H12) _ (fun D13 H13 hD13 e13 hD13' => ?_)
              · subst hx
                have hi2 : i + 1 < ys.length := by omega
                refine fun H10 e10 Q' q' => ?_
                have o10 := e10 _ _ (e9 _ _ o12)
                refine ⟨_, rfl, _, rfl, q2, _, _, _, rfl, rfl, SqL.of o10, at1 i hi2, _, rfl, _, rfl, _, _, rfl, rfl, q2, _, _, _, rfl, rfl, SqL.of o10, at0 i hi2, rfl, _, rfl, ?_⟩
                have eb : decide (V.str (ys.getD (i + 1) "") = V.str (ys.getD i "")) = decide (ys.getD (i + 1) "" = ys.getD i "") := by
                  rw [decide_eq_decide]
                  exact ⟨fun z => V.str.inj z, fun z => by rw [z]⟩
                rw [eb]
                exact q' H10 (Evl.Ex.refl H10)
              · subst hx
                have hi2 : i + 1 < ys.length := by omega
                refine fun H10 e10 Q' q' => ?_
                exact ⟨_, rfl, _, rfl, q2, _, _, _, rfl, rfl, SqL.of (e10 _ _ (e9 _ _ o12)), at1 i hi2, q' H10 (Evl.Ex.refl H10)⟩
              · rw [nn, given_dup] at hD13'
                have e213 := e212.trans e13
                refine ⟨_, rfl, by decide, fun t3 ht3 => ?_⟩
                have e14 := Ext.upd (o := HO.lst []) ht3
                have e214 := e213.trans e14
                have wdy : ∀ c ∈ dupR ys, Wordy c := fun c hc => by
                  obtain ⟨rows, hr, hc2⟩ := List.mem_flatMap.mp (yp.mem_iff.mp (dupR_mem hc))
                  obtain ⟨i, hi, rfl⟩ := List.mem_iff_getElem.mp hr
                  obtain ⟨_, rows, _, hl, _, ok⟩ := lts _ Ext.rfl' i _ (List.getElem?_eq_getElem (show i < xs.length by omega))
                  rw [List.getElem?_eq_getElem hi] at hl
                  rw [Option.some.inj hl] at hc2
                  cases rows with
                  | nil => cases hc2
                  | cons r rs => exact (ok.ok r List.mem_cons_self).wd c hc2
                have wds : ∀ c ∈ dupR ys, PyData.strOk c = true := fun c hc => letS_ok (wdy c hc).1
                refine ⟨_, _, Dp.lst (SqL.of (e14 _ _ hD13')) (dp_strs _), Dp.lst (SqL.of upd_same) .nil, shaped_strs wds, rfl, _, rfl, ?_⟩
                rw [eqv_nil]
                cases hdr : dupR ys with
                | cons u us =>
                  refine iteT ?_
                  have wu := wdy u (by rw [hdr]; exact List.mem_cons_self)
                  rw [hdr] at hD13' hdp
                  refine ⟨_, rfl, D13, _, 0, _, rfl, rfl, SqL.of (e14 _ _ hD13'), atI_nat (j := 0) rfl, .inl ⟨u, rfl, ?_, (show (2 : Nat) ≤ sizeLine by decide), fun p hp => ?_⟩⟩
                  · have := StrLaws.reprText_len u fun c hc => Nat.lt_of_le_of_lt (wu.1 c hc).2 (by decide)
                    have h8 := wu.2.2
                    exact Nat.le_trans (show _ ≤ 100 by omega) (by decide)
                  · exact hQ (some (.taken u)) ⟨ls, r0, ys, ev, so, yp, hdp.symm⟩ p _ (e214.trans (Ext.upd hp)) upd_same
                | nil =>
                  refine iteF ?_
                  rw [hdr] at hdp
                  have dn : ∀ ws, ws.Perm (firsts ls) → dupC ws = [] := fun ws pw => dupC_perm (yp.trans pw.symm) (List.head?_eq_none_iff.mp hdp.symm)
                  refine ⟨_, rfl, _, ys.length, rfl, .inl ⟨_, SqL.of (e14 _ _ (e13 _ _ o12)), by simp⟩, _, _, rfl, rfl, _, rfl, ?_⟩
                  refine ite2 (fun c => ?_) (fun c => ?_)
                  · have c3 : 24 < (firsts ls).length := by have := of_decide_eq_true c; rw [← yp.length_eq]; omega
                    exact ⟨by decide, fun p hp => hQ (some .many) ⟨ls, r0, ev, dn, c3⟩ p _ (e214.trans (Ext.upd hp)) upd_same⟩
                  · have c3 : (firsts ls).length ≤ 24 := by
                      have : ¬ (24 : Int) < (ys.length : Nat) := fun z => c (decide_eq_true z)
                      rw [← yp.length_eq]
                      omega
                    exact hQ none ⟨ls, r0, ev, dn, c3⟩ _ e214
          · rw [decide_eq_false (fun z => hgn (dn.mp z))]
            refine iteT ?_
            obtain ⟨x, hx⟩ := List.exists_mem_of_ne_nil _ hgn
            rw [← hgl] at hx
            obtain ⟨i, hi, _⟩ := List.mem_map.mp hx
            obtain ⟨hi1, hi2⟩ := List.mem_filter.mp hi
            have hi3 : i < ls.length := by have := List.mem_range.mp hi1; omega
            have hm := List.getElem?_eq_getElem hi3
            refine ⟨by decide, fun p hp => ?_⟩
            exact hQ (some .unlike) ⟨ls, r0, ls[i], rfl, hr0, List.getElem_mem hi3, (hls i _ hm).mp hi2⟩ p _ (e26.trans (Ext.upd hp)) upd_same
end
end Kq
set_option maxHeartbeats 4000000
namespace Kq
open PySem PySem.Spec PyProof.Rows L2 Kp
open LamX (ExtN)
/-! ### what stands across the making of a lambda -/
theorem GrpAt.extN {CG : Addr} {H H' : Hp} {g : Addr} {ws : List Str} (h : GrpAt CG H g ws) (e : ExtN H H') : GrpAt CG H' g ws :=
  let ⟨dx, t, a, b⟩ := h
  ⟨dx, t, e _ _ a (fun _ z => by cases z), e _ _ b (fun _ z => by cases z)⟩
theorem OrdAt.extN {CG CO : Addr} {H H' : Hp} {o : Addr} {ws : List Str} (h : OrdAt CG CO H o ws) (e : ExtN H H') : OrdAt CG CO H' o ws :=
  let ⟨dx, t, g, d, us, a, b, c, i⟩ := h
  ⟨dx, t, g, d, us, e _ _ a (fun _ z => by cases z), e _ _ b (fun _ z => by cases z), c.extN e, i⟩
theorem BkX.extN {CG CO CB : Addr} {H H' : Hp} {b g h p : Addr} {os : List Addr} {us : List Str} {wss : List (List Str)} {n : Nat} (k : BkX CG CO CB H b g h p os us wss n) (e : ExtN H H') : BkX CG CO CB H' b g h p os us wss n :=
  ⟨let ⟨dx, a⟩ := k.at_; ⟨dx, e _ _ a (fun _ z => by cases z)⟩, k.grp.extN e, e _ _ k.held (fun _ z => by cases z), let ⟨ps, a, c⟩ := k.past; ⟨ps, e _ _ a (fun _ z => by cases z), c⟩, ⟨k.ords.1, fun i o ws a b => (k.ords.2 i o ws a b).extN e⟩, k.ok⟩
theorem BkAt.extN {CG CO CB : Addr} {H H' : Hp} {b : Addr} {wss : List (List Str)} {n : Nat} (k : BkAt CG CO CB H b wss n) (e : ExtN H H') : BkAt CG CO CB H' b wss n :=
  let ⟨g, h, p, os, us, k⟩ := k
  ⟨g, h, p, os, us, k.extN e⟩
theorem LotAt.extN {K : PySem.W.Frag} {CG CO CB : Addr} {H H' : Hp} {x : V} {l : Lot} (h : LotAt K CG CO CB H x l) (e : ExtN H H') : LotAt K CG CO CB H' x l := by
  cases l with
  | none => exact fun H2 e2 => h H2 (e.trans e2)
  | some wss => exact let ⟨b, n, a, c⟩ := h; ⟨b, n, a, c.extN e⟩
theorem LotsAt.extN {K : PySem.W.Frag} {CG CO CB : Addr} {H H' : Hp} {xs : List V} {lots : List Lot} (h : LotsAt K CG CO CB H xs lots) (e : ExtN H H') : LotsAt K CG CO CB H' xs lots := ⟨h.1, fun i x l a b => (h.2 i x l a b).extN e⟩
theorem RowsAt.extN {H H' : Hp} {r : Addr} {rows : List (List Str)} (h : RowsAt H r rows) (e : ExtN H H') : RowsAt H' r rows := by
  obtain ⟨as, h1, h2, h3⟩ := h
  exact ⟨as, h1, e _ _ h2 (fun _ z => by cases z), fun i a ws ha hw => e _ _ (h3 i a ws ha hw) (fun _ z => by cases z)⟩
theorem RowLot.extN {K : PySem.W.Frag} {CB : Addr} {H H' : Hp} {x : V} {l : Lot} (h : RowLot K CB H x l) (e : ExtN H H') : RowLot K CB H' x l := by
  cases l with
  | none => exact fun H2 e2 => h H2 (e.trans e2)
  | some rows => exact let ⟨a, b, c, d⟩ := h; ⟨a, b, c.extN e, d⟩
theorem RowLots.extN {K : PySem.W.Frag} {CB : Addr} {H H' : Hp} {xs : List V} {lots : List Lot} (h : RowLots K CB H xs lots) (e : ExtN H H') : RowLots K CB H' xs lots := ⟨h.1, fun i x l a b => (h.2 i x l a b).extN e⟩
end Kq
set_option maxHeartbeats 4000000
namespace Kq
open PySem PySem.Spec PyProof.Rows L2 Kp
open LamX (ExtN CodeO GivesTo)
/-! ### what a call is heard to do -/
def rReprN : List V → Hp → VK → Prop := fun xs H Q => rReprA xs H Q ∨ (xs = [.non] ∧ Q (.str "None") H)
theorem call_repr_N {X : Cx} : CallR X (.builtin "repr") rReprN := by
  intro pins s σ H xs us Q I r h
  rcases h with h | ⟨rfl, q⟩
  · exact call_repr_any pins s σ H xs us Q I r h
  · obtain ⟨u, rfl, ru⟩ := vals1 r
    cases ru
    exact PySem.P.repr_of_none ⟨.str _, H, I.tok _, ⟨_, rfl⟩, q⟩
structure TxH (K : PySem.W.Frag) (mg : Str → Option Value) (CPE CBB CUn CTa CTM : Addr) : Prop where
  g_PhraseError : mg "PhraseError" = some (.ref CPE)
  n_ValueError : mg "ValueError" = none
  xf_BadBook : XfC K CBB
  xf_Unlike : XfC K CUn
  xf_Taken : XfC K CTa
  xf_TooMany : XfC K CTM
  no_at : PySem.W.findIn K (.ref CBB) "at" = some none
  no_part : PySem.W.findIn K (.ref CUn) "part" = some none
  no_word : PySem.W.findIn K (.ref CTa) "word" = some none
  no_what : PySem.W.findIn K (.ref CTM) "what" = some none
  no_most : PySem.W.findIn K (.ref CTM) "most" = some none
  ec : ∀ C ∈ [CBB, CUn, CTa, CTM], ExcC K C ∧ PySem.W.exmOne K (.ref C) (.ref CPE) = some true ∧ PySem.W.kitOne K (.ref C) (.type "ValueError") = some true ∧ ∀ D ∈ [CBB, CUn, CTa, CTM], PySem.W.kitOne K (.ref C) (.ref D) = some (decide (C = D))
  nd : [CBB, CUn, CTa, CTM].Nodup
/-- what is told of an error is small -/
def FineD : Due → Prop
  | .book (some i) => i < 3
  | .taken w => Wordy w
  | _ => True
/-- heard: what is returned, in a list, or the pair that tells of the error -/
def TTheard (CBB CUn CTa CTM : Addr) : (XK → Hp → VK → Prop) → Hp → VK → Prop := fun tl H0 Q => ∀ (H : Hp) (E' : XK) (Q' : VK), Ext H0 H →
  (∀ cls dd H' d, ErrAt CBB CUn CTa CTM d cls dd H' → FineD d → (∀ p H'', Ext H' H'' → H'' p = some (.tup (dueV d)) → Q (.ref p) H'') → E' cls dd H') →
  (∀ v H', (∀ p, H' p = none → Q (.ref p) (upd H' p (.lst [v]))) → Q' v H') → tl E' H Q'
theorem len5 {α : Type} : ∀ {l : List α}, l.length = 5 → ∃ a b c d e, l = [a, b, c, d, e]
  | [a, b, c, d, e], _ => ⟨a, b, c, d, e, rfl⟩
theorem appended {H : Hp} {p t2 : Addr} {tv : List V} (hp : H p = none) (ht2 : upd H p (.lst []) t2 = none) :
    Ext H (upd (upd (upd H p (.lst [])) t2 (.tup tv)) p (.lst ([] ++ [V.ref t2]))) ∧ upd (upd (upd H p (.lst [])) t2 (.tup tv)) p (.lst ([] ++ [V.ref t2])) t2 = some (.tup tv) ∧ upd (upd (upd H p (.lst [])) t2 (.tup tv)) p (.lst ([] ++ [V.ref t2])) p = some (.lst [V.ref t2]) := by
  have pn : p ≠ t2 := ne_of_none upd_same ht2
  refine ⟨fun b o hb => ?_, ?_, upd_same⟩
  · rw [upd_ne (ne_of_none hb hp)]
    exact Ext.upd ht2 _ _ (Ext.upd hp _ _ hb)
  · rw [upd_ne pn.symm]
    exact upd_same
theorem log3 {i : Nat} (h : i < 3) : ((i : Nat) : Int).natAbs.log2 < 1920 := by
  have : i = 0 ∨ i = 1 ∨ i = 2 := by omega
  rcases this with rfl | rfl | rfl <;> decide
theorem rep_word {u : Str} (wu : Wordy u) : (reprText u).length ≤ sizeLine := by
  have := StrLaws.reprText_len u fun c hc => Nat.lt_of_le_of_lt (wu.1 c hc).2 (by decide)
  have h8 := wu.2.2
  exact Nat.le_trans (show _ ≤ 100 by omega) (by decide)
theorem rep_orders : reprText (Str.ofString "orders") = Str.ofString "'orders'" := by decide +kernel
theorem rep_words : reprText (Str.ofString "words") = Str.ofString "'words'" := by decide +kernel
theorem rep_24 : (toString (24 : Int)) = "24" := by decide +kernel
section
variable {X : Cx} {CPE CBB CUn CTa CTM iBB iUn iTa iTM gH : Addr} {cdg : Value} {q : Str}
theorem heard_gives (B : TxB X.mg) (Er : TxEr X.prog X.K X.mg CBB CUn CTa CTM iBB iUn iTa iTM) (Eh : TxH X.K X.mg CPE CBB CUn CTa CTM) :
    GivesTo X N_l_heard "_law_heard" (defScope s_l_heard) gH cdg (defBody s_l_heard) "_law_ask" q (TTheard CBB CUn CTa CTM) := by
  intro f c' s H Q tl act hc h
  have hu0 : ∀ (Y : Cx), True := fun _ => trivial
  refine ⟨_, pss_cons (ps_asg (pe_tup (pa_cons pe_non (pa_cons pe_non pa_nil))) (pg_tupK (n := 2) (K := X.K) rfl rfl (pgs_cons (pg_name (i := 1) sc_l_heard.nd rfl (Or.inl rfl)) (pgs_cons (pg_name (i := 2) sc_l_heard.nd rfl (Or.inl rfl)) pgs_nil))))
    (pss_try_keep (X := (cxOf C8.CX0 X.prog X.w X.K X.mg X.base N_l_heard "_law_heard" (defScope s_l_heard) gH cdg X.A X.stack s H C8.E0).nox) (c := .ref CPE) (i := 3)
      (tb := fun W D σ H => ∃ Ech : XK, (∀ cls d σ' H', Ech cls d H' → W cls d σ' H') ∧ σ[0]? = some (some (.ref f)) ∧ H c' = some (CodeO c' q) ∧ tl Ech H fun v H' => D.nx (σ.set 2 (some v)) H')
      rfl rfl sc_l_heard.nd rfl rfl ⟨rfl, by decide, .inl Eh.g_PhraseError⟩ LamX.takes0 (fun W pn xe tk _ => ?_)
      (fun a oe cls d pn _ _ => pss_one (ps_set (i := 1) sc_l_heard.nd rfl (Or.inl rfl) (pv 3)))
      (fun a oe cls d pn hz hf => (pss_cons (ps_if (pt_cmp (pc_isN (pv 1)))
(pss_one (ps_ret (pe_lst (pa_cons (pv 2) pa_nil))))
pss_nil)
(pss_cons (ps_set (i := 4) sc_l_heard.nd rfl (Or.inl rfl) (pe_lst pa_nil))
(pss_cons (ps_if (pt_val (pe_callB (call_isK hz hf) (by rfl) B.n_isinstance (by decide +kernel) (pa_cons (pv 1) (pa_cons (pe_glob (v := .ref _) (by rfl) Er.g_BadBook rfl) pa_nil))))
(pss_one (ps_expr (pe_bmK (K := X.K) rfl PySem.F.plainAttrs_list PySem.F.slot_list_append PySem.F.type_list_append mt_append (pv 4) (pa_cons (pe_tup (pa_cons pe_str (pa_cons (pe_callB call_repr_N (by rfl) B.n_repr (by decide +kernel) (pa_cons (pe_xfK Eh.xf_BadBook Eh.no_at hz hf (pv 1)) pa_nil)) pa_nil))) pa_nil))))
pss_nil)
(pss_cons (ps_if (pt_val (pe_callB (call_isK hz hf) (by rfl) B.n_isinstance (by decide +kernel) (pa_cons (pv 1) (pa_cons (pe_glob (v := .ref _) (by rfl) Er.g_Unlike rfl) pa_nil))))
(pss_one (ps_expr (pe_bmK (K := X.K) rfl PySem.F.plainAttrs_list PySem.F.slot_list_append PySem.F.type_list_append mt_append (pv 4) (pa_cons (pe_tup (pa_cons pe_str (pa_cons (pe_callB call_repr_N (by rfl) B.n_repr (by decide +kernel) (pa_cons (pe_xfK Eh.xf_Unlike Eh.no_part hz hf (pv 1)) pa_nil)) pa_nil))) pa_nil))))
pss_nil)
(pss_cons (ps_if (pt_val (pe_callB (call_isK hz hf) (by rfl) B.n_isinstance (by decide +kernel) (pa_cons (pv 1) (pa_cons (pe_glob (v := .ref _) (by rfl) Er.g_Taken rfl) pa_nil))))
(pss_one (ps_expr (pe_bmK (K := X.K) rfl PySem.F.plainAttrs_list PySem.F.slot_list_append PySem.F.type_list_append mt_append (pv 4) (pa_cons (pe_tup (pa_cons pe_str (pa_cons (pe_callB call_repr_N (by rfl) B.n_repr (by decide +kernel) (pa_cons (pe_xfK Eh.xf_Taken Eh.no_word hz hf (pv 1)) pa_nil)) pa_nil))) pa_nil))))
pss_nil)
(pss_cons (ps_if (pt_val (pe_callB (call_isK hz hf) (by rfl) B.n_isinstance (by decide +kernel) (pa_cons (pv 1) (pa_cons (pe_glob (v := .ref _) (by rfl) Er.g_TooMany rfl) pa_nil))))
(pss_one (ps_expr (pe_bmK (K := X.K) rfl PySem.F.plainAttrs_list PySem.F.slot_list_append PySem.F.type_list_append mt_append (pv 4) (pa_cons (pe_tup (pa_cons pe_str (pa_cons (pe_callB call_repr_N (by rfl) B.n_repr (by decide +kernel) (pa_cons (pe_xfK Eh.xf_TooMany Eh.no_what hz hf (pv 1)) pa_nil)) (pa_cons (pe_callB call_repr_N (by rfl) B.n_repr (by decide +kernel) (pa_cons (pe_xfK Eh.xf_TooMany Eh.no_most hz hf (pv 1)) pa_nil)) pa_nil)))) pa_nil))))
pss_nil)
(pss_one (ps_ret (pe_ifExp (PW.pt (pw_and (pt_cmpR op_eq (pe_callB (call_lenK (K := X.K) rfl) (by rfl) B.n_len (by decide +kernel) (pa_cons (pv 4) pa_nil)) pe_int (nomark _)) (pw_and1 (pt_val (pe_callB (call_isK hz hf) (by rfl) B.n_isinstance (by decide +kernel) (pa_cons (pv 1) (pa_cons (pe_bltn (v := .ty "ValueError") (u := .type "ValueError") (by rfl) B.n_ValueError (by decide +kernel) rfl) pa_nil))))))) (pe_ix (ix_listK (K := X.K) rfl) (pv 4) pe_int (fun _ _ => rfl)) (pe_tup (pa_cons pe_str pa_nil))))))))))))
      (pss_cons (ps_if (pt_cmp (pc_isN (pv 1)))
(pss_one (ps_ret (pe_lst (pa_cons (pv 2) pa_nil))))
pss_nil)
(pss_cons ps_never
(pss_cons ps_never
(pss_cons ps_never
(pss_cons ps_never
(pss_cons ps_never
(pss_one ps_never)))))))), ?_⟩
  · refine ⟨fun pins s' σ H' D I h' => ?_⟩
    obtain ⟨Ech, hW, h1, h2, h3⟩ := h'
    refine (pss_one (ps_set (X := (cxOf C8.CX0 X.prog X.w X.K X.mg X.base N_l_heard "_law_heard" (defScope s_l_heard) gH cdg X.A X.stack s H C8.E0).tr pn xe) (i := 2) sc_l_heard.nd rfl (Or.inl rfl) (act W pn xe Ech _ _ tk hW))).run pins s' σ H' D I ⟨h1, h2, h3⟩
  · refine ⟨(show (2 : Nat) ≤ sizeLine by decide), fun t ht => ?_⟩
    have e1 := Ext.upd (o := HO.tup [V.non, V.non]) ht
    refine ⟨t, _, rfl, SqT.of upd_same, rfl, _, _, rfl, _, _, rfl, rfl, ?_⟩
    refine ⟨fun cls d H' => ∃ e, ErrAt CBB CUn CTa CTM e cls d H' ∧ FineD e ∧ ∀ p H'', Ext H' H'' → H'' p = some (.tup (dueV e)) → Q (.ref p) H'', fun cls d σ' H' he hl => ?_, rfl, e1 _ _ hc, h _ _ _ e1 (fun cls dd H' d h1 h2 h3 => ⟨d, h1, h2, h3⟩) fun v H' hv => ?_⟩
    · obtain ⟨e, ee, fd, hq⟩ := he
      obtain ⟨x0, x1, x2, x3, x4, rfl⟩ := len5 (show σ'.length = 5 from hl)
      have nd := Eh.nd
      simp only [List.nodup_cons, List.mem_cons, List.not_mem_nil, or_false, not_or, not_false_eq_true, List.nodup_nil, and_true] at nd
      obtain ⟨⟨nCBBCUn, nCBBCTa, nCBBCTM⟩, ⟨nCUnCTa, nCUnCTM⟩, nCTaCTM⟩ := nd
      have nCUnCBB := Ne.symm nCBBCUn
      have nCTaCBB := Ne.symm nCBBCTa
      have nCTMCBB := Ne.symm nCBBCTM
      have nCTaCUn := Ne.symm nCUnCTa
      have nCTMCUn := Ne.symm nCUnCTM
      have nCTMCTa := Ne.symm nCTaCTM
      match e, ee, hq, fd with
      | .book none, ee, hq, fd =>
        obtain ⟨rfl, dd, rfl, hdd⟩ := ee
        obtain ⟨ex, hpe, hve, hki⟩ := Eh.ec CBB (by simp)
        refine ⟨true, hpe, fun _ a na => ⟨_, rfl, ?_⟩, fun z => nomatch z⟩
        refine ⟨_, rfl, _, rfl, ?_⟩
        refine iteF ?_
        refine ⟨by decide, fun p hp => ?_⟩
        have o1 := Ext.upd (o := HO.lst []) hp _ _ hdd
        refine ⟨_, rfl, CBB, dd, _, .ref CBB, .ref CBB, true, rfl, rfl, rfl, o1, ex, fun _ h => h, (hki _ (by simp)).trans (congrArg some (decide_eq_true rfl)), _, rfl, ?_⟩
        refine iteT ?_
        refine ⟨_, rfl, .inl ⟨rfl, _, SqL.of upd_same⟩, _, rfl, rfl, rfl, dd, _, _, rfl, o1, rfl, .inr ⟨rfl, (show (2 : Nat) ≤ sizeLine by decide), fun t2 ht2 => ?_⟩⟩
        have e3 := Ext.upd (o := HO.tup [V.str "book", V.str "None"]) ht2
        refine ⟨p, _, _, rfl, rfl, e3 _ _ upd_same, by decide, ?_⟩
        obtain ⟨e5, o4, o5⟩ := appended (tv := [V.str "book", V.str "None"]) hp ht2
        have o3 := e5 _ _ hdd
        refine ⟨_, rfl, CBB, dd, _, .ref CUn, .ref CUn, false, rfl, rfl, rfl, o3, ex, fun _ h => h, (hki _ (by simp)).trans (congrArg some (decide_eq_false nCBBCUn)), _, rfl, ?_⟩
        refine iteF ?_
        refine ⟨_, rfl, CBB, dd, _, .ref CTa, .ref CTa, false, rfl, rfl, rfl, o3, ex, fun _ h => h, (hki _ (by simp)).trans (congrArg some (decide_eq_false nCBBCTa)), _, rfl, ?_⟩
        refine iteF ?_
        refine ⟨_, rfl, CBB, dd, _, .ref CTM, .ref CTM, false, rfl, rfl, rfl, o3, ex, fun _ h => h, (hki _ (by simp)).trans (congrArg some (decide_eq_false nCBBCTM)), _, rfl, ?_⟩
        refine iteF ?_
        refine ⟨_, rfl, _, 1, rfl, .inl ⟨_, SqL.of o5, rfl⟩, rfl, _, rfl, ?_⟩
        refine iteT ?_
        refine ⟨_, rfl, CBB, dd, _, .ty "ValueError", .type "ValueError", true, rfl, rfl, rfl, o3, ex, fun _ h => h, hve, _, rfl, ?_⟩
        refine iteT ?_
        exact ⟨_, rfl, p, _, 0, _, rfl, rfl, SqL.of o5, rfl, hq t2 _ e5 o4⟩
      | .book (some i), ee, hq, fd =>
        obtain ⟨rfl, dd, rfl, hdd⟩ := ee
        obtain ⟨ex, hpe, hve, hki⟩ := Eh.ec CBB (by simp)
        refine ⟨true, hpe, fun _ a na => ⟨_, rfl, ?_⟩, fun z => nomatch z⟩
        refine ⟨_, rfl, _, rfl, ?_⟩
        refine iteF ?_
        refine ⟨by decide, fun p hp => ?_⟩
        have o1 := Ext.upd (o := HO.lst []) hp _ _ hdd
        refine ⟨_, rfl, CBB, dd, _, .ref CBB, .ref CBB, true, rfl, rfl, rfl, o1, ex, fun _ h => h, (hki _ (by simp)).trans (congrArg some (decide_eq_true rfl)), _, rfl, ?_⟩
        refine iteT ?_
        refine ⟨_, rfl, .inl ⟨rfl, _, SqL.of upd_same⟩, _, rfl, rfl, rfl, dd, _, _, rfl, o1, rfl, .inl (.inr ⟨_, rfl, log3 fd, (show (2 : Nat) ≤ sizeLine by decide), fun t2 ht2 => ?_⟩)⟩
        have e3 := Ext.upd (o := HO.tup [V.str "book", V.str (toString ((i : Nat) : Int))]) ht2
        refine ⟨p, _, _, rfl, rfl, e3 _ _ upd_same, by decide, ?_⟩
        obtain ⟨e5, o4, o5⟩ := appended (tv := [V.str "book", V.str (toString ((i : Nat) : Int))]) hp ht2
        have o3 := e5 _ _ hdd
        refine ⟨_, rfl, CBB, dd, _, .ref CUn, .ref CUn, false, rfl, rfl, rfl, o3, ex, fun _ h => h, (hki _ (by simp)).trans (congrArg some (decide_eq_false nCBBCUn)), _, rfl, ?_⟩
        refine iteF ?_
        refine ⟨_, rfl, CBB, dd, _, .ref CTa, .ref CTa, false, rfl, rfl, rfl, o3, ex, fun _ h => h, (hki _ (by simp)).trans (congrArg some (decide_eq_false nCBBCTa)), _, rfl, ?_⟩
        refine iteF ?_
        refine ⟨_, rfl, CBB, dd, _, .ref CTM, .ref CTM, false, rfl, rfl, rfl, o3, ex, fun _ h => h, (hki _ (by simp)).trans (congrArg some (decide_eq_false nCBBCTM)), _, rfl, ?_⟩
        refine iteF ?_
        refine ⟨_, rfl, _, 1, rfl, .inl ⟨_, SqL.of o5, rfl⟩, rfl, _, rfl, ?_⟩
        refine iteT ?_
        refine ⟨_, rfl, CBB, dd, _, .ty "ValueError", .type "ValueError", true, rfl, rfl, rfl, o3, ex, fun _ h => h, hve, _, rfl, ?_⟩
        refine iteT ?_
        exact ⟨_, rfl, p, _, 0, _, rfl, rfl, SqL.of o5, rfl, hq t2 _ e5 o4⟩
      | .unlike, ee, hq, fd =>
        obtain ⟨rfl, dd, rfl, hdd⟩ := ee
        obtain ⟨ex, hpe, hve, hki⟩ := Eh.ec CUn (by simp)
        refine ⟨true, hpe, fun _ a na => ⟨_, rfl, ?_⟩, fun z => nomatch z⟩
        refine ⟨_, rfl, _, rfl, ?_⟩
        refine iteF ?_
        refine ⟨by decide, fun p hp => ?_⟩
        have o1 := Ext.upd (o := HO.lst []) hp _ _ hdd
        refine ⟨_, rfl, CUn, dd, _, .ref CBB, .ref CBB, false, rfl, rfl, rfl, o1, ex, fun _ h => h, (hki _ (by simp)).trans (congrArg some (decide_eq_false nCUnCBB)), _, rfl, ?_⟩
        refine iteF ?_
        refine ⟨_, rfl, CUn, dd, _, .ref CUn, .ref CUn, true, rfl, rfl, rfl, o1, ex, fun _ h => h, (hki _ (by simp)).trans (congrArg some (decide_eq_true rfl)), _, rfl, ?_⟩
        refine iteT ?_
        refine ⟨_, rfl, .inl ⟨rfl, _, SqL.of upd_same⟩, _, rfl, rfl, rfl, dd, _, _, rfl, o1, rfl, .inl (.inl ⟨_, rfl, by decide +kernel, (show (2 : Nat) ≤ sizeLine by decide), fun t2 ht2 => ?_⟩)⟩
        have e3 := Ext.upd (o := HO.tup [V.str "unlike", V.str (reprText "orders")]) ht2
        refine ⟨p, _, _, rfl, rfl, e3 _ _ upd_same, by decide, ?_⟩
        obtain ⟨e5, o4, o5⟩ := appended (tv := [V.str "unlike", V.str (reprText "orders")]) hp ht2
        have o3 := e5 _ _ hdd
        refine ⟨_, rfl, CUn, dd, _, .ref CTa, .ref CTa, false, rfl, rfl, rfl, o3, ex, fun _ h => h, (hki _ (by simp)).trans (congrArg some (decide_eq_false nCUnCTa)), _, rfl, ?_⟩
        refine iteF ?_
        refine ⟨_, rfl, CUn, dd, _, .ref CTM, .ref CTM, false, rfl, rfl, rfl, o3, ex, fun _ h => h, (hki _ (by simp)).trans (congrArg some (decide_eq_false nCUnCTM)), _, rfl, ?_⟩
        refine iteF ?_
        refine ⟨_, rfl, _, 1, rfl, .inl ⟨_, SqL.of o5, rfl⟩, rfl, _, rfl, ?_⟩
        refine iteT ?_
        refine ⟨_, rfl, CUn, dd, _, .ty "ValueError", .type "ValueError", true, rfl, rfl, rfl, o3, ex, fun _ h => h, hve, _, rfl, ?_⟩
        refine iteT ?_
        exact ⟨_, rfl, p, _, 0, _, rfl, rfl, SqL.of o5, rfl, hq t2 _ e5 (o4.trans (by rw [rep_orders]; rfl))⟩
      | .taken w, ee, hq, fd =>
        obtain ⟨rfl, dd, rfl, hdd⟩ := ee
        obtain ⟨ex, hpe, hve, hki⟩ := Eh.ec CTa (by simp)
        refine ⟨true, hpe, fun _ a na => ⟨_, rfl, ?_⟩, fun z => nomatch z⟩
        refine ⟨_, rfl, _, rfl, ?_⟩
        refine iteF ?_
        refine ⟨by decide, fun p hp => ?_⟩
        have o1 := Ext.upd (o := HO.lst []) hp _ _ hdd
        refine ⟨_, rfl, CTa, dd, _, .ref CBB, .ref CBB, false, rfl, rfl, rfl, o1, ex, fun _ h => h, (hki _ (by simp)).trans (congrArg some (decide_eq_false nCTaCBB)), _, rfl, ?_⟩
        refine iteF ?_
        refine ⟨_, rfl, CTa, dd, _, .ref CUn, .ref CUn, false, rfl, rfl, rfl, o1, ex, fun _ h => h, (hki _ (by simp)).trans (congrArg some (decide_eq_false nCTaCUn)), _, rfl, ?_⟩
        refine iteF ?_
        refine ⟨_, rfl, CTa, dd, _, .ref CTa, .ref CTa, true, rfl, rfl, rfl, o1, ex, fun _ h => h, (hki _ (by simp)).trans (congrArg some (decide_eq_true rfl)), _, rfl, ?_⟩
        refine iteT ?_
        refine ⟨_, rfl, .inl ⟨rfl, _, SqL.of upd_same⟩, _, rfl, rfl, rfl, dd, _, _, rfl, o1, rfl, .inl (.inl ⟨_, rfl, rep_word fd, (show (2 : Nat) ≤ sizeLine by decide), fun t2 ht2 => ?_⟩)⟩
        have e3 := Ext.upd (o := HO.tup [V.str "taken", V.str (reprText w)]) ht2
        refine ⟨p, _, _, rfl, rfl, e3 _ _ upd_same, by decide, ?_⟩
        obtain ⟨e5, o4, o5⟩ := appended (tv := [V.str "taken", V.str (reprText w)]) hp ht2
        have o3 := e5 _ _ hdd
        refine ⟨_, rfl, CTa, dd, _, .ref CTM, .ref CTM, false, rfl, rfl, rfl, o3, ex, fun _ h => h, (hki _ (by simp)).trans (congrArg some (decide_eq_false nCTaCTM)), _, rfl, ?_⟩
        refine iteF ?_
        refine ⟨_, rfl, _, 1, rfl, .inl ⟨_, SqL.of o5, rfl⟩, rfl, _, rfl, ?_⟩
        refine iteT ?_
        refine ⟨_, rfl, CTa, dd, _, .ty "ValueError", .type "ValueError", true, rfl, rfl, rfl, o3, ex, fun _ h => h, hve, _, rfl, ?_⟩
        refine iteT ?_
        exact ⟨_, rfl, p, _, 0, _, rfl, rfl, SqL.of o5, rfl, hq t2 _ e5 o4⟩
      | .many, ee, hq, fd =>
        obtain ⟨rfl, dd, rfl, hdd⟩ := ee
        obtain ⟨ex, hpe, hve, hki⟩ := Eh.ec CTM (by simp)
        refine ⟨true, hpe, fun _ a na => ⟨_, rfl, ?_⟩, fun z => nomatch z⟩
        refine ⟨_, rfl, _, rfl, ?_⟩
        refine iteF ?_
        refine ⟨by decide, fun p hp => ?_⟩
        have o1 := Ext.upd (o := HO.lst []) hp _ _ hdd
        refine ⟨_, rfl, CTM, dd, _, .ref CBB, .ref CBB, false, rfl, rfl, rfl, o1, ex, fun _ h => h, (hki _ (by simp)).trans (congrArg some (decide_eq_false nCTMCBB)), _, rfl, ?_⟩
        refine iteF ?_
        refine ⟨_, rfl, CTM, dd, _, .ref CUn, .ref CUn, false, rfl, rfl, rfl, o1, ex, fun _ h => h, (hki _ (by simp)).trans (congrArg some (decide_eq_false nCTMCUn)), _, rfl, ?_⟩
        refine iteF ?_
        refine ⟨_, rfl, CTM, dd, _, .ref CTa, .ref CTa, false, rfl, rfl, rfl, o1, ex, fun _ h => h, (hki _ (by simp)).trans (congrArg some (decide_eq_false nCTMCTa)), _, rfl, ?_⟩
        refine iteF ?_
        refine ⟨_, rfl, CTM, dd, _, .ref CTM, .ref CTM, true, rfl, rfl, rfl, o1, ex, fun _ h => h, (hki _ (by simp)).trans (congrArg some (decide_eq_true rfl)), _, rfl, ?_⟩
        refine iteT ?_
        refine ⟨_, rfl, .inl ⟨rfl, _, SqL.of upd_same⟩, _, rfl, rfl, rfl, dd, _, _, rfl, o1, rfl, .inl (.inl ⟨_, rfl, by decide +kernel, _, rfl, rfl, rfl, dd, _, _, rfl, o1, rfl, .inl (.inr ⟨_, rfl, by decide +kernel, (show (3 : Nat) ≤ sizeLine by decide), fun t2 ht2 => ?_⟩)⟩)⟩
        have e3 := Ext.upd (o := HO.tup [V.str "many", V.str (reprText "words"), V.str (toString (24 : Int))]) ht2
        refine ⟨p, _, _, rfl, rfl, e3 _ _ upd_same, by decide, ?_⟩
        obtain ⟨e5, o4, o5⟩ := appended (tv := [V.str "many", V.str (reprText "words"), V.str (toString (24 : Int))]) hp ht2
        have o3 := e5 _ _ hdd
        refine ⟨_, rfl, _, 1, rfl, .inl ⟨_, SqL.of o5, rfl⟩, rfl, _, rfl, ?_⟩
        refine iteT ?_
        refine ⟨_, rfl, CTM, dd, _, .ty "ValueError", .type "ValueError", true, rfl, rfl, rfl, o3, ex, fun _ h => h, hve, _, rfl, ?_⟩
        refine iteT ?_
        exact ⟨_, rfl, p, _, 0, _, rfl, rfl, SqL.of o5, rfl, hq t2 _ e5 (o4.trans (by rw [rep_words, rep_24]; rfl))⟩
    · refine ⟨_, rfl, _, rfl, ?_⟩
      refine iteT ?_
      exact ⟨_, rfl, (show (1 : Nat) ≤ sizeLine by decide), fun p hp => hv p hp⟩
end
end Kq
set_option maxHeartbeats 4000000
namespace Kq
open PySem PySem.Spec PyProof.Rows L2 Kp
/-! ### a sorted set of words -/
theorem lt_asym : ∀ {a b : List Nat}, ltCps a b = true → ltCps b a = false
  | [], [], h => by simp [ltCps] at h
  | [], _ :: _, _ => by simp [ltCps]
  | _ :: _, [], h => by simp [ltCps] at h
  | a :: r, b :: t, h => by
    simp only [ltCps, Bool.or_eq_true, decide_eq_true_eq, Bool.and_eq_true, beq_iff_eq, Bool.or_eq_false_iff, decide_eq_false_iff_not, Bool.and_eq_false_iff, beq_eq_false_iff_ne] at h ⊢
    refine ⟨by omega, ?_⟩
    by_cases e : b = a
    · rcases h with z | z
      · omega
      · exact .inr (lt_asym z.2)
    · exact .inl e
def insS (x : Str) : List Str → List Str
  | [] => [x]
  | y :: l => if ltCps y.cps.toList x.cps.toList = true then y :: insS x l else x :: y :: l
theorem insS_perm (x : Str) : ∀ l, (insS x l).Perm (x :: l)
  | [] => List.Perm.refl _
  | y :: l => by
    unfold insS
    split
    · exact (List.Perm.cons y (insS_perm x l)).trans (List.Perm.swap x y l)
    · exact List.Perm.refl _
theorem rising_ins : ∀ (p : Str) (l : List Str) (x : Str), risingS p l = true → ltCps x.cps.toList p.cps.toList = false → risingS p (insS x l) = true
  | p, [], x, _, h => by
    show (!ltCps x.cps.toList p.cps.toList && true) = true
    rw [h]
    rfl
  | p, y :: l, x, hl, h => by
    obtain ⟨h1, h2⟩ := Bool.and_eq_true_iff.mp (show (!ltCps y.cps.toList p.cps.toList && risingS y l) = true from hl)
    unfold insS
    split
    · rename_i q
      show (!ltCps y.cps.toList p.cps.toList && risingS y (insS x l)) = true
      rw [h1, rising_ins y l x h2 (lt_asym q)]
      rfl
    · rename_i q
      show (!ltCps x.cps.toList p.cps.toList && (!ltCps y.cps.toList x.cps.toList && risingS y l)) = true
      rw [h, Bool.eq_false_iff.mpr q, h2]
      rfl
theorem sorted_ins {x : Str} : ∀ {l : List Str}, sortedS l = true → sortedS (insS x l) = true
  | [], _ => rfl
  | y :: l, h => by
    unfold insS
    split
    · rename_i q
      exact rising_ins y l x h (lt_asym q)
    · rename_i q
      show (!ltCps y.cps.toList x.cps.toList && risingS y l) = true
      rw [Bool.eq_false_iff.mpr q, show risingS y l = true from h]
      rfl
theorem sort_ex : ∀ ws : List Str, ∃ us : List Str, sortedS us = true ∧ us.Perm ws
  | [] => ⟨[], rfl, List.Perm.refl _⟩
  | w :: ws => let ⟨us, h1, h2⟩ := sort_ex ws; ⟨insS w us, sorted_ins h1, (insS_perm w us).trans (List.Perm.cons w h2)⟩
theorem isG_ex {ws : List Str} (nd : ws.Nodup) : ∃ us, IsG us ws := let ⟨us, h1, h2⟩ := sort_ex ws; ⟨us, h1, h2.nodup_iff.mpr nd, fun _ => h2.mem_iff⟩
/-! ### books side by side -/
theorem OkR.okB_ex {rows : List (List Str)} (h : OkR rows) : ∃ us, OkB us rows := by
  obtain ⟨r, hr⟩ := List.exists_mem_of_ne_nil _ h.ne
  obtain ⟨us, ig⟩ := isG_ex (h.ok r hr).nd
  exact ⟨us, h.okB hr ig⟩
theorem nodup_dup {ws : List Str} (h : ws.Nodup) : dupC ws = [] := by
  refine List.filter_eq_nil_iff.mpr fun x hx => ?_
  have := List.nodup_iff_count.mp h x
  simpa using this
theorem nodup_dn {fs : List Str} (h : fs.Nodup) : ∀ ws, ws.Perm fs → dupC ws = [] := fun ws p => nodup_dup (p.nodup_iff.mpr h)
theorem firsts_take {ls : List (List (List Str))} (m : Nat) : firsts ls = firsts (ls.take m) ++ firsts (ls.drop m) := by
  unfold firsts
  rw [← List.flatMap_append, List.take_append_drop]
theorem sides_okR {ls : List (List (List Str))} {l0 : List (List Str)} (h0 : ls[0]? = some l0) (hall : ∀ m ∈ ls, m.length = l0.length) (hok : ∀ m ∈ ls, OkR m) (nd : (firsts ls).Nodup) (few : (firsts ls).length ≤ 24) : OkR (sides ls) := by
  have sl := sides_len h0
  have lk := hok l0 (List.mem_of_getElem? h0)
  have l0p : 0 < l0.length := List.length_pos_iff.mpr lk.ne
  have so := fun i hi => side_ok h0 hall (fun m hm => (hok m hm).okB_ex) (nodup_dn nd) few (i := i) hi
  have at_ : ∀ ws ∈ sides ls, ∃ i, i < l0.length ∧ ws = ls.flatMap fun l => l.getD i [] := fun ws hw => by
    obtain ⟨i, hi, rfl⟩ := List.mem_iff_getElem.mp hw
    have q := sides_at h0 (i := i) (by omega)
    rw [List.getElem?_eq_getElem hi] at q
    exact ⟨i, by omega, Option.some.inj q⟩
  refine ⟨fun z => ?_, by rw [sl]; exact lk.few, fun ws hw => ?_, fun a ha b hb x => ?_⟩
  · rw [z] at sl
    simp at sl
    omega
  · obtain ⟨i, hi, rfl⟩ := at_ ws hw
    exact (so i hi).1
  · obtain ⟨i, hi, rfl⟩ := at_ a ha
    obtain ⟨j, hj, rfl⟩ := at_ b hb
    exact ((so i hi).2.trans (so j hj).2.symm).mem_iff
theorem sides_okT {ls : List (List (List Str))} {l0 : List (List Str)} (h0 : ls[0]? = some l0) (hall : ∀ m ∈ ls, m.length = l0.length) (hok : ∀ m ∈ ls, OkR m) (nd : (firsts ls).Nodup) (few : (firsts ls).length ≤ 24) (m : Nat) (hm : 0 < m) : OkR (sides (ls.take m)) := by
  have e := firsts_take (ls := ls) m
  rw [e] at nd few
  rw [List.length_append] at few
  exact sides_okR (l0 := l0) (by rw [List.getElem?_take, if_pos hm]; exact h0) (fun x hx => hall x (List.mem_of_mem_take hx)) (fun x hx => hok x (List.mem_of_mem_take hx)) (List.nodup_append.mp nd).1 (by omega)
theorem head_take {ls : List (List (List Str))} {m : Nat} (hm : 0 < m) : (ls.take m).headD [] = ls.headD [] := by
  cases ls with
  | nil => simp
  | cons a r =>
    cases m with
    | zero => omega
    | succ m => rfl
theorem zip_range {n : Nat} {f : Nat → List Str} {ys : List (List Str)} (h : ys.length = n) : side ((List.range n).map f) ys = (List.range n).map fun k => f k ++ ys.getD k [] := by
  unfold side
  apply List.ext_getElem?
  intro k
  rw [List.getElem?_zipWith, List.getElem?_map, List.getElem?_map]
  by_cases hk : k < n
  · rw [List.getElem?_range hk, List.getElem?_eq_getElem (show k < ys.length by omega)]
    simp [List.getD_eq_getElem?_getD, List.getElem?_eq_getElem (show k < ys.length by omega)]
  · rw [List.getElem?_eq_none (by simpa using hk)]
    rfl
theorem sides_snoc {ls : List (List (List Str))} {l0 l : List (List Str)} (h0 : ls[0]? = some l0) {i : Nat} (hl : ls[i + 1]? = some l) (hlen : l.length = l0.length) : side (sides (ls.take (i + 1))) l = sides (ls.take (i + 2)) := by
  have e0 : (ls.headD []).length = l0.length := by
    cases ls with
    | nil => cases h0
    | cons a r =>
      cases h0
      rfl
  have tk : ls.take (i + 2) = ls.take (i + 1) ++ [l] := by
    rw [List.take_add_one, hl]
    rfl
  unfold sides
  rw [head_take (by omega), head_take (by omega), e0, zip_range hlen, tk]
  refine List.map_congr_left fun k _ => ?_
  rw [List.flatMap_append]
  simp
theorem sides_one {l0 : List (List Str)} : sides [l0] = l0 := by
  unfold sides
  show (List.range l0.length).map _ = l0
  apply List.ext_getElem?
  intro k
  rw [List.getElem?_map]
  by_cases hk : k < l0.length
  · rw [List.getElem?_range hk, List.getElem?_eq_getElem hk]
    simp [List.getD_eq_getElem?_getD, List.getElem?_eq_getElem hk]
  · rw [List.getElem?_eq_none (by simpa using hk), List.getElem?_eq_none (by simpa using hk)]
    rfl
end Kq
namespace Kq
open PySem PySem.Spec PyProof.Rows L2 Kp
open LamX (ExtN Tabs TabS CodeO)
/-! ### what stands when a book is changed -/
theorem cut_one {α : List V} : cutV α (some 1) none = α.drop 1 := by
  unfold cutV
  rw [show (some (1 : Int)) = some (((1 : Nat) : Int)) from rfl, HT.sIx_nat, HT.sIx_none]
  by_cases h : 1 ≤ α.length
  · rw [Nat.min_eq_left h]
    exact List.take_of_length_le (by rw [List.length_drop]; omega)
  · have : α = [] := List.eq_nil_of_length_eq_zero (by omega)
    rw [this]
    rfl
theorem BkAt.keptB {CG CO CB : Addr} {H H' : Hp} {b c dx : Addr} {fs : List (Str × V)} {wss : List (List Str)} {n : Nat} (nG : CB ≠ CG) (nO : CB ≠ CO) (k : BkAt CG CO CB H c wss n) (hb : H b = some (.ins CB dx fs)) (ne : c ≠ b) (e : Kept b H H') : BkAt CG CO CB H' c wss n := by
  obtain ⟨g, h, p, os, us, k⟩ := k
  refine ⟨g, h, p, os, us, k.kept ⟨fun _ _ z => ?_, fun _ _ z => ?_, fun _ z => ?_⟩ ne (fun z => ?_) (fun z => ?_) e⟩
  · rw [hb] at z
    cases z
    exact nG rfl
  · rw [hb] at z
    cases z
    exact nO rfl
  · rw [hb] at z
    cases z
  · have := k.held
    rw [z, hb] at this
    cases this
  · obtain ⟨ps, h1, _⟩ := k.past
    rw [z, hb] at h1
    cases h1
theorem RowsAt.keptB {H H' : Hp} {r b C dx : Addr} {fs : List (Str × V)} {rows : List (List Str)} (h : RowsAt H r rows) (hb : H b = some (.ins C dx fs)) (e : Kept b H H') : RowsAt H' r rows := by
  obtain ⟨as, h1, h2, h3⟩ := h
  have ne : ∀ a xs, H a = some (.lst xs) → a ≠ b := fun a xs ha z => by
    rw [z, hb] at ha
    cases ha
  exact ⟨as, h1, e _ _ (ne _ _ h2) h2, fun i a ws x y => e _ _ (ne _ _ (h3 i a ws x y)) (h3 i a ws x y)⟩
theorem Tabs.keptB {T : List (Addr × Str)} {H H' : Hp} {b C dx : Addr} {fs : List (Str × V)} (h : Tabs T H) (hb : H b = some (.ins C dx fs)) (e : Kept b H H') : Tabs T H' := fun p hp => by
  obtain ⟨ps, h1, h2, h3⟩ := h p hp
  refine ⟨ps, e _ _ (fun z => ?_) h1, h2, fun pos cv hc => ?_⟩
  · rw [z, hb] at h1
    cases h1
  · obtain ⟨c, e1, e2⟩ := h3 pos cv hc
    refine ⟨c, e1, e _ _ (fun z => ?_) e2⟩
    rw [z, hb] at e2
    unfold CodeO at e2
    cases e2
end Kq
set_option maxHeartbeats 4000000
namespace Kq
open PySem PySem.Spec PyProof.Rows L2 Kp
open Evl (Ev EvL EvT EvA given)
open LamX (ExtN Tabs TabB)
/-! ### a def that makes lambdas -/
structure FunC (K : PySem.W.Frag) (x qual : Str) (st : Stmt) (f : Addr) (fd : FuncData) (c : Addr) : Prop where
  fu : Fun K x qual st f fd
  code : fd.code = .ref c
section
variable {P : Program} {w : World} {K : PySem.W.Frag} {mg : Str → Option Value} {base : Heap} {x qual : Str} {st : Stmt} {f c : Addr} {fd : FuncData} {N ps : List Str} {k : Nat} {sp : Sp}
theorem fnPC (F : FunC K x qual st f fd c) (S : FnScope N ps (defScope st)) (hb : BindN x qual st ps) (len : ∀ vs H Q E, sp vs H Q E → vs.length = ps.length)
    (hbody : ∀ (A : Around) (outer : List Env) (s : Shared) (H : Hp) (vs : List V) (Q : VK) (E : XK), Room k (A.deeper (envOfC qual (defScope st) s.heap.objs.size f (.ref c))) → sp vs H Q E →
      ∃ t, PSs (cxOf (L2.CX P w) P w K mg base N qual (defScope st) f (.ref c) A outer s H E) (defBody st) t ∧ t { nx := fun _ H' => Q .non H', rt := Q } (start N vs) H) :
    FnR P w K mg base (L2.CX P w) (k + 1) f sp := by
  have hb0 := F.fu.binds hb
  obtain ⟨oc, od, kV, doc, pm, an, cdv, ct, osl, rfl, lk, hcd⟩ := F.fu.ex
  obtain rfl : cdv = .ref c := F.code
  exact ((fn_of lk hcd S len fun A outer s H vs Q E hr hsp => hbody A outer s H vs Q E hr hsp).raw hb0 .nil).imp fun vs H Q E h => by rw [List.append_nil]; exact h
end
/-! ### what is told of an error, as data -/
theorem reprChar_let : ∀ c ∈ List.range' 97 26, Builtin.Str.reprChar 39 c = [c] ∧ Builtin.Str.reprChar 34 c = [c] := by decide +kernel
theorem repr_small (q : Nat) (hq : q = 39 ∨ q = 34) : ∀ (l : List Nat) (acc : Array Nat), (∀ c ∈ l, 97 ≤ c ∧ c ≤ 122) → (∀ c ∈ acc, c < 200) → ∀ c ∈ l.foldl (fun out c => out ++ (Builtin.Str.reprChar q c).toArray) acc, c < 200
  | [], acc, _, h => h
  | a :: l, acc, hl, h => by
    have ha := hl a List.mem_cons_self
    have e : Builtin.Str.reprChar q a = [a] := by
      have := reprChar_let a (List.mem_range'_1.mpr ⟨ha.1, by omega⟩)
      rcases hq with rfl | rfl
      · exact this.1
      · exact this.2
    rw [List.foldl_cons]
    refine repr_small q hq l _ (fun c hc => hl c (List.mem_cons_of_mem _ hc)) fun c hc => ?_
    rw [e] at hc
    rcases Array.mem_append.mp hc with z | z
    · exact h c z
    · have : c = a := by simpa using z
      omega
theorem rep_ok {w : Str} (h : LetS w) : PyData.strOk (reprText w) = true := by
  unfold PyData.strOk
  rw [Array.all_eq_true']
  intro c hc
  refine decide_eq_true ?_
  have hq : reprQuote w = 39 ∨ reprQuote w = 34 := by
    unfold reprQuote
    split
    · exact .inr rfl
    · exact .inl rfl
  have hc2 : c ∈ (w.cps.foldl (fun out c => out ++ (Builtin.Str.reprChar (reprQuote w) c).toArray) #[reprQuote w]).push (reprQuote w) := hc
  rw [← Array.foldl_toList] at hc2
  have q2 : reprQuote w < 200 := by omega
  rcases Array.mem_push.mp hc2 with z | z
  · have := repr_small _ hq w.cps.toList #[reprQuote w] h (fun c hc => by
      have : c = reprQuote w := by simpa using hc
      omega) c z
    omega
  · omega
def dueS : Due → List Str
  | .book none => ["book", "None"]
  | .book (some i) => ["book", toString ((i : Nat) : Int)]
  | .unlike => ["unlike", "'orders'"]
  | .taken w => ["taken", reprText w]
  | .many => ["many", "'words'", "24"]
theorem due_s : ∀ d, dueV d = (dueS d).map V.str
  | .book none => rfl
  | .book (some _) => rfl
  | .unlike => rfl
  | .taken _ => rfl
  | .many => rfl
theorem due_ok : ∀ {d}, FineD d → ∀ c ∈ dueS d, PyData.strOk c = true
  | .book none, _ => by decide +kernel
  | .book (some i), h => by
    have : i = 0 ∨ i = 1 ∨ i = 2 := by have : i < 3 := h; omega
    rcases this with rfl | rfl | rfl <;> decide +kernel
  | .unlike, _ => by decide +kernel
  | .taken w, h => fun c hc => by
    rcases List.mem_cons.mp hc with rfl | hc
    · decide +kernel
    · rw [List.mem_singleton.mp hc]
      exact rep_ok (show Wordy w from h).1
  | .many, _ => by decide +kernel
/-- one tuple that tells of d against another -/
theorem due_eq {K : PySem.W.Frag} {H : Hp} {p q : Addr} {d : Due} {Q : VK} (f : FineD d) (hp : H p = some (.tup (dueV d))) (hq : H q = some (.tup (dueV d))) (k : Q (.bl true) H) : rEqD K (.ref p) (.ref q) H Q := by
  rw [due_s] at hp hq
  refine ⟨_, _, Dp.tup (SqT.of hp) (dp_strs _), Dp.tup (SqT.of hq) (dp_strs _), shaped_strsT (due_ok f), shaped_strsT (due_ok f), ?_⟩
  rw [eqv_strsT, decide_eq_true rfl]
  exact k
theorem due_fine {lots : List Lot} {d : Due} (h : DueIs lots (some d)) (l3 : lots.length ≤ 3) (hw : ∀ ls, lots = ls.map some → ∀ c ∈ firsts ls, Wordy c) : FineD d := by
  match d, h with
  | .book none, _ => trivial
  | .book (some i), ⟨h, _⟩ =>
    have := (List.getElem?_eq_some_iff.mp h).1
    exact (show i < 3 by omega)
  | .unlike, _ => trivial
  | .taken w, ⟨ls, l, ws, ev, so, pw, hd⟩ =>
    have := List.mem_of_mem_head? hd
    exact hw ls ev.e w (pw.mem_iff.mp (List.mem_filter.mp this).1)
  | .many, _ => trivial
/-! ### the law's own right -/
structure TxR (K : PySem.W.Frag) (mg : Str → Option Value) (fWr fHe : Addr) : Prop where
  g_l_wrong : mg "_law_wrong" = some (.ref fWr)
  k_l_wrong : PySem.W.keepIn K (.ref fWr) = true
  F_wrong : ∃ fd, Fun K "_law_wrong" "_law_wrong" s_l_wrong fWr fd
  g_l_heard : mg "_law_heard" = some (.ref fHe)
  k_l_heard : PySem.W.keepIn K (.ref fHe) = true
  F_heard : ∃ fd, Fun K "_law_heard" "_law_heard" s_l_heard fHe fd
abbrev qR : Str := ("_law_right" : Str) ++ ".<locals>." ++ "<lambda>"
def spRight (K : PySem.W.Frag) (CB : Addr) (T : List (Addr × Str)) : Sp := fun vs H Q _ => ∃ (q : Addr) (xs : List V) (lots : List Lot), vs = [.ref q] ∧ H q = some (.lst xs) ∧ RowLots K CB H xs lots ∧ 0 < lots.length ∧ lots.length ≤ 3 ∧
  (∀ ls, lots = ls.map some → (firsts ls).length < 64) ∧ Tabs T H ∧ ∀ H', ExtN H H' → Tabs T H' → Q (.bl true) H'
section
variable {P : Program} {w : World} {K : PySem.W.Frag} {mg : Str → Option Value} {base : Heap} {tL tM tO : Tok} {fIsWord CG gI gLen gAnd gEq CO oI pOf oOf oInv oAdd oEq CB fIsInt bI bNW bNP bCh bTu bLen bIx bAdd bEq pOfB bOf pChs bChs CBB CUn CTa CTM iBB iUn iTa iTM fNB fBe fDi fTree fPen fBook fBeL fDiL fJoin CPE fWr fHe fRi cR PR : Addr} {mc mcB : Value} {T : List (Addr × Str)}
theorem ok_right (B : TxB mg) (Tg : TxG K mg tL tM fIsWord CG gI gLen gAnd gEq) (O : TxO K mg CO oI mc pOf oOf oInv oAdd oEq) (Bk : TxBk K mg tO CG CO CB fIsInt bI bNW bNP bCh bTu bLen bIx bAdd bEq pOfB bOf pChs bChs mcB) (Er : TxEr P K mg CBB CUn CTa CTM iBB iUn iTa iTM)
    (S : TxBs K mg fNB fBe fDi fTree) (L : TxLb K mg fPen fBook fBeL fDiL fJoin) (Eh : TxH K mg CPE CBB CUn CTa CTM) (R : TxR K mg fWr fHe) {fd : FuncData} (F : FunC K "_law_right" "_law_right" s_l_right fRi fd cR) (TB : TabB base mg cR PR)
    (hT : (PR, qR) ∈ T) (hu : ∀ p ∈ T, p.1 = PR → p.2 = qR) : FnR P w K mg base (L2.CX P w) 40 fRi (spRight K CB T) := by
  have G_l_beside := ok_l_beside (P := P) (w := w) (base := base) B Tg O Bk Er S L
  have G_l_dissolving := ok_l_dissolving (P := P) (w := w) (base := base) B Tg O Bk Er S L
  have G_l_book := ok_law_book (P := P) (w := w) (base := base) B Tg O Bk L
  have G_l_joined := ok_joined (P := P) (w := w) (base := base) B L
  have G_beq := ok_book_eq (P := P) (w := w) (base := base) B Tg O Bk
  have G_badd := ok_book_add (P := P) (w := w) (base := base) B Tg O Bk
  have G_bchs := ok_book_changes (P := P) (w := w) (base := base) B Bk
  have G_bturn := ok_book_turn (P := P) (w := w) (base := base) B Tg O Bk
  obtain ⟨fdw, Fw⟩ := R.F_wrong
  have G_l_wrong := ok_wrong (P := P) (w := w) (base := base) (CB := CB) B L Fw
  obtain ⟨fdh, Fh⟩ := R.F_heard
  have bindH := Fh.binds (ps := ["_law_ask"]) (fun _ _ _ _ _ _ us hl => match us, hl with | [_], _ => rfl)
  obtain ⟨och, odh, kVh, doch, pmh, anh, cdh, cth, oslh, rfl, lkh, hch⟩ := Fh.ex
  refine fnPC F sc_l_right (fun _ _ _ _ _ _ us hl => match us, hl with | [_], _ => rfl) (fun vs H Q E h => ?_) (fun A outer s H vs Q E hr h => ?_)
  · obtain ⟨q, xs, lots, rfl, _⟩ := h
    rfl
  · refine ⟨_, PSs.nox (pss_cons (ps_set (i := 1) sc_l_right.nd rfl (Or.inr rfl) (pe_lc (own := [("_law_lot", 7)]) (g := gName 7) (tt := tYes) rfl sc_l_right.nd (pi_listK (K := K) rfl (pv 0)) (blkOk_by (own := [("_law_lot", 7)]) (N := N_l_right) (sc := defScope s_l_right) (by decide +kernel)) (fun _ _ _ _ _ => (pg_name (i := 7) sc_l_right.nd rfl (Or.inl rfl))) (fun _ _ _ _ _ => pts_nil) (fun _ _ _ _ _ => by exact (pe_ifExp (pt_val (pe_callB (call_isiKK (K := K) rfl) (by rfl) B.n_isinstance (by decide +kernel) (pa_cons (pv 7) (pa_cons (pe_bltn (v := .ty "list") (u := .type "list") (by rfl) B.n_list (by decide +kernel) rfl) pa_nil)))) (pe_callR G_l_book (hr.mono (by decide)) L.k_l_book (by rfl) L.g_l_book passL (pa_cons (pv 7) pa_nil)) (pv 7)))))
(pss_cons (ps_par (i := 2) (j := 3) (by rfl) sc_l_right.nd rfl rfl (by decide) rfl rfl (pa_cons (pe_callR G_l_wrong (hr.mono (by decide)) R.k_l_wrong (by rfl) R.g_l_wrong passL (pa_cons (pv 0) pa_nil)) (pa_cons (LamX.pe_lamcall (T := T) (TT := TTheard CBB CUn CTa CTM) (t := fun E => tCallR (spBesL K CG CO CB CBB CUn CTa CTM) E (tCons (tVar 1) tNil)) (k := 30) (by rfl) R.g_l_heard R.k_l_heard lkh hch bindH sc_l_heard rfl (Or.inl rfl) (heard_gives B Er Eh) TB (by rfl) (by exact hT) (by exact hu) (hr.mono (by decide)) (LamX.lamS_by (sc := defScope s_l_right) (by decide +kernel)) rfl (fun _ _ _ _ _ => rfl) (fun A outer s H E f c hr2 => by exact pe_callR (E := E) G_l_beside (hr2.mono (by decide)) L.k_l_beside (by rfl) L.g_l_beside (passes_call (takes_of rfl rfl rfl rfl) fun _ _ _ _ h => h) (pa_cons (pv 1) pa_nil))) pa_nil)) (by rfl))
(pss_cons (ps_if (pt_cmp (pc_notN (pv 2)))
(pss_one (ps_ret (pe_and (pe_cmpR (op_eqDK (K := K) rfl hr.units) (pv 3) (pv 2) (nomark _)) (pe_one (pe_cmpR (op_eqDK (K := K) rfl hr.units) (LamX.pe_lamcall (T := T) (TT := TTheard CBB CUn CTa CTM) (t := fun E => tCallR (spDisL K CG CO CB CBB CUn CTa CTM) E (tCons (tVar 1) tNil)) (k := 30) (by rfl) R.g_l_heard R.k_l_heard lkh hch bindH sc_l_heard rfl (Or.inl rfl) (heard_gives B Er Eh) TB (by rfl) (by exact hT) (by exact hu) (hr.mono (by decide)) (LamX.lamS_by (sc := defScope s_l_right) (by decide +kernel)) rfl (fun _ _ _ _ _ => rfl) (fun A outer s H E f c hr2 => by exact pe_callR (E := E) G_l_dissolving (hr2.mono (by decide)) L.k_l_dissolving (by rfl) L.g_l_dissolving (passes_call (takes_of rfl rfl rfl rfl) fun _ _ _ _ h => h) (pa_cons (pv 1) pa_nil))) (pv 2) (nomark _))))))
pss_nil)
(pss_cons (ps_setLc (i := 4) (own := [("_law_k", 8)]) (g := gName 8) (tt := tYes) rfl sc_l_right.nd rfl rfl (sw_true rfl rfl rfl (by decide +kernel)) (pi_range1 (by rfl) B.n_range (pa_cons (pe_callB (call_lenK (K := K) rfl) (by rfl) B.n_len (by decide +kernel) (pa_cons (pe_ix (ix_listK (K := K) rfl) (pv 0) pe_int (fun _ _ => rfl)) pa_nil)) pa_nil)) (blkOk_by (own := [("_law_k", 8)]) (N := N_l_right) (sc := defScope s_l_right) (by decide +kernel)) (fun _ _ _ _ _ => (pg_name (i := 8) sc_l_right.nd rfl (Or.inr rfl))) (fun _ _ _ _ _ => pts_nil) (fun _ _ _ _ _ => by exact (pe_callR G_l_joined (hr.mono (by decide)) L.k_l_joined (by rfl) L.g_l_joined passL (pa_cons (pe_lc (own := [("_law_lot", 7)]) (g := gName 7) (tt := tYes) rfl sc_l_right.nd (pi_listK (K := K) rfl (pv 0)) (blkOk_by (by kernel_rfl)) (fun _ _ _ _ _ => (pg_name (i := 7) sc_l_right.nd rfl (Or.inl rfl))) (fun _ _ _ _ _ => pts_nil) (fun _ _ _ _ _ => by exact (pe_ix (ix_listK (K := K) rfl) (pv 7) (pv 8) (fun _ _ => rfl)))) pa_nil))))
(pss_cons (ps_if (PW.pt (pw_or (pt_not (pt_val (pe_callB (call_isiKK (K := K) rfl) (by rfl) B.n_isinstance (by decide +kernel) (pa_cons (pv 3) (pa_cons (pe_bltn (v := .ty "list") (u := .type "list") (by rfl) B.n_list (by decide +kernel) rfl) pa_nil))))) (pw_or (pt_cmpR (op_neO (E := E0) Bk.ne Bk.cm Bk.eq.at_ Bk.eq.fn G_beq (hr.mono (by decide)) passL) (pe_ix (ix_listK (K := K) rfl) (pv 3) pe_int (fun _ _ => rfl)) (pe_callR G_l_book (hr.mono (by decide)) L.k_l_book (by rfl) L.g_l_book passL (pa_cons (pv 4) pa_nil)) (nomark _)) (pw_or1 (pt_cmpR op_ne (Kp.pe_propR (E := E0) (pe_ix (ix_listK (K := K) rfl) (pv 3) pe_int (fun _ _ => rfl)) Bk.cl Bk.chs G_bchs (hr.mono (by decide)) passL) pe_int (nomark _))))))
(pss_one (ps_ret pe_bl))
pss_nil)
(pss_cons (ps_set (i := 5) sc_l_right.nd rfl (Or.inl rfl) (pe_ix (ix_listK (K := K) rfl) (pv 1) pe_int (fun _ _ => rfl)))
(pss_cons (ps_for PassesOwn.never rfl (pi_listK (K := K) rfl (pe_slice (sl_listK (K := K) rfl) (pv 1) (po_some pe_int) po_none)) (pg_name (i := 6) sc_l_right.nd rfl (Or.inl rfl))
(pss_one (ps_set (i := 5) sc_l_right.nd rfl (Or.inl rfl) (pe_op (op_bin (E := E0) Bk.add.at_ Bk.add.fn Bk.sf G_badd (hr.mono (by decide)) passL) (pv 5) (pv 6)))))
(pss_cons (ps_expr (Kp.pe_methR (E := E0) (pe_ix (ix_listK (K := K) rfl) (pv 3) pe_int (fun _ _ => rfl)) Bk.cl Bk.m_turn G_bturn (hr.mono (by decide)) passL (pa_cons pe_int pa_nil)))
(pss_one (ps_ret (pe_and (pe_cmpR (op_eqO (E := E0) Bk.eq.at_ Bk.eq.fn G_beq (hr.mono (by decide)) passL) (pv 5) (pe_callR G_l_book (hr.mono (by decide)) L.k_l_book (by rfl) L.g_l_book passL (pa_cons (pv 4) pa_nil)) (nomark _)) (pe_and (pe_cmpR (op_eqG (rcG_list (mon_ins bkEq_mon) (eqG_insR (E := E0) G_beq Bk.eq.at_ Bk.eq.fn passL)) (hr.mono (by decide))) (pv 1) (pe_lc (own := [("_law_lot", 7)]) (g := gName 7) (tt := tYes) rfl sc_l_right.nd (pi_listK (K := K) rfl (pv 0)) (blkOk_by (own := [("_law_lot", 7)]) (N := N_l_right) (sc := defScope s_l_right) (by decide +kernel)) (fun _ _ _ _ _ => (pg_name (i := 7) sc_l_right.nd rfl (Or.inl rfl))) (fun _ _ _ _ _ => pts_nil) (fun _ _ _ _ _ => by exact (pe_callR G_l_book (hr.mono (by decide)) L.k_l_book (by rfl) L.g_l_book passL (pa_cons (pv 7) pa_nil)))) (nomark _)) (pe_one (pe_cmpR op_eq (Kp.pe_propR (E := E0) (pe_ix (ix_listK (K := K) rfl) (pv 1) pe_int (fun _ _ => rfl)) Bk.cl Bk.chs G_bchs (hr.mono (by decide)) passL) pe_int (nomark _))))))))))))))), ?_⟩
    obtain ⟨q, xs, lots, rfl, hq, hL, l0, l3, h64, hTs, hQ⟩ := h
    have hlen := hL.1
    refine ⟨_, rfl, q, rfl, ⟨_, SqL.of hq⟩, fun D hD => ?_⟩
    refine mk_lc (walk_list (xs := xs)) hD (by omega) (fun i y H5 => ∀ l, lots[i]? = some l → (l = none → xs[i]? = some y) ∧ ∀ rows, l = some rows → ∃ b, y = .ref b ∧ BkAt CG CO CB H5 b rows 0) (fun H5 e5 => SqL.of (e5 _ _ hq)) (fun i x H5 H6 acc hi e5 hacc hy Q' q' => ?_) (fun H5 acc e5 hacc hn hr => ?_)
    · obtain ⟨rfl, hx⟩ := hy
      obtain ⟨l, hl, lot⟩ := hL.get hx
      have lot2 := lot.ext e5
      refine ⟨rfl, ?_⟩
      cases l with
      | none =>
        obtain ⟨t, ty, k1, k2⟩ := lot2 _ (ExtN.refl _)
        refine ⟨_, rfl, _, _, t, .type "list", false, rfl, .ty "list", ty, k2, _, rfl, ?_⟩
        refine iteF ?_
        refine ⟨_, rfl, q' _ _ Ext.rfl' fun H8 k8 l' hl' => ?_⟩
        rw [hl] at hl'
        cases hl'
        exact ⟨fun _ => hx, fun _ z => nomatch z⟩
      | some rows =>
        obtain ⟨a, rfl, ra, okr⟩ := lot2
        obtain ⟨as, h1, h2, h3⟩ := id ra
        refine ⟨_, rfl, _, _, .type "list", .type "list", true, rfl, .ty "list", .base (.lst h2), kit_ty (by decide +kernel), _, rfl, ?_⟩
        refine iteT ?_
        refine ⟨_, rfl, a, rows, rfl, ra, okr, fun b g h q1 os us H7 e7 b0 h0 q0 bk => ?_⟩
        refine q' _ H7 e7 fun H8 k8 l' hl' => ?_
        rw [hl] at hl'
        cases hl'
        refine ⟨(fun z => nomatch z), fun rows' er => ?_⟩
        cases er
        exact ⟨b, rfl, g, h, q1, os, us, bk.kept (Off.lst (e7 _ _ hacc)) (ne_of_none hacc b0).symm (ne_of_none hacc h0).symm (ne_of_none hacc q0).symm k8⟩
    · have hLA : LotsAt K CG CO CB H5 acc lots := ⟨hn.trans hlen, fun i x l hx hl => by
        obtain ⟨r1, r2⟩ := hr i x hx l hl
        cases l with
        | none =>
          have lot := (hL.2 i x none (r1 rfl) hl).extN (ExtN.of e5)
          exact fun H' e' => let ⟨t, ty, k1, _⟩ := lot H' e'; ⟨t, ty, k1⟩
        | some rows =>
          obtain ⟨b, e, bk⟩ := r2 rows rfl
          exact ⟨b, 0, e, bk⟩⟩
      have hbk : ∀ i y rows, acc[i]? = some y → lots[i]? = some (some rows) → ∃ b, y = V.ref b ∧ BkAt CG CO CB H5 b rows 0 := fun i y rows hy hl => (hr i y hy _ hl).2 rows rfl
      have hwd : ∀ ls, lots = ls.map some → ∀ c ∈ firsts ls, Wordy c := fun ls e c hc => by
        subst e
        obtain ⟨rows, hr, hc2⟩ := List.mem_flatMap.mp hc
        obtain ⟨i, hi, rfl⟩ := List.mem_iff_getElem.mp hr
        have hl : (ls.map some)[i]? = some (some ls[i]) := by rw [List.getElem?_map, List.getElem?_eq_getElem hi]; rfl
        have hxi := List.getElem?_eq_getElem (l := xs) (i := i) (by rw [hlen, List.length_map]; exact hi)
        obtain ⟨_, _, _, ok⟩ := hL.2 i _ _ hxi hl
        generalize ls[i] = rows at ok hc2
        cases rows with
        | nil => cases hc2
        | cons r rs => exact (ok.ok r List.mem_cons_self).wd c hc2
      clear hr
      have hq5 := e5 _ _ hq
      have T5 := hTs.ext e5
      refine ⟨_, rfl, q, xs, lots, rfl, hq5, hL.ext e5, l0, l3, h64, fun r dr => ?_⟩
      cases r with
      | some d =>
        have fine := due_fine dr l3 hwd
        refine fun p H6 e6 o6 => ?_
        refine ⟨T5.ext e6, fun H7 e7 T7 H8 E' Q' e8 hE hv => ?_⟩
        have e58 : ExtN H5 H8 := ((ExtN.of e6).trans e7).trans (ExtN.of e8)
        have T8 := T7.ext e8
        refine ⟨_, rfl, D, acc, lots, rfl, e58 _ _ hacc (fun _ z => nomatch z), hLA.extN e58, l0, l3, h64, fun r' dr' => ?_⟩
        obtain rfl := dr.uniq dr'
        refine fun cls dd H9 e9 he => hE cls dd H9 d he fine fun p2 H10 e10 o10 => ?_
        have e68 : ExtN H6 H10 := ((e7.trans (ExtN.of e8)).trans (ExtN.of e9)).trans (ExtN.of e10)
        have o6' := e68 _ _ o6 (fun _ z => nomatch z)
        have T10 := (T8.ext e9).ext e10
        refine ⟨_, _, rfl, _, rfl, _, rfl, ?_⟩
        refine iteT ?_
        refine ⟨_, rfl, _, rfl, due_eq fine o10 o6' ?_⟩
        refine ⟨true, rfl, ?_⟩
        refine iteT ?_
        refine ⟨T10, fun H11 e11 T11 H12 E'' Q'' e12 hE2 hv2 => ?_⟩
        have e1012 : ExtN H10 H12 := e11.trans (ExtN.of e12)
        have e512 : ExtN H5 H12 := ((ExtN.of e6).trans e68).trans e1012
        refine ⟨_, rfl, D, acc, lots, d, rfl, e512 _ _ hacc (fun _ z => nomatch z), hLA.extN e512, l0, l3, h64, dr, fun cls dd H13 e13 he2 => hE2 cls dd H13 d he2 fine fun p3 H14 e14 o14 => ?_⟩
        have e1014 : ExtN H10 H14 := (e1012.trans (ExtN.of e13)).trans (ExtN.of e14)
        refine ⟨_, rfl, due_eq fine o14 (e1014 _ _ o6' (fun _ z => nomatch z)) ?_⟩
        exact hQ H14 ((((ExtN.of e5).trans (ExtN.of e6)).trans e68).trans e1014) (((T11.ext e12).ext e13).ext e14)
      | none =>
        refine fun H6 e6 => ?_
        obtain ⟨ls, r0, ⟨rfl, hl0, hall⟩, dn, few⟩ := id dr
        have ls3 : ls.length ≤ 3 := by rw [List.length_map] at l3; exact l3
        have xl : xs.length = ls.length := by rw [hlen, List.length_map]
        have lpos : 0 < ls.length := (List.getElem?_eq_some_iff.mp hl0).1
        have nd := dup_nodup (dn _ (List.Perm.refl _))
        have lts : ∀ (H' : Hp), ExtN H H' → ∀ (i : Nat) x, xs[i]? = some x → ∃ a rows, x = V.ref a ∧ ls[i]? = some rows ∧ RowsAt H' a rows ∧ OkR rows := fun H' e i x hx => by
          obtain ⟨l, hl, lot⟩ := (hL.extN e).get hx
          rw [List.getElem?_map] at hl
          cases q : ls[i]? with
          | none => rw [q] at hl; cases hl
          | some rows =>
            rw [q] at hl
            cases hl
            obtain ⟨a, h1, h2, h3⟩ := lot
            exact ⟨a, rows, h1, rfl, h2, h3⟩
        have hok : ∀ m ∈ ls, OkR m := fun m hm => by
          obtain ⟨i, hi, rfl⟩ := List.mem_iff_getElem.mp hm
          obtain ⟨_, rows, _, hl, _, ok⟩ := lts _ (ExtN.refl _) i _ (List.getElem?_eq_getElem (by omega))
          rw [List.getElem?_eq_getElem hi] at hl
          cases hl
          exact ok
        have okS := sides_okR hl0 hall hok nd few
        refine ⟨T5.ext e6, fun H7 e7 T7 H8 E' Q' e8 hE hv => ?_⟩
        have e58 : ExtN H5 H8 := ((ExtN.of e6).trans e7).trans (ExtN.of e8)
        refine ⟨_, rfl, D, acc, ls.map some, rfl, e58 _ _ hacc (fun _ z => nomatch z), hLA.extN e58, l0, l3, h64, fun r' dr' => ?_⟩
        obtain rfl := dr.uniq dr'
        refine fun ms em b g h qb os us H9 e9 hb bk => hv (.ref b) H9 fun lh hlh => ?_
        obtain rfl := map_some_inj em
        have e910 := Ext.upd (o := HO.lst [V.ref b]) hlh
        have o10 : upd H9 lh (.lst [V.ref b]) lh = some (.lst [V.ref b]) := upd_same
        generalize upd H9 lh (.lst [V.ref b]) = H10 at e910 o10
        have bk10 := bk.ext e910
        have T10 := ((T7.ext e8).ext e9).ext e910
        have e510 : ExtN H5 H10 := (e58.trans (ExtN.of e9)).trans (ExtN.of e910)
        have e010 : ExtN H H10 := (ExtN.of e5).trans e510
        have hb5 : ∀ a o, H5 a = some o → (∀ ps, o ≠ .tbl ps) → a ≠ b := fun a o ha n z => by
          have := e58 _ _ ha n
          rw [z, hb] at this
          cases this
        have hq10 := e010 _ _ hq (fun _ z => nomatch z)
        have hacc10 := e510 _ _ hacc (fun _ z => nomatch z)
        refine ⟨_, _, rfl, _, rfl, _, rfl, ?_⟩
        refine iteF ?_
        have x0 : xs[0]? = some xs[0] := List.getElem?_eq_getElem (by omega)
        obtain ⟨ad0, rows0, ex0, hrows0, ⟨as0, hs1, hs2, hs3⟩, _⟩ := lts _ e010 0 _ x0
        rw [hl0] at hrows0
        cases hrows0
        have hds : ∀ k, k < r0.length → ∀ m : Nat, ∃ a : Addr, ∀ x, xs[m]? = some x → ∃ (ad : Addr) (rows : List (List Str)) (as : List Addr) (ws : List Str), x = .ref ad ∧ ls[m]? = some rows ∧ H10 ad = some (.lst (as.map V.ref)) ∧ as[k]? = some a ∧ rows[k]? = some ws ∧ H10 a = some (.lst (ws.map V.str)) := fun k hk m => by
          cases q : xs[m]? with
          | none => exact ⟨0, fun x hx => by cases hx⟩
          | some x =>
            obtain ⟨a, rows, ea, hl, ⟨as, h1, h2, h3⟩, ok⟩ := lts _ e010 m x q
            have rl := hall rows (List.mem_of_getElem? hl)
            have ask : as[k]? = some as[k] := List.getElem?_eq_getElem (by omega)
            have rwk : rows[k]? = some rows[k] := List.getElem?_eq_getElem (by omega)
            refine ⟨as[k], fun y hy => ?_⟩
            cases hy
            exact ⟨a, rows, as, rows[k], ea, hl, h2, ask, rwk, h3 k _ _ ask rwk⟩
        have sl := sides_len hl0
        refine ⟨_, rfl, q, xs, 0, _, rfl, rfl, SqL.of hq10, atI_nat (j := 0) x0, ?_⟩
        rw [ex0]
        refine ⟨_, r0.length, rfl, .inl ⟨_, SqL.of hs2, by rw [List.length_map, hs1]⟩, _, rfl, by omega, by have := okS.few; omega, fun D2 hD2 => ?_⟩
        refine mk_lc (walk_range (lo := 0) (n := r0.length)) hD2 (by have := okS.few; omega) (fun i y H5 => ∃ f, y = .ref f ∧ H5 f = some (.lst ((ls.flatMap fun l => l.getD i []).map V.str))) (fun _ _ => True.intro) (fun i x H11 H12 acc2 hi e11 hacc2 hy Q2 q2 => ?_) (fun H11 acc2 e11 hacc2 hn2 hr2 => ?_)
        · obtain ⟨rfl, rfl⟩ := hy
          obtain ⟨hd, hhd⟩ := Classical.axiomOfChoice (hds i hi)
          refine ⟨rfl, ?_⟩
          dsimp only [tCons, tCallR]
          refine Kp.run_lcL (a := q) (xs := xs) (fun _ => true) (fun m => V.ref (hd m)) (Evl.ev_var rfl) (SqL.of (e11 _ _ hq10)) (by omega) (fun _ => rfl) (fun _ _ _ _ _ => Kp.et_yes) (fun m x H13 e13 hx _ => ?_) (fun D3 H13 hD3 e13 hD3' => ?_)
          · obtain ⟨a, rows, as, w0, rfl, hl, ha, has, _, _⟩ := hhd m x hx
            refine fun H14 e14 Q' q' => ?_
            have e0 := (e11.trans e13).trans e14
            exact ⟨_, rfl, _, rfl, a, _, i, _, rfl, (by rw [Int.zero_add]), SqL.of (e0 _ _ ha), atI_nat (by rw [List.getElem?_map, has]; rfl), q' H14 (Evl.Ex.refl H14)⟩
          · rw [given_map (fun _ _ => rfl)] at hD3'
            have e1013 := e11.trans e13
            have ra : RowsAt H13 D3 (ls.map (·.getD i [])) := by
              refine ⟨(List.range xs.length).map hd, by rw [List.length_map, List.length_map, List.length_range, xl], by rw [List.map_map]; exact hD3', fun j a w hai hwi => ?_⟩
              rw [List.getElem?_map] at hai hwi
              cases q1 : (List.range xs.length)[j]? with
              | none => rw [q1] at hai; cases hai
              | some j' =>
                rw [q1] at hai
                cases hai
                have hij : j < xs.length ∧ j' = j := by
                  have hi := (List.getElem?_eq_some_iff.mp q1).1
                  rw [List.length_range] at hi
                  rw [List.getElem?_range hi] at q1
                  exact ⟨hi, (Option.some.inj q1).symm⟩
                obtain ⟨hj, rfl⟩ := hij
                obtain ⟨a, rows, as, w0, _, hl, _, _, hw0, ha0⟩ := hhd j' _ (List.getElem?_eq_getElem hj)
                rw [hl] at hwi
                cases hwi
                show H13 (hd j') = some (.lst ((rows.getD i []).map V.str))
                rw [List.getD_eq_getElem?_getD, hw0]
                exact e1013 _ _ ha0
            have hfl : (ls.map (·.getD i [])).flatten = ls.flatMap fun l => l.getD i [] := rfl
            have few24 := (okS.ok _ (List.mem_of_getElem? (sides_at hl0 hi))).few
            refine ⟨D3, _, rfl, ra, by rw [List.length_map]; omega, by rw [hfl]; omega, fun f H14 e14 hf0 hf => ?_⟩
            rw [hfl] at hf
            refine q2 _ H14 (e13.trans e14) fun H15 k15 => ⟨f, rfl, k15 _ _ ?_ hf⟩
            exact (ne_of_none (e13 _ _ hacc2) hf0).symm
        · obtain ⟨fs, rfl, fl, rf⟩ := refs_of hn2 hr2
          have raS : RowsAt H11 D2 (sides ls) := ⟨fs, by rw [fl, sl], hacc2, fun i a w ha hw => by
            have hi : i < r0.length := by rw [← fl]; exact (List.getElem?_eq_some_iff.mp ha).1
            rw [sides_at hl0 hi] at hw
            cases hw
            exact rf i a ha⟩
          have o11 := e11 _ _ o10
          refine ⟨_, rfl, _, _, .type "list", .type "list", true, rfl, .ty "list", .base (.lst o11), kit_ty (by decide +kernel), _, rfl, ?_⟩
          refine iteF ?_
          refine ⟨_, rfl, lh, _, 0, _, rfl, rfl, SqL.of o11, rfl, _, rfl, D2, sides ls, rfl, raS, okS, fun b2 g2 h2 q2 os2 us2 H12 e12 hb2 hh2 hq2 bk2 => ?_⟩
          have bk12 := bk10.ext (e11.trans e12)
          obtain ⟨dx, hbI⟩ := bk12.at_
          obtain ⟨dy, hbJ⟩ := bk2.at_
          refine ⟨b, dx, _, b2, dy, _, rfl, rfl, hbI, hbJ, b, b2, rfl, ⟨sides ls, 0, 0, ⟨_, _, _, _, _, bk12⟩, ⟨_, _, _, _, _, bk2⟩⟩, fun H13 e13 => ⟨true, rfl, _, rfl, ?_⟩⟩
          refine iteF ?_
          have e1013 := (e11.trans e12).trans e13
          have o13 := e1013 _ _ o10
          have bk13 := bk10.ext e1013
          obtain ⟨dx3, hbI3⟩ := bk13.at_
          refine ⟨_, rfl, lh, _, 0, _, rfl, rfl, SqL.of o13, rfl, b, dx3, _, rfl, hbI3, b, sides ls, 0, rfl, ⟨_, _, _, _, _, bk13⟩, by omega, rfl, _, rfl, ?_⟩
          refine iteF ?_
          have al : acc.length = ls.length := by rw [hn, xl]
          have a0 : acc[0]? = some acc[0] := List.getElem?_eq_getElem (by omega)
          have hl0s : (ls.map some)[0]? = some (some r0) := by rw [List.getElem?_map, hl0]; rfl
          obtain ⟨w0, ew0, bkw0⟩ := hbk 0 _ r0 a0 hl0s
          have hacc13 := e1013 _ _ hacc10
          refine ⟨_, rfl, D, acc, 0, _, rfl, rfl, SqL.of hacc13, atI_nat (j := 0) a0, ?_⟩
          rw [ew0]
          refine ⟨_, rfl, 1, rfl, D, acc, rfl, SqL.of hacc13, fun sp hsp => ⟨sp, rfl, ⟨_, SqL.of upd_same⟩, ?_⟩⟩
          have e14 := Ext.upd (o := HO.lst (cutV acc (some 1) none)) hsp
          have o14 : upd H13 sp (.lst (cutV acc (some 1) none)) sp = some (.lst (cutV acc (some 1) none)) := upd_same
          generalize upd H13 sp (.lst (cutV acc (some 1) none)) = H14 at e14 o14
          have cl : (cutV acc (some 1) none).length = ls.length - 1 := by rw [cut_one, List.length_drop, al]
          have lt1 : ls.take 1 = [r0] := by
            cases ls with
            | nil => cases hl0
            | cons a r =>
              cases hl0
              rfl
          have e514 := e510.trans (ExtN.of (e1013.trans e14))
          have b14 := e14 _ _ hbI3
          refine for_list (xs := cutV acc (some 1) none) (fun i (σ' : L2.St) H' => ∃ (wb : Addr) (a6 : Option V), σ' = [some (V.ref q), some (V.ref D), some V.non, some (V.ref lh), some (V.ref D2), some (V.ref wb), a6, none, none] ∧ Ext H14 H' ∧ BkAt CG CO CB H' wb (sides (ls.take (i + 1))) 0 ∧ wb ≠ b) ?_ (fun i σ' H' _ hp' => ?_) (fun i y σ' H' hy hp' => ?_) (fun σ' H' hp' => ?_)
          · refine ⟨w0, none, rfl, Ext.rfl', ?_, ?_⟩
            · rw [lt1, sides_one]
              exact bkw0.extN e514
            · obtain ⟨_, _, _, _, _, k⟩ := bkw0
              obtain ⟨_, k⟩ := k.at_
              exact hb5 _ _ k (fun _ z => nomatch z)
          · obtain ⟨_, _, rfl, e, _⟩ := hp'
            exact SqL.of (e _ _ o14)
          · obtain ⟨wb, a6, rfl, e, bkw, nwb⟩ := hp'
            have hi := (List.getElem?_eq_some_iff.mp hy).1
            rw [cl] at hi
            rw [cut_one, List.getElem?_drop, Nat.add_comm] at hy
            have hli : ls[i + 1]? = some ls[i + 1] := List.getElem?_eq_getElem (by omega)
            obtain ⟨bi, rfl, bki⟩ := hbk (i + 1) y ls[i + 1] hy (by rw [List.getElem?_map, hli]; rfl)
            have bki' := (bki.extN e514).ext e
            obtain ⟨_, _, _, _, _, k1⟩ := id bkw
            obtain ⟨d1, i1⟩ := k1.at_
            obtain ⟨_, _, _, _, _, k2⟩ := id bki'
            obtain ⟨d2, i2⟩ := k2.at_
            have hlen2 := hall _ (List.mem_of_getElem? hli)
            have sn := sides_snoc hl0 hli hlen2
            obtain ⟨us3, okB3⟩ := (sides_okT hl0 hall hok nd few (i + 2) (by omega)).okB_ex
            have slt : (sides (ls.take (i + 1))).length = r0.length := sides_len (by rw [List.getElem?_take, if_pos (by omega)]; exact hl0)
            refine ⟨_, rfl, _, rfl, wb, d1, _, bi, d2, _, rfl, rfl, i1, i2, wb, bi, _, _, 0, 0, us3, rfl, bkw, bki', by rw [slt, hlen2], by rw [sn]; exact okB3, fun b3 g3 h3 q3 os3 H3 e3 hb3 hh3 hq3 bk3 => ?_⟩
            rw [sn] at bk3
            exact ⟨b3, _, rfl, e.trans e3, ⟨_, _, _, _, _, bk3⟩, (ne_of_none (e _ _ b14) hb3).symm⟩
          · obtain ⟨wb, a6, rfl, e, bkw, nwb⟩ := hp'
            have tk : ls.take ((cutV acc (some 1) none).length + 1) = ls := by
              rw [cl, Nat.sub_add_cancel lpos]
              exact List.take_length
            rw [tk] at bkw
            have b15 := e _ _ b14
            have e1315 := e14.trans e
            have bk15 := bk13.ext e1315
            refine ⟨_, rfl, lh, _, 0, _, rfl, rfl, SqL.of (e1315 _ _ o13), rfl, b, dx3, _, rfl, b15, rfl, b, 0, sides ls, 0, rfl, ⟨_, _, _, _, _, bk15⟩, by omega, by have := List.length_pos_iff.mpr okS.ne; omega, fun H16 k16 => ?_⟩
            have e1116 : ∀ a o, H11 a = some o → a ≠ b → H16 a = some o := fun a o ha n => k16 _ _ n (e1315 _ _ (e13 _ _ (e12 _ _ ha)))
            have raS16 : RowsAt H16 D2 (sides ls) := (((raS.ext e12).ext e13).ext e1315).keptB b15 k16
            have bkw16 := bkw.keptB Bk.nG Bk.nO b15 nwb k16
            have T16 := Kq.Tabs.keptB (T10.ext (e1013.trans e1315)) b15 k16
            have e516 : ExtN H5 H16 := fun a o ha n => k16 _ _ (hb5 _ _ ha n) ((e510.trans (ExtN.of (e1013.trans e1315))) _ _ ha n)
            have e016 : ExtN H H16 := (ExtN.of e5).trans e516
            refine ⟨_, rfl, _, rfl, D2, sides ls, rfl, raS16, okS, fun b4 g4 h4 q4 os4 us4 H17 e17 hb4 hh4 hq4 bk4 => ?_⟩
            have bkw17 := bkw16.ext e17
            obtain ⟨_, _, _, _, _, kw⟩ := id bkw17
            obtain ⟨dw, iw⟩ := kw.at_
            obtain ⟨d4, i4⟩ := bk4.at_
            refine ⟨wb, dw, _, b4, d4, _, rfl, rfl, iw, i4, wb, b4, rfl, ⟨sides ls, 0, 0, bkw17, ⟨_, _, _, _, _, bk4⟩⟩, fun H18 e18 => ⟨true, rfl, ?_⟩⟩
            refine iteT ?_
            have e018 : ExtN H H18 := e016.trans (ExtN.of (e17.trans e18))
            have e518 : ExtN H5 H18 := e516.trans (ExtN.of (e17.trans e18))
            have hq18 := e018 _ _ hq (fun _ z => nomatch z)
            refine ⟨_, rfl, _, rfl, q, rfl, ⟨_, SqL.of hq18⟩, fun D5 hD5 => ?_⟩
            refine mk_lc (walk_list (xs := xs)) hD5 (by omega) (fun i y H5 => ∃ o, y = .ref o ∧ ∀ rows, ls[i]? = some rows → BkAt CG CO CB H5 o rows 0) (fun H5 e5 => SqL.of (e5 _ _ hq18)) (fun i x H19 H20 acc5 hi e19 hacc5 hy Q5 q5 => ?_) (fun H19 acc5 e19 hacc5 hn5 hr5 => ?_)
            · obtain ⟨rfl, hx⟩ := hy
              obtain ⟨a, rows, rfl, hl, ra, okr⟩ := lts _ (e018.trans (ExtN.of e19)) i x hx
              refine ⟨rfl, _, rfl, a, rows, rfl, ra, okr, fun b6 g6 h6 q6 os6 us6 H21 e21 hb6 hh6 hq6 bk6 => ?_⟩
              refine q5 _ H21 e21 fun H22 k22 => ⟨b6, rfl, fun rows' hr' => ?_⟩
              rw [hl] at hr'
              cases hr'
              exact ⟨g6, h6, q6, os6, us6, bk6.kept (Off.lst (e21 _ _ hacc5)) (ne_of_none hacc5 hb6).symm (ne_of_none hacc5 hh6).symm (ne_of_none hacc5 hq6).symm k22⟩
            · obtain ⟨cs, rfl, lc5, rc⟩ := refs_of hn5 hr5
              have hacc19 := (e518.trans (ExtN.of e19)) _ _ hacc (fun _ z => nomatch z)
              refine ⟨⟨D, D5, acc, _, rfl, rfl, hacc19, hacc5, by rw [List.length_map, lc5, hn], fun i x y hx hy => ?_⟩, fun H20 e20 => ?_⟩
              · have hi := (List.getElem?_eq_some_iff.mp hx).1
                have hli : ls[i]? = some ls[i] := List.getElem?_eq_getElem (by omega)
                obtain ⟨bi, rfl, bki⟩ := hbk i x ls[i] hx (by rw [List.getElem?_map, hli]; rfl)
                obtain ⟨ci, hci, rfl⟩ := ref_at hy
                have bkc := rc i ci hci _ hli
                have bki' := bki.extN (e518.trans (ExtN.of e19))
                obtain ⟨_, _, _, _, _, k1⟩ := id bki'
                obtain ⟨d1, i1⟩ := k1.at_
                obtain ⟨_, _, _, _, _, k2⟩ := id bkc
                obtain ⟨d2, i2⟩ := k2.at_
                exact ⟨bi, ci, d1, d2, _, _, rfl, rfl, i1, i2, _, 0, 0, bki', bkc⟩
              · refine ⟨true, rfl, ?_⟩
                refine iteT ?_
                have e520 : ExtN H5 H20 := (e518.trans (ExtN.of e19)).trans (ExtN.of e20)
                have bkw20 := bkw0.extN e520
                obtain ⟨_, _, _, _, _, k1⟩ := id bkw20
                obtain ⟨d1, i1⟩ := k1.at_
                refine ⟨_, rfl, D, acc, 0, _, rfl, rfl, SqL.of (e520 _ _ hacc (fun _ z => nomatch z)), atI_nat (j := 0) a0, ?_⟩
                rw [ew0]
                refine ⟨w0, d1, _, rfl, i1, w0, r0, 0, rfl, bkw20, by omega, rfl, ?_⟩
                exact hQ H20 ((e018.trans (ExtN.of e19)).trans (ExtN.of e20)) (LamX.Tabs.ext (LamX.Tabs.ext (LamX.Tabs.ext T16 (e17.trans e18)) e19) e20)
end
end Kq
set_option maxHeartbeats 4000000
namespace Kq
open PySem PySem.Spec PyProof.Rows L2 Kp
open Evl (Ev EvL EvT EvA given)
open LamX (ExtN)
/-! ### the drawn lots -/
structure TxY (K : PySem.W.Frag) (mg : Str → Option Value) (CG CO CB fLo : Addr) : Prop where
  g_l_lots : mg "_law_lots" = some (.ref fLo)
  k_l_lots : PySem.W.keepIn K (.ref fLo) = true
  F_lots : ∃ fd, Fun K "_law_lots" "_law_lots" s_l_lots fLo fd
  kb : ∀ t ∈ ([.type "NoneType", .type "int", .type "str", .type "bool", .type "tuple", .type "dict", .ref CG, .ref CO] : List Value), PySem.W.kitOne K t (.ref CB) = some false
/-- a drawn value that is no list and no book -/
def OddC (CG CO : Addr) (H : Hp) (x : V) : Prop := x = .non ∨ x = .int 0 ∨ x = .str "a b" ∨ x = .bl true ∨ ∃ a, x = .ref a ∧ (H a = some (.tup []) ∨ H a = some (.dK []) ∨ (∃ dx fs, H a = some (.ins CO dx fs)) ∨ ∃ dx fs, H a = some (.ins CG dx fs))
theorem OddC.kept {CG CO b : Addr} {H H' : Hp} {x : V} {xs : List V} (h : OddC CG CO H x) (hb : H b = some (.lst xs)) (e : Kept b H H') : OddC CG CO H' x := by
  have ne : ∀ a o, H a = some o → (∀ ys, o ≠ .lst ys) → H' a = some o := fun a o ha n => e _ _ (fun z => by
    rw [z, hb] at ha
    exact n xs (Option.some.inj ha).symm) ha
  rcases h with h | h | h | h | ⟨a, h, q⟩
  · exact .inl h
  · exact .inr (.inl h)
  · exact .inr (.inr (.inl h))
  · exact .inr (.inr (.inr (.inl h)))
  · refine .inr (.inr (.inr (.inr ⟨a, h, ?_⟩)))
    rcases q with q | q | ⟨dx, fs, q⟩ | ⟨dx, fs, q⟩
    · exact .inl (ne _ _ q (fun _ z => nomatch z))
    · exact .inr (.inl (ne _ _ q (fun _ z => nomatch z)))
    · exact .inr (.inr (.inl ⟨dx, fs, ne _ _ q (fun _ z => nomatch z)⟩))
    · exact .inr (.inr (.inr ⟨dx, fs, ne _ _ q (fun _ z => nomatch z)⟩))
def LotC (CG CO L p : Addr) (H : Hp) (x : V) : Lot → Prop
  | some rows => ∃ (r : Addr) (as : List Addr), x = .ref r ∧ (r ≠ L ∧ r ≠ p) ∧ as.length = rows.length ∧ H r = some (.lst (as.map V.ref)) ∧ (∀ (i : Nat) a ws, as[i]? = some a → rows[i]? = some ws → (a ≠ L ∧ a ≠ p) ∧ H a = some (.lst (ws.map V.str))) ∧ OkR rows ∧ ∀ ws ∈ rows, ws.length ≤ 7
  | none => OddC CG CO H x
theorem LotC.kept {CG CO L p b : Addr} {H H' : Hp} {x : V} {l : Lot} {xs : List V} (h : LotC CG CO L p H x l) (hb : H b = some (.lst xs)) (hbb : b = L ∨ b = p) (e : Kept b H H') : LotC CG CO L p H' x l := by
  cases l with
  | none => exact OddC.kept h hb e
  | some rows =>
    obtain ⟨r, as, h1, h2, h3, h4, h5, h6, h7⟩ := h
    have ne : ∀ a, a ≠ L ∧ a ≠ p → a ≠ b := fun a n z => by
      rcases hbb with q | q
      · exact n.1 (z.trans q)
      · exact n.2 (z.trans q)
    exact ⟨r, as, h1, h2, h3, e _ _ (ne _ h2) h4, fun i a ws ha hw => ⟨(h5 i a ws ha hw).1, e _ _ (ne _ (h5 i a ws ha hw).1) (h5 i a ws ha hw).2⟩, h6, h7⟩
structure LoI (CG CO p l L Wd : Addr) (cs : List Int) (H0 : Hp) (ws : List Str) (H : Hp) (acc : List V) (lots : List Lot) (k : Nat) : Prop where
  len : acc.length = lots.length
  at_ : H L = some (.lst acc)
  wd : H Wd = some (.lst (ws.map V.str))
  it : ∀ (i : Nat) x l, acc[i]? = some x → lots[i]? = some l → LotC CG CO L p H x l
  pen : Pen H p l cs k
  kt : Kept p H0 H
theorem Pen.lst {H : Hp} {p l : Addr} {cs : List Int} {k : Nat} (h : Pen H p l cs k) : ∃ xs, H p = some (.lst xs) := let ⟨_, _, a, _⟩ := h.at_; ⟨_, a⟩
theorem LoI.step {CG CO p l L Wd : Addr} {cs : List Int} {H0 H H' : Hp} {ws : List Str} {acc : List V} {lots : List Lot} {k k' : Nat} (I : LoI CG CO p l L Wd cs H0 ws H acc lots k) (e : Kept p H H') (Lp : L ≠ p) (Wp : Wd ≠ p) (hp : Pen H' p l cs k') : LoI CG CO p l L Wd cs H0 ws H' acc lots k' := by
  obtain ⟨xs, hx⟩ := I.pen.lst
  exact ⟨I.len, e _ _ Lp I.at_, e _ _ Wp I.wd, fun i x l hx' hl => (I.it i x l hx' hl).kept hx (.inr rfl) e, hp, I.kt.trans e⟩
theorem LoI.ext {CG CO p l L Wd : Addr} {cs : List Int} {H0 H H' : Hp} {ws : List Str} {acc : List V} {lots : List Lot} {k : Nat} (I : LoI CG CO p l L Wd cs H0 ws H acc lots k) (Lp : L ≠ p) (Wp : Wd ≠ p) (e : Ext H H') : LoI CG CO p l L Wd cs H0 ws H' acc lots k := I.step (Kept.of e) Lp Wp (I.pen.ext e)
theorem snoc_at {α : Type} {xs : List α} {y z : α} {i : Nat} (h : (xs ++ [y])[i]? = some z) : (i < xs.length ∧ xs[i]? = some z) ∨ (i = xs.length ∧ y = z) := by
  by_cases hi : i < xs.length
  · rw [List.getElem?_append_left hi] at h
    exact .inl ⟨hi, h⟩
  · rw [List.getElem?_append_right (by omega)] at h
    have e0 : i - xs.length = 0 := by
      have := (List.getElem?_eq_some_iff.mp h).1
      simp at this
      omega
    rw [e0] at h
    exact .inr ⟨by omega, by simpa using h⟩
theorem LoI.add {CG CO p l L Wd : Addr} {cs : List Int} {H0 H : Hp} {ws : List Str} {acc : List V} {lots : List Lot} {k : Nat} (I : LoI CG CO p l L Wd cs H0 ws H acc lots k) (Lp : L ≠ p) (WL : Wd ≠ L) (L0 : H0 L = none) (lL : l ≠ L) {x : V} {lo : Lot} (hx : LotC CG CO L p H x lo) :
    LoI CG CO p l L Wd cs H0 ws (upd H L (.lst (acc ++ [x]))) (acc ++ [x]) (lots ++ [lo]) k := by
  have km : Kept L H (upd H L (.lst (acc ++ [x]))) := Kept.mut
  refine ⟨by rw [List.length_append, List.length_append, I.len]; rfl, upd_same, by rw [upd_ne WL]; exact I.wd, fun i y lo' hy hl => ?_, ?_, fun b o nb hb => ?_⟩
  · rcases snoc_at hy with ⟨hi, hy⟩ | ⟨hi, rfl⟩
    · rcases snoc_at hl with ⟨_, hl⟩ | ⟨hj, _⟩
      · exact (I.it i y lo' hy hl).kept I.at_ (.inl rfl) km
      · rw [← I.len] at hj
        omega
    · rcases snoc_at hl with ⟨hj, _⟩ | ⟨_, rfl⟩
      · rw [← I.len] at hj
        omega
      · exact hx.kept I.at_ (.inl rfl) km
  · obtain ⟨t, r, a1, b1⟩ := I.pen.at_
    exact ⟨⟨t, r, km _ _ Lp.symm a1, b1⟩, km _ _ lL I.pen.cells, I.pen.few⟩
  · rw [upd_ne (ne_of_none hb L0)]
    exact I.kt b o nb hb
theorem firsts_le {n : Nat} : ∀ {ls : List (List (List Str))}, (∀ rows ∈ ls, (rows.headD []).length ≤ n) → (firsts ls).length ≤ n * ls.length
  | [], _ => Nat.zero_le _
  | rows :: ls, h => by
    have ih := firsts_le (ls := ls) fun r hr => h r (List.mem_cons_of_mem _ hr)
    have h0 := h rows List.mem_cons_self
    show ((rows.headD []) ++ firsts ls).length ≤ n * (ls.length + 1)
    rw [List.length_append, Nat.mul_succ]
    omega
theorem OddC.odd {K : PySem.W.Frag} {mg : Str → Option Value} {tL tM : Tok} {fIsWord CG gI gLen gAnd gEq CO oI pOf oOf oInv oAdd oEq CB fLo : Addr} {mc : Value} (T : TxG K mg tL tM fIsWord CG gI gLen gAnd gEq) (O : TxO K mg CO oI mc pOf oOf oInv oAdd oEq) (Y : TxY K mg CG CO CB fLo) {H : Hp} {x : V} (h : OddC CG CO H x) : OddV K CB H x := by
  intro H' e
  have kl : ∀ {b : String}, b ∈ ["NoneType", "int", "str", "bool", "tuple", "dict"] → PySem.W.kitOne K (.type b) (.type "list") = some false := fun {b} hb => kit_ty (by
    simp only [List.mem_cons, List.not_mem_nil, or_false] at hb
    rcases hb with rfl | rfl | rfl | rfl | rfl | rfl <;> decide +kernel)
  rcases h with rfl | rfl | rfl | rfl | ⟨a, rfl, q⟩
  · exact ⟨_, .base .non, Y.kb _ (by simp), kl (by simp)⟩
  · exact ⟨_, .base (.int 0), Y.kb _ (by simp), kl (by simp)⟩
  · exact ⟨_, .base (.str _), Y.kb _ (by simp), kl (by simp)⟩
  · exact ⟨_, .base (.bl true), Y.kb _ (by simp), kl (by simp)⟩
  · rcases q with q | q | ⟨dx, fs, q⟩ | ⟨dx, fs, q⟩
    · exact ⟨_, .base (.tup (e _ _ q (fun _ z => nomatch z))), Y.kb _ (by simp), kl (by simp)⟩
    · exact ⟨_, .base (.dK (e _ _ q (fun _ z => nomatch z))), Y.kb _ (by simp), kl (by simp)⟩
    · exact ⟨_, .base (.ins (e _ _ q (fun _ z => nomatch z)) O.cl O.ca O.cn O.ct O.cm), Y.kb _ (by simp), O.isl⟩
    · exact ⟨_, .base (.ins (e _ _ q (fun _ z => nomatch z)) T.cl T.ca T.cn T.ct T.cm), Y.kb _ (by simp), T.isl⟩
theorem ok_a : OkW ["a"] := ⟨fun w hw => by
  rw [List.mem_singleton.mp hw]
  refine ⟨fun c hc => ?_, by decide, by decide⟩
  have : c ∈ ([97] : List Nat) := hc
  have : c = 97 := List.mem_singleton.mp this
  omega, by simp, by simp, by decide⟩
theorem ite_one (c : Bool) : ∃ b : Nat, (if c = true then (1 : Int) else 0) = (b : Int) ∧ b ≤ 1 := by
  cases c
  · exact ⟨0, rfl, by decide⟩
  · exact ⟨1, rfl, by decide⟩
theorem not_ab : ¬ Wordy ("a b" : Str) := fun h => by
  have := h.1 32 (by decide +kernel)
  omega
/-- the rows that are drawn are no part of what is kept -/
theorem rows_off {CG CO p l L Wd : Addr} {cs : List Int} {H0 H : Hp} {ws : List Str} {acc : List V} {lots : List Lot} {k : Nat} (I : LoI CG CO p l L Wd cs H0 ws H acc lots k) {a : Addr} {us : List Str} (hu : us ≠ []) (hw : ∀ w ∈ us, Wordy w) (ha : H a = some (.lst (us.map V.str))) : a ≠ L ∧ a ≠ p := by
  cases us with
  | nil => exact absurd rfl hu
  | cons u us =>
    refine ⟨fun z => ?_, fun z => ?_⟩
    · rw [z, I.at_] at ha
      have e : acc = V.str u :: us.map V.str := by
        injection ha with ha
        injection ha
      have h0 : acc[0]? = some (V.str u) := by rw [e]; rfl
      have h1 : 0 < lots.length := by rw [← I.len, e]; simp
      have lc := I.it 0 _ lots[0] h0 (List.getElem?_eq_getElem h1)
      cases hl : lots[0] with
      | some rows =>
        rw [hl] at lc
        obtain ⟨r, as, h, _⟩ := lc
        cases h
      | none =>
        rw [hl] at lc
        rcases lc with h | h | h | h | ⟨a, h, _⟩
        · cases h
        · cases h
        · have : u = "a b" := V.str.inj h
          exact not_ab (this ▸ hw u List.mem_cons_self)
        · cases h
        · cases h
    · obtain ⟨t, r, h, _⟩ := I.pen.at_
      rw [z, h] at ha
      cases ha
def spLots (K : PySem.W.Frag) (CB : Addr) : Sp := fun vs H Q _ => ∃ (p l : Addr) (cs : List Int) (k : Nat), vs = [.ref p] ∧ Pen H p l cs (k + 1800) ∧
  ∀ (q : Addr) (xs : List V) (lots : List Lot) (H' : Hp), H' q = some (.lst xs) → RowLots K CB H' xs lots → 0 < lots.length → lots.length ≤ 3 → (∀ ls, lots = ls.map some → (firsts ls).length < 64) → Pen H' p l cs k → Kept p H H' → Q (.ref q) H'
theorem cut_mid {ws : List Str} {i d : Nat} (h : 5 * i + 1 + d ≤ ws.length) : cutV (ws.map V.str) (some (5 * (0 + (i : Int)))) (some (5 * (0 + (i : Int)) + 1 + (d : Int))) = ((ws.drop (5 * i)).take (1 + d)).map V.str := by
  unfold cutV
  rw [show (some (5 * (0 + (i : Int)))) = some (((5 * i : Nat) : Int)) from congrArg some (by omega), show (some (5 * (0 + (i : Int)) + 1 + (d : Int))) = some (((5 * i + 1 + d : Nat) : Int)) from congrArg some (by omega), HT.sIx_nat, HT.sIx_nat, List.length_map, Nat.min_eq_left (by omega), Nat.min_eq_left (by omega), List.map_take, List.map_drop]
  congr 1
  omega
theorem cut_two {ws : List Str} : cutV (ws.map V.str) none (some 2) = (ws.take 2).map V.str := by
  unfold cutV
  rw [show (some (2 : Int)) = some (((2 : Nat) : Int)) from rfl, HT.sIx_none, HT.sIx_nat, List.drop_zero, Nat.sub_zero, List.map_take, List.length_map]
  by_cases h : 2 ≤ ws.length
  · rw [Nat.min_eq_left h]
  · rw [Nat.min_eq_right (by omega), List.take_of_length_le (by simp), List.take_of_length_le (by simp; omega)]
section
variable {P : Program} {w : World} {K : PySem.W.Frag} {mg : Str → Option Value} {base : Heap} {tL tM tO : Tok} {fIsWord CG gI gLen gAnd gEq CO oI pOf oOf oInv oAdd oEq CB fDraw fPick fShuf fWords fNested fFlat fRows fLo : Addr} {mc mcB : Value}
theorem ok_lots (B : TxB mg) (Tp : TxP K mg fDraw fPick fShuf) (Tw : TxW K mg fWords) (W : TxN K mg fNested fFlat fRows) (T : TxG K mg tL tM fIsWord CG gI gLen gAnd gEq) (O : TxO K mg CO oI mc pOf oOf oInv oAdd oEq) (Y : TxY K mg CG CO CB fLo) : FnR P w K mg base (L2.CX P w) 41 fLo (spLots K CB) := by
  obtain ⟨fd, F⟩ := Y.F_lots
  have G_l_draw := pen_draw (P := P) (w := w) (base := base) B Tp
  have G_l_pick := ok_pick (P := P) (w := w) (base := base) B Tp
  have G_l_shuffled := ok_shuf (P := P) (w := w) (base := base) B Tp
  have G_l_words := ok_words (P := P) (w := w) (base := base) B Tp Tw
  have G_l_rows := ok_rows (P := P) (w := w) (base := base) B Tp W
  have G_oinit := ok_order_init (P := P) (w := w) (base := base) B T O
  have G_ginit := ok_group_init (P := P) (w := w) (base := base) B T
  refine fnP F sc_l_lots (fun _ _ _ _ _ _ us hl => match us, hl with | [_], _ => rfl) (fun vs H Q E h => ?_) (fun cdv A outer s H vs Q E hr h => ?_)
  · obtain ⟨p, l, cs, k, rfl, _⟩ := h
    rfl
  · refine ⟨_, PSs.nox (pss_cons (ps_par (i := 1) (j := 2) (by rfl) sc_l_lots.nd rfl rfl (by decide) rfl rfl (pa_cons (pe_callR G_l_words (hr.mono (by decide)) Tw.k_l_words (by rfl) Tw.g_l_words passL (pa_cons (pv 0) (pa_cons pe_int pa_nil))) (pa_cons (pe_lst pa_nil) pa_nil)) (by rfl))
(pss_cons (ps_par (i := 3) (j := 4) (by rfl) sc_l_lots.nd rfl rfl (by decide) rfl rfl (pa_cons (pe_callR G_l_pick (hr.mono (by decide)) Tp.k_l_pick (by rfl) Tp.g_l_pick passL (pa_cons (pv 0) (pa_cons (pe_lst (pa_cons pe_int (pa_cons pe_int (pa_cons pe_int (pa_cons pe_int (pa_cons pe_int pa_nil)))))) pa_nil))) (pa_cons (pe_callR G_l_draw (hr.mono (by decide)) Tp.k_l_draw (by rfl) Tp.g_l_draw passL (pa_cons (pv 0) (pa_cons pe_int pa_nil))) pa_nil)) (by rfl))
(pss_cons (ps_for PassesOwn.never rfl (pi_range1 (by rfl) B.n_range (pa_cons (pe_op op_add pe_int (pe_callR G_l_draw (hr.mono (by decide)) Tp.k_l_draw (by rfl) Tp.g_l_draw passL (pa_cons (pv 0) (pa_cons pe_int pa_nil)))) pa_nil)) (pg_name (i := 5) sc_l_lots.nd rfl (Or.inl rfl))
(pss_cons (ps_set (i := 6) sc_l_lots.nd rfl (Or.inr rfl) (pe_slice (sl_listK (K := K) rfl) (pv 1) (po_some (pe_op op_mul pe_int (pv 5))) (po_some (pe_op op_add (pe_op op_add (pe_op op_mul pe_int (pv 5)) pe_int) (pe_callR G_l_draw (hr.mono (by decide)) Tp.k_l_draw (by rfl) Tp.g_l_draw passL (pa_cons (pv 0) (pa_cons pe_int pa_nil)))))))
(Evl.pss_cut (ps_if (PW.pt (pw_and (pt_cmpR (op_in_seqK (K := K) rfl) (pv 4) (pe_tup (pa_cons pe_int (pa_cons pe_int pa_nil))) rfl) (pw_and1 (pt_cmpR op_eq (pe_callR G_l_draw (hr.mono (by decide)) Tp.k_l_draw (by rfl) Tp.g_l_draw passL (pa_cons (pv 0) (pa_cons pe_int pa_nil))) pe_int (nomark _)))))
(pss_one (ps_set (i := 6) sc_l_lots.nd rfl (Or.inr rfl) (pe_op op_cat (pv 6) (pe_lc (own := [("_law_word", 8)]) (g := gName 8) rfl sc_l_lots.nd (pi_listK (K := K) rfl (pe_slice (sl_listK (K := K) rfl) (pe_callR G_l_shuffled (hr.mono (by decide)) Tp.k_l_shuffled (by rfl) Tp.g_l_shuffled passL (pa_cons (pv 0) (pa_cons (pv 1) pa_nil))) po_none (po_some pe_int))) (blkOk_by (own := [("_law_word", 8)]) (N := N_l_lots) (sc := defScope s_l_lots) (by decide +kernel)) (fun _ _ _ _ _ => (pg_name (i := 8) sc_l_lots.nd rfl (Or.inl rfl))) (fun _ _ _ _ _ => (pts_one (pt_cmpR (op_notIn_seqK (K := K) rfl) (pv 8) (pv 6) (by rfl)))) (fun _ _ _ _ _ => by exact (pv 8))))))
pss_nil)
(pss_cons (ps_set (i := 7) sc_l_lots.nd rfl (Or.inl rfl) (pe_callR G_l_rows (hr.mono (by decide)) W.k_l_rows (by rfl) W.g_l_rows passL (pa_cons (pv 0) (pa_cons (pv 6) (pa_cons (pe_op op_add (pv 3) (pe_op op_mul (pe_callTy call_int1 (by rfl) B.n_int (by decide +kernel) (pa_cons (pe_cmpR (op_in_seqK (K := K) rfl) (pv 4) (pe_tup (pa_cons pe_int (pa_cons pe_int pa_nil))) rfl) pa_nil)) (pe_callR G_l_draw (hr.mono (by decide)) Tp.k_l_draw (by rfl) Tp.g_l_draw passL (pa_cons (pv 0) (pa_cons pe_int pa_nil))))) pa_nil)))))
(Evl.pss_cut (ps_if (PW.pt (pw_and (pt_cmpR op_eq (pv 4) pe_int (nomark _)) (pw_and1 (pt_cmpR op_eq (pe_callR G_l_draw (hr.mono (by decide)) Tp.k_l_draw (by rfl) Tp.g_l_draw passL (pa_cons (pv 0) (pa_cons pe_int pa_nil))) pe_int (nomark _)))))
(pss_one (ps_set (i := 7) sc_l_lots.nd rfl (Or.inl rfl) (pe_callR G_l_pick (hr.mono (by decide)) Tp.k_l_pick (by rfl) Tp.g_l_pick passL (pa_cons (pv 0) (pa_cons (pe_lst (pa_cons pe_non (pa_cons pe_int (pa_cons pe_str (pa_cons (pe_tup pa_nil) (pa_cons pe_dnewK (pa_cons pe_bl (pa_cons (pe_mkR (E := E0) O.mak G_oinit (hr.mono (by decide)) (by rfl) O.g_Order passL (pa_cons pe_str pa_nil)) (pa_cons (pe_mkR (E := E0) T.mak G_ginit (hr.mono (by decide)) (by rfl) T.g_Group passL (pa_cons pe_str pa_nil)) pa_nil))))))))) pa_nil)))))
pss_nil)
(pss_one (ps_expr (pe_bmK (K := K) rfl PySem.F.plainAttrs_list PySem.F.slot_list_append PySem.F.type_list_append mt_append (pv 2) (pa_cons (pv 7) pa_nil)))))))))
(pss_one (ps_ret (pv 2)))))), ?_⟩
    obtain ⟨p, l, cs, k, rfl, pen, hQ⟩ := h
    have npf : ∀ {H' : Hp} {k' : Nat} {a : Addr}, Pen H' p l cs k' → H' a = none → a ≠ p := fun hp hn => by
      obtain ⟨_, _, a, _⟩ := hp.at_
      exact (ne_of_none a hn).symm
    refine ⟨_, rfl, p, l, cs, k + 1725, 15, rfl, by omega, pen.less (by omega), fun ws Wd H1 wl wd wn W0 hW pen1 kt1 => ⟨by decide, fun L hL => ⟨_, _, rfl, ?_⟩⟩⟩
    have e2 := Ext.upd (o := HO.lst []) hL
    have oL : upd H1 L (.lst []) L = some (.lst []) := upd_same
    have Lp := npf pen1 hL
    have Wp := npf pen W0
    have WL : Wd ≠ L := ne_of_none hW hL
    have L0 : H L = none := by
      cases e : H L with
      | none => rfl
      | some o =>
        rw [kt1 L o Lp e] at hL
        cases hL
    have lL : l ≠ L := fun z => by
      rw [← z, pen.cells] at L0
      cases L0
    generalize upd H1 L (.lst []) = H2 at e2 oL
    have I2 : LoI CG CO p l L Wd cs H ws H2 [] [] (k + 1725) := ⟨rfl, oL, e2 _ _ hW, fun i x l h => by simp at h, pen1.ext e2, kt1.trans (Kept.of e2)⟩
    refine ⟨_, rfl, by decide, fun t1 ht1 => ?_⟩
    have e3 := Ext.upd (o := HO.lst [V.int 1, V.int 2, V.int 3, V.int 4, V.int 7]) ht1
    have I3 := I2.ext Lp Wp e3
    refine ⟨p, l, cs, k + 1724, _, rfl, I3.pen, .inl ⟨t1, _, rfl, SqL.of upd_same, npf I2.pen ht1, by decide, by decide, fun i v H4 hv pen4 kt4 => ?_⟩⟩
    have I4 := I3.step kt4 Lp Wp pen4
    obtain ⟨m, rfl, m1, m7⟩ : ∃ m : Nat, v = .int m ∧ 1 ≤ m ∧ m ≤ 7 := by
      have hi := (List.getElem?_eq_some_iff.mp hv).1
      match i, hi, hv with
      | 0, _, hv => exact ⟨1, (Option.some.inj hv).symm, by decide, by decide⟩
      | 1, _, hv => exact ⟨2, (Option.some.inj hv).symm, by decide, by decide⟩
      | 2, _, hv => exact ⟨3, (Option.some.inj hv).symm, by decide, by decide⟩
      | 3, _, hv => exact ⟨4, (Option.some.inj hv).symm, by decide, by decide⟩
      | 4, _, hv => exact ⟨7, (Option.some.inj hv).symm, by decide, by decide⟩
    refine ⟨_, rfl, p, l, cs, k + 1723, 5, rfl, I4.pen, by decide, by decide, fun mood H5 _ _ pen5 kt5 => ?_⟩
    have I5 := I4.step kt5 Lp Wp pen5
    refine ⟨_, _, rfl, ?_⟩
    refine ⟨_, rfl, p, l, cs, k + 1722, 3, rfl, I5.pen, by decide, by decide, fun d H6 d0 d1 pen6 kt6 => ?_⟩
    have I6 := I5.step kt6 Lp Wp pen6
    refine ⟨_, _, rfl, rfl, 1 + d, rfl, by omega, by omega, ?_⟩
    refine for_range (lo := 0) (n := (1 + d).toNat) (fun i (σ' : L2.St) H' => ∃ (acc : List V) (lots : List Lot) (a5 a6 a7 : Option V), σ' = [some (V.ref p), some (V.ref Wd), some (V.ref L), some (V.int m), some (V.int mood), a5, a6, a7, none] ∧ acc.length = i ∧ LoI CG CO p l L Wd cs H ws H' acc lots (k + (3 - i) * 540)) ?_ (fun i σ' H' hi hp => ?_) (fun σ' H' hp => ?_)
    · exact ⟨[], [], none, none, none, rfl, rfl, I6.step (Kept.refl _ _) Lp Wp (I6.pen.less (by omega))⟩
    · obtain ⟨acc, lots, a5, a6, a7, rfl, al, I⟩ := hp
      have hi3 : i < 3 := by omega
      obtain ⟨R, hR⟩ : ∃ R, k + (3 - (i + 1)) * 540 = R := ⟨_, rfl⟩
      have hR2 : k + (3 - i) * 540 = R + 540 := by omega
      rw [hR2] at I
      refine ⟨_, rfl, _, rfl, _, _, rfl, rfl, .inl ⟨by decide, by decide⟩, _, rfl, _, rfl, _, _, rfl, rfl, .inl ⟨by decide, by decide⟩, _, _, rfl, rfl, _, rfl, p, l, cs, R + 539, 5, rfl, I.pen, by decide, by decide, fun dd H7 dd0 dd1 pen7 kt7 => ?_⟩
      have I7 := I.step kt7 Lp Wp pen7
      obtain ⟨e, rfl⟩ := Int.eq_ofNat_of_zero_le dd0
      refine ⟨_, _, rfl, rfl, _, rfl, Wd, _, rfl, SqL.of I7.wd, fun S hS => ?_⟩
      have he5 : e < 5 := by omega
      have cm := cut_mid (ws := ws) (i := i) (d := e) (by omega)
      have so_len : ((ws.drop (5 * i)).take (1 + e)).length = 1 + e := by rw [List.length_take, List.length_drop]; omega
      have so_nd : ((ws.drop (5 * i)).take (1 + e)).Nodup := (wn.sublist (List.drop_sublist _ _)).sublist (List.take_sublist _ _)
      have so_wd : ∀ w ∈ (ws.drop (5 * i)).take (1 + e), Wordy w := fun w hw => wd w (List.mem_of_mem_drop (List.mem_of_mem_take hw))
      rw [cm]
      generalize (ws.drop (5 * i)).take (1 + e) = so at so_len so_nd so_wd
      have e8 := Ext.upd (o := HO.lst (so.map V.str)) hS
      have oS : upd H7 S (.lst (so.map V.str)) S = some (.lst (so.map V.str)) := upd_same
      have Sp := npf I7.pen hS
      generalize upd H7 S (.lst (so.map V.str)) = H8 at e8 oS
      have I8 := I7.ext Lp Wp e8
      refine ⟨fun σ' H' => ∃ (S : Addr) (so : List Str), σ' = [some (V.ref p), some (V.ref Wd), some (V.ref L), some (V.int m), some (V.int mood), some (V.int (0 + i)), some (V.ref S), a7, none] ∧ H' S = some (.lst (so.map V.str)) ∧ S ≠ p ∧ so ≠ [] ∧ so.length ≤ 7 ∧ so.Nodup ∧ (∀ w ∈ so, Wordy w) ∧ LoI CG CO p l L Wd cs H ws H' acc lots (R + 520), ?_, ?_⟩
      · have stay : ∀ H', Kept p H8 H' → Pen H' p l cs (R + 520) → ∃ (S_1 : Addr) (so_1 : List Str), ([some (V.ref p), some (V.ref Wd), some (V.ref L), some (V.int m), some (V.int mood), some (V.int (0 + i)), some (V.ref S), a7, none] : L2.St) = [some (V.ref p), some (V.ref Wd), some (V.ref L), some (V.int m), some (V.int mood), some (V.int (0 + i)), some (V.ref S_1), a7, none] ∧ H' S_1 = some (.lst (so_1.map V.str)) ∧ S_1 ≠ p ∧ so_1 ≠ [] ∧ so_1.length ≤ 7 ∧ so_1.Nodup ∧ (∀ w ∈ so_1, Wordy w) ∧ LoI CG CO p l L Wd cs H ws H' acc lots (R + 520) :=
          fun H' e pe => ⟨S, so, rfl, e _ _ Sp oS, Sp, fun z => by rw [z] at so_len; simp at so_len; omega, by omega, so_nd, so_wd, I8.step e Lp Wp pe⟩
        refine ⟨_, rfl, by show 2 ≤ sizeLine; decide, fun tq htq => ?_⟩
        have e9 := Ext.upd (o := HO.tup [V.int 1, V.int 4]) htq
        have I9 := I8.ext Lp Wp e9
        refine ⟨tq, _, rfl, .inr (SqT.of upd_same), rfl, rfl, _, rfl, ?_⟩
        cases hin : inV (.int mood) [.int 1, .int 4] with
        | false =>
          refine iteF ?_
          exact stay _ (Kept.of e9) (I9.pen.less (by omega))
        | true =>
          refine iteT ?_
          refine ⟨_, rfl, p, l, cs, R + 538, 2, rfl, I9.pen, by decide, by decide, fun d2 H10 _ _ pen10 kt10 => ⟨rfl, _, rfl, ?_⟩⟩
          have I10 := I9.step kt10 Lp Wp pen10
          refine ite2 (fun _ => ?_) (fun _ => ?_)
          · refine ⟨_, rfl, _, rfl, _, rfl, p, l, cs, R + 523, Wd, ws.map V.str, rfl, by rw [List.length_map, wl]; exact I10.pen, SqL.of I10.wd, Wp, by rw [List.length_map]; omega, fun ys r H11 hys hr0 hr1 pen11 kt11 => ?_⟩
            obtain ⟨zs, rfl, hz⟩ := strs_perm hys
            have I11 := I10.step kt11 Lp Wp pen11
            have oS11 : H11 S = some (.lst (so.map V.str)) := kt11 _ _ Sp (kt10 _ _ Sp (e9 _ _ oS))
            refine ⟨2, rfl, r, _, rfl, SqL.of hr1, fun t2 ht2 => ⟨t2, rfl, ⟨_, SqL.of upd_same⟩, fun D hD => ?_⟩⟩
            have e12 := Ext.upd (o := HO.lst (cutV (zs.map V.str) none (some 2))) ht2
            have o12 : upd H11 t2 (.lst (cutV (zs.map V.str) none (some 2))) t2 = some (.lst (cutV (zs.map V.str) none (some 2))) := upd_same
            rw [cut_two] at e12 o12 hD ⊢
            generalize upd H11 t2 (.lst ((zs.take 2).map V.str)) = H12 at e12 o12 hD
            have oS12 := e12 _ _ oS11
            refine lc_list (K := K) (a := t2) (xs := (zs.take 2).map V.str) (fun j H' => Ext H12 H' ∧ H' D = some (.lst ((((zs.take 2).take j).filter fun w => decide (w ∉ so)).map V.str))) ⟨Ext.upd hD, upd_same⟩ (fun j H' _ hp => SqL.of (hp.1 _ _ o12)) (fun j x H' hx hp => ?_) (fun H' hp => ?_)
            · obtain ⟨ex, oD⟩ := hp
              have hj : j < (zs.take 2).length := by
                have := (List.getElem?_eq_some_iff.mp hx).1
                rwa [List.length_map] at this
              have hx2 : (zs.take 2)[j]? = some (zs.take 2)[j] := List.getElem?_eq_getElem hj
              rw [List.getElem?_map, hx2] at hx
              cases hx
              have tk : (zs.take 2).take (j + 1) = (zs.take 2).take j ++ [(zs.take 2)[j]] := by
                rw [List.take_add_one, hx2]
                rfl
              refine ⟨rfl, ?_⟩
              refine ⟨_, rfl, _, rfl, S, _, rfl, .inl (SqL.of (ex _ _ oS12)), rfl, Kp.flat_strs so, _, rfl, ?_⟩
              rw [inV_strs]
              by_cases hm : (zs.take 2)[j] ∈ so
              · rw [decide_eq_true hm]
                refine iteF ?_
                refine ⟨ex, ?_⟩
                rw [tk, List.filter_append, List.filter_cons_of_neg (by simpa using hm), List.filter_nil, List.append_nil]
                exact oD
              · rw [decide_eq_false hm]
                refine iteT ?_
                have lj : ((((zs.take 2).take j).filter fun w => decide (w ∉ so)).map V.str).length ≤ 2 := by
                  rw [List.length_map]
                  have := List.length_filter_le (fun w => decide (w ∉ so)) ((zs.take 2).take j)
                  rw [List.length_take, List.length_take] at this
                  omega
                refine ⟨_, rfl, _, oD, Nat.lt_of_le_of_lt lj (by decide), ?_, ?_⟩
                · intro b o hb
                  rw [upd_ne (ne_of_none hb hD)]
                  exact ex _ _ hb
                · rw [tk, List.filter_append, List.filter_cons_of_pos (by simpa using hm), List.filter_nil, List.map_append]
                  exact upd_same
            · obtain ⟨ex, oD⟩ := hp
              rw [List.length_map, List.take_length] at oD
              have zn : zs.Nodup := hz.nodup_iff.mpr wn
              have t2n : (zs.take 2).Nodup := zn.sublist (List.take_sublist _ _)
              have l2 : ((zs.take 2).filter fun w => decide (w ∉ so)).length ≤ 2 := by
                have := List.length_filter_le (fun w => decide (w ∉ so)) (zs.take 2)
                rw [List.length_take] at this
                omega
              refine ⟨S, D, _, _, rfl, rfl, ex _ _ oS12, oD, by rw [List.length_map, List.length_map]; exact Nat.le_trans (show _ ≤ 100 by omega) (by decide), fun S2 hS2 => ?_⟩
              rw [← List.map_append]
              have e14 := e12.trans (ex.trans (Ext.upd (o := HO.lst ((so ++ (zs.take 2).filter fun w => decide (w ∉ so)).map V.str)) hS2))
              have I14 := I11.ext Lp Wp e14
              refine ⟨S2, _, rfl, upd_same, npf (I11.ext Lp Wp (e12.trans ex)).pen hS2, fun z => ?_, by rw [List.length_append]; omega, ?_, fun w hw => ?_, I14.step (Kept.refl _ _) Lp Wp (I14.pen.less (by omega))⟩
              · have h := (List.append_eq_nil_iff.mp z).1
                rw [h] at so_len
                simp at so_len
                omega
              · rw [List.nodup_append]
                refine ⟨so_nd, t2n.sublist List.filter_sublist, fun a ha b hb z => ?_⟩
                have := (List.mem_filter.mp hb).2
                rw [← z] at this
                simp [ha] at this
              · rcases List.mem_append.mp hw with hw | hw
                · exact so_wd w hw
                · exact wd w (hz.mem_iff.mp (List.mem_of_mem_take (List.mem_filter.mp hw).1))
          · exact stay _ ((Kept.of e9).trans kt10) (I10.pen.less (by omega))
      · rintro σ' H9 ⟨S, so, rfl, oS, Sp, sne, s7, snd, swd, I9⟩
        refine ⟨_, rfl, _, rfl, _, rfl, _, rfl, by show 2 ≤ sizeLine; decide, fun tq htq => ?_⟩
        have e10 := Ext.upd (o := HO.tup [V.int 2, V.int 4]) htq
        have I10 := I9.ext Lp Wp e10
        refine ⟨tq, _, rfl, .inr (SqT.of upd_same), rfl, rfl, .inr ⟨_, rfl, _, rfl, p, l, cs, R + 519, 2, rfl, I10.pen, by decide, by decide, fun d3 H11 d30 d31 pen11 kt11 => ?_⟩⟩
        have I11 := I10.step kt11 Lp Wp pen11
        have oS11 : H11 S = some (.lst (so.map V.str)) := kt11 _ _ Sp (e10 _ _ oS)
        obtain ⟨e3, rfl⟩ := Int.eq_ofNat_of_zero_le d30
        obtain ⟨bb, hb, hb1⟩ := ite_one (if false = true then !inV (V.int mood) [V.int 2, V.int 4] else inV (V.int mood) [V.int 2, V.int 4])
        obtain ⟨m', hm', hm1, hm8⟩ : ∃ m' : Nat, m' = m + bb * e3 ∧ 1 ≤ m' ∧ m' ≤ 8 := by
          have : bb * e3 ≤ 1 * 1 := Nat.mul_le_mul hb1 (by omega)
          exact ⟨_, rfl, by omega, by omega⟩
        have bud : rowsBud so.length m' ≤ 484 := by
          unfold rowsBud
          have h1 : so.length * so.length ≤ 7 * 7 := Nat.mul_le_mul s7 s7
          have h2 : m' * (1 + so.length + so.length * so.length) ≤ 8 * 57 := Nat.mul_le_mul hm8 (by omega)
          omega
        refine ⟨_, _, rfl, rfl, .inl ⟨by rw [hb]; exact Int.lt_of_lt_of_le (by decide) (Int.natCast_nonneg _), by rw [hb]; exact Int.lt_of_le_of_lt (Int.ofNat_le.mpr hb1) (by decide)⟩, _, _, rfl, rfl, ?_⟩
        refine ⟨p, l, cs, R + 20, m', S, so, by rw [hb, hm']; simp, SqL.of oS11, Sp, sne, by omega, swd, by omega, I11.pen.less (by omega), fun rows r H12 rl rp r0 ra pen12 kt12 => ?_⟩
        have I12 := I11.step kt12 Lp Wp pen12
        have okr : OkR rows := by
          have okw : ∀ x ∈ rows, OkW x := fun x hx => by
            have px := rp x hx
            exact ⟨fun w hw => swd w (px.mem_iff.mp hw), px.nodup_iff.mpr snd, fun z => by rw [z] at px; exact sne px.nil_eq.symm, by rw [px.length_eq]; omega⟩
          exact ⟨fun z => by rw [z] at rl; simp at rl; omega, by omega, okw, fun a ha b hb x => ((rp a ha).trans (rp b hb).symm).mem_iff⟩
        have lot1 : LotC CG CO L p H12 (.ref r) (some rows) := by
          obtain ⟨as, h1, h2, h3⟩ := ra
          refine ⟨r, as, rfl, ⟨fun z => ?_, npf I11.pen r0⟩, h1, h2, fun i a ws' ha hw => ?_, okr, fun x hx => by rw [(rp x hx).length_eq]; exact s7⟩
          · rw [z, I11.at_] at r0
            cases r0
          · have hm := List.mem_of_getElem? hw
            have o := h3 i a ws' ha hw
            exact ⟨rows_off I12 (okr.ok _ hm).ne (okr.ok _ hm).wd o, o⟩
        refine ⟨fun σ' H' => ∃ (x : V) (lo : Lot), σ' = [some (V.ref p), some (V.ref Wd), some (V.ref L), some (V.int m), some (V.int mood), some (V.int (0 + i)), some (V.ref S), some x, none] ∧ LotC CG CO L p H' x lo ∧ LoI CG CO p l L Wd cs H ws H' acc lots R, ?_, ?_⟩
        · have stay : ∀ H', Kept p H12 H' → Pen H' p l cs R → ∃ (x : V) (lo : Lot), ([some (V.ref p), some (V.ref Wd), some (V.ref L), some (V.int m), some (V.int mood), some (V.int (0 + i)), some (V.ref S), some (V.ref r), none] : L2.St) = [some (V.ref p), some (V.ref Wd), some (V.ref L), some (V.int m), some (V.int mood), some (V.int (0 + i)), some (V.ref S), some x, none] ∧ LotC CG CO L p H' x lo ∧ LoI CG CO p l L Wd cs H ws H' acc lots R := fun H' e pe => by
            obtain ⟨xs, hx⟩ := I12.pen.lst
            exact ⟨_, some rows, rfl, lot1.kept hx (.inr rfl) e, I12.step e Lp Wp pe⟩
          refine ⟨_, rfl, rfl, _, rfl, ?_⟩
          refine ite2 (fun _ => ?_) (fun _ => ?_)
          · refine ⟨_, rfl, p, l, cs, R + 19, 2, rfl, I12.pen, by decide, by decide, fun d4 H13 _ _ pen13 kt13 => ⟨rfl, _, rfl, ?_⟩⟩
            have I13 := I12.step kt13 Lp Wp pen13
            refine ite2 (fun _ => ?_) (fun _ => ?_)
            · refine ⟨_, rfl, (show (0 : Nat) ≤ sizeLine by decide), fun t3 ht3 => fun d5 hd5 => fun ox odx hox hodx noo => ?_⟩
              have x1 := Ext.upd (o := HO.tup []) ht3
              have x2 := Ext.upd (o := HO.dK []) hd5
              have x3 := (Ext.upd (o := HO.own ox) hodx).trans (Ext.upd (o := HO.ins CO odx []) (by rw [upd_ne noo.symm]; exact hox))
              refine ⟨[V.ref ox], [V.str "a"], rfl, rfl, (show (1 : Nat) ≤ sizeLine by decide), fun pp hpp => ?_⟩
              have x4 := Ext.upd (o := HO.tup [V.str "a"]) hpp
              refine ⟨ox, pp, odx, ["a"], rfl, x4 _ _ upd_same, upd_same, ok_a, fun g dd us H14 ig kp hx' grp => ⟨rfl, ?_⟩⟩
              have x5 : Ext (upd (upd H13 t3 (.tup [])) d5 (.dK [])) H14 := fun b o hb => kp b o (ne_of_none hb hox) ((x3.trans x4) _ _ hb)
              have x15 := (x1.trans x2).trans x5
              have o3 := (x2.trans x5) _ _ (upd_same (H := H13) (a := t3) (o := HO.tup []))
              have o5 := x5 _ _ (upd_same (H := upd H13 t3 (.tup [])) (a := d5) (o := HO.dK []))
              generalize upd (upd H13 t3 (.tup [])) d5 (.dK []) = Hq at *
              refine fun gx gdx hgx hgdx ngg => ?_
              have y3 := (Ext.upd (o := HO.own gx) hgdx).trans (Ext.upd (o := HO.ins CG gdx []) (by rw [upd_ne ngg.symm]; exact hgx))
              refine ⟨[V.ref gx], [V.str "a"], rfl, rfl, (show (1 : Nat) ≤ sizeLine by decide), fun pq hpq => ?_⟩
              have y4 := Ext.upd (o := HO.tup [V.str "a"]) hpq
              refine ⟨gx, pq, gdx, ["a"], rfl, y4 _ _ upd_same, upd_same, ok_a.wd, by decide, fun us ig => Nat.le_trans ig.len (by decide), fun us2 tt H15 ig2 kp2 hx2 htt => ⟨rfl, ?_⟩⟩
              have y5 : Ext H14 H15 := fun b o hb => kp2 b o (ne_of_none hb hgx) ((y3.trans y4) _ _ hb)
              refine ⟨(show (8 : Nat) ≤ sizeLine by decide), fun ll hll => ?_⟩
              have y6 := Ext.upd (o := HO.lst [V.non, V.int 0, V.str "a b", V.ref t3, V.ref d5, V.bl true, V.ref ox, V.ref gx]) hll
              have I16 := I13.ext Lp Wp ((x15.trans y5).trans y6)
              have o3' := (y5.trans y6) _ _ o3
              have o5' := (y5.trans y6) _ _ o5
              have ox' := (y5.trans y6) _ _ hx'
              have gx' := y6 _ _ hx2
              refine ⟨p, l, cs, R, _, rfl, I16.pen.less (by omega), .inl ⟨ll, _, rfl, SqL.of upd_same, npf (I13.ext Lp Wp (x15.trans y5)).pen hll, (show (0 : Nat) < 8 by decide), (show (8 : Nat) ≤ 1000 by decide), fun ii v H17 hv pen17 kt17 => ?_⟩⟩
              have I17 := I16.step kt17 Lp Wp pen17
              obtain ⟨xs, hx⟩ := I16.pen.lst
              refine ⟨v, none, rfl, OddC.kept ?_ hx kt17, I17⟩
              have hi := (List.getElem?_eq_some_iff.mp hv).1
              match ii, hi, hv with
              | 0, _, hv => exact .inl (Option.some.inj hv).symm
              | 1, _, hv => exact .inr (.inl (Option.some.inj hv).symm)
              | 2, _, hv => exact .inr (.inr (.inl (Option.some.inj hv).symm))
              | 3, _, hv => exact .inr (.inr (.inr (.inr ⟨t3, (Option.some.inj hv).symm, .inl o3'⟩)))
              | 4, _, hv => exact .inr (.inr (.inr (.inr ⟨d5, (Option.some.inj hv).symm, .inr (.inl o5')⟩)))
              | 5, _, hv => exact .inr (.inr (.inr (.inl (Option.some.inj hv).symm)))
              | 6, _, hv => exact .inr (.inr (.inr (.inr ⟨ox, (Option.some.inj hv).symm, .inr (.inr (.inl ⟨_, _, ox'⟩))⟩)))
              | 7, _, hv => exact .inr (.inr (.inr (.inr ⟨gx, (Option.some.inj hv).symm, .inr (.inr (.inr ⟨_, _, gx'⟩))⟩)))
            · exact stay _ kt13 (I13.pen.less (by omega))
          · exact stay _ (Kept.refl _ _) (I12.pen.less (by omega))
        · rintro σ' H13 ⟨x, lo, rfl, lot, I13⟩
          have a64 : acc.length ≤ 3 := by omega
          refine ⟨_, rfl, .inl ⟨rfl, _, SqL.of I13.at_⟩, _, rfl, L, _, _, rfl, rfl, I13.at_, Nat.lt_of_le_of_lt a64 (by decide), ?_⟩
          rw [hR]
          exact ⟨_, _, _, _, _, rfl, by rw [List.length_append, al]; rfl, I13.add Lp WL L0 lL lot⟩
    · obtain ⟨acc, lots, a5, a6, a7, rfl, al, I⟩ := hp
      refine ⟨_, rfl, ?_⟩
      have ll := I.len
      refine hQ L acc lots H' I.at_ ⟨ll, fun i x l hx hl => ?_⟩ (by omega) (by omega) (fun ls e => ?_) (I.pen.less (by omega)) I.kt
      · have lc := I.it i x l hx hl
        cases l with
        | none => exact lc.odd T O Y
        | some rows =>
          obtain ⟨r, as, h1, _, h3, h4, h5, h6, _⟩ := lc
          exact ⟨r, h1, ⟨as, h3, h4, fun i a ws ha hw => (h5 i a ws ha hw).2⟩, h6⟩
      · subst e
        have : (firsts ls).length ≤ 7 * ls.length := firsts_le fun rows hr => by
          obtain ⟨i, hi, rfl⟩ := List.mem_iff_getElem.mp hr
          have hl : (ls.map some)[i]? = some (some ls[i]) := by rw [List.getElem?_map, List.getElem?_eq_getElem hi]; rfl
          have hxi := List.getElem?_eq_getElem (l := acc) (i := i) (by rw [ll, List.length_map]; exact hi)
          have lc := I.it i _ _ hxi hl
          obtain ⟨_, _, _, _, _, _, _, ok, h7⟩ := lc
          generalize ls[i] = rows at ok h7
          cases rows with
          | nil => exact Nat.zero_le _
          | cons r rs => exact h7 r List.mem_cons_self
        rw [List.length_map] at ll
        omega
end
end Kq
set_option maxHeartbeats 4000000
namespace Kq
open PySem PySem.Spec PyProof.Rows L2 Kp
open Evl (Ev EvL EvT EvA given)
open LamX (ExtN Tabs TabB CodeO)
/-! ### the law -/
section
variable {P : Program} {w : World} {K : PySem.W.Frag} {mg : Str → Option Value} {base : Heap} {x qual : Str} {st : Stmt} {f c : Addr} {fd : FuncData} {N ps : List Str} {k : Nat} {sp : Sp}
theorem fnOkC (F : FunC K x qual st f fd c) (S : FnScope N ps (defScope st)) (len : ∀ vs H Q E, sp vs H Q E → vs.length = ps.length)
    (hbody : ∀ (A : Around) (outer : List Env) (s : Shared) (H : Hp) (vs : List V) (Q : VK) (E : XK), Room k (A.deeper (envOfC qual (defScope st) s.heap.objs.size f (.ref c))) → sp vs H Q E →
      ∃ t, PSs (cxOf (L2.CX P w) P w K mg base N qual (defScope st) f (.ref c) A outer s H E) (defBody st) t ∧ t { nx := fun _ H' => Q .non H', rt := Q } (start N vs) H) :
    FnOk P w K mg base (L2.CX P w) (k + 1) f fd ps sp := by
  obtain ⟨oc, od, kV, doc, pm, an, cdv, ct, osl, rfl, lk, hcd⟩ := F.fu.ex
  obtain rfl : cdv = .ref c := F.code
  exact fn_of lk hcd S len fun A outer s H vs Q E hr hsp => hbody A outer s H vs Q E hr hsp
end
structure TxZ (K : PySem.W.Frag) (mg : Str → Option Value) (fRi cR : Addr) : Prop where
  g_l_right : mg "_law_right" = some (.ref fRi)
  k_l_right : PySem.W.keepIn K (.ref fRi) = true
  F_right : ∃ fd, FunC K "_law_right" "_law_right" s_l_right fRi fd cR
abbrev qL : Str := ("law" : Str) ++ ".<locals>." ++ "<lambda>"
def spLaw (K : PySem.W.Frag) (T : List (Addr × Str)) : Sp := fun vs H Q _ => ∃ (q : Addr) (cs : List Int), vs = [.ref q] ∧ SqL K H q (cs.map V.int) ∧ Tabs T H ∧ ∀ H', Q (.bl true) H'
theorem Tabs.keptL {T : List (Addr × Str)} {H H' : Hp} {b : Addr} {xs : List V} (h : Tabs T H) (hb : H b = some (.lst xs)) (e : Kept b H H') : Tabs T H' := fun p hp => by
  obtain ⟨ps, h1, h2, h3⟩ := h p hp
  refine ⟨ps, e _ _ (fun z => ?_) h1, h2, fun pos cv hc => ?_⟩
  · rw [z, hb] at h1
    cases h1
  · obtain ⟨c, e1, e2⟩ := h3 pos cv hc
    refine ⟨c, e1, e _ _ (fun z => ?_) e2⟩
    rw [z, hb] at e2
    unfold CodeO at e2
    cases e2
theorem Pen.extN {H H' : Hp} {p l : Addr} {cs : List Int} {k : Nat} (h : Pen H p l cs k) (e : ExtN H H') : Pen H' p l cs k := by
  obtain ⟨t, r, a, b⟩ := h.at_
  exact ⟨⟨t, r, e _ _ a (fun _ z => nomatch z), b⟩, e _ _ h.cells (fun _ z => nomatch z), h.few⟩
theorem cut_nat {ws : List Str} {a b : Nat} (h : a ≤ b) (hb : b ≤ ws.length) : cutV (ws.map V.str) (some ((a : Nat) : Int)) (some ((b : Nat) : Int)) = ((ws.drop a).take (b - a)).map V.str := by
  unfold cutV
  rw [HT.sIx_nat, HT.sIx_nat, List.length_map, Nat.min_eq_left (by omega), Nat.min_eq_left (by omega), List.map_take, List.map_drop]
theorem cut_to {ws : List Str} {b : Nat} (hb : b ≤ ws.length) : cutV (ws.map V.str) none (some ((b : Nat) : Int)) = (ws.take b).map V.str := by
  unfold cutV
  rw [HT.sIx_none, HT.sIx_nat, List.length_map, Nat.min_eq_left (by omega), List.drop_zero, Nat.sub_zero, List.map_take]
theorem cut_from {ws : List Str} {a : Nat} (ha : a ≤ ws.length) : cutV (ws.map V.str) (some ((a : Nat) : Int)) none = (ws.drop a).map V.str := by
  unfold cutV
  rw [HT.sIx_none, HT.sIx_nat, List.length_map, Nat.min_eq_left (by omega), List.map_drop]
  exact List.take_of_length_le (by rw [List.length_drop, List.length_map]; omega)
theorem rows_one {H : Hp} {r a : Addr} {ws : List Str} (h : H r = some (.lst [V.ref a])) (ha : H a = some (.lst (ws.map V.str))) : RowsAt H r [ws] := ⟨[a], rfl, h, fun i b us hb hu => by
  have hi := (List.getElem?_eq_some_iff.mp hb).1
  have : i = 0 := by simpa using hi
  subst this
  cases hb
  cases hu
  exact ha⟩
theorem rows_two {H : Hp} {r a b : Addr} {ws : List Str} (h : H r = some (.lst [V.ref a, V.ref b])) (ha : H a = some (.lst (ws.map V.str))) (hb : H b = some (.lst (ws.map V.str))) : RowsAt H r [ws, ws] := ⟨[a, b], rfl, h, fun i c us hc hu => by
  have hi := (List.getElem?_eq_some_iff.mp hc).1
  have : i = 0 ∨ i = 1 := by have : i < 2 := hi; omega
  rcases this with rfl | rfl
  · cases hc
    cases hu
    exact ha
  · cases hc
    cases hu
    exact hb⟩
theorem okR_one {ws : List Str} (h : OkW ws) : OkR [ws] := ⟨by simp, (show (1 : Nat) ≤ 8 by decide), fun x hx => by rw [List.mem_singleton.mp hx]; exact h, fun a ha b hb x => by rw [List.mem_singleton.mp ha, List.mem_singleton.mp hb]⟩
theorem okR_two {ws : List Str} (h : OkW ws) : OkR [ws, ws] := by
  have e : ∀ a ∈ [ws, ws], a = ws := fun a ha => by
    rcases List.mem_cons.mp ha with rfl | ha
    · rfl
    · exact List.mem_singleton.mp ha
  exact ⟨by simp, (show (2 : Nat) ≤ 8 by decide), fun x hx => by rw [e x hx]; exact h, fun a ha b hb x => by rw [e a ha, e b hb]⟩
theorem row_lots3 {K : PySem.W.Frag} {CB : Addr} {H : Hp} {x y z : V} {a b c : Lot} (hx : RowLot K CB H x a) (hy : RowLot K CB H y b) (hz : RowLot K CB H z c) : RowLots K CB H [x, y, z] [a, b, c] := ⟨rfl, fun i v l hv hl => by
  have hi := (List.getElem?_eq_some_iff.mp hv).1
  have : i = 0 ∨ i = 1 ∨ i = 2 := by have : i < 3 := hi; omega
  rcases this with rfl | rfl | rfl
  · cases hv
    cases hl
    exact hx
  · cases hv
    cases hl
    exact hy
  · cases hv
    cases hl
    exact hz⟩
section
variable {P : Program} {w : World} {K : PySem.W.Frag} {mg : Str → Option Value} {base : Heap} {tL tM tO : Tok} {fIsWord CG gI gLen gAnd gEq CO oI pOf oOf oInv oAdd oEq CB fIsInt bI bNW bNP bCh bTu bLen bIx bAdd bEq pOfB bOf pChs bChs CBB CUn CTa CTM iBB iUn iTa iTM fNB fBe fDi fTree fPen fBook fBeL fDiL fJoin CPE fWr fHe fRi cR PR cL PL fDraw fPick fShuf fWords fNested fFlat fRows fLo fLaw : Addr} {mc mcB : Value}
theorem ok_law (B : TxB mg) (Tp : TxP K mg fDraw fPick fShuf) (Tw : TxW K mg fWords) (W : TxN K mg fNested fFlat fRows) (Tg : TxG K mg tL tM fIsWord CG gI gLen gAnd gEq) (O : TxO K mg CO oI mc pOf oOf oInv oAdd oEq) (Bk : TxBk K mg tO CG CO CB fIsInt bI bNW bNP bCh bTu bLen bIx bAdd bEq pOfB bOf pChs bChs mcB) (Er : TxEr P K mg CBB CUn CTa CTM iBB iUn iTa iTM)
    (S : TxBs K mg fNB fBe fDi fTree) (L : TxLb K mg fPen fBook fBeL fDiL fJoin) (Eh : TxH K mg CPE CBB CUn CTa CTM) (R : TxR K mg fWr fHe) (Y : TxY K mg CG CO CB fLo) (Z : TxZ K mg fRi cR) {fd : FuncData} (F : FunC K "law" "law" s_law fLaw fd cL) (TBR : TabB base mg cR PR) (TB : TabB base mg cL PL) (nRL : PR ≠ PL) :
    FnOk P w K mg base (L2.CX P w) 60 fLaw fd ["_law_script"] (spLaw K [(PR, qR), (PL, qL)]) := by
  obtain ⟨T, eT⟩ : ∃ T, T = [(PR, qR), (PL, qL)] := ⟨_, rfl⟩
  rw [← eT]
  have hT : (PL, qL) ∈ T := by rw [eT]; simp
  have hu : ∀ p ∈ T, p.1 = PL → p.2 = qL := fun p hp e => by
    rw [eT] at hp
    rcases List.mem_cons.mp hp with rfl | hp
    · exact absurd e nRL
    · rw [List.mem_singleton.mp hp]
  have hTR : (PR, qR) ∈ T := by rw [eT]; simp
  have huR : ∀ p ∈ T, p.1 = PR → p.2 = qR := fun p hp e => by
    rw [eT] at hp
    rcases List.mem_cons.mp hp with rfl | hp
    · rfl
    · rw [List.mem_singleton.mp hp] at e
      exact absurd e.symm nRL
  have G_l_pen := ok_pen (P := P) (w := w) (base := base) B L
  have G_l_lots := ok_lots (P := P) (w := w) (base := base) (CB := CB) B Tp Tw W Tg O Y
  have G_l_words := ok_words (P := P) (w := w) (base := base) B Tp Tw
  have G_l_draw := pen_draw (P := P) (w := w) (base := base) B Tp
  obtain ⟨fdr, Fr⟩ := Z.F_right
  have G_l_right := ok_right (P := P) (w := w) (base := base) (T := T) B Tg O Bk Er S L Eh R Fr TBR hTR huR
  have G_beside := ok_beside (P := P) (w := w) (base := base) B Tg O Bk Er S
  have G_dissolving := ok_dissolving (P := P) (w := w) (base := base) B Tg O Bk Er S
  obtain ⟨fdh, Fh⟩ := R.F_heard
  have bindH := Fh.binds (ps := ["_law_ask"]) (fun _ _ _ _ _ _ us hl => match us, hl with | [_], _ => rfl)
  obtain ⟨och, odh, kVh, doch, pmh, anh, cdh, cth, oslh, rfl, lkh, hch⟩ := Fh.ex
  refine fnOkC F sc_law (fun vs H Q E h => ?_) (fun A outer s H vs Q E hr h => ?_)
  · obtain ⟨q, cs, rfl, _⟩ := h
    rfl
  · refine ⟨_, PSs.nox (pss_cons (ps_set (i := 1) sc_law.nd rfl (Or.inl rfl) (pe_callR G_l_pen (hr.mono (by decide)) L.k_l_pen (by rfl) L.g_l_pen passL (pa_cons (pv 0) pa_nil)))
(pss_cons (ps_for PassesOwn.never rfl (pi_range1 (by rfl) B.n_range (pa_cons pe_int pa_nil)) (pg_name (i := 2) sc_law.nd rfl (Or.inl rfl))
(pss_one (ps_if (pt_not (pt_val (pe_callR G_l_right (hr.mono (by decide)) Z.k_l_right (by rfl) Z.g_l_right passL (pa_cons (pe_callR G_l_lots (hr.mono (by decide)) Y.k_l_lots (by rfl) Y.g_l_lots passL (pa_cons (pv 1) pa_nil)) pa_nil))))
(pss_one (ps_ret pe_bl))
pss_nil)))
(pss_cons (ps_set (i := 3) sc_law.nd rfl (Or.inl rfl) (pe_callR G_l_words (hr.mono (by decide)) Tw.k_l_words (by rfl) Tw.g_l_words passL (pa_cons (pv 1) (pa_cons pe_int pa_nil))))
(pss_cons (ps_set (i := 4) sc_law.nd rfl (Or.inl rfl) (pe_op op_add pe_int (pe_callR G_l_draw (hr.mono (by decide)) Tp.k_l_draw (by rfl) Tp.g_l_draw passL (pa_cons (pv 1) (pa_cons pe_int pa_nil)))))
(pss_cons (ps_set (i := 5) sc_law.nd rfl (Or.inl rfl) (pe_op op_add (pe_op op_add (pv 4) pe_int) (pe_callR G_l_draw (hr.mono (by decide)) Tp.k_l_draw (by rfl) Tp.g_l_draw passL (pa_cons (pv 1) (pa_cons pe_int pa_nil)))))
(pss_cons (ps_set (i := 6) sc_law.nd rfl (Or.inl rfl) (pe_lst (pa_cons (pe_lst (pa_cons (pe_slice (sl_listK (K := K) rfl) (pv 3) po_none (po_some (pv 4))) pa_nil)) (pa_cons (pe_lst (pa_cons (pe_slice (sl_listK (K := K) rfl) (pv 3) (po_some (pv 4)) (po_some (pv 5))) pa_nil)) pa_nil))))
(pss_cons (ps_if (PW.pt (pw_or (pt_not (pt_val (pe_callR G_l_right (hr.mono (by decide)) Z.k_l_right (by rfl) Z.g_l_right passL (pa_cons (pe_op op_cat (pv 6) (pe_lst (pa_cons (pe_lst (pa_cons (pe_slice (sl_listK (K := K) rfl) (pv 3) (po_some (pv 5)) (po_some pe_int)) pa_nil)) pa_nil))) pa_nil)))) (pw_or1 (pt_not (pt_val (pe_callR G_l_right (hr.mono (by decide)) Z.k_l_right (by rfl) Z.g_l_right passL (pa_cons (pe_op op_cat (pv 6) (pe_lst (pa_cons (pe_lst (pa_cons (pe_slice (sl_listK (K := K) rfl) (pv 3) (po_some (pv 5)) po_none) pa_nil)) pa_nil))) pa_nil)))))))
(pss_one (ps_ret pe_bl))
pss_nil)
(pss_cons (ps_if (PW.pt (pw_or (pt_not (pt_val (pe_callR G_l_right (hr.mono (by decide)) Z.k_l_right (by rfl) Z.g_l_right passL (pa_cons (pe_op op_cat (pv 6) (pe_lst (pa_cons (pe_lst (pa_cons (pe_op op_cat (pe_slice (sl_listK (K := K) rfl) (pv 3) (po_some (pv 5)) po_none) (pe_slice (sl_listK (K := K) rfl) (pv 3) po_none (po_some pe_int))) pa_nil)) pa_nil))) pa_nil)))) (pw_or1 (pt_not (pt_val (pe_callR G_l_right (hr.mono (by decide)) Z.k_l_right (by rfl) Z.g_l_right passL (pa_cons (pe_op op_cat (pv 6) (pe_lst (pa_cons (pe_lst (pa_cons (pe_slice (sl_listK (K := K) rfl) (pv 3) (po_some (pv 5)) po_none) (pa_cons (pe_slice (sl_listK (K := K) rfl) (pv 3) (po_some (pv 5)) po_none) pa_nil))) pa_nil))) pa_nil)))))))
(pss_one (ps_ret pe_bl))
pss_nil)
(pss_cons (ps_set (i := 7) sc_law.nd rfl (Or.inl rfl) (pe_lst (pa_cons (LamX.pe_lamcall (T := T) (TT := TTheard CBB CUn CTa CTM) (t := fun E => tCallR (spStar 0 (spBes K CG CO CB CBB CUn CTa CTM)) E tNil) (k := 30) (by rfl) R.g_l_heard R.k_l_heard lkh hch bindH sc_l_heard rfl (Or.inl rfl) (heard_gives B Er Eh) TB (by rfl) (by exact hT) (by exact hu) (hr.mono (by decide)) (LamX.lamS_by (sc := defScope s_law) (by decide +kernel)) rfl (fun _ _ _ _ _ => rfl) (fun A outer s H E f c hr2 => by exact Kp.pe_callR0 (E := E) G_beside (hr2.mono (by decide)) S.k_beside (by rfl) S.g_beside (passes_call (takes_of rfl rfl rfl rfl) fun _ _ _ _ h => h))) pa_nil)))
(pss_cons (ps_expr (pe_bmK (K := K) rfl PySem.F.plainAttrs_list PySem.F.slot_list_append PySem.F.type_list_append mt_append (pv 7) (pa_cons (LamX.pe_lamcall (T := T) (TT := TTheard CBB CUn CTa CTM) (t := fun E => tCallR (spStar 0 (spDis K CG CO CB CBB CUn CTa CTM)) E tNil) (k := 30) (by rfl) R.g_l_heard R.k_l_heard lkh hch bindH sc_l_heard rfl (Or.inl rfl) (heard_gives B Er Eh) TB (by rfl) (by exact hT) (by exact hu) (hr.mono (by decide)) (LamX.lamS_by (sc := defScope s_law) (by decide +kernel)) rfl (fun _ _ _ _ _ => rfl) (fun A outer s H E f c hr2 => by exact Kp.pe_callR0 (E := E) G_dissolving (hr2.mono (by decide)) S.k_dissolving (by rfl) S.g_dissolving (passes_call (takes_of rfl rfl rfl rfl) fun _ _ _ _ h => h))) pa_nil)))
(pss_one (ps_ret (pe_cmpR (op_eqDK (K := K) rfl hr.units) (pv 7) (pe_op op_rep (pe_lst (pa_cons (pe_tup (pa_cons pe_str (pa_cons pe_str pa_nil))) pa_nil)) pe_int) (nomark _)))))))))))))), ?_⟩
    obtain ⟨q, cs, rfl, hq, hTs, hQ⟩ := h
    refine ⟨_, rfl, q, cs, rfl, hq, fun p l cs' H1 e1 p0 pen1 => ?_⟩
    have T1 := LamX.Tabs.ext hTs e1
    refine ⟨8, rfl, by decide, by decide, ?_⟩
    refine for_range (lo := 0) (n := (8 : Int).toNat) (fun i (σ' : L2.St) H' => ∃ a2 : Option V, σ' = [some (V.ref q), some (V.ref p), a2, none, none, none, none, none] ∧ Tabs T H' ∧ Pen H' p l cs' (20000 + (8 - i) * 1800)) ?_ (fun i σ' H' hi hp => ?_) (fun σ' H' hp => ?_)
    · exact ⟨none, rfl, T1, pen1.less (by decide)⟩
    · obtain ⟨a2, rfl, T2, pen2⟩ := hp
      have hi8 : i < 8 := hi
      refine ⟨_, rfl, p, l, cs', 20000 + (8 - (i + 1)) * 1800, rfl, pen2.less (by omega), fun lq xs lots H3 hlq hL l0 l3 h64 pen3 kt3 => ?_⟩
      obtain ⟨px, hpx⟩ := pen2.lst
      have T3 := Kq.Tabs.keptL T2 hpx kt3
      refine ⟨lq, xs, lots, rfl, hlq, hL, l0, l3, h64, T3, fun H4 e4 T4 => ?_⟩
      refine ⟨true, rfl, ?_⟩
      refine iteF ?_
      exact ⟨_, rfl, T4, pen3.extN e4⟩
    · obtain ⟨a2, rfl, T2, pen2⟩ := hp
      obtain ⟨px, hpx⟩ := pen2.lst
      refine ⟨_, rfl, p, l, cs', 10, 25, rfl, by decide, pen2.less (by omega), fun ws Wd H2 wl wd wn W0 hW pen3 kt3 => ?_⟩
      have T3 := Kq.Tabs.keptL T2 hpx kt3
      have Wp : Wd ≠ p := (ne_of_none hpx W0).symm
      obtain ⟨px3, hpx3⟩ := pen3.lst
      refine ⟨_, rfl, p, l, cs', 9, 11, rfl, pen3, by decide, by decide, fun d1 H3 d10 d11 pen4 kt4 => ⟨_, _, rfl, rfl, ?_⟩⟩
      have T4 := Kq.Tabs.keptL T3 hpx3 kt4
      obtain ⟨px4, hpx4⟩ := pen4.lst
      obtain ⟨f1, rfl⟩ := Int.eq_ofNat_of_zero_le d10
      refine ⟨_, rfl, _, _, rfl, rfl, _, rfl, p, l, cs', 8, 11, rfl, pen4, by decide, by decide, fun d2 H4 d20 d21 pen5 kt5 => ⟨_, _, rfl, rfl, ?_⟩⟩
      have T5 := Kq.Tabs.keptL T4 hpx4 kt5
      obtain ⟨f2, rfl⟩ := Int.eq_ofNat_of_zero_le d20
      have hW4 := kt5 _ _ Wp (kt4 _ _ Wp hW)
      obtain ⟨lo, hlo⟩ : ∃ lo : Nat, (1 + (f1 : Int)) = (lo : Int) := ⟨1 + f1, by omega⟩
      obtain ⟨hi, hhi⟩ : ∃ hi : Nat, (1 + (f1 : Int) + 1 + (f2 : Int)) = (hi : Int) := ⟨1 + f1 + 1 + f2, by omega⟩
      have lo1 : 1 ≤ lo := by omega
      have lo11 : lo ≤ 11 := by omega
      have hilo : lo + 1 ≤ hi := by omega
      have hi22 : hi ≤ 22 := by omega
      have okw : ∀ us : List Str, us.Sublist ws → us ≠ [] → us.length ≤ 24 → OkW us := fun us su ne le => ⟨fun w hw => wd w (su.mem hw), wn.sublist su, ne, le⟩
      have okA := okw (ws.take lo) (List.take_sublist _ _) (List.ne_nil_of_length_pos (by rw [List.length_take]; omega)) (by rw [List.length_take]; omega)
      have okB := okw ((ws.drop lo).take (hi - lo)) ((List.take_sublist _ _).trans (List.drop_sublist _ _)) (List.ne_nil_of_length_pos (by rw [List.length_take, List.length_drop]; omega)) (by rw [List.length_take]; omega)
      refine ⟨_, rfl, _, rfl, _, rfl, Wd, _, rfl, SqL.of hW4, fun s1 hs1 => ?_⟩
      have q1 := Ext.upd (o := HO.lst (cutV (ws.map V.str) none (some (1 + (f1 : Int))))) hs1
      have o1 : upd H4 s1 (.lst (cutV (ws.map V.str) none (some (1 + (f1 : Int))))) s1 = some (.lst ((ws.take lo).map V.str)) := by rw [upd_same, hlo, cut_to (by omega)]
      generalize upd H4 s1 (.lst (cutV (ws.map V.str) none (some (1 + (f1 : Int))))) = H5 at q1 o1 ⊢
      refine ⟨(show (1 : Nat) ≤ sizeLine by decide), fun ra hra => ?_⟩
      have q2 := Ext.upd (o := HO.lst [V.ref s1]) hra
      have o2 : upd H5 ra (.lst [V.ref s1]) ra = some (.lst [V.ref s1]) := upd_same
      generalize upd H5 ra (.lst [V.ref s1]) = H6 at q2 o2 ⊢
      refine ⟨_, rfl, _, rfl, _, rfl, _, rfl, _, rfl, Wd, _, rfl, SqL.of (q2 _ _ (q1 _ _ hW4)), fun s2 hs2 => ?_⟩
      have q3 := Ext.upd (o := HO.lst (cutV (ws.map V.str) (some (1 + (f1 : Int))) (some (1 + (f1 : Int) + 1 + (f2 : Int))))) hs2
      have o3 : upd H6 s2 (.lst (cutV (ws.map V.str) (some (1 + (f1 : Int))) (some (1 + (f1 : Int) + 1 + (f2 : Int))))) s2 = some (.lst (((ws.drop lo).take (hi - lo)).map V.str)) := by rw [upd_same, hhi, hlo, cut_nat (by omega) (by omega)]
      generalize upd H6 s2 (.lst (cutV (ws.map V.str) (some (1 + (f1 : Int))) (some (1 + (f1 : Int) + 1 + (f2 : Int))))) = H7 at q3 o3 ⊢
      refine ⟨(show (1 : Nat) ≤ sizeLine by decide), fun rb hrb => ?_⟩
      have q4 := Ext.upd (o := HO.lst [V.ref s2]) hrb
      have o4 : upd H7 rb (.lst [V.ref s2]) rb = some (.lst [V.ref s2]) := upd_same
      generalize upd H7 rb (.lst [V.ref s2]) = H8 at q4 o4 ⊢
      refine ⟨(show (2 : Nat) ≤ sizeLine by decide), fun Lh hLh => ?_⟩
      have q5 := Ext.upd (o := HO.lst [V.ref ra, V.ref rb]) hLh
      have o5 : upd H8 Lh (.lst [V.ref ra, V.ref rb]) Lh = some (.lst [V.ref ra, V.ref rb]) := upd_same
      generalize upd H8 Lh (.lst [V.ref ra, V.ref rb]) = H9 at q5 o5 ⊢
      have q14 := (q3.trans q4).trans q5
      have rowA : RowsAt H9 ra [ws.take lo] := (rows_one o2 (q2 _ _ o1)).ext q14
      have rowB : RowsAt H9 rb [(ws.drop lo).take (hi - lo)] := (rows_one o4 (q4 _ _ o3)).ext q5
      have q15 := (q1.trans q2).trans q14
      have hW9 := q15 _ _ hW4
      have T9 := LamX.Tabs.ext T5 q15
      have R4 : ∀ (Hx : Hp) (r3 : Addr) (rows3 : List (List Str)), ExtN H9 Hx → RowsAt Hx r3 rows3 → OkR rows3 → (rows3.headD []).length ≤ 24 → RowLots K CB Hx [V.ref ra, V.ref rb, V.ref r3] [some [ws.take lo], some [(ws.drop lo).take (hi - lo)], some rows3] ∧ ∀ ls, ([some [ws.take lo], some [(ws.drop lo).take (hi - lo)], some rows3] : List Lot) = ls.map some → (firsts ls).length < 64 := fun Hx r3 rows3 e0 hr3 ok3 l3 => by
        refine ⟨row_lots3 ⟨ra, rfl, rowA.extN e0, okR_one okA⟩ ⟨rb, rfl, rowB.extN e0, okR_one okB⟩ ⟨r3, rfl, hr3, ok3⟩, fun ls e => ?_⟩
        have e3 : ls = [[ws.take lo], [(ws.drop lo).take (hi - lo)], rows3] := map_some_inj e.symm
        rw [e3]
        show ((ws.take lo) ++ ((ws.drop lo).take (hi - lo) ++ (rows3.headD [] ++ []))).length < 64
        rw [List.length_append, List.length_append, List.append_nil]
        have h3 : (ws.take lo).length ≤ 11 := by rw [List.length_take]; omega
        have h4 : ((ws.drop lo).take (hi - lo)).length ≤ 22 := by rw [List.length_take]; omega
        omega
      have sl : ∀ (Hx : Hp), ExtN H9 Hx → Hx Wd = some (.lst (ws.map V.str)) := fun Hx e => e _ _ hW9 (fun _ z => nomatch z)
      have okC : ∀ us : List Str, us.Sublist (ws.drop hi) → us ≠ [] → OkW us := fun us su ne => okw us (su.trans (List.drop_sublist _ _)) ne (by have := su.length_le; rw [List.length_drop] at this; omega)
      refine ⟨_, rfl, _, rfl, _, rfl, _, rfl, 24, rfl, Wd, _, rfl, SqL.of hW9, fun sc1 hsc1 => ?_⟩
      have qc1 := Ext.upd (o := HO.lst (cutV (ws.map V.str) (some (1 + (f1 : Int) + 1 + (f2 : Int))) (some 24))) hsc1
      have oc1 : upd H9 sc1 (HO.lst (cutV (ws.map V.str) (some (1 + (f1 : Int) + 1 + (f2 : Int))) (some 24))) sc1 = some (.lst (((ws.drop hi).take (24 - hi)).map V.str)) := by rw [upd_same, hhi, show (some (24 : Int)) = some ((24 : Nat) : Int) from rfl, cut_nat (by omega) (by omega)]
      generalize upd H9 sc1 (HO.lst (cutV (ws.map V.str) (some (1 + (f1 : Int) + 1 + (f2 : Int))) (some 24))) = G1 at qc1 oc1 ⊢
      refine ⟨(show (1 : Nat) ≤ sizeLine by decide), fun sc2 hsc2 => ?_⟩
      have qc2 := Ext.upd (o := HO.lst [V.ref sc1]) hsc2
      have oc2 : upd G1 sc2 (.lst [V.ref sc1]) sc2 = some (.lst [V.ref sc1]) := upd_same
      generalize upd G1 sc2 (.lst [V.ref sc1]) = G2 at qc2 oc2 ⊢
      refine ⟨(show (1 : Nat) ≤ sizeLine by decide), fun sc3 hsc3 => ?_⟩
      have qc3 := Ext.upd (o := HO.lst [V.ref sc2]) hsc3
      have oc3 : upd G2 sc3 (.lst [V.ref sc2]) sc3 = some (.lst [V.ref sc2]) := upd_same
      generalize upd G2 sc3 (.lst [V.ref sc2]) = G3 at qc3 oc3 ⊢
      have ex1 : ExtN H9 G3 := ExtN.of ((qc1.trans qc2).trans qc3)
      have tx1 := LamX.Tabs.ext T9 ((qc1.trans qc2).trans qc3)
      obtain ⟨rl1, h64_1⟩ := R4 G3 sc2 _ ex1 ((rows_one oc2 (qc2 _ _ oc1)).ext qc3) (okR_one (okC _ (List.take_sublist _ _) (List.ne_nil_of_length_pos (by rw [List.length_take, List.length_drop]; omega)))) (by show ((ws.drop hi).take (24 - hi)).length ≤ 24; rw [List.length_take]; omega)
      refine ⟨Lh, sc3, _, _, rfl, rfl, ex1 _ _ o5 (fun _ z => nomatch z), oc3, (show (3 : Nat) ≤ sizeLine by decide), fun pp1 hpp1 => ?_⟩
      have qp1 := Ext.upd (o := HO.lst ([V.ref ra, V.ref rb] ++ [V.ref sc2])) hpp1
      refine ⟨pp1, _, _, rfl, upd_same, rl1.ext qp1, (show (0 : Nat) < 3 by decide), (show (3 : Nat) ≤ 3 by decide), h64_1, LamX.Tabs.ext tx1 qp1, fun K1 fx1 T10 => ⟨true, rfl, ?_⟩⟩
      have ff1 : ExtN H9 K1 := (ex1.trans (ExtN.of qp1)).trans fx1
      refine iteF ?_
      refine ⟨_, rfl, _, rfl, _, rfl, _, rfl, Wd, _, rfl, SqL.of (sl _ ff1), fun sd1 hsd1 => ?_⟩
      have qd1 := Ext.upd (o := HO.lst (cutV (ws.map V.str) (some (1 + (f1 : Int) + 1 + (f2 : Int))) none)) hsd1
      have od1 : upd K1 sd1 (HO.lst (cutV (ws.map V.str) (some (1 + (f1 : Int) + 1 + (f2 : Int))) none)) sd1 = some (.lst ((ws.drop hi).map V.str)) := by rw [upd_same, hhi, cut_from (by omega)]
      generalize upd K1 sd1 (HO.lst (cutV (ws.map V.str) (some (1 + (f1 : Int) + 1 + (f2 : Int))) none)) = G4 at qd1 od1 ⊢
      refine ⟨(show (1 : Nat) ≤ sizeLine by decide), fun sd2 hsd2 => ?_⟩
      have qd2 := Ext.upd (o := HO.lst [V.ref sd1]) hsd2
      have od2 : upd G4 sd2 (.lst [V.ref sd1]) sd2 = some (.lst [V.ref sd1]) := upd_same
      generalize upd G4 sd2 (.lst [V.ref sd1]) = G5 at qd2 od2 ⊢
      refine ⟨(show (1 : Nat) ≤ sizeLine by decide), fun sd3 hsd3 => ?_⟩
      have qd3 := Ext.upd (o := HO.lst [V.ref sd2]) hsd3
      have od3 : upd G5 sd3 (.lst [V.ref sd2]) sd3 = some (.lst [V.ref sd2]) := upd_same
      generalize upd G5 sd3 (.lst [V.ref sd2]) = G6 at qd3 od3 ⊢
      have ex2 : ExtN H9 G6 := ff1.trans (ExtN.of ((qd1.trans qd2).trans qd3))
      have tx2 := LamX.Tabs.ext T10 ((qd1.trans qd2).trans qd3)
      obtain ⟨rl2, h64_2⟩ := R4 G6 sd2 _ ex2 ((rows_one od2 (qd2 _ _ od1)).ext qd3) (okR_one (okC _ (List.Sublist.refl _) (List.ne_nil_of_length_pos (by rw [List.length_drop]; omega)))) (by show (ws.drop hi).length ≤ 24; rw [List.length_drop]; omega)
      refine ⟨Lh, sd3, _, _, rfl, rfl, ex2 _ _ o5 (fun _ z => nomatch z), od3, (show (3 : Nat) ≤ sizeLine by decide), fun pp2 hpp2 => ?_⟩
      have qp2 := Ext.upd (o := HO.lst ([V.ref ra, V.ref rb] ++ [V.ref sd2])) hpp2
      refine ⟨pp2, _, _, rfl, upd_same, rl2.ext qp2, (show (0 : Nat) < 3 by decide), (show (3 : Nat) ≤ 3 by decide), h64_2, LamX.Tabs.ext tx2 qp2, fun K2 fx2 T11 => ⟨true, rfl, ?_⟩⟩
      have ff2 : ExtN H9 K2 := (ex2.trans (ExtN.of qp2)).trans fx2
      refine iteF ?_
      refine ⟨_, rfl, _, rfl, _, rfl, _, rfl, Wd, _, rfl, SqL.of (sl _ ff2), fun se1 hse1 => ?_⟩
      have qe1 := Ext.upd (o := HO.lst (cutV (ws.map V.str) (some (1 + (f1 : Int) + 1 + (f2 : Int))) none)) hse1
      have oe1 : upd K2 se1 (HO.lst (cutV (ws.map V.str) (some (1 + (f1 : Int) + 1 + (f2 : Int))) none)) se1 = some (.lst ((ws.drop hi).map V.str)) := by rw [upd_same, hhi, cut_from (by omega)]
      generalize upd K2 se1 (HO.lst (cutV (ws.map V.str) (some (1 + (f1 : Int) + 1 + (f2 : Int))) none)) = G7 at qe1 oe1 ⊢
      refine ⟨_, rfl, 1, rfl, Wd, _, rfl, SqL.of (qe1 _ _ (sl _ ff2)), fun se2 hse2 => ?_⟩
      have qe2 := Ext.upd (o := HO.lst (cutV (ws.map V.str) none (some 1))) hse2
      have oe2 : upd G7 se2 (HO.lst (cutV (ws.map V.str) none (some 1))) se2 = some (.lst ((ws.take 1).map V.str)) := by rw [upd_same, show (some (1 : Int)) = some ((1 : Nat) : Int) from rfl, cut_to (by omega)]
      generalize upd G7 se2 (HO.lst (cutV (ws.map V.str) none (some 1))) = G8 at qe2 oe2 ⊢
      refine ⟨se1, se2, _, _, rfl, rfl, qe2 _ _ oe1, oe2, by rw [List.length_map, List.length_map, List.length_drop, List.length_take]; exact Nat.le_trans (show _ ≤ 100 by omega) (by decide), fun se3 hse3 => ?_⟩
      rw [← List.map_append]
      have qe3 := Ext.upd (o := HO.lst ((ws.drop hi ++ ws.take 1).map V.str)) hse3
      have oe3 : upd G8 se3 (.lst ((ws.drop hi ++ ws.take 1).map V.str)) se3 = some (.lst ((ws.drop hi ++ ws.take 1).map V.str)) := upd_same
      generalize upd G8 se3 (.lst ((ws.drop hi ++ ws.take 1).map V.str)) = G9 at qe3 oe3 ⊢
      refine ⟨(show (1 : Nat) ≤ sizeLine by decide), fun se4 hse4 => ?_⟩
      have qe4 := Ext.upd (o := HO.lst [V.ref se3]) hse4
      have oe4 : upd G9 se4 (.lst [V.ref se3]) se4 = some (.lst [V.ref se3]) := upd_same
      generalize upd G9 se4 (.lst [V.ref se3]) = G10 at qe4 oe4 ⊢
      refine ⟨(show (1 : Nat) ≤ sizeLine by decide), fun se5 hse5 => ?_⟩
      have qe5 := Ext.upd (o := HO.lst [V.ref se4]) hse5
      have oe5 : upd G10 se5 (.lst [V.ref se4]) se5 = some (.lst [V.ref se4]) := upd_same
      generalize upd G10 se5 (.lst [V.ref se4]) = G11 at qe5 oe5 ⊢
      have qe := (((qe1.trans qe2).trans qe3).trans qe4).trans qe5
      have okE : OkW (ws.drop hi ++ ws.take 1) := by
        have pr : (ws.drop hi ++ ws.take 1).Perm (ws.take 1 ++ ws.drop hi) := List.perm_append_comm
        have su : (ws.take 1 ++ ws.drop hi).Sublist ws := by
          have h := List.Sublist.append (List.Sublist.refl (ws.take 1)) (show (ws.drop hi).Sublist (ws.drop 1) by
            have : ws.drop hi = (ws.drop 1).drop (hi - 1) := by rw [List.drop_drop]; congr 1; omega
            rw [this]
            exact List.drop_sublist _ _)
          rwa [List.take_append_drop] at h
        exact ⟨fun w hw => wd w (su.mem (pr.mem_iff.mp hw)), pr.nodup_iff.mpr (wn.sublist su), List.ne_nil_of_length_pos (by rw [List.length_append, List.length_take]; omega), by rw [List.length_append, List.length_drop, List.length_take]; omega⟩
      have ex3 : ExtN H9 G11 := ff2.trans (ExtN.of qe)
      have tx3 := LamX.Tabs.ext T11 qe
      obtain ⟨rl3, h64_3⟩ := R4 G11 se4 _ ex3 ((rows_one oe4 (qe4 _ _ oe3)).ext qe5) (okR_one okE) (okE.few)
      refine ⟨Lh, se5, _, _, rfl, rfl, ex3 _ _ o5 (fun _ z => nomatch z), oe5, (show (3 : Nat) ≤ sizeLine by decide), fun pp3 hpp3 => ?_⟩
      have qp3 := Ext.upd (o := HO.lst ([V.ref ra, V.ref rb] ++ [V.ref se4])) hpp3
      refine ⟨pp3, _, _, rfl, upd_same, rl3.ext qp3, (show (0 : Nat) < 3 by decide), (show (3 : Nat) ≤ 3 by decide), h64_3, LamX.Tabs.ext tx3 qp3, fun K3 fx3 T12 => ⟨true, rfl, ?_⟩⟩
      have ff3 : ExtN H9 K3 := (ex3.trans (ExtN.of qp3)).trans fx3
      refine iteF ?_
      refine ⟨_, rfl, _, rfl, _, rfl, _, rfl, Wd, _, rfl, SqL.of (sl _ ff3), fun sg1 hsg1 => ?_⟩
      have qg1 := Ext.upd (o := HO.lst (cutV (ws.map V.str) (some (1 + (f1 : Int) + 1 + (f2 : Int))) none)) hsg1
      have og1 : upd K3 sg1 (HO.lst (cutV (ws.map V.str) (some (1 + (f1 : Int) + 1 + (f2 : Int))) none)) sg1 = some (.lst ((ws.drop hi).map V.str)) := by rw [upd_same, hhi, cut_from (by omega)]
      generalize upd K3 sg1 (HO.lst (cutV (ws.map V.str) (some (1 + (f1 : Int) + 1 + (f2 : Int))) none)) = G12 at qg1 og1 ⊢
      refine ⟨_, rfl, _, rfl, _, rfl, Wd, _, rfl, SqL.of (qg1 _ _ (sl _ ff3)), fun sg2 hsg2 => ?_⟩
      have qg2 := Ext.upd (o := HO.lst (cutV (ws.map V.str) (some (1 + (f1 : Int) + 1 + (f2 : Int))) none)) hsg2
      have og2 : upd G12 sg2 (HO.lst (cutV (ws.map V.str) (some (1 + (f1 : Int) + 1 + (f2 : Int))) none)) sg2 = some (.lst ((ws.drop hi).map V.str)) := by rw [upd_same, hhi, cut_from (by omega)]
      generalize upd G12 sg2 (HO.lst (cutV (ws.map V.str) (some (1 + (f1 : Int) + 1 + (f2 : Int))) none)) = G13 at qg2 og2 ⊢
      refine ⟨(show (2 : Nat) ≤ sizeLine by decide), fun sg3 hsg3 => ?_⟩
      have qg3 := Ext.upd (o := HO.lst [V.ref sg1, V.ref sg2]) hsg3
      have og3 : upd G13 sg3 (.lst [V.ref sg1, V.ref sg2]) sg3 = some (.lst [V.ref sg1, V.ref sg2]) := upd_same
      generalize upd G13 sg3 (.lst [V.ref sg1, V.ref sg2]) = G14 at qg3 og3 ⊢
      refine ⟨(show (1 : Nat) ≤ sizeLine by decide), fun sg4 hsg4 => ?_⟩
      have qg4 := Ext.upd (o := HO.lst [V.ref sg3]) hsg4
      have og4 : upd G14 sg4 (.lst [V.ref sg3]) sg4 = some (.lst [V.ref sg3]) := upd_same
      generalize upd G14 sg4 (.lst [V.ref sg3]) = G15 at qg4 og4 ⊢
      have qg := ((qg1.trans qg2).trans qg3).trans qg4
      have ex4 : ExtN H9 G15 := ff3.trans (ExtN.of qg)
      have tx4 := LamX.Tabs.ext T12 qg
      obtain ⟨rl4, h64_4⟩ := R4 G15 sg3 _ ex4 ((rows_two og3 (qg3 _ _ (qg2 _ _ og1)) (qg3 _ _ og2)).ext qg4) (okR_two (okC _ (List.Sublist.refl _) (List.ne_nil_of_length_pos (by rw [List.length_drop]; omega)))) (by show (ws.drop hi).length ≤ 24; rw [List.length_drop]; omega)
      refine ⟨Lh, sg4, _, _, rfl, rfl, ex4 _ _ o5 (fun _ z => nomatch z), og4, (show (3 : Nat) ≤ sizeLine by decide), fun pp4 hpp4 => ?_⟩
      have qp4 := Ext.upd (o := HO.lst ([V.ref ra, V.ref rb] ++ [V.ref sg3])) hpp4
      refine ⟨pp4, _, _, rfl, upd_same, rl4.ext qp4, (show (0 : Nat) < 3 by decide), (show (3 : Nat) ≤ 3 by decide), h64_4, LamX.Tabs.ext tx4 qp4, fun K4 fx4 T13 => ⟨true, rfl, ?_⟩⟩
      have ff4 : ExtN H9 K4 := (ex4.trans (ExtN.of qp4)).trans fx4
      refine iteF ?_
      have lz : LotsAt K CG CO CB H [] [] := ⟨rfl, fun i x l h => by simp at h⟩
      have dz : DueIs [] (some (.book none)) := rfl
      have fz : ∀ ls : List (List (List Str)), ([] : List Lot) = ls.map some → (firsts ls).length < 64 := fun ls e => by
        have : ls = [] := List.map_eq_nil_iff.mp e.symm
        rw [this]
        decide
      have lzx : ∀ Hx, LotsAt K CG CO CB Hx [] [] := fun Hx => ⟨rfl, fun i x l h => by simp at h⟩
      refine ⟨T13, fun M1 g1 T14 M2 E' Q' g2 hE _ => ?_⟩
      have T15 := LamX.Tabs.ext T14 g2
      refine ⟨[], [], rfl, rfl, (show (0 : Nat) ≤ sizeLine by decide), fun t1 ht1 => ?_⟩
      refine ⟨t1, [], [], rfl, upd_same, lzx _, (show (0 : Nat) ≤ 3 by decide), fz, fun r dr => ?_⟩
      obtain rfl := dz.uniq dr
      refine fun cls dd M3 g3 he => hE cls dd M3 (.book none) he True.intro fun p1 M4 g4 oM4 => ?_
      have T16 := LamX.Tabs.ext (LamX.Tabs.ext (LamX.Tabs.ext T15 (Ext.upd ht1)) g3) g4
      refine ⟨(show (1 : Nat) ≤ sizeLine by decide), fun hl hhl => ?_⟩
      have g5 := Ext.upd (o := HO.lst [V.ref p1]) hhl
      have oM5 : upd M4 hl (.lst [V.ref p1]) hl = some (.lst [V.ref p1]) := upd_same
      have oP5 := g5 _ _ oM4
      have T17 := LamX.Tabs.ext T16 g5
      have npl : p1 ≠ hl := ne_of_none oM4 hhl
      generalize upd M4 hl (.lst [V.ref p1]) = M5 at g5 oM5 oP5 T17
      refine ⟨_, rfl, .inl ⟨rfl, _, SqL.of oM5⟩, T17, fun N1 k1 T18 N2 E2 Q2 k2 hE2 _ => ?_⟩
      have T19 := LamX.Tabs.ext T18 k2
      refine ⟨[], [], rfl, rfl, (show (0 : Nat) ≤ sizeLine by decide), fun t2 ht2 => ?_⟩
      refine ⟨t2, [], [], .book none, rfl, upd_same, lzx _, (show (0 : Nat) ≤ 3 by decide), fz, dz, ?_⟩
      refine fun cls dd N3 k3 he => hE2 cls dd N3 (.book none) he True.intro fun p2 N4 k4 oN4 => ?_
      have k0 : ExtN M5 N4 := ((k1.trans (ExtN.of k2)).trans (ExtN.of (Ext.upd ht2))).trans ((ExtN.of k3).trans (ExtN.of k4))
      have oM6 := k0 _ _ oM5 (fun _ z => nomatch z)
      have oP6 := k0 _ _ oP5 (fun _ z => nomatch z)
      have np2 : p2 ≠ hl := fun z => by
        rw [z, oM6] at oN4
        cases oN4
      refine ⟨hl, _, _, rfl, rfl, oM6, (show (1 : Nat) < sizeLine by decide), ?_⟩
      have oH : upd N4 hl (.lst ([V.ref p1] ++ [V.ref p2])) hl = some (.lst [V.ref p1, V.ref p2]) := upd_same
      have oA : upd N4 hl (.lst ([V.ref p1] ++ [V.ref p2])) p1 = some (.tup (dueV (.book none))) := by rw [upd_ne npl]; exact oP6
      have oB : upd N4 hl (.lst ([V.ref p1] ++ [V.ref p2])) p2 = some (.tup (dueV (.book none))) := by rw [upd_ne np2]; exact oN4
      generalize upd N4 hl (.lst ([V.ref p1] ++ [V.ref p2])) = N5 at oH oA oB ⊢
      refine ⟨_, rfl, (show (2 : Nat) ≤ sizeLine by decide), fun t3 ht3 => ?_⟩
      have m1 := Ext.upd (o := HO.tup [V.str "book", V.str "None"]) ht3
      refine ⟨(show (1 : Nat) ≤ sizeLine by decide), fun l3 hl3 => ?_⟩
      have m2 := Ext.upd (o := HO.lst [V.ref t3]) hl3
      refine ⟨l3, 2, [V.ref t3], rfl, rfl, upd_same, by decide, by decide, (show 1 * 2 ≤ sizeLine by decide), fun l4 hl4 => ?_⟩
      have m3 := Ext.upd (o := HO.lst (List.replicate (2 : Int).toNat [V.ref t3]).flatten) hl4
      have m13 := (m1.trans m2).trans m3
      have oT := (m2.trans m3) _ _ (upd_same (H := N5) (a := t3) (o := HO.tup [V.str "book", V.str "None"]))
      have o4 : upd (upd (upd N5 t3 (.tup [V.str "book", V.str "None"])) l3 (.lst [V.ref t3])) l4 (.lst (List.replicate (2 : Int).toNat [V.ref t3]).flatten) l4 = some (.lst [V.ref t3, V.ref t3]) := upd_same
      have dpt : ∀ (Hx : Hp) (a : Addr), Hx a = some (.tup [V.str "book", V.str "None"]) → Dp K Hx (.ref a) (.tuple [.str "book", .str "None"]) := fun Hx a h => Dp.tup (SqT.of h) (.cons (.str _) (.cons (.str _) .nil))
      refine ⟨.list [.tuple [.str "book", .str "None"], .tuple [.str "book", .str "None"]], .list [.tuple [.str "book", .str "None"], .tuple [.str "book", .str "None"]], Dp.lst (SqL.of (m13 _ _ oH)) (.cons (dpt _ _ (m13 _ _ oA)) (.cons (dpt _ _ (m13 _ _ oB)) .nil)), Dp.lst (SqL.of o4) (.cons (dpt _ _ oT) (.cons (dpt _ _ oT) .nil)), by decide +kernel, by decide +kernel, ?_⟩
      have eq1 : PyData.eqv (.list [.tuple [.str "book", .str "None"], .tuple [.str "book", .str "None"]]) (.list [.tuple [.str "book", .str "None"], .tuple [.str "book", .str "None"]]) = true := by decide +kernel
      rw [eq1]
      exact hQ _
end
end Kq
set_option maxHeartbeats 4000000
namespace Kq
open PySem PySem.Spec PyProof.Rows L2 Kp KpH
open He (ga ma cT codeOf codeOf_eq codeIn_ref)
open He5 (wf)
theorem funC_of {K : PySem.W.Frag} {x : Str} {st : Stmt} {fd : FuncData} (F : Fun K x x st (ga K x) fd) : FunC K x x st (ga K x) fd (codeOf K (x, none)) := by
  refine ⟨F, ?_⟩
  obtain ⟨oc, od, kV, doc, pm, an, cdv, ct, osl, rfl, lk, hcd⟩ := F.ex
  obtain ⟨c, rfl⟩ := codeIn_ref hcd
  rw [codeOf_eq (K := K) (p := (x, none)) lk rfl]
section
variable {h : Heap} {mg : Str → Option Value} {w : World}
theorem facts {K : PySem.W.Frag} {f : Addr} (X : K.In h) (G : h.Ns mainGlobals mg) (hfa : mg ("law" : Str) = some (.ref f)) (c : SaysZ PP fa fn er tf ex h K) :
    LamX.LawAtS (PySem.Challenge.rw_keptphrases_k78_books_beside_books) w K (L2.CX PP w) 60 63 "_law_script" mg f h := by
  have hex : (exs K).all id = true := c.more
  obtain ⟨fd_l_draw, F_l_draw⟩ := c.fG (x := "_law_draw") (st := s_l_draw) (List.mem_of_getElem? (show fn[0]? = some (dG "_law_draw" s_l_draw) from rfl))
  obtain ⟨fd_l_pick, F_l_pick⟩ := c.fG (x := "_law_pick") (st := s_l_pick) (List.mem_of_getElem? (show fn[1]? = some (dG "_law_pick" s_l_pick) from rfl))
  obtain ⟨fd_l_shuffled, F_l_shuffled⟩ := c.fG (x := "_law_shuffled") (st := s_l_shuffled) (List.mem_of_getElem? (show fn[2]? = some (dG "_law_shuffled" s_l_shuffled) from rfl))
  obtain ⟨fd_l_words, F_l_words⟩ := c.fG (x := "_law_words") (st := s_l_words) (List.mem_of_getElem? (show fn[3]? = some (dG "_law_words" s_l_words) from rfl))
  obtain ⟨fd_l_nested, F_l_nested⟩ := c.fG (x := "_law_nested") (st := s_l_nested) (List.mem_of_getElem? (show fn[4]? = some (dG "_law_nested" s_l_nested) from rfl))
  obtain ⟨fd_l_flat, F_l_flat⟩ := c.fG (x := "_law_flat") (st := s_l_flat) (List.mem_of_getElem? (show fn[5]? = some (dG "_law_flat" s_l_flat) from rfl))
  obtain ⟨fd_l_rows, F_l_rows⟩ := c.fG (x := "_law_rows") (st := s_l_rows) (List.mem_of_getElem? (show fn[6]? = some (dG "_law_rows" s_l_rows) from rfl))
  obtain ⟨fd_l_pen, F_l_pen⟩ := c.fG (x := "_law_pen") (st := s_l_pen) (List.mem_of_getElem? (show fn[7]? = some (dG "_law_pen" s_l_pen) from rfl))
  obtain ⟨fd_l_book, F_l_book⟩ := c.fG (x := "_law_book") (st := s_l_book) (List.mem_of_getElem? (show fn[8]? = some (dG "_law_book" s_l_book) from rfl))
  obtain ⟨fd_l_beside, F_l_beside⟩ := c.fG (x := "_law_beside") (st := s_l_beside) (List.mem_of_getElem? (show fn[9]? = some (dG "_law_beside" s_l_beside) from rfl))
  obtain ⟨fd_l_dissolving, F_l_dissolving⟩ := c.fG (x := "_law_dissolving") (st := s_l_dissolving) (List.mem_of_getElem? (show fn[10]? = some (dG "_law_dissolving" s_l_dissolving) from rfl))
  obtain ⟨fd_l_joined, F_l_joined⟩ := c.fG (x := "_law_joined") (st := s_l_joined) (List.mem_of_getElem? (show fn[11]? = some (dG "_law_joined" s_l_joined) from rfl))
  obtain ⟨fd_l_wrong, F_l_wrong⟩ := c.fG (x := "_law_wrong") (st := s_l_wrong) (List.mem_of_getElem? (show fn[12]? = some (dG "_law_wrong" s_l_wrong) from rfl))
  obtain ⟨fd_l_heard, F_l_heard⟩ := c.fG (x := "_law_heard") (st := s_l_heard) (List.mem_of_getElem? (show fn[13]? = some (dG "_law_heard" s_l_heard) from rfl))
  obtain ⟨fd_l_right, F_l_right⟩ := c.fG (x := "_law_right") (st := s_l_right) (List.mem_of_getElem? (show fn[14]? = some (dG "_law_right" s_l_right) from rfl))
  obtain ⟨fd_l_lots, F_l_lots⟩ := c.fG (x := "_law_lots") (st := s_l_lots) (List.mem_of_getElem? (show fn[15]? = some (dG "_law_lots" s_l_lots) from rfl))
  obtain ⟨fd_law, F_law⟩ := c.fG (x := "law") (st := s_law) (List.mem_of_getElem? (show fn[16]? = some (dG "law" s_law) from rfl))
  obtain ⟨fd_is_word, F_is_word⟩ := c.fG (x := "is_word") (st := s_is_word) (List.mem_of_getElem? (show fn[17]? = some (dG "is_word" s_is_word) from rfl))
  obtain ⟨fd_is_integer, F_is_integer⟩ := c.fG (x := "is_integer") (st := s_is_integer) (List.mem_of_getElem? (show fn[18]? = some (dG "is_integer" s_is_integer) from rfl))
  obtain ⟨fd_need_books, F_need_books⟩ := c.fG (x := "need_books") (st := s_need_books) (List.mem_of_getElem? (show fn[19]? = some (dG "need_books" s_need_books) from rfl))
  obtain ⟨fd_beside, F_beside⟩ := c.fG (x := "beside") (st := s_beside) (List.mem_of_getElem? (show fn[20]? = some (dG "beside" s_beside) from rfl))
  obtain ⟨fd_dissolving, F_dissolving⟩ := c.fG (x := "dissolving") (st := s_dissolving) (List.mem_of_getElem? (show fn[21]? = some (dG "dissolving" s_dissolving) from rfl))
  have F_Group_init := c.fM (C := "Group") (m := "__init__") (qual := "Group.__init__") (st := s_Group_init) (List.mem_of_getElem? (show fn[22]? = some (dM "Group" "__init__" "Group.__init__" s_Group_init) from rfl))
  have F_Group_len := c.fM (C := "Group") (m := "__len__") (qual := "Group.__len__") (st := s_Group_len) (List.mem_of_getElem? (show fn[23]? = some (dM "Group" "__len__" "Group.__len__" s_Group_len) from rfl))
  have F_Group_and := c.fM (C := "Group") (m := "__and__") (qual := "Group.__and__") (st := s_Group_and) (List.mem_of_getElem? (show fn[24]? = some (dM "Group" "__and__" "Group.__and__" s_Group_and) from rfl))
  have F_Group_eq := c.fM (C := "Group") (m := "__eq__") (qual := "Group.__eq__") (st := s_Group_eq) (List.mem_of_getElem? (show fn[25]? = some (dM "Group" "__eq__" "Group.__eq__" s_Group_eq) from rfl))
  have F_Order_init := c.fM (C := "Order") (m := "__init__") (qual := "Order.__init__") (st := s_Order_init) (List.mem_of_getElem? (show fn[26]? = some (dM "Order" "__init__" "Order.__init__" s_Order_init) from rfl))
  have F_Order_invert := c.fM (C := "Order") (m := "__invert__") (qual := "Order.__invert__") (st := s_Order_invert) (List.mem_of_getElem? (show fn[27]? = some (dM "Order" "__invert__" "Order.__invert__" s_Order_invert) from rfl))
  have F_Order_add := c.fM (C := "Order") (m := "__add__") (qual := "Order.__add__") (st := s_Order_add) (List.mem_of_getElem? (show fn[28]? = some (dM "Order" "__add__" "Order.__add__" s_Order_add) from rfl))
  have F_Order_eq := c.fM (C := "Order") (m := "__eq__") (qual := "Order.__eq__") (st := s_Order_eq) (List.mem_of_getElem? (show fn[29]? = some (dM "Order" "__eq__" "Order.__eq__" s_Order_eq) from rfl))
  have F_Book_init := c.fM (C := "Book") (m := "__init__") (qual := "Book.__init__") (st := s_Book_init) (List.mem_of_getElem? (show fn[30]? = some (dM "Book" "__init__" "Book.__init__" s_Book_init) from rfl))
  have F_Book_need_words := c.fM (C := "Book") (m := "need_words") (qual := "Book.need_words") (st := s_Book_need_words) (List.mem_of_getElem? (show fn[31]? = some (dM "Book" "need_words" "Book.need_words" s_Book_need_words) from rfl))
  have F_Book_need_place := c.fM (C := "Book") (m := "need_place") (qual := "Book.need_place") (st := s_Book_need_place) (List.mem_of_getElem? (show fn[32]? = some (dM "Book" "need_place" "Book.need_place" s_Book_need_place) from rfl))
  have F_Book_change := c.fM (C := "Book") (m := "change") (qual := "Book.change") (st := s_Book_change) (List.mem_of_getElem? (show fn[33]? = some (dM "Book" "change" "Book.change" s_Book_change) from rfl))
  have F_Book_turn := c.fM (C := "Book") (m := "turn") (qual := "Book.turn") (st := s_Book_turn) (List.mem_of_getElem? (show fn[34]? = some (dM "Book" "turn" "Book.turn" s_Book_turn) from rfl))
  have F_Book_len := c.fM (C := "Book") (m := "__len__") (qual := "Book.__len__") (st := s_Book_len) (List.mem_of_getElem? (show fn[35]? = some (dM "Book" "__len__" "Book.__len__" s_Book_len) from rfl))
  have F_Book_getitem := c.fM (C := "Book") (m := "__getitem__") (qual := "Book.__getitem__") (st := s_Book_getitem) (List.mem_of_getElem? (show fn[36]? = some (dM "Book" "__getitem__" "Book.__getitem__" s_Book_getitem) from rfl))
  have F_Book_add := c.fM (C := "Book") (m := "__add__") (qual := "Book.__add__") (st := s_Book_add) (List.mem_of_getElem? (show fn[37]? = some (dM "Book" "__add__" "Book.__add__" s_Book_add) from rfl))
  have F_Book_eq := c.fM (C := "Book") (m := "__eq__") (qual := "Book.__eq__") (st := s_Book_eq) (List.mem_of_getElem? (show fn[38]? = some (dM "Book" "__eq__" "Book.__eq__" s_Book_eq) from rfl))
  have F_Order_of := c.fW (T := "classmethod") (C := "Order") (m := "of") (qual := "Order.of") (st := s_Order_of) (List.mem_of_getElem? (show fn[39]? = some (dW "classmethod" "Order" "of" "Order.of" s_Order_of) from rfl))
  have F_Book_of := c.fW (T := "classmethod") (C := "Book") (m := "of") (qual := "Book.of") (st := s_Book_of) (List.mem_of_getElem? (show fn[40]? = some (dW "classmethod" "Book" "of" "Book.of" s_Book_of) from rfl))
  have F_Book_changes := c.fW (T := "property") (C := "Book") (m := "changes") (qual := "Book.changes") (st := s_Book_changes) (List.mem_of_getElem? (show fn[41]? = some (dW "property" "Book" "changes" "Book.changes" s_Book_changes) from rfl))
  have B : TxB mg := ⟨(He.free_ok X G (c.fact (List.mem_of_getElem? (show fa[0]? = some (.free "int") from rfl)))), (He.free_ok X G (c.fact (List.mem_of_getElem? (show fa[1]? = some (.free "len") from rfl)))), (He.free_ok X G (c.fact (List.mem_of_getElem? (show fa[2]? = some (.free "abs") from rfl)))), (He.free_ok X G (c.fact (List.mem_of_getElem? (show fa[3]? = some (.free "list") from rfl)))), (He.free_ok X G (c.fact (List.mem_of_getElem? (show fa[4]? = some (.free "tuple") from rfl)))), (He.free_ok X G (c.fact (List.mem_of_getElem? (show fa[5]? = some (.free "str") from rfl)))), (He.free_ok X G (c.fact (List.mem_of_getElem? (show fa[6]? = some (.free "set") from rfl)))), (He.free_ok X G (c.fact (List.mem_of_getElem? (show fa[7]? = some (.free "min") from rfl)))), (He.free_ok X G (c.fact (List.mem_of_getElem? (show fa[8]? = some (.free "range") from rfl)))), (He.free_ok X G (c.fact (List.mem_of_getElem? (show fa[9]? = some (.free "enumerate") from rfl)))), (He.free_ok X G (c.fact (List.mem_of_getElem? (show fa[10]? = some (.free "zip") from rfl)))), (He.free_ok X G (c.fact (List.mem_of_getElem? (show fa[11]? = some (.free "sorted") from rfl)))), (He.free_ok X G (c.fact (List.mem_of_getElem? (show fa[12]? = some (.free "all") from rfl)))), (He.free_ok X G (c.fact (List.mem_of_getElem? (show fa[13]? = some (.free "repr") from rfl)))), (He.free_ok X G (c.fact (List.mem_of_getElem? (show fa[14]? = some (.free "isinstance") from rfl)))), (He.free_ok X G (c.fact (List.mem_of_getElem? (show fa[15]? = some (.free "super") from rfl)))), (He.free_ok X G (c.fact (List.mem_of_getElem? (show fa[16]? = some (.free "ValueError") from rfl))))⟩
  have Tp : TxP K mg _ _ _ := ⟨(He.glo_ok X G (c.fact (List.mem_of_getElem? (show fa[18]? = some (.glo "_law_draw") from rfl)))), (He.glo_ok X G (c.fact (List.mem_of_getElem? (show fa[19]? = some (.glo "_law_pick") from rfl)))), (He.glo_ok X G (c.fact (List.mem_of_getElem? (show fa[20]? = some (.glo "_law_shuffled") from rfl)))), F_l_draw.kp, F_l_pick.kp, F_l_shuffled.kp, ⟨_, F_l_draw⟩, ⟨_, F_l_pick⟩, ⟨_, F_l_shuffled⟩⟩
  have Tw : TxW K mg _ := ⟨(He.glo_ok X G (c.fact (List.mem_of_getElem? (show fa[21]? = some (.glo "_law_words") from rfl)))), F_l_words.kp, ⟨_, F_l_words⟩⟩
  have W : TxN K mg _ _ _ := ⟨(He.glo_ok X G (c.fact (List.mem_of_getElem? (show fa[22]? = some (.glo "_law_nested") from rfl)))), F_l_nested.kp, ⟨_, F_l_nested⟩, (He.glo_ok X G (c.fact (List.mem_of_getElem? (show fa[23]? = some (.glo "_law_flat") from rfl)))), F_l_flat.kp, ⟨_, F_l_flat⟩, (He.glo_ok X G (c.fact (List.mem_of_getElem? (show fa[24]? = some (.glo "_law_rows") from rfl)))), F_l_rows.kp, ⟨_, F_l_rows⟩⟩
  obtain ⟨tL, hL⟩ := He.str_ok X G (c.fact (List.mem_of_getElem? (show fa[50]? = some (.str "LETTERS" "abcdefghijklmnopqrstuvwxyz") from rfl)))
  obtain ⟨tM, hM⟩ := He.int_ok X G (c.fact (List.mem_of_getElem? (show fa[49]? = some (.int "MOST_WORDS" 24) from rfl)))
  obtain ⟨tO, hO⟩ := He.int_ok X G (c.fact (List.mem_of_getElem? (show fa[51]? = some (.int "MOST_ORDERS" 8) from rfl)))
  have Tg : TxG K mg tL tM _ _ _ _ _ _ := { g_LETTERS := hL, g_MOST_WORDS := hM, g_is_word := (He.glo_ok X G (c.fact (List.mem_of_getElem? (show fa[34]? = some (.glo "is_word") from rfl)))), k_is_word := F_is_word.kp, F_is_word := ⟨_, F_is_word⟩, g_Group := (He.glo_ok X G (c.fact (List.mem_of_getElem? (show fa[40]? = some (.glo "Group") from rfl)))), cl := (of_decide_eq_true (all_at hex 0 rfl)), mak := (of_decide_eq_true (all_at hex 1 rfl)), sf := (of_decide_eq_true (all_at hex 2 rfl)), row := (of_decide_eq_true (all_at hex 3 rfl)), ca := (of_decide_eq_true (all_at hex 4 rfl)), cn := (of_decide_eq_true (all_at hex 5 rfl)), ct := (of_decide_eq_true (all_at hex 6 rfl)), cm := (of_decide_eq_true (all_at hex 7 rfl)), isi := (of_decide_eq_true (all_at hex 8 rfl)), isl := (of_decide_eq_true (all_at hex 9 rfl)), len := (of_decide_eq_true (all_at hex 34 rfl)), and := (of_decide_eq_true (all_at hex 35 rfl)), eq := (of_decide_eq_true (all_at hex 36 rfl)), ne := (of_decide_eq_true (all_at hex 44 rfl)), F_init := F_Group_init, F_len := F_Group_len, F_and := F_Group_and, F_eq := F_Group_eq }
  have O : TxO K mg _ _ (.type "type") _ _ _ _ _ := { g_Order := (He.glo_ok X G (c.fact (List.mem_of_getElem? (show fa[41]? = some (.glo "Order") from rfl)))), cl := (of_decide_eq_true (all_at hex 10 rfl)), mak := (of_decide_eq_true (all_at hex 11 rfl)), sf := (of_decide_eq_true (all_at hex 12 rfl)), row := (of_decide_eq_true (all_at hex 13 rfl)), group := (of_decide_eq_true (all_at hex 14 rfl)), place_of := (of_decide_eq_true (all_at hex 15 rfl)), ca := (of_decide_eq_true (all_at hex 16 rfl)), cn := (of_decide_eq_true (all_at hex 17 rfl)), ct := (of_decide_eq_true (all_at hex 18 rfl)), cm := (of_decide_eq_true (all_at hex 19 rfl)), isi := (of_decide_eq_true (all_at hex 20 rfl)), isl := (of_decide_eq_true (all_at hex 21 rfl)), inv := (of_decide_eq_true (all_at hex 37 rfl)), add := (of_decide_eq_true (all_at hex 38 rfl)), eq := (of_decide_eq_true (all_at hex 39 rfl)), rd := (of_decide_eq_true (all_at hex 46 rfl)), ofm := cmB_ok (all_at hex 47 rfl), F_init := F_Order_init, F_of := F_Order_of, F_inv := F_Order_invert, F_add := F_Order_add, F_eq := F_Order_eq }
  have Bk : TxBk K mg tO (ga K "Group") (ga K "Order") (ga K "Book") _ _ _ _ _ _ _ _ _ _ _ _ _ _ (.type "type") := { n_bool := (He.free_ok X G (c.fact (List.mem_of_getElem? (show fa[17]? = some (.free "bool") from rfl)))), g_Book := (He.glo_ok X G (c.fact (List.mem_of_getElem? (show fa[42]? = some (.glo "Book") from rfl)))), g_MOST_ORDERS := hO, g_is_integer := (He.glo_ok X G (c.fact (List.mem_of_getElem? (show fa[35]? = some (.glo "is_integer") from rfl)))), k_is_integer := F_is_integer.kp, F_is_integer := ⟨_, F_is_integer⟩, cl := (of_decide_eq_true (all_at hex 22 rfl)), mak := (of_decide_eq_true (all_at hex 23 rfl)), sf := (of_decide_eq_true (all_at hex 24 rfl)), group := (of_decide_eq_true (all_at hex 25 rfl)), held := (of_decide_eq_true (all_at hex 26 rfl)), past := (of_decide_eq_true (all_at hex 27 rfl)), ca := (of_decide_eq_true (all_at hex 28 rfl)), cn := (of_decide_eq_true (all_at hex 29 rfl)), ct := (of_decide_eq_true (all_at hex 30 rfl)), cm := (of_decide_eq_true (all_at hex 31 rfl)), isi := (of_decide_eq_true (all_at hex 32 rfl)), isl := (of_decide_eq_true (all_at hex 33 rfl)), len := (of_decide_eq_true (all_at hex 40 rfl)), ix := (of_decide_eq_true (all_at hex 41 rfl)), add := (of_decide_eq_true (all_at hex 42 rfl)), eq := (of_decide_eq_true (all_at hex 43 rfl)), ne := (of_decide_eq_true (all_at hex 45 rfl)), rd := (of_decide_eq_true (all_at hex 48 rfl)), ofm := cmB_ok (all_at hex 49 rfl), chs := prB_ok (all_at hex 50 rfl), m_need_words := (of_decide_eq_true (all_at hex 51 rfl)), m_need_place := (of_decide_eq_true (all_at hex 52 rfl)), m_change := (of_decide_eq_true (all_at hex 53 rfl)), m_turn := (of_decide_eq_true (all_at hex 54 rfl)), nG := (of_decide_eq_true (all_at hex 55 rfl)), nO := (of_decide_eq_true (all_at hex 56 rfl)), F_init := F_Book_init, F_of := F_Book_of, F_changes := F_Book_changes, F_need_words := F_Book_need_words, F_need_place := F_Book_need_place, F_change := F_Book_change, F_turn := F_Book_turn, F_len := F_Book_len, F_getitem := F_Book_getitem, F_add := F_Book_add, F_eq := F_Book_eq }
  have htop : (PP.main.scope.names.lookup ("super" : Str)).isSome = false := by decide +kernel
  have Er : TxEr PP K mg _ _ _ _ _ _ _ _ := ⟨c.err (d := d_BadBook) (List.mem_of_getElem? (show er[0]? = some d_BadBook from rfl)) t_BadBook htop, c.err (d := d_Unlike) (List.mem_of_getElem? (show er[1]? = some d_Unlike from rfl)) t_Unlike htop, c.err (d := d_Taken) (List.mem_of_getElem? (show er[2]? = some d_Taken from rfl)) t_Taken htop, c.err (d := d_TooMany) (List.mem_of_getElem? (show er[3]? = some d_TooMany from rfl)) t_TooMany htop, (He.glo_ok X G (c.fact (List.mem_of_getElem? (show fa[43]? = some (.glo "BadBook") from rfl)))), (He.glo_ok X G (c.fact (List.mem_of_getElem? (show fa[44]? = some (.glo "Unlike") from rfl)))), (He.glo_ok X G (c.fact (List.mem_of_getElem? (show fa[45]? = some (.glo "Taken") from rfl)))), (He.glo_ok X G (c.fact (List.mem_of_getElem? (show fa[46]? = some (.glo "TooMany") from rfl))))⟩
  have S : TxBs K mg _ _ _ _ := ⟨(He.glo_ok X G (c.fact (List.mem_of_getElem? (show fa[36]? = some (.glo "need_books") from rfl)))), F_need_books.kp, ⟨_, F_need_books⟩, (He.glo_ok X G (c.fact (List.mem_of_getElem? (show fa[37]? = some (.glo "beside") from rfl)))), F_beside.kp, ⟨_, F_beside⟩, (He.glo_ok X G (c.fact (List.mem_of_getElem? (show fa[38]? = some (.glo "dissolving") from rfl)))), F_dissolving.kp, ⟨_, F_dissolving⟩, (He.glo_ok X G (c.fact (List.mem_of_getElem? (show fa[39]? = some (.glo "tree_of") from rfl)))), He.keep_ok (c.fact (List.mem_of_getElem? (show fa[52]? = some (.keep "tree_of") from rfl)))⟩
  have L : TxLb K mg _ _ _ _ _ := ⟨(He.glo_ok X G (c.fact (List.mem_of_getElem? (show fa[25]? = some (.glo "_law_pen") from rfl)))), F_l_pen.kp, ⟨_, F_l_pen⟩, (He.glo_ok X G (c.fact (List.mem_of_getElem? (show fa[26]? = some (.glo "_law_book") from rfl)))), F_l_book.kp, ⟨_, F_l_book⟩, (He.glo_ok X G (c.fact (List.mem_of_getElem? (show fa[27]? = some (.glo "_law_beside") from rfl)))), F_l_beside.kp, ⟨_, F_l_beside⟩, (He.glo_ok X G (c.fact (List.mem_of_getElem? (show fa[28]? = some (.glo "_law_dissolving") from rfl)))), F_l_dissolving.kp, ⟨_, F_l_dissolving⟩, (He.glo_ok X G (c.fact (List.mem_of_getElem? (show fa[29]? = some (.glo "_law_joined") from rfl)))), F_l_joined.kp, ⟨_, F_l_joined⟩⟩
  have Eh : TxH K mg _ _ _ _ _ := { g_PhraseError := (He.glo_ok X G (c.fact (List.mem_of_getElem? (show fa[47]? = some (.glo "PhraseError") from rfl)))), n_ValueError := (He.free_ok X G (c.fact (List.mem_of_getElem? (show fa[16]? = some (.free "ValueError") from rfl)))), xf_BadBook := (of_decide_eq_true (all_at hex 57 rfl)), xf_Unlike := (of_decide_eq_true (all_at hex 59 rfl)), xf_Taken := (of_decide_eq_true (all_at hex 61 rfl)), xf_TooMany := (of_decide_eq_true (all_at hex 63 rfl)), no_at := (of_decide_eq_true (all_at hex 58 rfl)), no_part := (of_decide_eq_true (all_at hex 60 rfl)), no_word := (of_decide_eq_true (all_at hex 62 rfl)), no_what := (of_decide_eq_true (all_at hex 64 rfl)), no_most := (of_decide_eq_true (all_at hex 65 rfl)), ec := (of_decide_eq_true (all_at hex 66 rfl)), nd := (of_decide_eq_true (all_at hex 67 rfl)) }
  have R : TxR K mg _ _ := ⟨(He.glo_ok X G (c.fact (List.mem_of_getElem? (show fa[30]? = some (.glo "_law_wrong") from rfl)))), F_l_wrong.kp, ⟨_, F_l_wrong⟩, (He.glo_ok X G (c.fact (List.mem_of_getElem? (show fa[31]? = some (.glo "_law_heard") from rfl)))), F_l_heard.kp, ⟨_, F_l_heard⟩⟩
  have Y : TxY K mg (ga K "Group") (ga K "Order") (ga K "Book") _ := ⟨(He.glo_ok X G (c.fact (List.mem_of_getElem? (show fa[33]? = some (.glo "_law_lots") from rfl)))), F_l_lots.kp, ⟨_, F_l_lots⟩, (of_decide_eq_true (all_at hex 68 rfl))⟩
  have Z : TxZ K mg _ _ := ⟨(He.glo_ok X G (c.fact (List.mem_of_getElem? (show fa[32]? = some (.glo "_law_right") from rfl)))), F_l_right.kp, ⟨_, funC_of F_l_right⟩⟩
  have e := hfa.symm.trans (He.glo_ok X G (c.fact (List.mem_of_getElem? (show fa[48]? = some (.glo "law") from rfl))))
  cases e
  obtain ⟨fdl, FD0⟩ := c.def_ (d := dG "law" s_law) (List.mem_of_getElem? (show fn[16]? = some (dG "law" s_law) from rfl))
  have FD : FunD K "law" "law" (defArgs s_law) (defBody s_law) (defScope s_law) [] [] (ga K "law") fdl := FD0
  have FF := He5.fun_of FD
  have FL := funC_of FF
  have hR : (("_law_right", none) : He.Defn) ∈ tf := List.mem_of_getElem? (show tf[0]? = some _ from rfl)
  have hLw : (("law", none) : He.Defn) ∈ tf := List.mem_of_getElem? (show tf[1]? = some _ from rfl)
  have cs : ∀ p ∈ [cT K ("_law_right", none), cT K ("law", none)], ∃ q ∈ tf, p = cT K q := fun p hp => by
    rcases List.mem_cons.mp hp with rfl | hp
    · exact ⟨_, hR, rfl⟩
    · rw [List.mem_singleton.mp hp]
      exact ⟨_, hLw, rfl⟩
  have b := FunD.bindsA (ps := ["_law_script"]) FD fun _ _ _ _ _ _ us hl => match us, hl with | [_], _ => rfl
  refine ⟨fdl, [cT K ("_law_right", none), cT K ("law", none)], spLaw K [((cT K ("_law_right", none)).2, qR), ((cT K ("law", none)).2, qL)], fun p hp => ?_, fun p hp => ?_, fun p hp => ?_, fun s u => b s [u] rfl, fun H a ns hl hb hT hS => ?_, fun base KX hns TB => ?_⟩
  · obtain ⟨q, hq, rfl⟩ := cs p hp
    exact c.empty q hq
  · obtain ⟨q, hq, rfl⟩ := cs p hp
    exact c.out q hq
  · obtain ⟨q, hq, rfl⟩ := cs p hp
    exact PySem.W.codeHd_of_K X (c.hd q hq)
  · refine ⟨a, ns, rfl, hS, fun p hp => ?_, fun _ => rfl⟩
    rcases List.mem_cons.mp hp with rfl | hp
    · exact LamX.TabS.nil (hT _ List.mem_cons_self)
    · rw [List.mem_singleton.mp hp]
      exact LamX.TabS.nil (hT _ (List.mem_cons_of_mem _ List.mem_cons_self))
  · exact ok_law B Tp Tw W Tg O Bk Er S L Eh R Y Z FL (TB _ List.mem_cons_self) (TB _ (List.mem_cons_of_mem _ List.mem_cons_self)) (of_decide_eq_true (all_at hex 69 rfl))
end
end Kq
open PySem PySem.W PySem.Calls PyProof.Rows
set_option maxRecDepth 100000 in
set_option maxHeartbeats 0 in
theorem PySem.Challenge.cw_keptphrases_k78_books_beside_books_holds : PySem.Challenge.rw_keptphrases_k78_books_beside_books.Holds := by
  w_on; o_law
  refine HandSHeadRun.head_any (r := OpenLaw.row PySem.Challenge.rw_keptphrases_k78_books_beside_books) (q := view (OpenLaw.row PySem.Challenge.rw_keptphrases_k78_books_beside_books).prog [94]) (H := Kq.hk) (ob := Kq.ob) (M := 20000) (loose := Kq.names) (d := HandSHeadRun.topDef (OpenLaw.row PySem.Challenge.rw_keptphrases_k78_books_beside_books).prog 94) (kwd := []) Kq.ob_eq
    (by kernel_rfl) (fun s => by kernel_rfl) Kq.run (by kernel_rfl) (by kernel_rfl) (by kernel_rfl) (by rfl) (by first | assumption | decide +kernel) (by decide +kernel) ⟨rfl, rfl, rfl, rfl, rfl, by decide +kernel⟩ ?hw ?hc
  case hw => w_witness2
  case hc =>
    refine LamX.walk_ofTsE (l := PySem.Challenge.rw_keptphrases_k78_books_beside_books) (n := 63) (k := 60) (x := "_law_script") (CX := fun w => L2.CX (PySem.Challenge.rw_keptphrases_k78_books_beside_books).prog w) rfl (by decide) (by kernel_rfl) ⟨rfl, by decide, by decide⟩ ?F (fun w H s e s' z => by
      obtain ⟨_, _, _, _, _, _, _, _, _, _, _, _, z⟩ := z
      exact z)
    intro w mg fa h Y G hmg0
    obtain ⟨K, KX, c⟩ := Y
    have hmg : mg ("law" : PySem.Str) = some (.ref fa) := by
      have e : (HandSHeadRun.topDef (OpenLaw.row PySem.Challenge.rw_keptphrases_k78_books_beside_books).prog 94).name = ("law" : PySem.Str) := by kernel_rfl
      rw [← e]
      exact hmg0
    exact ⟨K, KX, Kq.facts KX G hmg c⟩
