import PyProof.Rows.All
import Wide.All
import OpenK.AllK
import Wide.FinOn
import PyProof.EqAt
import PyProof.EqKinds
import PyProof.TupleCall
import KE.KStar
import KE.KOpsOwn
import HandS.ForMost
import HandS.ForExc
import HandS.More
import HandS.Star
import HandS.ClsMeth
import HandS.Property
import HandS.IsInst
import HandS.OwnEq
import HandS.WordsExc
import HandS.SlotsOwn
import HandS.Wide
import HandS.Rev
import HandS.RevTup
import HandS.Flow
import HandS.Evl
import KE.KFromBytes
import KE.KExcSuper
import KE.KSuper
import HandS.ExcIs
import HandS.ExcField
import HandS.ExcSuper
import KE.KIsAll
import HandS.RaiseMore
import KE.KStateDown
import HandS.Defaults
import HandS.Lambda
import HandS.EndTab
import HandS.HeadEnd
import HandS.HeadHook1
import HandS.HeadHook2
import HandS.HeadHook3
import HandS.HeadHook4
import HandS.HeadNt
import HandS.HeadWalk
import HandS.Head0
import HandS.Head1
import HandS.Head2
import Lean
import HandS.Zip
import HandS.Style
import KE.KDictPairs
import KE.KDictDisplayH
import HandS.Conv
import HandS.Iter
import HandS.Deep
import HandS.DictTup
import HandS.TupAny
import HandS.Walk
import HandS.Text
import HandS.MakeKwOnly
import HandS.ListEq
import HandS.Set
import HandS.SetFor
import HandS.Strs
import KE.GoesMore
import KE.GoesEnum
import HandS.DictComp
import KE.SortKeyHeap
import KE.KSortKey
import KE.GoesComp
import PyProof.Rows.CountFlat
import KE.KEqNest
import PySem.Challenge.RW_keptphrases_k83_chains_and_bars
set_option Elab.async false
set_option linter.all false
set_option maxRecDepth 100000
set_option maxHeartbeats 2000000
/-! Calls and operators of own classes by positional promises (FnR), over the modules HandS. -/
namespace Kp
open PySem PySem.Spec PyProof.Rows L2

/-! ### a def's positional promise from its body -/
section
variable {P : Program} {w : World} {K : PySem.W.Frag} {mg : Str → Option Value} {base : Heap} {x qual : Str} {st : Stmt} {f : Addr} {fd : FuncData} {N ps : List Str} {k : Nat} {sp : Sp}
/-- the body's promise -/
def BodyX (P : Program) (w : World) (K : PySem.W.Frag) (mg : Str → Option Value) (base : Heap) (qual : Str) (st : Stmt) (f : Addr) (N : List Str) (k : Nat) (sp : Sp) : Prop :=
  ∀ (cdv : Value) (A : Around) (outer : List Env) (s : Shared) (H : Hp) (vs : List V) (Q : VK) (E : XK), Room k (A.deeper (envOfC qual (defScope st) s.heap.objs.size f cdv)) → sp vs H Q E →
    ∃ t, PSs (cxOf (L2.CX P w) P w K mg base N qual (defScope st) f cdv A outer s H E) (defBody st) t ∧ t { nx := fun _ H' => Q .non H', rt := Q } (start N vs) H
abbrev BindN (x qual : Str) (st : Stmt) (ps : List Str) : Prop := ∀ (kV doc pm : Value) (an : Option Addr) (cdv ct : Value) (us : List Value), us.length = ps.length →
  bindArgs (PySem.W.fnOf x qual (defArgs st) (defBody st) (defScope st) .none kV doc pm an cdv ct) ⟨us, []⟩ = pure (ps.zip us)
abbrev BindS (x qual : Str) (st : Stmt) (ps : List Str) (pv : Str) : Prop := ∀ (kV doc pm : Value) (an : Option Addr) (cdv ct : Value) (us rest : List Value), us.length = ps.length →
  bindArgs (PySem.W.fnOf x qual (defArgs st) (defBody st) (defScope st) .none kV doc pm an cdv ct) ⟨us ++ rest, []⟩ = (newTuple rest >>= fun t => pure (ps.zip us ++ [(pv, t)]))
theorem fnP (F : Fun K x qual st f fd) (S : FnScope N ps (defScope st)) (hb : BindN x qual st ps) (len : ∀ vs H Q E, sp vs H Q E → vs.length = ps.length) (hbody : BodyX P w K mg base qual st f N k sp) :
    FnR P w K mg base (L2.CX P w) (k + 1) f sp :=
  ((F.okX S len hbody).raw (F.binds hb) .nil).imp fun vs H Q E h => by rw [List.append_nil]; exact h
/-- the promise of a def with a star parameter, told of what the caller hands: n ahead, then the rest -/
def spStar (n : Nat) (sp : Sp) : Sp := fun vs H Q E => ∃ ws rest, vs = ws ++ rest ∧ ws.length = n ∧ rest.length ≤ sizeLine ∧ ∀ p, H p = Option.none → sp (ws ++ [V.ref p]) (upd H p (.tup rest)) Q E
theorem fnS {pv : Str} (F : Fun K x qual st f fd) (S : FnScope N (ps ++ [pv]) (defScope st)) (hb : BindS x qual st ps pv) (hbody : BodyX P w K mg base qual st f N k sp) :
    FnR P w K mg base (L2.CX P w) (k + 1) f (spStar ps.length sp) := by
  obtain ⟨oc, od, kV, doc, pm, an, cdv, ct, osl, rfl, lk, hcd⟩ := F.ex
  exact StX.fn_star lk hcd S StX.cxUp (hb kV doc pm an cdv ct) fun A outer s H vs Q E hr hsp => hbody cdv A outer s H vs Q E hr hsp
theorem bind_star0 {B : List Value → Sem (List (Str × Value))} {pv : Str} (h0 : B [] = (newTuple [] >>= fun t => pure [(pv, t)])) (h1 : ∀ r rs, B (r :: rs) = (newTuple (r :: rs) >>= fun t => pure [(pv, t)])) :
    ∀ us rest : List Value, us.length = ([] : List Str).length → B (us ++ rest) = (newTuple rest >>= fun t => pure (([] : List Str).zip us ++ [(pv, t)]))
  | [], [], _ => h0
  | [], r :: rs, _ => h1 r rs
end

section
variable {X : Cx} {pins : List (Addr × Obj)} {σ : L2.St} {H : Hp} {s : Shared} {k i : Nat} {f g C D : Addr} {sp : Sp} {E : XK} {x m a : Str} {e o b : Expr} {es : List Expr} {te ta tb : TE} {t : TA} {p pos apos sp_ sp2 : Pos}
abbrev FX (X : Cx) (k : Nat) (f : Addr) (sp : Sp) : Prop := FnR X.prog X.w X.K X.mg X.base (L2.CX X.prog X.w) k f sp
abbrev PsX (X : Cx) (E : XK) : Prop := Passes (L2.CX X.prog X.w) X E

/-! ### calls of defs -/
def tCallR (sp : Sp) (E : XK) (t : TA) : TE := fun σ H Q => t σ H fun vs H1 => sp vs H1 Q E
theorem pe_callR (F : FX X k f sp) (hr : Room k X.A) (hk : PySem.W.keepIn X.K (.ref f) = true) (hg : Gl X x) (hm : X.mg x = some (.ref f)) (hx : PsX X E) (ha : PA X (e :: es) t) (hd : (x == ("__debug__" : Str)) = false := by decide)
    (he : starEach (e :: es) X.env = (false, eval e X.env) :: starEach es X.env := by rfl) (hpl : (backTo pos (starEach es X.env)).any (·.1) = false := by rfl) :
    PE X (.Call (.Name x p) (e :: es) [] pos) (tCallR sp E t) := by
  refine ⟨fun pins s σ H Q I h => ?_⟩
  refine wpAny_Call_Name_kw (ld_glob I hg hm ?_ hd)
  refine PySem.W.callWith_K (h₀ := X.base) I.ok.mod.kin hk (thn (ha.run pos pins s σ H _ I h) fun us s1 ⟨vs, H1, I1, r, q⟩ => ⟨I1.kIn, ?_⟩) he hpl
  exact wpAny_call (run_fnR F hr hx I1 r q)
/-- C(e, ..): the class at C by its name -/
theorem pe_mkR (M : Mk X.K C f) (F : FX X k f sp) (hr : Room (k + 1) X.A) (hg : Gl X x) (hm : X.mg x = some (.ref C)) (hx : PsX X E) (ha : PA X (e :: es) t) (hdb : (x == ("__debug__" : Str)) = false := by decide)
    (he : starEach (e :: es) X.env = (false, eval e X.env) :: starEach es X.env := by rfl) (hpl : (backTo pos (starEach es X.env)).any (·.1) = false := by rfl) : PE X (.Call (.Name x p) (e :: es) [] pos) (StX.tMakeR C sp E t) :=
  StX.pe_makeR M F hr hg hm hx ha hdb he hpl
/-- what a made instance's promise asks -/
def mkSp (C : Addr) (sp : Sp) (E : XK) : List V → Hp → VK → Prop := fun vs H Q => ∀ x dx, H x = Option.none → H dx = Option.none → dx ≠ x →
  sp (V.ref x :: vs) (upd (upd H dx (.own x)) x (.ins C dx [])) (fun v H2 => v = .non ∧ Q (.ref x) H2) E
/-- C( *y ) -/
def tMkS1 (K : PySem.W.Frag) (C : Addr) (sp : Sp) (E : XK) (te : TE) : TE := fun σ H Q => te σ H fun y H1 => ∃ a xs, y = V.ref a ∧ (SqT K H1 a xs ∨ SqL K H1 a xs) ∧ mkSp C sp E xs H1 Q
theorem pe_mkS1 (M : Mk X.K C f) (F : FX X k f sp) (hr : Room (k + 1) X.A) (hg : Gl X x) (hm : X.mg x = some (.ref C)) (hx : PsX X E) (he : PE X e te) (hd : (x == ("__debug__" : Str)) = false := by decide)
    (hst : starEach [.Starred e sp_] X.env = [(true, eval e X.env)] := by rfl) : PE X (.Call (.Name x p) [.Starred e sp_] [] pos) (tMkS1 X.K C sp E te) := by
  refine ⟨fun pins s σ H Q I h => ?_⟩
  refine wpAny_Call_Name_kw (ld_glob I hg hm ?_ hd)
  refine PySem.W.callWith_S (h₀ := X.base) I.ok.mod.kin M.kp (thn (he.run pins s σ H _ I h) fun v s1 ⟨y, H1, I1, ry, a, xs, ey, hxs, q⟩ => ?_) hst
  subst ey
  obtain rfl : v = Value.ref a := ry
  exact StX.star_any I1 hxs fun us s2 I2 rv => ⟨I2.kIn, StX.run_makeR M F hr hx I2 rv q⟩
/-- cls( *y ), cls a slot that holds the class at C -/
def tClsS1 (K : PySem.W.Frag) (i : Nat) (C : Addr) (sp : Sp) (E : XK) (te : TE) : TE := fun σ H Q => σ[i]? = some (some (V.ref C)) ∧ tMkS1 K C sp E te σ H Q
theorem pe_clsS1 (M : Mk X.K C f) (F : FX X k f sp) (hr : Room (k + 1) X.A) (hx : PsX X E) (he : PE X e te) (hN : X.N[i]? = some x := by rfl) (hv : Vis X.env.scope x := by first | exact Or.inl rfl | exact Or.inr (Or.inl rfl) | exact Or.inr (Or.inr rfl)) (hd : (x == ("__debug__" : Str)) = false := by decide)
    (hcd : (x == ("__classdict__" : Str)) = false := by decide)
    (hst : starEach [.Starred e sp_] X.env = [(true, eval e X.env)] := by rfl) : PE X (.Call (.Name x p) [.Starred e sp_] [] pos) (tClsS1 X.K i C sp E te) := by
  refine ⟨fun pins s σ H Q I h => ?_⟩
  obtain ⟨hs, h⟩ := h
  refine wpAny_Call_Name_kw (thn ((pe_var (pos := p) (i := i) hN hv hd hcd).run pins s σ H (fun v H1 => v = .ref C ∧ H1 = H) I ⟨.ref C, hs, rfl, rfl⟩) fun u s1 ⟨v, H1, I1, r1, q1⟩ => ?_)
  obtain ⟨ev, eH⟩ := q1
  subst ev
  rw [eH] at I1
  obtain rfl : u = Value.ref C := r1
  refine PySem.W.callWith_S (h₀ := X.base) I1.ok.mod.kin M.kp (thn (he.run pins s1 σ H _ I1 h) fun v s2 ⟨y, H2, I2, ry, a, xs, ey, hxs, q⟩ => ?_) hst
  subst ey
  obtain rfl : v = Value.ref a := ry
  exact StX.star_any I2 hxs fun us s3 I3 rv => ⟨I3.kIn, StX.run_makeR M F hr hx I3 rv q⟩
/-! ### C( *x, .. ): the first argument starred, more behind it -/
theorem evalArgs_many {M : Model} {A : Around} {Ee : Value → Shared → Prop} {s : Shared} {f : Value} {y1 y2 : Bool × Sem Value} {rest : List (Bool × Sem Value)} {Q : Args → Shared → Prop}
    (h : wpAny M A (spliced (y1 :: y2 :: rest)) (fun vs s' => Q ⟨vs, []⟩ s') Ee s) : wpAny M A (evalArgs f true (y1 :: y2 :: rest) []) Q Ee s := by
  obtain ⟨b1, x1⟩ := y1
  cases b1 with
  | false => exact PySem.Calls.evalArgs_plain h
  | true =>
    unfold evalArgs
    show wpAny M A (spliced ((true, x1) :: y2 :: rest) >>= _) Q Ee s
    refine wpAny_bind (wpAny_mono h (fun vs s' h' => ?_) fun _ _ x => x)
    refine wpAny_holding ?_
    exact wpAny_bind (wpAny_pure (wpAny_bind (wpAny_pure (wpAny_pure h'))))
theorem callWith_SS {M : Model} {A : Around} {Ee : Value → Shared → Prop} {s : Shared} {K : PySem.W.Frag} {env : Env} {e1 e2 : Expr} {p1 p2 : Pos} {f : Value} {first : List Value} {Q : Value → Shared → Prop} {h₀ : Heap} (_X : K.In h₀) (hk : PySem.W.keepIn K f = true)
    (h : wpAny M A (spliced (backTo pos (starEach [.Starred e1 p1, .Starred e2 p2] env))) (fun vs s₁ => K.In s₁.heap ∧ wpAny M A (call f (first ++ vs)) Q Ee s₁) Ee s) :
    wpAny M A (callWith pos f first (backTo pos (starEach [.Starred e1 p1, .Starred e2 p2] env)) []) Q Ee s := by
  refine PySem.W.ks_call rfl (PySem.W.keeps_K hk) ?_
  exact evalArgs_many h
def tMk (C : Addr) (sp : Sp) (E : XK) (t : TA) : TE := fun σ H Q => t σ H fun vs H1 => mkSp C sp E vs H1 Q
theorem pe_mkSS {e1 e2 : Expr} {p1 p2 : Pos} (M : Mk X.K C f) (F : FX X k f sp) (hr : Room (k + 1) X.A) (hg : Gl X x) (hm : X.mg x = some (.ref C)) (hx : PsX X E) (ha : PA X [.Starred e1 p1, .Starred e2 p2] t) (hd : (x == ("__debug__" : Str)) = false := by decide) :
    PE X (.Call (.Name x p) [.Starred e1 p1, .Starred e2 p2] [] pos) (tMk C sp E t) := by
  refine ⟨fun pins s σ H Q I h => ?_⟩
  refine wpAny_Call_Name_kw (ld_glob I hg hm ?_ hd)
  refine callWith_SS (h₀ := X.base) I.ok.mod.kin M.kp (thn (ha.run pos pins s σ H _ I h) fun us s1 ⟨vs, H1, I1, r, q⟩ => ⟨I1.kIn, ?_⟩)
  exact StX.run_makeR M F hr hx I1 r q

/-! ### methods without arguments -/
def tMeth0 (C : Addr) (m : Str) (sp : Sp) (E : XK) (ta : TE) : TE := fun σ H Q => ta σ H fun x H1 => ∃ a dx fs, x = .ref a ∧ H1 a = some (.ins C dx fs) ∧ fs.lookup m = none ∧ sp [x] H1 Q E
theorem pe_methR0 {pl : Sem Bool} (he : PE X o ta) (c : Cls X.K C) (hm : Meth X.K C m f) (F : FX X k f sp) (hr : Room k X.A) (hx : PsX X E)
    (ht : eval (.Call (.Attribute o m apos) [] [] pos) X.env = (do
      let ov ← eval o X.env
      standAt apos.atName
      let (f, first) ← holding [ov] (getMethod ov m pl)
      callWith pos f first (backTo pos (starEach [] X.env)) (backToKw pos (keywordEach [] X.env))) := by rfl) :
    PE X (.Call (.Attribute o m apos) [] [] pos) (tMeth0 C m sp E ta) := by
  refine ⟨fun pins s σ H Q I h => ?_⟩
  refine PySem.W.methodCall_KW (pl := pl) (thn (he.run pins s σ H _ I h) fun u s1 ⟨x, H1, I1, rx, a, dx, fs, ex, ea, l, q⟩ => ?_) ht
  subst ex
  obtain rfl : u = Value.ref a := rx
  refine getmeth_ok I1 ea c hm l ?_
  exact PySem.W.callWith_K0 (first := [.ref a]) I1.kIn hm.kp (wpAny_call (run_fnR (us := [.ref a]) (vs := [.ref a]) F hr hx I1 (.cons rfl .nil) q))

/-! ### own operators -/
/-- what the class at C must have for its def m at f as an operator -/
structure OwnM (K : PySem.W.Frag) (C : Addr) (m : Str) (f : Addr) : Prop where
  at_ : PySem.W.findIn K (.ref C) m = some (some (.ref f))
  fn : PySem.W.isFn K (.ref f) = true
  fi : PySem.W.fnIn K f = true
/-- x op y, both instances of the class at C -/
def rBin (C : Addr) (sp : Sp) (E : XK) : R2 := fun x y H Q => ∃ a dx fs b dy gs, x = .ref a ∧ y = .ref b ∧ H a = some (.ins C dx fs) ∧ H b = some (.ins C dy gs) ∧ sp [.ref a, .ref b] H Q E
theorem op_bin {op : Operator} (hs : PySem.W.findIn X.K (.ref C) (PySem.dunder op.info.2) = some (some (.ref f))) (hf : PySem.W.isFn X.K (.ref f) = true) (hc : PySem.W.selfFirst X.K C = true) (F : FX X k f sp) (hr : Room k X.A) (hx : PsX X E) :
    OpR X (binaryOp op) (rBin C sp E) := by
  intro pins s σ H x y v u Q I rx ry h
  obtain ⟨a, dx, fs, b, dy, gs, rfl, rfl, ha, hb, q⟩ := h
  cases (show v = Value.ref a from rx)
  cases (show u = Value.ref b from ry)
  obtain ⟨mA, O, _⟩ := ins_get I.hok ha
  obtain ⟨mB, O', _⟩ := ins_get I.hok hb
  obtain ⟨od, J, _⟩ := O.look
  obtain ⟨od', J', _⟩ := O'.look
  obtain ⟨m, hF⟩ := I.fr
  refine PySem.W.binop_K hF I.ok.mod.kin J J'.type hc hs hf ?_
  refine wpAny_mono (wpAny_call (run_fnR (us := [.ref a, .ref b]) (vs := [.ref a, .ref b]) F hr hx I (.cons rfl (.cons rfl .nil)) q)) (fun w s' z => ?_) fun _ _ x => x
  obtain ⟨z', H', I', rz, qz⟩ := z
  exact SlX.cmpback rz ⟨z', H', I', rz, qz⟩
/-- ~x -/
def rUn (C : Addr) (sp : Sp) (E : XK) : V → Hp → VK → Prop := fun x H Q => ∃ a dx fs, x = .ref a ∧ H a = some (.ins C dx fs) ∧ sp [.ref a] H Q E
theorem un_own (hs : PySem.W.findIn X.K (.ref C) "__invert__" = some (some (.ref f))) (hf : PySem.W.isFn X.K (.ref f) = true) (F : FX X k f sp) (hr : Room k X.A) (hx : PsX X E) : UnR X (unaryOp .Invert) (rUn C sp E) := by
  intro pins s σ H x v Q I rx h
  obtain ⟨a, dx, fs, rfl, ha, q⟩ := h
  cases (show v = Value.ref a from rx)
  obtain ⟨mA, O, _⟩ := ins_get I.hok ha
  obtain ⟨od, J, _⟩ := O.look
  obtain ⟨m, hF⟩ := I.fr
  exact PySem.W.ksp_inv hF I.ok.mod.kin J hs hf (wpAny_call (run_fnR (us := [.ref a]) (vs := [.ref a]) F hr hx I (.cons rfl .nil) q))
/-- x[i], x an instance -/
def rIxO (C : Addr) (sp : Sp) (E : XK) : R2 := fun x y H Q => ∃ a dx fs, x = .ref a ∧ H a = some (.ins C dx fs) ∧ sp [.ref a, y] H Q E
theorem pe_ixO {value slice : Expr} (hs : PySem.W.findIn X.K (.ref C) "__getitem__" = some (some (.ref f))) (hfi : PySem.W.fnIn X.K f = true) (hf : PySem.W.isFn X.K (.ref f) = true) (F : FX X k f sp) (hr : Room (k + 1) X.A) (hx : ∀ E', Passes (L2.CX X.prog X.w) (X.wish E') E)
    (ha : PE X value ta) (hb : PE X slice tb) (hsl : ∀ x i, subscripted slice true (.ref x) i = runValue (.builtin "lifetime.subscript" ⟨[.ref x, i], []⟩) := by (intro _ _; with_unfolding_all rfl)) :
    PE X (.Subscript value slice pos) (tOp (rIxO C sp E) ta tb) := by
  refine ⟨fun pins s σ H Q I h => ?_⟩
  refine Subscript_ (binT ha hb I h fun v u s2 x y H2 I2 rx ry q => ?_)
  obtain ⟨a, dx, fs, rfl, ha', q⟩ := q
  cases (show v = Value.ref a from rx)
  obtain ⟨mA, O, _⟩ := ins_get I2.hok ha'
  obtain ⟨od, J, _⟩ := O.look
  obtain ⟨m, hF⟩ := I2.fr
  refine PySem.W.sub_K hF I2.ok.mod.kin J hs hfi hf ?_ (hsl a u)
  exact wpAny_call (SlX.run_at (us := [.ref a, u]) (ws := [.ref a, y]) F hr.in1 I2.env0.in1 (by simpa using hx X.xe) I2 (.cons rfl (.cons ry .nil)) q)
/-- len(x) -/
def rLenO (C : Addr) (sp : Sp) (E : XK) : List V → Hp → VK → Prop := fun xs H Q => ∃ a dx fs, xs = [V.ref a] ∧ H a = some (.ins C dx fs) ∧ sp [.ref a] H (fun v H' => ∃ n : Int, v = .int n ∧ 0 ≤ n ∧ n < 2 ^ 63 ∧ Q (.int n) H') E
theorem call_lenO (hs : PySem.W.findIn X.K (.ref C) "__len__" = some (some (.ref f))) (hf : PySem.W.isFn X.K (.ref f) = true) (F : FX X k f sp) (hr : Room (k + 1) X.A) (hx : PsX X E) : CallR X (.builtin "len") (rLenO C sp E) := by
  intro pins s σ H xs us Q I r h
  obtain ⟨a, dx, fs, rfl, ha, q⟩ := h
  rw [Vals.ref1 r]
  obtain ⟨mA, O, _⟩ := ins_get I.hok ha
  obtain ⟨od, J, _⟩ := O.look
  obtain ⟨m, hF⟩ := I.fr
  refine PySem.W.len_K hF I.ok.mod.kin J hs hf ?_
  refine wpAny_mono (wpAny_call (SlX.run_at (us := [.ref a]) (ws := [.ref a]) F hr.in1 I.env0.in1 hx I (.cons rfl .nil) q)) (fun w s' z => ?_) fun _ _ x => x
  obtain ⟨z', H', I', rz, n, ez, h0, h1, qz⟩ := z
  subst ez
  obtain ⟨t, e⟩ := (show ∃ t, w = Value.int n t from rz)
  cases e
  exact ⟨⟨h0, h1⟩, .int n, H', I'.tok _, ⟨_, rfl⟩, qz⟩
/-- x == y by the class's own def, any answer -/
def rEqO (C : Addr) (sp : Sp) (E : XK) : R2 := fun x y H Q => ∃ a dx fs b dy gs, x = .ref a ∧ y = .ref b ∧ H a = some (.ins C dx fs) ∧ H b = some (.ins C dy gs) ∧ sp [.ref a, .ref b] H Q E
theorem op_eqO (hs : PySem.W.findIn X.K (.ref C) "__eq__" = some (some (.ref f))) (hf : PySem.W.isFn X.K (.ref f) = true) (F : FX X k f sp) (hr : Room k X.A) (hx : PsX X E) : OpR X (compareOp .Eq) (rEqO C sp E) := by
  intro pins s σ H x y v u Q I rx ry h
  obtain ⟨a, dx, fs, b, dy, gs, rfl, rfl, ha, hb, q⟩ := h
  cases (show v = Value.ref a from rx)
  cases (show u = Value.ref b from ry)
  obtain ⟨mA, O, _⟩ := ins_get I.hok ha
  obtain ⟨mB, O', _⟩ := ins_get I.hok hb
  obtain ⟨od, J, _⟩ := O.look
  obtain ⟨od', J', _⟩ := O'.look
  obtain ⟨m, hF⟩ := I.fr
  show wpAny _ _ (richCompare .Eq (.ref a) (.ref b)) _ _ _
  refine PySem.W.cmp_K (op := .Eq) (tb := .ref C) hr.units0 hF I.ok.mod.kin J J'.type (by simp [PySem.W.notFirst]) hs hf ?_
  refine wpAny_mono (wpAny_call (run_fnR (us := [.ref a, .ref b]) (vs := [.ref a, .ref b]) F hr hx I (.cons rfl (.cons rfl .nil)) q)) (fun w s' z => ?_) fun _ _ x => x
  obtain ⟨z', H', I', rz, qz⟩ := z
  exact SlX.cmpback rz ⟨z', H', I', rz, qz⟩
end
section
variable {prog : Program} {w : World} {A : Around} {E : Value → Shared → Prop} {s : Shared} {K : PySem.W.Frag} {x C f L : Addr} {h₀ : Heap} {m : Str → Option Value} {ox : Obj} {od : Option Obj} {name : Str} {b : Value}
theorem ifBound_B {M : Model} {id : String} {args : List Value} {Q : Option Value → Shared → Prop} (X : K.In s.heap) (I : PySem.W.InstAt s.heap x ox C od) (hs : PySem.W.findIn K (.ref C) name = some (some (.builtin id)))
    (hb : ∀ self, bindSpecial (.builtin id) self = pure (.builtin id, [self]))
    (h : wpAny M A (call (.builtin id) (.ref x :: args)) (fun v => Q (some v)) E s) : wpAny M A (callSpecialIfBound? (.ref x) name args) Q E s := by
  simp only [callSpecialIfBound?, bindSpecialIfBound?]
  refine wpAny_holding (wpAny_bind (wpAny_bind (wpAny_bind (I.type.here ((PySem.W.looks_findIn X hs).here ?_)))))
  refine wpAny_bind (wpAny_askSetting (wpAny_ite ?_))
  have fin : wpAny M A (call (.builtin id) ([.ref x] ++ args) >>= fun v => pure (some v)) Q E s := wpAny_bind (wpAny_mono h (fun v s' h' => wpAny_pure h') fun _ _ h' => h')
  split
  · exact wpAny_bind ((PySem.W.Looks.of_pure (hb _)).here (wpAny_pure (by exact fin)))
  · exact wpAny_tryCatch (wpAny_bind ((PySem.W.Looks.of_pure (hb _)).here (wpAny_pure (by exact fin))))
/-- x != b where the class has no __ne__ of its own: its __eq__, turned -/
theorem ne_K {Q : Value → Shared → Prop} (hu : A.units < cLine) (hu1 : A.in1.units < cLine) (F : Fr h₀ L s.heap m) (X₀ : K.In h₀) (I : PySem.W.InstAt s.heap x ox C od) (hb : PySem.W.Looks (model prog w) s.heap (typeOf b) (.ref C))
    (hn : PySem.W.findIn K (.ref C) "__ne__" = some (some (.builtin "object.__ne__"))) (hm : PySem.W.mroIn K C (.type "object") = some true)
    (hs : PySem.W.findIn K (.ref C) "__eq__" = some (some (.ref f))) (hf : PySem.W.isFn K (.ref f) = true)
    (h : wpAny (model prog w) A.in1 (call (.ref f) [.ref x, b]) (fun v s' => ∃ c, v = .bool c ∧ Q (.bool (!c)) s') E s) : wpAny (model prog w) A (richCompare .NotEq (.ref x) b) Q E s := by
  have X := X₀.keeps F.keep
  have inner : wpAny (model prog w) A.in1 (Builtin.«object.__ne__» ⟨[.ref x, b], []⟩) (fun fin s' => ∃ c, fin = .done (.ret (.bool c)) ∧ Q (.bool c) s') E s := by
    unfold Builtin.«object.__ne__»
    refine wpAny_bind (m := slotArgs "__ne__" 1 _) (wpAny_pure ?_)
    refine wpAny_bind (m := cRoomFor _ _) (wpAny_cRoomFor hu1 ?_)
    refine wpAny_bind (m := callSpecialIfBound? (.ref x) (Str.ofString "__eq__") [b]) (PySem.W.ifBound_K X I hs hf (wpAny_mono h (fun v s' hv => ?_) fun _ _ e => e))
    obtain ⟨c, rfl, q⟩ := hv
    show wpAny _ _ (truthy (.bool c) >>= _) _ _ _
    refine wpAny_bind (wpAny_truthy_bool ?_)
    exact wpAny_pure ⟨!c, rfl, q⟩
  have one : wpAny (model prog w) A (tryCompare (.ref x) (cmpInfo .NotEq).2.1 b) (fun r s' => ∃ v, r = some v ∧ Q v s') E s := by
    unfold tryCompare
    refine wpAny_bind (ifBound_B X I hn PySem.F.slot_object_ne.bind ?_)
    refine wpAny_call (codeAny_call_builtin PySem.F.slot_object_ne.plain PySem.F.entry_object_ne (PySem.W.check_slot (i := "object.__ne__") (owner := "object") (n := "__ne__") (by decide +kernel) (by decide +kernel) (I.type.andThen (PySem.W.looks_mroIn X hm)) (PySem.F.args_object_ne_2 _ _) ?_))
    refine wpAny_mono inner (fun fin s' hv => ?_) fun _ _ e => e
    obtain ⟨c, rfl, q⟩ := hv
    exact wpAny_pure ⟨.bool c, rfl, q⟩
  unfold richCompare
  simp only [oneThing_ref]
  refine wpAny_holding (wpAny_bind (wpAny_cRoomFor hu ?_))
  refine wpAny_bind (I.type.here (wpAny_bind (hb.here ?_)))
  rw [show (Value.ref C != Value.ref C) = false from by simp]
  simp only [Bool.false_eq_true, if_false]
  refine wpAny_bind (wpAny_pure ?_)
  simp only [Bool.false_eq_true, if_false]
  refine wpAny_bind (wpAny_mono one (fun r s' z => ?_) fun _ _ e => e)
  obtain ⟨v, rfl, hq⟩ := z
  exact wpAny_pure hq
end
section
variable {X : Cx} {k : Nat} {f C : Addr} {sp : Sp} {E : XK}
def rNeO (C : Addr) (sp : Sp) (E : XK) : R2 := fun x y H Q => ∃ a dx fs b dy gs, x = .ref a ∧ y = .ref b ∧ H a = some (.ins C dx fs) ∧ H b = some (.ins C dy gs) ∧ sp [.ref a, .ref b] H (fun v H' => ∃ c, v = .bl c ∧ Q (.bl (!c)) H') E
theorem op_neO (hn : PySem.W.findIn X.K (.ref C) "__ne__" = some (some (.builtin "object.__ne__"))) (hm : PySem.W.mroIn X.K C (.type "object") = some true) (hs : PySem.W.findIn X.K (.ref C) "__eq__" = some (some (.ref f))) (hf : PySem.W.isFn X.K (.ref f) = true)
    (F : FX X k f sp) (hr : Room (k + 1) X.A) (hx : PsX X E) : OpR X (compareOp .NotEq) (rNeO C sp E) := by
  intro pins s σ H x y v u Q I rx ry h
  obtain ⟨a, dx, fs, b, dy, gs, rfl, rfl, ha, hb, q⟩ := h
  cases (show v = Value.ref a from rx)
  cases (show u = Value.ref b from ry)
  obtain ⟨mA, O, _⟩ := ins_get I.hok ha
  obtain ⟨mB, O', _⟩ := ins_get I.hok hb
  obtain ⟨od, J, _⟩ := O.look
  obtain ⟨od', J', _⟩ := O'.look
  obtain ⟨m, hF⟩ := I.fr
  show wpAny _ _ (richCompare .NotEq (.ref a) (.ref b)) _ _ _
  refine ne_K hr.units0 hr.in1.units0 hF I.ok.mod.kin J J'.type hn hm hs hf ?_
  refine wpAny_mono (wpAny_call (SlX.run_at (us := [.ref a, .ref b]) (ws := [.ref a, .ref b]) F hr.in1 I.env0.in1 hx I (.cons rfl (.cons rfl .nil)) q)) (fun w s' z => ?_) fun _ _ x => x
  obtain ⟨z', H', I', rz, c, ez, qz⟩ := z
  subst ez
  exact ⟨c, rz, .bl (!c), H', I', rfl, qz⟩
/-- == by a positional promise, as a part of ==s of lists -/
theorem rcG_insR {R : Addr → Addr → Hp → Prop} (F : FX X k f (spEq R)) (hs : PySem.W.findIn X.K (.ref C) "__eq__" = some (some (.ref f))) (hf : PySem.W.isFn X.K (.ref f) = true) (hx : PsX X E) : RcG X k (DIns C R) := by
  intro A pins s σ H x y u v sb I rx ry d
  obtain ⟨a, b, dx, dy, fs, gs, rfl, rfl, ha, hb', hr⟩ := d
  cases rx
  cases ry
  obtain ⟨mA, J, _⟩ := ins_get I.hok ha
  obtain ⟨mB, J', _⟩ := ins_get I.hok hb'
  obtain ⟨od, J, _⟩ := J.look
  obtain ⟨od', J', _⟩ := J'.look
  obtain ⟨m, hF⟩ := I.fr
  refine PySem.W.cmp_K (op := .Eq) (tb := .ref C) sb.room.units0 hF I.ok.mod.kin J J'.type (by simp [PySem.W.notFirst]) hs hf ?_
  have hsp : spEq R [.ref a, .ref b] H (fun v H' => v = .bl true ∧ Ext H H') E := ⟨a, b, rfl, hr, fun H' e => ⟨rfl, e⟩⟩
  have e0 : Env0 X.prog X.w X.K X.mg X.base A X.stack s H := by
    have e := I.env0
    exact ⟨by rw [sb.fr]; exact e.frames, e.mod, e.bs, e.bsz, e.funs, e.frf, e.hok, e.bare⟩
  refine wpAny_call (codeAny_mono (F A X.stack s H [.ref a, .ref b] [.ref a, .ref b] _ E sb.room e0 (.cons rfl (.cons rfl .nil)) hsp) fun r s' hq => ?_)
  cases r with
  | error e => exact hx pins σ H s e s' I hq
  | ok fl =>
    cases fl with
    | ret w =>
      obtain ⟨z, H', I', rz, ez, ex⟩ := I.after hq
      subst ez
      cases rz
      exact ⟨rfl, H', I', ex⟩
    | next => exact False.elim hq
    | brk => exact False.elim hq
    | cont => exact False.elim hq
theorem eqG_insR {R : Addr → Addr → Hp → Prop} (F : FX X k f (spEq R)) (hs : PySem.W.findIn X.K (.ref C) "__eq__" = some (some (.ref f))) (hf : PySem.W.isFn X.K (.ref f) = true) (hx : PsX X E) : EqG X k (DIns C R) :=
  (rcG_insR F hs hf hx).eqG fun _ _ _ d => let ⟨a, b, _, _, _, _, hx, hy, _⟩ := d; ⟨a, b, hx, hy⟩
end
end Kp
set_option maxHeartbeats 4000000
namespace Kq
open PySem PySem.Spec PyProof.Rows L2 Kp
/-! ### the text: law_k83_chains_and_bars -/
def top (i : Nat) : Stmt := PySem.Challenge.pw_keptphrases_k83_chains_and_bars.main.body.getD i (.Pass ⟨0, 0, 0, 0⟩)
abbrev s_l_pen : Stmt := top 54
abbrev N_l_pen : List Str := ["_law_script"]
theorem sc_l_pen : FnScope N_l_pen ["_law_script"] (defScope s_l_pen) := ⟨rfl, rfl, rfl, by decide +kernel, rfl, by decide +kernel, by decide +kernel⟩
abbrev s_l_draw : Stmt := top 55
abbrev N_l_draw : List Str := ["_law_pen_here", "_law_many", "_law_digit", "_law_turn", "_law_cell", "_law_great", "_law_blend"]
theorem sc_l_draw : FnScope N_l_draw ["_law_pen_here", "_law_many"] (defScope s_l_draw) := ⟨rfl, rfl, rfl, by decide +kernel, rfl, by decide +kernel, by decide +kernel⟩
abbrev s_l_pick : Stmt := top 56
abbrev N_l_pick : List Str := ["_law_pen_here", "_law_some"]
theorem sc_l_pick : FnScope N_l_pick ["_law_pen_here", "_law_some"] (defScope s_l_pick) := ⟨rfl, rfl, rfl, by decide +kernel, rfl, by decide +kernel, by decide +kernel⟩
abbrev s_l_words : Stmt := top 57
abbrev N_l_words : List Str := ["_law_pen_here", "_law_many", "_law_left", "_law_found", "_law_turn", "_law_sign", "_law_long", "_law_rest", "_law_at", "_law_again"]
theorem sc_l_words : FnScope N_l_words ["_law_pen_here", "_law_many"] (defScope s_l_words) := ⟨rfl, rfl, rfl, by decide +kernel, rfl, by decide +kernel, by decide +kernel⟩
abbrev s_l_closed : Stmt := top 58
abbrev N_l_closed : List Str := ["_law_known", "_law_more", "_law_found", "_law_left", "_law_pair", "_law_one", "_law_other", "_law_low", "_law_high", "_law_made_so"]
theorem sc_l_closed : FnScope N_l_closed ["_law_known", "_law_more"] (defScope s_l_closed) := ⟨rfl, rfl, rfl, by decide +kernel, rfl, by decide +kernel, by decide +kernel⟩
abbrev s_l_made : Stmt := top 59
abbrev N_l_made : List Str := ["_law_one", "_law_other", "_law_rests", "_law_rows", "_law_word", "_law_row"]
theorem sc_l_made : FnScope N_l_made ["_law_one", "_law_other"] (defScope s_l_made) := ⟨rfl, rfl, rfl, by decide +kernel, rfl, by decide +kernel, by decide +kernel⟩
abbrev s_l_is_chain : Stmt := top 60
abbrev N_l_is_chain : List Str := ["_law_known", "_law_some", "_law_steps_here", "_law_there", "_law_first_so", "_law_second_so", "_law_way_so", "_law_made_so", "_law_sets_so"]
theorem sc_l_is_chain : FnScope N_l_is_chain ["_law_known", "_law_some", "_law_steps_here"] (defScope s_l_is_chain) := ⟨rfl, rfl, rfl, by decide +kernel, rfl, by decide +kernel, by decide +kernel⟩
abbrev s_l_steps : Stmt := top 61
abbrev N_l_steps : List Str := ["_law_chain_so", "_law_step", "_law_one"]
theorem sc_l_steps : FnScope N_l_steps ["_law_chain_so"] (defScope s_l_steps) := ⟨rfl, rfl, rfl, by decide +kernel, rfl, by decide +kernel, by decide +kernel⟩
abbrev s_l_bent : Stmt := top 62
abbrev N_l_bent : List Str := ["_law_pen_here", "_law_chain_so", "_law_at", "_law_way_so", "_law_step"]
theorem sc_l_bent : FnScope N_l_bent ["_law_pen_here", "_law_chain_so"] (defScope s_l_bent) := ⟨rfl, rfl, rfl, by decide +kernel, rfl, by decide +kernel, by decide +kernel⟩
abbrev s_l_chain_right : Stmt := top 63
abbrev N_l_chain_right : List Str := ["_law_pen_here", "_law_known", "_law_some", "_law_chain_so", "_law_groups", "_law_steps_here", "_law_bent_here", "_law_turn", "_law_due", "_law_one"]
theorem sc_l_chain_right : FnScope N_l_chain_right ["_law_pen_here", "_law_known", "_law_some", "_law_chain_so"] (defScope s_l_chain_right) := ⟨rfl, rfl, rfl, by decide +kernel, rfl, by decide +kernel, by decide +kernel⟩
abbrev s_l_run_right : Stmt := top 64
abbrev N_l_run_right : List Str := ["_law_pen_here", "_law_asker", "_law_row", "_law_yes", "_law_no", "_law_pair", "_law_sets_so", "_law_some", "_law_known", "_law_chain_so", "_law_bar", "_law_some_so", "_law_told", "_law_barred", "_law_low", "_law_high", "_law_one"]
theorem sc_l_run_right : FnScope N_l_run_right ["_law_pen_here", "_law_asker", "_law_row", "_law_yes", "_law_no", "_law_pair"] (defScope s_l_run_right) := ⟨rfl, rfl, rfl, by decide +kernel, rfl, by decide +kernel, by decide +kernel⟩
abbrev s_law : Stmt := top 65
abbrev N_law : List Str := ["_law_script", "_law_pen_here", "_law_turn", "_law_row", "_law_yes", "_law_no", "_law_asker", "_law_again", "_law_low", "_law_pair", "_law_known", "_law_truth", "_law_one", "_law_other", "_law_some", "_law_step"]
theorem sc_law : FnScope N_law ["_law_script"] (defScope s_law) := ⟨rfl, rfl, rfl, by decide +kernel, rfl, by decide +kernel, by decide +kernel⟩
abbrev s_is_word : Stmt := top 5
abbrev N_is_word : List Str := ["value", "letter"]
theorem sc_is_word : FnScope N_is_word ["value"] (defScope s_is_word) := ⟨rfl, rfl, rfl, by decide +kernel, rfl, by decide +kernel, by decide +kernel⟩
abbrev s_Group_init : Stmt := inClass (top 23) 1
abbrev N_Group_init : List Str := ["self", "words", "word", "row"]
theorem sc_Group_init : FnScope N_Group_init ["self", "words"] (defScope s_Group_init) := ⟨rfl, rfl, rfl, by decide +kernel, rfl, by decide +kernel, by decide +kernel⟩
abbrev s_Group_of : Stmt := inClass (top 23) 2
abbrev N_Group_of : List Str := ["cls", "words"]
theorem sc_Group_of : FnScope N_Group_of ["cls", "words"] (defScope s_Group_of) := ⟨rfl, rfl, rfl, by decide +kernel, rfl, by decide +kernel, by decide +kernel⟩
abbrev s_Group_len : Stmt := inClass (top 23) 4
abbrev N_Group_len : List Str := ["self"]
theorem sc_Group_len : FnScope N_Group_len ["self"] (defScope s_Group_len) := ⟨rfl, rfl, rfl, by decide +kernel, rfl, by decide +kernel, by decide +kernel⟩
abbrev s_Group_contains : Stmt := inClass (top 23) 6
abbrev N_Group_contains : List Str := ["self", "word"]
theorem sc_Group_contains : FnScope N_Group_contains ["self", "word"] (defScope s_Group_contains) := ⟨rfl, rfl, rfl, by decide +kernel, rfl, by decide +kernel, by decide +kernel⟩
abbrev s_Group_eq : Stmt := inClass (top 23) 7
abbrev N_Group_eq : List Str := ["self", "other"]
theorem sc_Group_eq : FnScope N_Group_eq ["self", "other"] (defScope s_Group_eq) := ⟨rfl, rfl, rfl, by decide +kernel, rfl, by decide +kernel, by decide +kernel⟩
abbrev s_Group_and : Stmt := inClass (top 23) 9
abbrev N_Group_and : List Str := ["self", "other", "row", "word"]
theorem sc_Group_and : FnScope N_Group_and ["self", "other"] (defScope s_Group_and) := ⟨rfl, rfl, rfl, by decide +kernel, rfl, by decide +kernel, by decide +kernel⟩
abbrev s_Group_or : Stmt := inClass (top 23) 10
abbrev N_Group_or : List Str := ["self", "other"]
theorem sc_Group_or : FnScope N_Group_or ["self", "other"] (defScope s_Group_or) := ⟨rfl, rfl, rfl, by decide +kernel, rfl, by decide +kernel, by decide +kernel⟩
abbrev s_Group_sub : Stmt := inClass (top 23) 11
abbrev N_Group_sub : List Str := ["self", "other", "row", "word"]
theorem sc_Group_sub : FnScope N_Group_sub ["self", "other"] (defScope s_Group_sub) := ⟨rfl, rfl, rfl, by decide +kernel, rfl, by decide +kernel, by decide +kernel⟩
abbrev s_Group_overlaps : Stmt := inClass (top 23) 14
abbrev N_Group_overlaps : List Str := ["self", "other", "common", "word"]
theorem sc_Group_overlaps : FnScope N_Group_overlaps ["self", "other"] (defScope s_Group_overlaps) := ⟨rfl, rfl, rfl, by decide +kernel, rfl, by decide +kernel, by decide +kernel⟩
abbrev s_Order_init : Stmt := inClass (top 25) 1
abbrev N_Order_init : List Str := ["self", "words", "word", "at"]
theorem sc_Order_init : FnScope N_Order_init ["self", "words"] (defScope s_Order_init) := ⟨rfl, rfl, rfl, by decide +kernel, rfl, by decide +kernel, by decide +kernel⟩
abbrev s_Order_of : Stmt := inClass (top 25) 2
abbrev N_Order_of : List Str := ["cls", "words"]
theorem sc_Order_of : FnScope N_Order_of ["cls", "words"] (defScope s_Order_of) := ⟨rfl, rfl, rfl, by decide +kernel, rfl, by decide +kernel, by decide +kernel⟩
abbrev s_Order_len : Stmt := inClass (top 25) 4
abbrev N_Order_len : List Str := ["self"]
theorem sc_Order_len : FnScope N_Order_len ["self"] (defScope s_Order_len) := ⟨rfl, rfl, rfl, by decide +kernel, rfl, by decide +kernel, by decide +kernel⟩
abbrev s_Order_contains : Stmt := inClass (top 25) 6
abbrev N_Order_contains : List Str := ["self", "word"]
theorem sc_Order_contains : FnScope N_Order_contains ["self", "word"] (defScope s_Order_contains) := ⟨rfl, rfl, rfl, by decide +kernel, rfl, by decide +kernel, by decide +kernel⟩
abbrev s_Order_stands : Stmt := inClass (top 25) 17
abbrev N_Order_stands : List Str := ["self", "group", "word", "places"]
theorem sc_Order_stands : FnScope N_Order_stands ["self", "group"] (defScope s_Order_stands) := ⟨rfl, rfl, rfl, by decide +kernel, rfl, by decide +kernel, by decide +kernel⟩
abbrev s_overlapping : Stmt := top 40
abbrev N_overlapping : List Str := ["one", "other", "low", "high"]
theorem sc_overlapping : FnScope N_overlapping ["one", "other"] (defScope s_overlapping) := ⟨rfl, rfl, rfl, by decide +kernel, rfl, by decide +kernel, by decide +kernel⟩
abbrev s_made_of : Stmt := top 41
abbrev N_made_of : List Str := ["one", "other"]
theorem sc_made_of : FnScope N_made_of ["one", "other"] (defScope s_made_of) := ⟨rfl, rfl, rfl, by decide +kernel, rfl, by decide +kernel, by decide +kernel⟩
abbrev s_closed_by : Stmt := top 42
abbrev N_closed_by : List Str := ["known", "more", "found", "left", "run", "other", "way", "made"]
theorem sc_closed_by : FnScope N_closed_by ["known", "more"] (defScope s_closed_by) := ⟨rfl, rfl, rfl, by decide +kernel, rfl, by decide +kernel, by decide +kernel⟩
abbrev s_rows_to : Stmt := top 43
abbrev N_rows_to : List Str := ["found", "run", "wanted", "rows", "made", "one", "other", "way"]
theorem sc_rows_to : FnScope N_rows_to ["found", "run"] (defScope s_rows_to) := ⟨rfl, rfl, rfl, by decide +kernel, rfl, by decide +kernel, by decide +kernel⟩
abbrev s_Step_init : Stmt := inClass (top 46) 0
abbrev N_Step_init : List Str := ["self", "first", "second", "way", "made"]
theorem sc_Step_init : FnScope N_Step_init ["self", "first", "second", "way", "made"] (defScope s_Step_init) := ⟨rfl, rfl, rfl, by decide +kernel, rfl, by decide +kernel, by decide +kernel⟩
abbrev s_Step_eq : Stmt := inClass (top 46) 1
abbrev N_Step_eq : List Str := ["self", "other"]
theorem sc_Step_eq : FnScope N_Step_eq ["self", "other"] (defScope s_Step_eq) := ⟨rfl, rfl, rfl, by decide +kernel, rfl, by decide +kernel, by decide +kernel⟩
abbrev s_need_order : Stmt := top 47
abbrev N_need_order : List Str := ["order"]
theorem sc_need_order : FnScope N_need_order ["order"] (defScope s_need_order) := ⟨rfl, rfl, rfl, by decide +kernel, rfl, by decide +kernel, by decide +kernel⟩
abbrev s_Asker_init : Stmt := inClass (top 48) 0
abbrev N_Asker_init : List Str := ["self", "order"]
theorem sc_Asker_init : FnScope N_Asker_init ["self", "order"] (defScope s_Asker_init) := ⟨rfl, rfl, rfl, by decide +kernel, rfl, by decide +kernel, by decide +kernel⟩
abbrev s_Asker_pair_of : Stmt := inClass (top 48) 4
abbrev N_Asker_pair_of : List Str := ["self", "run", "word", "places", "at"]
theorem sc_Asker_pair_of : FnScope N_Asker_pair_of ["self", "run"] (defScope s_Asker_pair_of) := ⟨rfl, rfl, rfl, by decide +kernel, rfl, by decide +kernel, by decide +kernel⟩
abbrev s_Asker_group_of : Stmt := inClass (top 48) 5
abbrev N_Asker_group_of : List Str := ["self", "pair"]
theorem sc_Asker_group_of : FnScope N_Asker_group_of ["self", "pair"] (defScope s_Asker_group_of) := ⟨rfl, rfl, rfl, by decide +kernel, rfl, by decide +kernel, by decide +kernel⟩
abbrev s_Asker_is_sure : Stmt := inClass (top 48) 6
abbrev N_Asker_is_sure : List Str := ["self", "pair"]
theorem sc_Asker_is_sure : FnScope N_Asker_is_sure ["self", "pair"] (defScope s_Asker_is_sure) := ⟨rfl, rfl, rfl, by decide +kernel, rfl, by decide +kernel, by decide +kernel⟩
abbrev s_Asker_told_pairs : Stmt := inClass (top 48) 7
abbrev N_Asker_told_pairs : List Str := ["self", "truth", "places", "found", "run", "told", "some", "at", "word"]
theorem sc_Asker_told_pairs : FnScope N_Asker_told_pairs ["self", "truth"] (defScope s_Asker_told_pairs) := ⟨rfl, rfl, rfl, by decide +kernel, rfl, by decide +kernel, by decide +kernel⟩
abbrev s_Asker_clash_in : Stmt := inClass (top 48) 8
abbrev N_Asker_clash_in : List Str := ["self", "found", "wrong", "pair"]
theorem sc_Asker_clash_in : FnScope N_Asker_clash_in ["self", "found"] (defScope s_Asker_clash_in) := ⟨rfl, rfl, rfl, by decide +kernel, rfl, by decide +kernel, by decide +kernel⟩
abbrev s_Asker_steps_in : Stmt := inClass (top 48) 9
abbrev N_Asker_steps_in : List Str := ["self", "found", "pair", "steps", "one", "other", "way", "made"]
theorem sc_Asker_steps_in : FnScope N_Asker_steps_in ["self", "found", "pair"] (defScope s_Asker_steps_in) := ⟨rfl, rfl, rfl, by decide +kernel, rfl, by decide +kernel, by decide +kernel⟩
abbrev s_Asker_answer : Stmt := inClass (top 48) 11
abbrev N_Asker_answer : List Str := ["self", "run", "truth", "pair", "found", "wrong", "other"]
theorem sc_Asker_answer : FnScope N_Asker_answer ["self", "run", "truth"] (defScope s_Asker_answer) := ⟨rfl, rfl, rfl, by decide +kernel, rfl, by decide +kernel, by decide +kernel⟩
abbrev s_Asker_chain_of : Stmt := inClass (top 48) 16
abbrev N_Asker_chain_of : List Str := ["self", "run", "pair", "found"]
theorem sc_Asker_chain_of : FnScope N_Asker_chain_of ["self", "run"] (defScope s_Asker_chain_of) := ⟨rfl, rfl, rfl, by decide +kernel, rfl, by decide +kernel, by decide +kernel⟩
abbrev s_Asker_bar_of : Stmt := inClass (top 48) 17
abbrev N_Asker_bar_of : List Str := ["self", "run", "pair", "found", "wrong", "other"]
theorem sc_Asker_bar_of : FnScope N_Asker_bar_of ["self", "run"] (defScope s_Asker_bar_of) := ⟨rfl, rfl, rfl, by decide +kernel, rfl, by decide +kernel, by decide +kernel⟩
abbrev s_made_by : Stmt := top 50
abbrev N_made_by : List Str := ["one", "other", "way"]
theorem sc_made_by : FnScope N_made_by ["one", "other", "way"] (defScope s_made_by) := ⟨rfl, rfl, rfl, by decide +kernel, rfl, by decide +kernel, by decide +kernel⟩
abbrev s_is_right : Stmt := top 51
abbrev N_is_right : List Str := ["step", "one", "other", "way"]
theorem sc_is_right : FnScope N_is_right ["step"] (defScope s_is_right) := ⟨rfl, rfl, rfl, by decide +kernel, rfl, by decide +kernel, by decide +kernel⟩
abbrev s_shows_chain : Stmt := top 52
abbrev N_shows_chain : List Str := ["sets", "run", "chain", "known", "step", "one"]
theorem sc_shows_chain : FnScope N_shows_chain ["sets", "run", "chain"] (defScope s_shows_chain) := ⟨rfl, rfl, rfl, by decide +kernel, rfl, by decide +kernel, by decide +kernel⟩
end Kq
set_option maxHeartbeats 4000000
/-! Errors of own classes over own classes over ValueError, whose __init__ says super().__init__('..') and then stores one or two fields. -/
namespace Kp
open PySem PySem.Spec PySem.Calls PyProof.Rows
open PySem.HandSPX (excO refsVE)
/-! ### the text of __init__ -/
abbrev eInit (p0 p1 p2 p3 p4 p5 : Pos) (txt : Str) (j : Nat) : Stmt := .Expr (.Call (.Attribute (.Call (.Name "super" p0) [] [] p1) "__init__" p2) [.Constant (.str txt) j p3] [] p4) p5
abbrev eFld (f : Str) (p1 p2 p3 p4 : Pos) : Stmt := .Assign [.Attribute (.Name "self" p1) f p2] (.Name f p3) p4
/-- the names of __init__'s scope -/
structure ErrS (sc : Scope) (fs : List Str) : Prop where
  kind : sc.kind = .function
  co : sc.isCoroutine = false
  gen : sc.isGenerator = false
  noc : ∀ x ∈ sc.names, x.2 ≠ .cell
  sup : sc.names.lookup ("super" : Str) = some .globalImplicit
  cls : sc.names.lookup ("__class__" : Str) = some .free
  self : sc.names.lookup ("self" : Str) = some .local
  fld : ∀ f ∈ fs, sc.names.lookup f = some .local ∧ (f == ("__debug__" : Str)) = false ∧ f ≠ "self"
/-- what the written part says of such a class, at C, and of its __init__, at fI; fs: its fields, the parameters -/
structure ErrC (P : Program) (K : PySem.W.Frag) (C fI : Addr) (fs : List Str) : Prop where
  cls : ∃ nm q N bs bm sn sub ab col dd k0 k1 k2 k3 k5, K.lookup C = some (excClassObj nm q C N bs bm true sn sub ab col dd k0 k1 k2 k3 k5 "ValueError.__new__") ∧ refsVE bm = true
  sa : PySem.W.findIn K (.ref C) "__setattr__" = some (some (.builtin "object.__setattr__"))
  noN : ∀ f ∈ fs, PySem.W.findIn K (.ref C) f = some none
  iC : PySem.W.findIn K (.ref C) "__init__" = some (some (.ref fI))
  tC : PySem.W.typeIn K (.ref fI) = some (.type "function")
  kC : PySem.W.keepIn K (.ref C) = true
  exC : PySem.W.subIn K (.ref C) (.type "BaseException") = some true
  veC : PySem.W.subIn K (.ref C) (.type "ValueError") = some true
  mrC : PySem.W.mroIn K C (.ref C) = some true
  tyC : PySem.W.typeIn K (.ref C) = some (.type "type")
  hdC : PySem.W.hasDictIn K C = true
  sup : PySem.W.ks_superIn K C C "__init__" = some (some (.builtin "ValueError.__init__"))
  opq : PySem.W.nsIn K cStatics "thirdparty.any" = some none
  top : (P.main.scope.names.lookup ("super" : Str)).isSome = false
  fn : ∃ (oc ct doc pm kV : Value) (od an : Option Addr) (osl : Array (Option Value)) (cc cda : Addr) (cl ccl : Value) (cld cdd : Option Addr) (csl ccs : Array (Option Value)) (vs : Array Value) (file : Str) (tf : Tok) (qual : Str) (params : Arguments) (sc : Scope) (ar : Arg)
      (txt : Str) (j : Nat) (p0 p1 p2 p3 p4 p5 : Pos) (body : List Stmt),
    K.lookup fI = some ⟨oc, od, .func (PySem.W.ksFn "__init__" qual params (eInit p0 p1 p2 p3 p4 p5 txt j :: body) sc .none kV doc pm an (.ref cda) ct cc), osl⟩ ∧ PySem.W.codeIn K (.ref cda) qual = true ∧
    K.lookup cc = some ⟨cl, cld, .cell (some (.ref C)), csl⟩ ∧ K.lookup cda = some ⟨ccl, cdd, .fields vs, ccs⟩ ∧ vs[2]? = some (.str file tf) ∧ (P.main.file == file) = true ∧ ErrS sc fs ∧ (params.posonlyargs ++ params.args).head? = some ar ∧ ar.arg = "self" ∧ (p2.endLine == p4.line) = true ∧
    ((∃ f q1 q2 q3 q4, fs = [f] ∧ body = [eFld f q1 q2 q3 q4] ∧ ∀ x v : Value, bindArgs (PySem.W.ksFn "__init__" qual params (eInit p0 p1 p2 p3 p4 p5 txt j :: body) sc .none kV doc pm an (.ref cda) ct cc) ⟨[x, v], []⟩ = pure ([(("self" : Str), x), (f, v)] : List (Str × Value))) ∨
     (∃ f g q1 q2 q3 q4 r1 r2 r3 r4, fs = [f, g] ∧ f ≠ g ∧ body = [eFld f q1 q2 q3 q4, eFld g r1 r2 r3 r4] ∧
      ∀ x v u : Value, bindArgs (PySem.W.ksFn "__init__" qual params (eInit p0 p1 p2 p3 p4 p5 txt j :: body) sc .none kV doc pm an (.ref cda) ct cc) ⟨[x, v, u], []⟩ = pure ([(("self" : Str), x), (f, v), (g, u)] : List (Str × Value))))
/-! ### the built-in __init__ bound, called -/
section
open PySem.ESX
variable {prog : Program} {w : World} {A : Around} {E : Value → Shared → Prop} {h : Heap} {g : Array GenState} {d : Drawn} {t : Nat} {os : OsState}
variable {nm q : Str} {C N : Addr} {bs bm : List Value} {hdct : Bool} {sn : List Str} {sub : List Value} {ab : Bool} {col : Option Bool} {dd : Option Addr} {k0 k1 k2 k3 k5 : Option Value}
theorem call_mw {u e t0 : Addr} {rest : List Value} {Q : Value → Shared → Prop}
    (hC : h.get? C = some (excClassObj nm q C N bs bm hdct sn sub ab col dd k0 k1 k2 k3 k5 "ValueError.__new__")) (he : h.get? e = some (excO C t0)) (hu : h.get? u = some (PySem.W.kxs_mw "ValueError.__init__" e)) (hrest : rest.length ≤ sizeLine)
    (hq : ∀ h' t1, (∀ b o, b ≠ e → h.get? b = some o → h'.get? b = some o) → h'.get? e = some (excO C t1) → Q .none ⟨h', g, d, t, os⟩) :
    wpAny (model prog w) A (call (.ref u) rest) Q E ⟨h, g, d, t, os⟩ := by
  refine wpAny_call (codeAny_of_tree ?_)
  show wpAny _ A.in1 (callAny (.ref u) ⟨rest, []⟩) _ _ _
  simp only [callAny]
  refine wpAny_bind (wpAny_load hu ?_)
  simp only [PySem.W.kxs_mw, show (Value.type "method-wrapper" == Value.type "method" || Value.type "method-wrapper" == Value.type "builtin_function_or_method" || Value.type "method-wrapper" == Value.type "method-wrapper") = true by decide, if_true]
  refine PySem.W.KFB.if_so (by decide) ?_
  refine wpAny_bind (check_bound F.excBase_ValueError hC he rfl ?_)
  refine wpAny_bind (wpAny_pure (wpAny_pure ?_))
  refine ⟨Code.quiet_builtin _ (by decide +kernel), codeAny_builtin F.excBase_ValueError.initEntry ?_⟩
  rw [Around.under_plainId F.excBase_ValueError.init.plain _]
  exact PySem.W.exc_init_tree (cls := .ref C) (t0 := t0) (dv := none) (c2 := .none) (c3 := .none) (b4 := .bool false) he hrest fun h' k e' _ => hq h' _ k e'
end
/-! ### the walk through __init__ -/
/-- what stands behind super().__init__('..') -/
structure InitMid (h h' : Heap) (x C L : Addr) (m : Str → Option Value) : Prop where
  keep : ∀ b o, b ≠ x → h.get? b = some o → h'.get? b = some o
  obj : ∃ t1, h'.get? x = some (excO C t1)
  ns : h'.Ns L m
/-- what __init__ leaves of a fresh exception at x -/
structure InitEnd (h h' : Heap) (x C dx : Addr) (m : Str → Option Value) : Prop where
  keep : ∀ b o, b ≠ x → h.get? b = some o → h'.get? b = some o
  obj : ∃ t1, h'.get? x = some { cls := .ref C, dict := some dx, data := .fields #[.ref t1, .none, .none, .none, .bool false, .none] }
  dbig : h.objs.size ≤ dx
  dne : dx ≠ x
  ns : h'.Ns1 dx m
section
open PySem.W
variable {prog : Program} {w : World} {A : Around} {E : Value → Shared → Prop} {R : Result → Shared → Prop} {s : Shared} {K : Frag} {mg : Str → Option Value} {C fI : Addr} {fs : List Str}
theorem ldE {M : Model} {env : Env} {m : Str → Option Value} {x : Str} {pos : Pos} {v : Value} {Q : Value → Shared → Prop} (hn : s.heap.Ns env.locals m) (hv : m x = some v) (h : Q v s)
    (hk : env.scope.kind = .function) (hl : env.kindOf x = some .local) (hd : (x == ("__debug__" : Str)) = false) : wpAny M A (eval (.Name x pos) env) Q E s := wpAny_Name (wpAny_loadName_local hk hl hn hv h) hd
theorem clsOf {nm q : Str} {N : Addr} {bs bm : List Value} {sn : List Str} {sub : List Value} {ab : Bool} {col : Option Bool} {dd : Option Addr} {k0 k1 k2 k3 k5 : Option Value} {B : String} (hC : K.lookup C = some (excClassObj nm q C N bs bm true sn sub ab col dd k0 k1 k2 k3 k5 B)) :
    clsIn K C = some { name := nm, bases := bs, mro := .ref C :: bm, ns := N, qualname := q, hasDict := true, slotNames := sn, subclasses := sub, abstract := ab, collection := col, hasDel := false } := by
  unfold clsIn
  rw [hC] <;> rfl
theorem sup_eval {env : Env} {txt : Str} {j : Nat} {p0 p1 p2 p3 p4 : Pos} (hp : (p2.endLine == p4.line) = true) : eval (.Call (.Attribute (.Call (.Name "super" p0) [] [] p1) "__init__" p2) [.Constant (.str txt) j p3] [] p4) env = (do
      let ov ← attributeBase (.Call (.Name "super" p0) [] [] p1) "__init__" env (eval (.Call (.Name "super" p0) [] [] p1) env)
      standAt p2.atName
      let (f, first) ← holding [ov] (getMethod ov "__init__" (do return (← importBound (.Call (.Name "super" p0) [] [] p1) env).getD true))
      callWith p4 f first (backTo p4 (starEach [.Constant (.str txt) j p3] env)) []) := by
  have hm : ∀ o, methodCallPos true o env p2 p4 = pure p4 := fun o => by unfold methodCallPos; rw [hp]; rfl
  have e : ∀ ov, methodCall (.Call (.Name "super" p0) [] [] p1) "__init__" p2 p4 env ov 1 (backTo p4 (starEach [.Constant (.str txt) j p3] env)) [] = (do
      let (f, first) ← holding [ov] (getMethod ov "__init__" (do return (← importBound (.Call (.Name "super" p0) [] [] p1) env).getD true))
      callWith p4 f first (backTo p4 (starEach [.Constant (.str txt) j p3] env)) []) := fun ov => by
    unfold methodCall calleeOf
    have hf : methodCallForm 1 (backTo p4 (starEach [.Constant (.str txt) j p3] env)) [] = true := rfl
    rw [hf]
    simp only [hm, pure_bind, if_true]
  rw [arm_eval_Call]
  show (do
    let ov ← attributeBase (.Call (.Name "super" p0) [] [] p1) "__init__" env (eval (.Call (.Name "super" p0) [] [] p1) env)
    standAt p2.atName
    methodCall (.Call (.Name "super" p0) [] [] p1) "__init__" p2 p4 env ov 1 (backTo p4 (starEach [.Constant (.str txt) j p3] env)) []) = _
  simp only [e]
/-- the first statement -/
theorem err_super (T : ErrC prog K C fI fs) {x t0 L cc cda : Addr} {cl ccl ct doc pm kV oc : Value} {od an cld cdd : Option Addr} {osl csl ccs : Array (Option Value)} {vs : Array Value} {file qual : Str} {tf : Tok} {params : Arguments} {body : List Stmt} {sc : Scope} {ar : Arg} {m : Str → Option Value} {bodyA : List Stmt}
    {txt : Str} {j : Nat} {p0 p1 p2 p3 p4 p5 : Pos} {Q : Flow → Shared → Prop} (X : K.In s.heap) (G : s.heap.Ns mainGlobals mg) (Bn : ∃ mb, s.heap.Ns builtinsNs mb ∧ ∀ x : Str, x ≠ "__name__" → mb x = bootBuiltins x) (hsu : mg "super" = none)
    (lk : K.lookup fI = some ⟨oc, od, .func (ksFn "__init__" qual params body sc .none kV doc pm an (.ref cda) ct cc), osl⟩) (hcc : K.lookup cc = some ⟨cl, cld, .cell (some (.ref C)), csl⟩) (hcd : K.lookup cda = some ⟨ccl, cdd, .fields vs, ccs⟩) (hvs : vs[2]? = some (.str file tf))
    (hfile : (prog.main.file == file) = true) (S : ErrS sc fs) (hp : (params.posonlyargs ++ params.args).head? = some ar) (har : ar.arg = "self") (hx : s.heap.get? x = some (excO C t0)) (hxK : K.lookup x = none) (hL : L ≠ x) (hpos : (p2.endLine == p4.line) = true) (hn : s.heap.Ns L m) (hv : m "self" = some (.ref x))
    (h : ∀ h' tk, InitMid s.heap h' x C L m → Q .next { s with heap := h', toks := tk }) :
    _root_.PySem.wpAt (model prog w) A (.func bodyA (ksEnv qual sc L fI (.ref cda) cc)) (exec (eInit p0 p1 p2 p3 p4 p5 txt j) (ksEnv qual sc L fI (.ref cda) cc)) Q E s := by
  obtain ⟨nm, q, N, bs, bm, sn, sub, ab, col, dd, k0, k1, k2, k3, k5, hC, hbm⟩ := T.cls
  have hcl := clsOf hC
  have hC1 := X _ _ hC
  refine ks_wpAt_Expr_any (ks_wpAt_MethodCall ?_ (sup_eval hpos)) (by unfold interactive; simp [S.kind]) ?_
  · refine ks_wpAt_super_base (env := ksEnv qual sc L fI (.ref cda) cc) S.sup S.cls (by decide) rfl (X _ _ lk) rfl hp rfl (X _ _ hcd) rfl hvs hfile T.top ?_
    obtain ⟨mb, b1, b2⟩ := Bn
    refine ks_loadName_global S.kind S.sup (loadGlobal_builtin (env := ksEnv qual sc L fI (.ref cda) cc) G hsu b1 ((b2 "super" (by decide)).trans (by decide +kernel)) ⟨rfl, ?_⟩)
    refine wpAny_loadName_free S.kind S.cls rfl ⟨_, X _ _ hcc, rfl⟩ ?_
    rw [har]
    refine wpAny_loadName_local S.kind S.self hn hv ?_
    refine ks_wpAny_isType_cls hC1 rfl ⟨rfl, ?_⟩
    obtain ⟨hh, g, d, t, os⟩ := s
    refine ks_wpAny_call_super hC1 rfl hx rfl (fun c e => by cases e) (looks_mroIn X T.mrC) (fun h' e k => ?_)
    have X1 : K.In h' := X.keeps k
    have L0 : Looks (model prog w) h' (typeOf (.ref x)) (.ref C) := fun A Q E s k' q => wpAny_typeOf_ref (k' _ _ (k _ _ hx)) q
    have hI : Looks (model prog w) h' (isInstance (.ref x) (.type "ValueError")) true := L0.andThen (looks_subIn X1 T.veC)
    have hsup := T.sup
    unfold ks_superIn at hsup
    rw [hcl] at hsup
    have hxC : x ≠ C := by
      intro z
      rw [z] at hxK
      rw [hxK] at hC
      cases hC
    refine kxs_getMethod kxs_ValueError e (looks_opaque X1 T.opq) ((looks_clsIn X1 hcl).andThen .now) rfl X1 hsup hI hxC (by decide) ?_
    have hu : (h'.push (kxs_mw "ValueError.__init__" x)).get? h'.objs.size = some (kxs_mw "ValueError.__init__" x) := Heap.get?_push_size _ rfl
    have kp : ∀ b o, hh.get? b = some o → (h'.push (kxs_mw "ValueError.__init__" x)).get? b = some o := fun b o e => Heap.get?_push_of_some _ (k b o e)
    show wpAny _ _ (callWith _ (.ref h'.objs.size) [] _ []) _ _ _
    have he : starEach [.Constant (.str txt) j p3] (ksEnv qual sc L fI (.ref cda) cc) = (false, eval (.Constant (.str txt) j p3) (ksEnv qual sc L fI (.ref cda) cc)) :: starEach [] (ksEnv qual sc L fI (.ref cda) cc) := by rfl
    rw [he]
    refine kxs_callWith (i := "ValueError.__init__") (x := x) rfl (evalArgs_plain ?_)
    refine spliced_cons (Calls.Constant_str (k := j) (pos := p3) (spliced_nil ⟨hu, ?_⟩))
    refine call_mw (C := C) (kp _ _ hC1) (kp _ _ hx) hu (by rw [sizeLine_eq]; exact (by decide : 1 ≤ 16777216)) fun h2 t1 k2 e2 => ?_
    refine h h2 _ ⟨fun b o hb eb => k2 b o hb (kp b o eb), ⟨t1, e2⟩, hn.at fun o eo => k2 L o hL (kp L o eo)⟩
  · rfl

theorem sw_self {v : Str} {f : Str} {p1 p2 p3 : Pos} {l : Nat} {env : Env} : swapsWith (.Name v p1) (some (.Attribute (.Name "self" p2) f p3)) l env = pure false := by rfl
theorem ve_px : ∀ l : List Value, refsVE l = true → PySem.PX.refsVE l = true := by
  intro l
  induction l with
  | nil => intro e; exact absurd e (by decide)
  | cons a r ih =>
    intro e
    rcases PySem.HandSPX.refsVE_cases (a :: r) e with ⟨c, r', q, h⟩ | q
    · injection q with q1 q2
      subst q1 q2
      exact ih h
    · rw [q]
      decide +kernel
/-- a field's statement: the first one, the second one -/
theorem err_fld1 (T : ErrC prog K C fI fs) {env : Env} {x t1 : Addr} {m : Str → Option Value} {f : Str} {v : Value} {q1 q2 q3 q4 : Pos} {Q : Flow → Shared → Prop} (X : K.In s.heap) (hx : s.heap.get? x = some (excO C t1)) (hf : PySem.W.findIn K (.ref C) f = some none)
    (hn : s.heap.Ns env.locals m) (hself : m "self" = some (.ref x)) (hv : m f = some v) (hk : env.scope.kind = .function) (hl1 : env.kindOf "self" = some .local) (hl2 : env.kindOf f = some .local) (hd : (f == ("__debug__" : Str)) = false)
    (h : ∀ h' tk dx, (∀ b o, b ≠ x → s.heap.get? b = some o → h'.get? b = some o) → s.heap.objs.size ≤ dx → dx ≠ x → h'.get? x = some { cls := .ref C, dict := some dx, data := .fields #[.ref t1, .none, .none, .none, .bool false, .none] } →
      h'.Ns1 dx (fun y => if y = f then some v else none) → Q .next { s with heap := h', toks := tk }) : wpAny (model prog w) A (exec (eFld f q1 q2 q3 q4) env) Q E s := by
  obtain ⟨nm, q, N, bs, bm, sn, sub, ab, col, dd, k0, k1, k2, k3, k5, hC, hbm⟩ := T.cls
  refine plainObj_wpAny_Assign_Attribute ?_
  refine ldE (v := v) hn hv (ldE (v := .ref x) hn hself ?_ hk hl1 (by decide)) hk hl2 hd
  refine set_plain X (ox := excO C t1) (od := none) ⟨hx, rfl, rfl, trivial⟩ T.sa ?_
  exact HandSPX.exc_osa X hx (clsOf hC) (show refsVE (.ref C :: bm) = true from hbm) rfl hf (fun h₃ tk₃ dx k₃ dn dne hx₃ hn₃ => h h₃ tk₃ dx k₃ dn dne hx₃ hn₃)
theorem err_fld2 (T : ErrC prog K C fI fs) {env : Env} {x t1 dx : Addr} {m m0 : Str → Option Value} {nl : List Str} {f : Str} {v : Value} {q1 q2 q3 q4 : Pos} {Q : Flow → Shared → Prop} (X : K.In s.heap) (hx : s.heap.get? x = some { cls := .ref C, dict := some dx, data := .fields #[.ref t1, .none, .none, .none, .bool false, .none] })
    (hns : s.heap.Ns1 dx m0) (hw : Within m0 nl) (hz : nl.length ≤ 1000) (hf : PySem.W.findIn K (.ref C) f = some none)
    (hn : s.heap.Ns env.locals m) (hself : m "self" = some (.ref x)) (hv : m f = some v) (hk : env.scope.kind = .function) (hl1 : env.kindOf "self" = some .local) (hl2 : env.kindOf f = some .local) (hd : (f == ("__debug__" : Str)) = false)
    (h : ∀ h' tk, (∀ b o, b ≠ dx → s.heap.get? b = some o → h'.get? b = some o) → h'.Ns1 dx (fun y => if y = f then some v else m0 y) → Q .next { s with heap := h', toks := tk }) : wpAny (model prog w) A (exec (eFld f q1 q2 q3 q4) env) Q E s := by
  obtain ⟨nm, q, N, bs, bm, sn, sub, ab, col, dd, k0, k1, k2, k3, k5, hC, hbm⟩ := T.cls
  refine plainObj_wpAny_Assign_Attribute ?_
  refine ldE (v := v) hn hv (ldE (v := .ref x) hn hself ?_ hk hl1 (by decide)) hk hl2 hd
  obtain ⟨oD, esD, epD, hoD, _⟩ := id hns
  refine set_plain X (ox := { cls := .ref C, dict := some dx, data := .fields #[.ref t1, .none, .none, .none, .bool false, .none] }) (od := some oD) ⟨hx, rfl, rfl, hoD⟩ T.sa ?_
  exact PySem.PX.osa_old X hx hns hw hz (clsOf hC) (show PySem.PX.refsVE (.ref C :: bm) = true from ve_px _ hbm) rfl hf (fun h₃ tk₃ k₃ hn₃ => h h₃ tk₃ k₃ hn₃)
/-- the namespace of the fields -/
def fldNs : List (Str × Value) → Str → Option Value
  | [], _ => none
  | (f, v) :: r, y => if y = f then some v else fldNs r y
theorem err_init (T : ErrC prog K C fI fs) {x t0 : Addr} {us : List Value} (X : K.In s.heap) (G : s.heap.Ns mainGlobals mg) (Bn : ∃ mb, s.heap.Ns builtinsNs mb ∧ ∀ x : Str, x ≠ "__name__" → mb x = bootBuiltins x) (hsu : mg "super" = none) (hlim : s.heap.NoLimit)
    (hx : s.heap.get? x = some (excO C t0)) (hxK : K.lookup x = none) (hxG : x ≠ mainGlobals) (hxB : x ≠ builtinsNs) (hroom : A.depth < recursionLimit) (hlen : us.length = fs.length)
    (hq : ∀ h' tk dx, InitEnd s.heap h' x C dx (fldNs (fs.zip us).reverse) → R (.ok (.ret .none)) { s with heap := h', toks := tk }) :
    codeAny (model prog w) A (.call (.ref fI) ⟨.ref x :: us, []⟩) R s := by
  obtain ⟨oc, ct, doc, pm, kV, od, an, osl, cc, cda, cl, ccl, cld, cdd, csl, ccs, vs, file, tf, qual, params, sc, ar, txt, j, p0, p1, p2, p3, p4, p5, body, lk, hcode, hcc, hcd, hvs, hfile, S, hp, har, hpos, hcase⟩ := T.fn
  have xlt : x < s.heap.objs.size := Heap.lt_size hx
  have xL : s.heap.objs.size ≠ x := Nat.ne_of_gt xlt
  rcases hcase with ⟨f, q1, q2, q3, q4, rfl, rfl, hb⟩ | ⟨f, g, q1, q2, q3, q4, r1, r2, r3, r4, rfl, hfg, rfl, hb⟩
  · obtain ⟨v, rfl⟩ : ∃ v, us = [v] := by
      match us, hlen with
      | [v], _ => exact ⟨v, rfl⟩
    obtain ⟨hl, hdb, hfs⟩ := S.fld f (by simp)
    refine ks_codeAny_call_defAt (binds := [(("self" : Str), .ref x), (f, v)]) hroom (X _ _ lk) rfl hlim (codeRec_of X hcode) rfl (BindsTo.of_eq (hb _ _)) S.noc (fun y hy => ?_) (fun h₁ hn k => ?_) S.co S.gen S.kind
    · rcases List.mem_cons.mp hy with rfl | hy
      · exact S.self
      · rcases List.mem_cons.mp hy with rfl | hy
        · exact hl
        · cases hy
    · have X1 : K.In h₁ := X.keeps k
      have mself : (fun y => List.lookup y ([(("self" : Str), Value.ref x), (f, v)] : List (Str × Value)).reverse) "self" = some (.ref x) := by
        have e : (("self" : Str) == f) = false := by simpa using fun z : ("self" : Str) = f => hfs z.symm
        simp [List.lookup, e]
      have mf : (fun y => List.lookup y ([(("self" : Str), Value.ref x), (f, v)] : List (Str × Value)).reverse) f = some v := by simp [List.lookup]
      refine ks_wpAt_execs_cons (err_super T (s := { s with heap := h₁, toks := s.toks + 2 }) X1 (G.keeps k) (by obtain ⟨mb, b1, b2⟩ := Bn; exact ⟨mb, b1.keeps k, b2⟩) hsu lk hcc hcd hvs hfile S hp har (k _ _ hx) hxK xL hpos hn mself fun h2 tk2 M => ?_)
      obtain ⟨t1, hx2⟩ := M.obj
      have X2 : K.In h2 := fun a o e => M.keep a o (fun z => by rw [z, hxK] at e; cases e) (X1 a o e)
      refine wpAt_of_wpAny (wpAny_execs_cons (err_fld1 T (s := { s with heap := h2, toks := tk2 }) X2 hx2 (T.noN f (by simp)) M.ns mself mf S.kind S.self hl hdb fun h3 tk3 dx k3 dn dne hx3 hn3 => ?_))
      exact wpAny_execs_nil (hq h3 tk3 dx ⟨fun b o hb e => k3 b o hb (M.keep b o hb (k b o e)), ⟨t1, hx3⟩, Nat.le_of_lt (Nat.lt_of_lt_of_le M.ns.lt dn), dne, hn3⟩)
  · obtain ⟨v, u, rfl⟩ : ∃ v u, us = [v, u] := by
      match us, hlen with
      | [v, u], _ => exact ⟨v, u, rfl⟩
    obtain ⟨hl, hdb, hfs⟩ := S.fld f (by simp)
    obtain ⟨hl2, hdb2, hfs2⟩ := S.fld g (by simp)
    refine ks_codeAny_call_defAt (binds := [(("self" : Str), .ref x), (f, v), (g, u)]) hroom (X _ _ lk) rfl hlim (codeRec_of X hcode) rfl (BindsTo.of_eq (hb _ _ _)) S.noc (fun y hy => ?_) (fun h₁ hn k => ?_) S.co S.gen S.kind
    · rcases List.mem_cons.mp hy with rfl | hy
      · exact S.self
      · rcases List.mem_cons.mp hy with rfl | hy
        · exact hl
        · rcases List.mem_cons.mp hy with rfl | hy
          · exact hl2
          · cases hy
    · have X1 : K.In h₁ := X.keeps k
      have e1 : (("self" : Str) == f) = false := by simpa using fun z : ("self" : Str) = f => hfs z.symm
      have e2 : (("self" : Str) == g) = false := by simpa using fun z : ("self" : Str) = g => hfs2 z.symm
      have e3 : (f == g) = false := by simpa using hfg
      have mself : (fun y => List.lookup y ([(("self" : Str), Value.ref x), (f, v), (g, u)] : List (Str × Value)).reverse) "self" = some (.ref x) := by simp [List.lookup, e1, e2]
      have mf : (fun y => List.lookup y ([(("self" : Str), Value.ref x), (f, v), (g, u)] : List (Str × Value)).reverse) f = some v := by simp [List.lookup, e3]
      have mg' : (fun y => List.lookup y ([(("self" : Str), Value.ref x), (f, v), (g, u)] : List (Str × Value)).reverse) g = some u := by simp [List.lookup]
      refine ks_wpAt_execs_cons (err_super T (s := { s with heap := h₁, toks := s.toks + 3 }) X1 (G.keeps k) (by obtain ⟨mb, b1, b2⟩ := Bn; exact ⟨mb, b1.keeps k, b2⟩) hsu lk hcc hcd hvs hfile S hp har (k _ _ hx) hxK xL hpos hn mself fun h2 tk2 M => ?_)
      obtain ⟨t1, hx2⟩ := M.obj
      have X2 : K.In h2 := fun a o e => M.keep a o (fun z => by rw [z, hxK] at e; cases e) (X1 a o e)
      refine wpAt_of_wpAny (wpAny_execs_cons (err_fld1 T (s := { s with heap := h2, toks := tk2 }) X2 hx2 (T.noN f (by simp)) M.ns mself mf S.kind S.self hl hdb fun h3 tk3 dx k3 dn dne hx3 hn3 => ?_))
      have X3 : K.In h3 := fun a o e => k3 a o (fun z => by rw [z, hxK] at e; cases e) (X2 a o e)
      have nL : h3.Ns s.heap.objs.size (fun y => List.lookup y ([(("self" : Str), Value.ref x), (f, v), (g, u)] : List (Str × Value)).reverse) := M.ns.at fun o eo => k3 _ o xL eo
      have dbig : s.heap.objs.size < dx := Nat.lt_of_lt_of_le M.ns.lt dn
      refine wpAny_execs_cons (err_fld2 T (s := { s with heap := h3, toks := tk3 }) X3 hx3 hn3 (nl := [f]) (Within.cons f v Within.nil) (by simp) (T.noN g (by simp)) nL mself mg' S.kind S.self hl2 hdb2 fun h4 tk4 k4 hn4 => ?_)
      refine wpAny_execs_nil (hq h4 tk4 dx ⟨fun b o hb e => k4 b o ?_ (k3 b o hb (M.keep b o hb (k b o e))), ⟨t1, k4 _ _ dne.symm hx3⟩, Nat.le_of_lt dbig, dne, hn4⟩)
      exact fun z => Nat.lt_irrefl _ (Nat.lt_trans dbig (by rw [← z]; exact Heap.lt_size e))
end
end Kp
namespace Kp
open PySem PySem.Spec PyProof.Rows L2
section
variable {F : α → β → Prop}
theorem paired_snoc {α β : Type} {F : α → β → Prop} : ∀ {l : List α} {l' : List β} {a : α} {b : β}, PySem.Paired F l l' → F a b → PySem.Paired F (l ++ [a]) (l' ++ [b])
  | [], [], _, _, .nil, h => .cons h .nil
  | _ :: _, _ :: _, _, _, .cons x r, h => .cons x (paired_snoc r h)
theorem paired_rev {α β : Type} {F : α → β → Prop} : ∀ {l : List α} {l' : List β}, PySem.Paired F l l' → PySem.Paired F l.reverse l'.reverse
  | [], [], .nil => .nil
  | _ :: _, _ :: _, .cons x r => by
    rw [List.reverse_cons, List.reverse_cons]
    exact paired_snoc (paired_rev r) x
theorem kv_zip : ∀ {fs : List Str} {vs : List V} {us : List Value}, Vals vs us → KV (fs.zip vs) (fs.zip us)
  | [], _, _, _ => .nil
  | _ :: _, [], [], .nil => .nil
  | _ :: _, _ :: _, _ :: _, .cons a r => .cons ⟨rfl, a⟩ (kv_zip r)
theorem kv_look : ∀ {l : List (Str × V)} {l' : List (Str × Value)} (y : Str), KV l l' → RelO (l.lookup y) (fldNs l' y)
  | [], [], y, .nil => trivial
  | (f, v) :: l, (g, u) :: l', y, .cons ⟨e, r⟩ t => by
    have e : f = g := e
    subst e
    unfold fldNs
    rw [List.lookup_cons]
    by_cases h : y = f
    · subst h
      rw [if_pos rfl]
      simp
      exact r
    · rw [if_neg h, show (y == f) = false from by simpa using h]
      exact kv_look y t
end
section
variable {X : Cx} {C fI : Addr} {fs : List Str}
/-- C(e, ..), C such a class: what the error carries stands in its own dict -/
def tMkE (C : Addr) (fs : List Str) (ta : TA) : L2.St → Hp → XK → Prop := fun σ H Q => ta σ H fun vs H1 => vs.length = fs.length ∧ vs.length ≤ 1000 ∧ ∀ d, H1 d = none → Q (.ref C) (some d) (upd H1 d (.xd (fs.zip vs).reverse))
theorem pmk_E {x : Str} {a : Expr} {es : List Expr} {ta : TA} {p pos : Pos} {k : Nat} (T : ErrC X.prog X.K C fI fs) (hr : Room (k + 1) X.A) (ha : PA X (a :: es) ta) (hsu : X.mg "super" = none) (hm : X.mg x = some (.ref C)) (hg : Gl X x := by rfl) (hdb : (x == ("__debug__" : Str)) = false := by decide)
    (he : starEach (a :: es) X.env = (false, eval a X.env) :: starEach es X.env := by rfl) (hpl : (backTo pos (starEach es X.env)).any (·.1) = false := by rfl) :
    PMk X (.Call (.Name x p) (a :: es) [] pos) (tMkE C fs ta) := by
  intro pins s σ H Q I h
  refine wpAny_Call_Name_kw (ld_glob I hg hm ?_ hdb)
  refine PySem.W.callWith_K (h₀ := X.base) I.ok.mod.kin T.kC (thn (ha.run pos pins s σ H _ I h) fun us s1 hh => ?_) he hpl
  obtain ⟨vs, H1, I1, r1, hl, hz, q1⟩ := hh
  refine ⟨I1.kIn, ?_⟩
  show wpAny _ _ (call (.ref C) us) _ _ _
  have hlim := I1.nolimit
  have hG := I1.mod.glob.keeps I1.bk
  obtain ⟨mb, b1, b2⟩ := I1.mod.blt
  have hB := b1.keeps I1.bk
  have hlu : us.length = fs.length := by rw [← r1.length]; exact hl
  obtain ⟨nm, qn, N, bs, bm, sn, sub, ab, col, dd, k0, k1, k2, k3, k5, hC, hbm⟩ := T.cls
  have kin1 := I1.kIn
  obtain ⟨hp, g, dr, tk, os⟩ := s1
  have kp : ∀ b o, hp.get? b = some o → ((hp.push (PySem.W.kdv_tup us)).push (HandSPX.excO C hp.objs.size)).get? b = some o := fun b o e => Heap.get?_push_of_some _ (Heap.get?_push_of_some _ e)
  have hget : ((hp.push (PySem.W.kdv_tup us)).push (HandSPX.excO C hp.objs.size)).get? (hp.objs.size + 1) = some (HandSPX.excO C hp.objs.size) := by heap_get
  have hnx : X.K.lookup (hp.objs.size + 1) = none := by
    cases e : X.K.lookup (hp.objs.size + 1) with
    | none => rfl
    | some o =>
      have z : hp.get? (hp.objs.size + 1) = some o := kin1 _ _ e
      exact absurd (Nat.lt_of_succ_lt (Heap.lt_size z)) (Nat.lt_irrefl _)
  have nG : hp.objs.size + 1 ≠ mainGlobals := Nat.ne_of_gt (Nat.lt_succ_of_lt hG.lt)
  have nB : hp.objs.size + 1 ≠ builtinsNs := Nat.ne_of_gt (Nat.lt_succ_of_lt hB.lt)
  refine wpAny_call (HandSPX.call_own F.excBase_ValueError (fun X => HandSPX.refsVE_contains X bm hbm) (kin1 _ _ hC) (PySem.W.looks_findIn kin1 T.iC) (fun self => PySem.W.bind_fn kin1 self T.tC) (by rw [← r1.length, sizeLine_eq]; omega) ?_)
  refine err_init (s := ⟨(hp.push (PySem.W.kdv_tup us)).push (HandSPX.excO C hp.objs.size), g, dr, tk, os⟩) T (kin1.keeps kp) (hG.keeps kp) ⟨mb, hB.keeps kp, b2⟩ hsu (hlim.keeps kp) hget hnx nG nB ?_ hlu fun h' tk' dx M => ?_
  · show X.A.depth + 1 < recursionLimit
    have := hr.dp
    omega
  · refine ⟨rfl, ?_⟩
    show MkP X pins σ Q (.ref (hp.objs.size + 1)) ⟨h', g, dr, tk', os⟩
    obtain ⟨t1, hx⟩ := M.obj
    have z : hp.objs.size + 1 + 1 ≤ dx := by
      first
        | (simpa only [Heap.size_push] using M.dbig)
        | exact M.dbig
        | (have q := M.dbig; rw [Heap.size_push, Heap.size_push] at q; exact q)
    have old : ∀ b o, hp.get? b = some o → h'.get? b = some o := fun b o e => M.keep b o (Nat.ne_of_lt (Nat.lt_succ_of_lt (Heap.lt_size e))) (kp b o e)
    have hns := M.ns
    obtain ⟨G', g1, g2⟩ := restrict h' fun b => decide (b ≠ hp.objs.size + 1)
    have gk : ∀ b, b ≠ hp.objs.size + 1 → G'.get? b = h'.get? b := fun b hb => g1 b (decide_eq_true hb)
    have ge : G'.get? (hp.objs.size + 1) = none := g2 (hp.objs.size + 1) (by simp)
    have old' : ∀ b o, hp.get? b = some o → G'.get? b = some o := fun b o q => (gk b (Nat.ne_of_lt (Nat.lt_succ_of_lt (Heap.lt_size q)))).trans (old b o q)
    have ob : ObjOk X.prog X.w (upd H1 dx (.xd (fs.zip vs).reverse)) G' dx (.xd (fs.zip vs).reverse) :=
      ⟨_, hns.at (fun o q => (gk dx M.dne).trans q), fun f => kv_look f (paired_rev (kv_zip r1))⟩
    have dge : hp.objs.size ≤ dx := by omega
    have J : Inv X pins σ (upd H1 dx (.xd (fs.zip vs).reverse)) ⟨G', g, dr, tk', os⟩ := I1.laid (t' := tk') old' dge ob
    refine ⟨hp.objs.size + 1, _, _, ⟨G', g, dr, tk', os⟩, _, .ref C, some dx, rfl, J, fun b o q => ?_, ge, hx, ⟨rfl, rfl⟩, rfl, rfl, ?_, rfl, I1.bare, raises_own T.exC T.tyC, q1 dx (I1.hok.fresh dge)⟩
    · by_cases hb : b = hp.objs.size + 1
      · have q' : G'.get? b = some o := q
        rw [hb, ge] at q'; cases q'
      · exact (gk b hb).symm.trans q
    · rw [upd_ne (Ne.symm M.dne)]
      exact I1.hok.fresh (Nat.le_succ _)
/-- raise C(e, ..) -/
theorem ps_raiseE {x : Str} {a : Expr} {es : List Expr} {ta : TA} {W : WX} {p pos pos2 : Pos} {k : Nat} (hc : X.calm = true) (tk : Takes X W) (T : ErrC X.prog X.K C fI fs) (hr : Room (k + 1) X.A) (ha : PA X (a :: es) ta) (hsu : X.mg "super" = none) (hm : X.mg x = some (.ref C)) (hg : Gl X x := by rfl)
    (hdb : (x == ("__debug__" : Str)) = false := by decide)
    (he : starEach (a :: es) X.env = (false, eval a X.env) :: starEach es X.env := by rfl) (hpl : (backTo pos (starEach es X.env)).any (·.1) = false := by rfl) :
    PS X (.Raise (some (.Call (.Name x p) (a :: es) [] pos)) none pos2) (fun _ σ H => tMkE C fs ta σ H fun cls d H' => W cls d σ H') := ps_raise hc tk (pmk_E T hr ha hsu hm hg hdb he hpl)
end
/-! ### try: .. except X as n: suite, the rest of the block knowing the error -/
section
variable {X : Cx} {pins : List (Addr × Obj)} {σ : L2.St} {H : Hp} {s : Shared}
theorem unsuiteK {a : Addr} {oe : Obj} {pn' : List (Addr × Obj)} (I : Inv (X.suite a ((a, oe) :: (X.pn ++ pins))) pn' σ H s) (ok : X.Ok) : Inv X ((a, oe) :: pins) σ H s :=
  ⟨ok, I.os, I.bare, I.base, I.loc, I.cell, I.free, I.freeC, fun p hp => I.pin p (by
    refine List.mem_append_left _ ?_
    rcases List.mem_append.mp hp with h | h
    · exact List.mem_cons_of_mem _ (List.mem_append_left _ h)
    · rcases List.mem_cons.mp h with e | h
      · rw [e]
        exact List.mem_cons_self
      · exact List.mem_cons_of_mem _ (List.mem_append_right _ h)), I.hok, I.len⟩
/-- the context of the rest -/
abbrev keepC (X : Cx) (a : Addr) (oe : Obj) (pn : List (Addr × Obj)) : Cx := X.tr ((a, oe) :: pn) X.xe
theorem toKeep {a : Addr} {oe : Obj} (I : Inv X ((a, oe) :: pins) σ H s) : Inv (keepC X a oe (X.pn ++ pins)) [] σ H s :=
  ⟨I.ok.toTry _ _, I.os, I.bare, I.base, I.loc, I.cell, I.free, I.freeC, fun p hp => I.pin p (by
    rw [List.append_nil] at hp
    rcases List.mem_cons.mp hp with e | h
    · rw [e]
      exact List.mem_append_right _ List.mem_cons_self
    · rcases List.mem_append.mp h with h | h
      · exact List.mem_append_left _ h
      · exact List.mem_append_right _ (List.mem_cons_of_mem _ h)), I.hok, I.len⟩
theorem ofKeep {a : Addr} {oe : Obj} {pn' : List (Addr × Obj)} (I : Inv (keepC X a oe (X.pn ++ pins)) pn' σ H s) (ok : X.Ok) : Inv X pins σ H s :=
  ⟨ok, I.os, I.bare, I.base, I.loc, I.cell, I.free, I.freeC, fun p hp => I.pin p (List.mem_append_left _ (List.mem_cons_of_mem _ hp)), I.hok, I.len⟩
def wKeep (K : PySem.W.Frag) (n : Nat) (c : Value) (i : Nat) (ts ur : Addr → Value → Option Addr → TS) (Wout : WX) (D : Ends) : WX := fun cls d σ H => σ.length = n →
  ∃ b, PySem.W.exmOne K cls c = some b ∧ (b = true → ∀ a, H a = none → ts a cls d { nx := fun σ' H' => ur a cls d D (σ'.set i none) H', rt := fun _ _ => False, bk := fun _ _ => False, ct := fun _ _ => False } (σ.set i (some (.ref a))) H) ∧
    (b = false → Wout cls d σ H)
variable {x n : Str} {c : Value} {i : Nat} {body suite rest : List Stmt} {b₀ : Stmt} {np pos pos' : Pos} {tb : WX → TS} {ts ur : Addr → Value → Option Addr → TS} {u : TS} {Wout : WX}
theorem pss_try_keep (hs : X.stack = X.env :: X.outer) (hf : X.env.frame = some X.env.locals) (hN : X.N.Nodup) (hi : X.N[i]? = some n) (hln : X.env.kindOf n = some .local) (hc : Names X x c) (tk : Takes X Wout)
    (hb : ∀ (W : WX) (pn : List (Addr × Obj)) (xe : Value → Shared → Prop), Takes (X.tr pn xe) W → PassesOwn (model X.prog X.w) X.A X.env xe → PSs (X.tr pn xe) body (tb W))
    (hsu : ∀ (a : Addr) (oe : Obj) (cls : Value) (d : Option Addr) (pn : List (Addr × Obj)), Zc cls d oe → (∃ vs, oe.data = .fields vs) → PSs (X.suite a ((a, oe) :: pn)) (b₀ :: suite) (ts a cls d))
    (hr : ∀ (a : Addr) (oe : Obj) (cls : Value) (d : Option Addr) (pn : List (Addr × Obj)), Zc cls d oe → (∃ vs, oe.data = .fields vs) → PSs (keepC X a oe pn) rest (ur a cls d)) (hu : PSs X rest u) :
    PSs X (.Try body [.ExceptHandler (some (.Name x np)) (some n) (b₀ :: suite) pos'] [] [] pos :: rest) (fun D σ H => tb (wKeep X.K X.N.length c i ts ur Wout D) { nx := u D, rt := D.rt, bk := fun _ _ => False, ct := fun _ _ => False } σ H) := by
  refine ⟨fun pins s σ H D I h => ?_⟩
  have ok := I.ok
  have hfr : X.A.frames = some (X.env :: X.outer) := by rw [ok.frames, hs]
  have hloc : Loc X.env.scope n := .inl hln
  have fromX : ∀ {s1 : Shared} {f : Flow}, SP X pins { nx := u D, rt := D.rt, bk := fun _ _ => False, ct := fun _ _ => False } f s1 → (match f with | .next => wpAny (model X.prog X.w) X.A (execs rest X.env) (SP X pins D) X.xe s1 | f => SP X pins D f s1) := fun {s1 f} q => by
    cases f with
    | next =>
      obtain ⟨σ', H', I', q⟩ := q
      exact hu.run pins s1 σ' H' D I' q
    | ret v => exact q
    | brk =>
      obtain ⟨_, _, _, q⟩ := q
      exact q.elim
    | cont =>
      obtain ⟨_, _, _, q⟩ := q
      exact q.elim
  refine wpAny_execs_cons ?_
  refine wpAny_Try_except ?_
  refine wpAny_mono ((hb (wKeep X.K X.N.length c i ts ur Wout D) (X.pn ++ pins) (fun e s₁ => wpAny (model X.prog X.w) X.A (noteFrame e X.env) (fun _ s₂ => wpAny (model X.prog X.w) X.A (setFlight e none) (fun _ s₃ =>
    wpAny (model X.prog X.w) X.A (handleBy e X.env [.ExceptHandler (some (.Name x np)) (some n) (b₀ :: suite) pos']) (fun f s' => match f with | .next => wpAny (model X.prog X.w) X.A (execs rest X.env) (SP X pins D) X.xe s' | f => SP X pins D f s') X.xe s₃) X.xe s₂) X.xe s₁) (fun u s' xx => ?_) PassesOwn.looking).run [] s σ H _ (I.toTry _) h) (fun f s1 hsp => ?_) (fun e s1 he => he)
  · -- the catch
    obtain ⟨a, B, sI, pins', σ', H', cls, d, rfl, J', nb, up, sky, na, os, ag, W0⟩ := xx
    have J : Inv X pins σ' H' sI := J'.ofTry ok
    obtain ⟨b, hb1, hyes, hno⟩ := W0 J.len
    have sky' : Sky B (X.env :: X.outer) a (Zc cls d) X.env.locals s'.heap := by rw [← hs]; exact sky
    show wpAny (model X.prog X.w) X.A (noteFrame (.ref a) X.env) _ _ _
    refine Sky.land Zc.steady hfr hf sky' fun h3 fl3 up3 => ?_
    have J3 : Inv X pins σ' H' { s' with heap := h3 } := J.landed nb fl3.1 (up.trans up3) os ag
    obtain ⟨oe3, vs3, he3, hz3, hd3⟩ := fl3.there
    have notFr : ∀ {h : Heap} {o : Obj} {vs : Array Value}, h.FunFrames B (X.env :: X.outer) → h.get? a = some o → o.data = .fields vs → a ∉ frs (X.env :: X.outer) := fun {h o vs} ff e dd hm => by
      obtain ⟨_, o', e', hnf⟩ := ff.mem hm
      rw [e] at e'; cases e'
      exact hnf _ dd
    have nfr := notFr fl3.2.2.1 he3 hd3
    have nL : a ≠ X.env.locals := fun z => nfr (List.mem_filterMap.mpr ⟨X.env, List.mem_cons_self, by rw [hf, z]⟩)
    have nF : a ∉ X.fs := fun hm => by
      obtain ⟨e, he, q⟩ := List.mem_filterMap.mp hm
      exact nfr (List.mem_filterMap.mpr ⟨e, List.mem_cons_of_mem _ he, q⟩)
    have S3 := J3.suite he3 hd3 na nL nF
    refine wpAny_handleBy_cons (codeAny_handlers_test ?_) (by intro q; cases q)
    have LT : PySem.W.Looks (model X.prog X.w) h3 (typeOf (.ref a)) cls := fun A Q E s k q => wpAny_typeOf_ref (k _ _ he3) (by rw [hz3.1]; exact q)
    have LM := PySem.W.exm_one (M := model X.prog X.w) (J3.kIn) LT hb1
    have test : ∀ {Q : Value → Shared → Prop} {E : Value → Shared → Prop}, Q c { s' with heap := h3 } → wpAny (model X.prog X.w) (X.A.mark (some (.ref a))) (eval (.Name x np) X.env) Q E { s' with heap := h3 } := fun {Q E} q => by
      obtain ⟨hg, hdbg, hm | ⟨hm, hv, hnn⟩⟩ := hc
      · exact ld_glob (X := X.suite a ((a, oe3) :: (X.pn ++ pins))) S3 hg hm q hdbg
      · exact ld_blt (X := X.suite a ((a, oe3) :: (X.pn ++ pins))) S3 hg hm hv q hnn hdbg
    refine test (LM.here ?_)
    cases b with
    | true =>
      refine codeAny_handlers_suite_as ?_
      refine HandSPX.lands_againZ fl3 fun h4 fl4 up4 => ?_
      have J4 : Inv X pins σ' H' { s' with heap := h4 } := J.landed nb fl4.1 ((up.trans up3).trans up4) os ag
      obtain ⟨oe4, vs4, he4, hz4, hd4⟩ := fl4.there
      have S4 := J4.suite he4 hd4 na nL nF
      refine store_ok (X := X.suite a ((a, oe4) :: (X.pn ++ pins))) (v := .ref a) S4 hN hi hloc rfl (fun s5 S5 => ?_) (.inr hln)
      refine wpAny_mono ((hsu a oe4 cls d (X.pn ++ pins) hz4 ⟨_, hd4⟩).run [] s5 _ H' _ S5 (hyes rfl a na)) (fun f s6 hsp => ?_) (fun _ _ z => False.elim z)
      have end_ : ∀ {σ6 : L2.St} {H6 : Hp} {Q : Shared → Prop}, Inv (X.suite a ((a, oe4) :: (X.pn ++ pins))) [] σ6 H6 s6 → (∀ s7, Inv X ((a, oe4) :: pins) (σ6.set i none) H6 s7 → Q s7) →
          wpAny (model X.prog X.w) X.A (do bindName X.env n .none; unbindBehindTheSuite X.env n pos') (fun _ s7 => Q s7) X.xe s6 := fun {σ6 H6 Q} S6 hq => gone_ok (unsuiteK S6 ok) hN hi hln hq
      cases f with
      | next =>
        obtain ⟨σ6, H6, S6, q6⟩ := hsp
        refine end_ S6 fun s7 J7 => ?_
        refine wpAny_mono ((hr a oe4 cls d (X.pn ++ pins) hz4 ⟨_, hd4⟩).run [] s7 _ H6 D (toKeep J7) q6) (fun f s8 hsp => ?_) (fun _ _ z => z)
        cases f with
        | next =>
          obtain ⟨σ8, H8, I8, q⟩ := hsp
          exact ⟨σ8, H8, ofKeep I8 ok, q⟩
        | brk =>
          obtain ⟨σ8, H8, I8, q⟩ := hsp
          exact ⟨σ8, H8, ofKeep I8 ok, q⟩
        | cont =>
          obtain ⟨σ8, H8, I8, q⟩ := hsp
          exact ⟨σ8, H8, ofKeep I8 ok, q⟩
        | ret v =>
          obtain ⟨v8, σ8, H8, I8, r, q⟩ := hsp
          exact ⟨v8, σ8, H8, ofKeep I8 ok, r, q⟩
      | brk =>
        obtain ⟨σ6, H6, S6, q6⟩ := hsp
        exact q6.elim
      | cont =>
        obtain ⟨σ6, H6, S6, q6⟩ := hsp
        exact q6.elim
      | ret u =>
        obtain ⟨v6, σ6, H6, S6, r6, q6⟩ := hsp
        exact q6.elim
    | false =>
      show wpAny _ X.A (handleBy (.ref a) X.env []) _ _ _
      refine wpAny_handleBy_nil ?_
      obtain ⟨k1, k2, k3, oe, vs, T, oT, ts', he, hz, hd, h1, hr⟩ := id fl3
      unfold PySem.passOn
      refine wpAny_bind (wpAny_field he hd h1 ?_)
      rw [if_neg (show ¬ ((Value.ref T == Value.none) = true) from by simp)]
      have fin : ∀ {Q : Flow → Shared → Prop}, wpAny (model X.prog X.w) X.A (setFlight (.ref a) X.env.frame) (fun _ s4 => wpAny (model X.prog X.w) X.A (throw (.ref a) : Sem Flow) Q X.xe s4) X.xe { s' with heap := h3 } := by
        intro Q
        rw [hf]
        refine HandSPX.setFlight_upZ fl3 fun h4 hh4 up4 => wpAny_throw (tk _ _ ?_)
        exact ⟨a, B, sI, pins, σ', H', cls, d, rfl, J, nb, (up.trans up3).trans up4, .inr (.inr (by rw [hs]; exact hh4)), na, os, ag, hno rfl⟩
      first
        | exact wpAny_bind (wpAny_pure (wpAny_bind fin))
        | exact wpAny_bind fin
  · cases f with
    | next =>
      obtain ⟨σ', H', J', q⟩ := hsp
      exact wpAny_execs_nil (fromX (f := .next) ⟨σ', H', J'.ofTry ok, q⟩)
    | brk =>
      obtain ⟨σ', H', J', q⟩ := hsp
      exact q.elim
    | cont =>
      obtain ⟨σ', H', J', q⟩ := hsp
      exact q.elim
    | ret u =>
      obtain ⟨v, σ', H', J', r, q⟩ := hsp
      exact ⟨v, σ', H', J'.ofTry ok, r, q⟩
end
end Kp
set_option maxHeartbeats 4000000
/-! The caught error asked beyond its suite: isinstance, fields; repr of texts. -/
namespace Kp
open PySem PySem.Spec PySem.Calls PyProof.Rows
section
open PySem.W
variable {prog : Program} {w : World} {A : Around} {E : Value → Shared → Prop} {s : Shared} {K : Frag} {x D : Addr} {ox od : Obj}
theorem kin_classEd {Q : Option Value → Shared → Prop} (hga : findIn K (.ref D) "__getattribute__" = some (some (.builtin "BaseException.__getattribute__"))) (hgt : findIn K (.ref D) "__getattr__" = some none) (hsub : subIn K (.ref D) (.type "BaseException") = some true)
    (hdct : hasDictIn K D = true) (ha : findIn K (.ref D) "__class__" = some (some (.builtin "object.__class__")))
    (hn : specialIn K (.builtin "object.__class__") "__get__" = some (some (.builtin "getset_descriptor.__get__"))) (htk : takesIn K (.builtin "object.__class__") = some true) (hm : mroIn K D (.type "object") = some true)
    (X : K.In s.heap) (I : InstAt s.heap x ox D (some od)) (h : Q (some (.ref D)) { s with toks := s.toks + 1 }) : wpAny (model prog w) A (getAttr? (.ref x) "__class__") Q E s := by
  have hf : findObj K D (some od) "__class__" = some (.bind (.builtin "getset_descriptor.__get__") (.builtin "object.__class__")) := findObj_data (by obtain ⟨cd, hc, _⟩ := any_some hdct; rw [hc]; rfl) ha hn htk
  obtain ⟨hp, g, d, t, os⟩ := s
  have L0 := I.type (M := model prog w)
  have L1 := looks_findIn (M := model prog w) X hga
  have L2 := looks_findIn (M := model prog w) X hgt
  have L3 := looks_find (M := model prog w) X I hf
  have sub : Looks (model prog w) hp (isInstance (.ref x) (.type "BaseException")) true := L0.andThen (looks_subIn X hsub)
  have hx0 : (false && onTheHeap (Value.builtin "BaseException.__getattribute__")) = false := rfl
  have hx2 : (Value.builtin "BaseException.__getattribute__" == Value.builtin "object.__getattribute__") = false := by decide +kernel
  have hx1 : (onTheHeap (Value.ref D) && Value.builtin "BaseException.__getattribute__" == Value.builtin "object.__getattribute__") = false := by rw [hx2]; rfl
  unfold getAttr? getAttrBy? getAttrBy
  refine wpAny_bind (wpAny_mkText (wpAny_bind (wpAny_attempt (wpAny_holding (wpAny_bind (L0.at (wpAny_bind (L1.at ?_))))))))
  show wpAny _ _ (if (onTheHeap (Value.ref D) && Value.builtin "BaseException.__getattribute__" == Value.builtin "object.__getattribute__") = true then _ else _) _ _ _
  rw [hx1, if_neg Bool.false_ne_true]
  unfold getAttrByItsOwn hookBefore
  refine wpAny_bind ?_
  rw [if_pos (show onTheHeap (Value.ref D) = true from rfl)]
  refine L2.at ?_
  refine wpAny_bind (wpAny_attempt (wpAny_holding ?_))
  unfold callGetattribute
  rw [hx0, if_neg Bool.false_ne_true]
  unfold boundAndCalled
  rw [PySem.F.excAttr_ValueError.ga.bind (.ref x)]
  refine wpAny_bind (wpAny_pure ?_)
  show wpAny _ _ (call (.builtin "BaseException.__getattribute__") [.ref x, .str "__class__" t]) _ _ _
  refine wpAny_call (codeAny_call_builtin PySem.F.excAttr_ValueError.ga.plain PySem.F.entry_bexc_ga ?_)
  refine @check_slot (model prog w) _ _ ⟨hp, g, d, t + 1, os⟩ "BaseException.__getattribute__" "BaseException" "__getattribute__" (.ref x) [.str "__class__" t] [] _ (by decide +kernel) (by decide +kernel) sub (PySem.F.args_bexc_ga (.ref x) (.str "__class__" t)) ?_
  unfold Builtin.«object.__getattribute__»
  refine wpAny_bind (wpAny_of_eq (a := ((Value.ref x : Value), [Value.str "__class__" t])) (by first | rfl | (simp only [slotArgs]; rfl)) ?_)
  refine wpAny_bind (wpAny_pure (wpAny_bind (L0.at (wpAny_bind (L3.at ?_)))))
  show wpAny _ _ (holding [Value.builtin "object.__class__"] (call (.builtin "getset_descriptor.__get__") [.builtin "object.__class__", .ref x, .ref D]) >>= ret) _ _ _
  refine wpAny_bind (wpAny_holding (wpAny_call (class_get (s := ⟨hp, g, d, t + 1, os⟩) (ox := ox) (od := some od) X I hm ?_)))
  refine wpAny_pure ?_
  show wpAny _ _ (handedOut (.ref D)) _ _ _
  rw [handedOut_of (v := .ref D) rfl]
  first
    | exact wpAny_pure (wpAny_pure h)
    | exact wpAny_pure h
    | exact wpAny_pure (wpAny_bind (wpAny_pure (wpAny_pure h)))
theorem kitx_excD (hga : findIn K (.ref D) "__getattribute__" = some (some (.builtin "BaseException.__getattribute__"))) (hgt : findIn K (.ref D) "__getattr__" = some none) (hsub : subIn K (.ref D) (.type "BaseException") = some true) (hdct : hasDictIn K D = true) (ha : findIn K (.ref D) "__class__" = some (some (.builtin "object.__class__")))
    (hn : specialIn K (.builtin "object.__class__") "__get__" = some (some (.builtin "getset_descriptor.__get__"))) (htk : takesIn K (.builtin "object.__class__") = some true) (hm : mroIn K D (.type "object") = some true) :
    KitX K (.ref x) (.ref D) (fun h => InstAt h x ox D (some od)) where
  ty := fun _ _ _ I => I.type
  it := fun _ _ X _ => by
    obtain ⟨cdD, hcD, _⟩ := any_some hdct
    unfold clsIn at hcD
    split at hcD
    · rename_i c' d' cd' sl' ho
      intro A' Q' E' s' k q
      unfold isType loadHead
      exact wpAny_bind (wpAny_loadPart (k _ _ (X _ _ ho)) (wpAny_pure q))
    · cases hcD
  ne := fun h tp dd its n sl X htp => by
    obtain ⟨cdD, hcD, _⟩ := any_some hdct
    refine Bool.eq_false_iff.mpr fun q => ?_
    have e : D = tp := Value.ref.inj (beq_iff_eq.mp q)
    subst e
    unfold clsIn at hcD
    split at hcD
    · rename_i c' d' cd' sl' ho
      have z := (X _ _ ho).symm.trans htp
      cases z
    · cases hcD
  ca := fun X I k => kin_classEd hga hgt hsub hdct ha hn htk hm X I k
end
end Kp
namespace Kp
open PySem PySem.Spec PyProof.Rows L2
section
variable {X : Cx} {a : Addr} {oe : Obj} {cls : Value} {d : Option Addr} {pn : List (Addr × Obj)}
/-- the kept error's dict is tracked at dd -/
def rIsK (K : PySem.W.Frag) (a : Addr) (cls : Value) (d : Option Addr) : List V → Hp → VK → Prop := fun xs H Q => ∃ (D dd : Addr) (fs : List (Str × V)) (c : V) (cv : Value) (b : Bool), xs = [.ref a, c] ∧ cls = .ref D ∧ d = some dd ∧ H dd = some (.xd fs) ∧ ExcC K D ∧
  (∀ u, RelV c u → u = cv) ∧ PySem.W.kitOne K (.ref D) cv = some b ∧ Q (.bl b) H
theorem keep_inst {pins : List (Addr × Obj)} {σ : L2.St} {H : Hp} {s : Shared} {D dd : Addr} {fs : List (Str × V)} (I : Inv (keepC X a oe pn) pins σ H s) (hz : Zc cls d oe) (hf : ∃ vs, oe.data = .fields vs) (ec : cls = .ref D) (ed : d = some dd) (ea : H dd = some (.xd fs)) :
    ∃ (od : Obj) (mA : Str → Option Value), PySem.W.InstAt s.heap a oe D (some od) ∧ (∀ f, PySem.W.lookIn f od = some (mA f)) ∧ ∀ f, RelO (fs.lookup f) (mA f) := by
  subst ec
  subst ed
  obtain ⟨ha, _⟩ := I.pin (a, oe) (List.mem_append_left _ List.mem_cons_self)
  obtain ⟨vs, hd⟩ := hf
  have hx : ObjOk X.prog X.w H s.heap dd (.xd fs) := I.hok dd _ ea
  obtain ⟨mA, hns, hr⟩ := hx
  obtain ⟨od, ho, hl⟩ := lookIn_ns hns
  exact ⟨od, mA, ⟨ha, hz.1, by unfold PySem.W.notCls; rw [hd] <;> rfl, by rw [hz.2]; exact ho⟩, hl, hr⟩
theorem call_isK (hz : Zc cls d oe) (hf : ∃ vs, oe.data = .fields vs) : CallR (keepC X a oe pn) (.builtin "isinstance") (rIsK X.K a cls d) := by
  intro pins s σ H xs us Q I r h
  obtain ⟨D, dd, fs, c, cv, b, rfl, ec, ed, ea, C, hcv, e, q⟩ := h
  obtain ⟨u1, u2, rfl, r1, r2⟩ := vals2 r
  cases (show u1 = Value.ref a from r1)
  cases hcv _ r2
  obtain ⟨od, mA, J, _, _⟩ := keep_inst I hz hf ec ed ea
  exact PySem.W.kia_one (kitx_excD C.hg C.hk C.hs C.hd C.ha C.hn C.ht C.hm) I.kIn J e (fun z => nomatch z) fun tk => ⟨.bl b, H, I.tok _, rfl, q⟩
theorem pe_xfK {C : Addr} {e : Expr} {te : TE} {n : Str} {pos : Pos} (T : XfC X.K C) (hno : PySem.W.findIn X.K (.ref C) n = some none)
    (hz : Zc cls d oe) (hf : ∃ vs, oe.data = .fields vs) (he : PE (keepC X a oe pn) e te) (hb : attributeBase e n X.env (eval e X.env) = eval e X.env := by rfl) :
    PE (keepC X a oe pn) (.Attribute e n pos) (tXf a cls d C n te) := by
  refine ⟨fun pins s σ H Q I h => ?_⟩
  refine attr_of hb (thn (he.run pins s σ H _ I h) fun u s1 hh => ?_)
  obtain ⟨x, H1, I1, rx, ex, ec, dd, fs, v, ed, ea, l, q⟩ := hh
  subst ex
  obtain rfl : u = Value.ref a := rx
  obtain ⟨od, mA, J, hl, hr⟩ := keep_inst I1 hz hf ec ed ea
  obtain ⟨u, hu, ru⟩ := RelO.some_of (v := v) (o := mA n) (by rw [← l]; exact hr n)
  exact HandSPX.exc_get I1.kIn J T.ga T.gg T.exC (PySem.W.findObj_own T.hdC hno rfl (by rw [hl, hu])) (handed_of ru) ⟨v, H1, I1.tok _, ru, q⟩
end
section
variable {X : Cx}
/-- repr of a text -/
def rReprS : List V → Hp → VK → Prop := fun xs H Q => ∃ a : Str, xs = [.str a] ∧ (reprText a).length ≤ sizeLine ∧ Q (.str (reprText a)) H
def rReprA : List V → Hp → VK → Prop := fun xs H Q => rReprS xs H Q ∨ ∃ i : Int, xs = [.int i] ∧ i.natAbs.log2 < 1920 ∧ Q (.str (toString i)) H
theorem call_repr_any : CallR X (.builtin "repr") rReprA := by
  intro pins s σ H xs us Q I r h
  rcases h with ⟨a, rfl, hz, q⟩ | h
  · obtain ⟨u, rfl, t, rfl⟩ := vals1 r
    exact PySem.P.repr_of_str ⟨.str _, H, I.tok _, ⟨_, rfl⟩, q⟩ hz
  · exact SkE.call_repr_int pins s σ H xs us Q I r h
end
end Kp
set_option maxHeartbeats 4000000
/-! The facts of a top's names, read by a Hook: defs, own classes, own errors, code tables. -/
namespace KpH
open PySem PySem.Spec PyProof.Rows L2 Kp
open He (ga ma fAd Fa ba eqO eqO_ok emptyTab emptyTab_eq frG frT frT_in frT_none growD Defn cT codeOf codeOf_eq codeIn_ref tabsB)
/-! ### what is looked at -/
/-- what an object names, of a class's dict the wanted names alone -/
def refsZ (want : List Str) (o : Obj) : List Addr := match o.data with
  | .func fd => He.refV fd.code ++ fd.closure.map (·.2)
  | .cls cd => cd.ns :: (cd.mro.drop 1).flatMap He.refV
  | .dict es _ => es.toList.flatMap fun e => (match e.key with
    | .str x _ => (match want.contains x with
      | true => He.refV e.val
      | false => [])
    | _ => [])
  | .fields vs => (match o.cls with
    | .type c => (match decide (c = "code") with
      | true => []
      | false => vs.toList.flatMap He.refV)
    | _ => [])
  | _ => []
def lev (g : Addr → Option Obj) (want : List Str) : Nat → List Addr → List Addr
  | 0, as => as
  | n + 1, as => as ++ lev g want n (as.flatMap fun a => match g a with
    | some o => refsZ want o
    | none => [])
def asZ (g : Addr → Option Obj) (names : List Str × List Str) (n : Nat) : List Addr := mainGlobals :: PySem.cStatics :: lev g names.2 n (names.1.map (ga (frG g [mainGlobals])))
abbrev frZ (g : Addr → Option Obj) (names : List Str × List Str) (n : Nat) : PySem.W.Frag := frT g (asZ g names n)
/-! ### own errors -/
/-- the text of such an __init__ -/
structure ErrT (st : Stmt) (qual : Str) (fs : List Str) : Prop where
  sc : ErrS (defScope st) fs
  body : ∃ (ar : Arg) (txt : Str) (j : Nat) (p0 p1 p2 p3 p4 p5 : Pos) (rest : List Stmt), defBody st = eInit p0 p1 p2 p3 p4 p5 txt j :: rest ∧ ((defArgs st).posonlyargs ++ (defArgs st).args).head? = some ar ∧ ar.arg = "self" ∧ (p2.endLine == p4.line) = true ∧
    ((∃ f q1 q2 q3 q4, fs = [f] ∧ rest = [eFld f q1 q2 q3 q4] ∧ ∀ (kV doc pm : Value) (an : Option Addr) (cda : Addr) (ct : Value) (cc : Addr) (x v : Value), bindArgs (PySem.W.ksFn "__init__" qual (defArgs st) (eInit p0 p1 p2 p3 p4 p5 txt j :: rest) (defScope st) .none kV doc pm an (.ref cda) ct cc) ⟨[x, v], []⟩ = pure ([(("self" : Str), x), (f, v)] : List (Str × Value))) ∨
     (∃ f g q1 q2 q3 q4 r1 r2 r3 r4, fs = [f, g] ∧ f ≠ g ∧ rest = [eFld f q1 q2 q3 q4, eFld g r1 r2 r3 r4] ∧
      ∀ (kV doc pm : Value) (an : Option Addr) (cda : Addr) (ct : Value) (cc : Addr) (x v u : Value), bindArgs (PySem.W.ksFn "__init__" qual (defArgs st) (eInit p0 p1 p2 p3 p4 p5 txt j :: rest) (defScope st) .none kV doc pm an (.ref cda) ct cc) ⟨[x, v, u], []⟩ = pure ([(("self" : Str), x), (f, v), (g, u)] : List (Str × Value))))
def clsE (K : PySem.W.Frag) (C : Addr) : Bool := match K.lookup C with
  | some ⟨.type "type", _, .cls cd, sl⟩ => (match cd.mro, sl.toList with
    | .ref C' :: bm, [_, _, _, _, some (.builtin n), _] => C' == C && n == "ValueError.__new__" && !cd.hasDel && cd.hasDict && PySem.HandSPX.refsVE bm
    | _, _ => false)
  | _ => false
theorem clsE_ok {K : PySem.W.Frag} {C : Addr} (q : clsE K C = true) : ∃ nm q N bs bm sn sub ab col dd k0 k1 k2 k3 k5, K.lookup C = some (excClassObj nm q C N bs bm true sn sub ab col dd k0 k1 k2 k3 k5 "ValueError.__new__") ∧ PySem.HandSPX.refsVE bm = true := by
  unfold clsE at q
  split at q
  · rename_i dd cd sl ho
    split at q
    · rename_i C' bm k0 k1 k2 k3 n k5 hm hs
      simp only [Bool.and_eq_true, beq_iff_eq, Bool.not_eq_true'] at q
      obtain ⟨⟨⟨⟨rfl, rfl⟩, hdel⟩, hdict⟩, ht⟩ := q
      obtain ⟨nm, bs, mro, ns, qn, hd, sn, sub, ab, col, del⟩ := cd
      dsimp only at hm hdel hdict
      subst hm hdel hdict
      have hsl : sl = #[k0, k1, k2, k3, some (.builtin "ValueError.__new__"), k5] := by
        obtain ⟨l⟩ := sl
        simp only at hs
        rw [hs]
      subst hsl
      exact ⟨nm, qn, ns, bs, bm, sn, sub, ab, col, dd, k0, k1, k2, k3, k5, ho, ht⟩
    · cases q
  · cases q
def cellE (K : PySem.W.Frag) (cc C : Addr) : Bool := match K.lookup cc with
  | some ⟨_, _, .cell (some (.ref D)), _⟩ => decide (D = C)
  | _ => false
theorem cellE_ok {K : PySem.W.Frag} {cc C : Addr} (h : cellE K cc C = true) : ∃ cl cld csl, K.lookup cc = some ⟨cl, cld, .cell (some (.ref C)), csl⟩ := by
  unfold cellE at h
  split at h
  · rename_i cl cld D csl e
    rw [of_decide_eq_true h] at e
    exact ⟨cl, cld, csl, e⟩
  · cases h
def codeE (P : Program) (K : PySem.W.Frag) (c : Addr) : Bool := match K.lookup c with
  | some ⟨_, _, .fields vs, _⟩ => (match (vs[2]? : Option Value) with
    | some (.str file _) => P.main.file == file
    | _ => false)
  | _ => false
theorem codeE_ok {P : Program} {K : PySem.W.Frag} {c : Addr} (h : codeE P K c = true) : ∃ ccl cdd vs ccs file tf, K.lookup c = some ⟨ccl, cdd, .fields vs, ccs⟩ ∧ vs[2]? = some (.str file tf) ∧ (P.main.file == file) = true := by
  unfold codeE at h
  split at h
  · rename_i ccl cdd vs ccs e
    split at h
    · rename_i file tf e2
      exact ⟨ccl, cdd, vs, ccs, file, tf, e, e2, h⟩
    · cases h
  · cases h
abbrev FnE : Type := Option (Str × Str × Arguments × FuncBody × Scope × Addr × Addr)
def fnE (K : PySem.W.Frag) (a : Addr) : FnE := match K.lookup a with
  | some ⟨_, _, .func fd, _⟩ => some (fd.name, fd.qualname, fd.params, fd.body, fd.scope, fd.globals, fd.builtins)
  | _ => none
def three (cl : List (Str × Addr)) (cd df : Value) (F : Str → Addr → Addr → Bool) : Bool := match cl, cd, df with
  | [(nm, cc)], .ref cda, .none => F nm cc cda
  | _, _, _ => false
theorem three_ok {cl : List (Str × Addr)} {cd df : Value} {F : Str → Addr → Addr → Bool} (h : three cl cd df F = true) : ∃ nm cc cda, cl = [(nm, cc)] ∧ cd = .ref cda ∧ df = .none ∧ F nm cc cda = true := by
  unfold three at h
  split at h
  · exact ⟨_, _, _, rfl, rfl, rfl, h⟩
  · cases h
def fnEB (P : Program) (K : PySem.W.Frag) (a C : Addr) (qual : Str) : Bool := match K.lookup a with
  | some ⟨_, _, .func fd, _⟩ => three fd.closure fd.code fd.defaults fun nm cc cda => decide (nm = "__class__") && (cellE K cc C && (codeE P K cda && PySem.W.codeIn K (.ref cda) qual))
  | _ => false
structure ErrD where
  cls : Str
  qual : Str
  st : Stmt
  fs : List Str
def ErrD.C (d : ErrD) (K : PySem.W.Frag) : Addr := ga K d.cls
def ErrD.f (d : ErrD) (K : PySem.W.Frag) : Addr := ma K (d.C K) "__init__"
def ErrD.val (d : ErrD) : FnE := some ("__init__", d.qual, defArgs d.st, .stmts (defBody d.st), defScope d.st, mainGlobals, builtinsNs)
def ErrD.facts (d : ErrD) (K : PySem.W.Frag) : Bool := decide (PySem.W.findIn K (.ref (d.C K)) "__setattr__" = some (some (.builtin "object.__setattr__"))) && ((d.fs.all fun f => decide (PySem.W.findIn K (.ref (d.C K)) f = some none)) && (decide (PySem.W.findIn K (.ref (d.C K)) "__init__" = some (some (.ref (d.f K)))) &&
  (decide (PySem.W.typeIn K (.ref (d.f K)) = some (.type "function")) && (PySem.W.keepIn K (.ref (d.C K)) && (decide (PySem.W.subIn K (.ref (d.C K)) (.type "BaseException") = some true) && (decide (PySem.W.subIn K (.ref (d.C K)) (.type "ValueError") = some true) &&
  (decide (PySem.W.mroIn K (d.C K) (.ref (d.C K)) = some true) && (decide (PySem.W.typeIn K (.ref (d.C K)) = some (.type "type")) && (PySem.W.hasDictIn K (d.C K) && (decide (PySem.W.ks_superIn K (d.C K) (d.C K) "__init__" = some (some (.builtin "ValueError.__init__"))) &&
  decide (PySem.W.nsIn K PySem.cStatics "thirdparty.any" = some none)))))))))))
def ErrD.ok (P : Program) (d : ErrD) (K : PySem.W.Frag) : Bool := clsE K (d.C K) && (fnEB P K (d.f K) (d.C K) d.qual && d.facts K)
theorem ErrD.errC {P : Program} {d : ErrD} {K : PySem.W.Frag} (T : ErrT d.st d.qual d.fs) (top : (P.main.scope.names.lookup ("super" : Str)).isSome = false) (e : fnE K (d.f K) = d.val) (h : d.ok P K = true) : ErrC P K (d.C K) (d.f K) d.fs := by
  obtain ⟨h1, h⟩ := ba h
  obtain ⟨h2, h⟩ := ba h
  obtain ⟨a1, h⟩ := ba h
  obtain ⟨a2, h⟩ := ba h
  obtain ⟨a3, h⟩ := ba h
  obtain ⟨a4, h⟩ := ba h
  obtain ⟨a5, h⟩ := ba h
  obtain ⟨a6, h⟩ := ba h
  obtain ⟨a7, h⟩ := ba h
  obtain ⟨a8, h⟩ := ba h
  obtain ⟨a9, h⟩ := ba h
  obtain ⟨a10, h⟩ := ba h
  obtain ⟨a11, a12⟩ := ba h
  refine { cls := clsE_ok h1, sa := of_decide_eq_true a1, noN := fun f hf => of_decide_eq_true (List.all_eq_true.mp a2 f hf), iC := of_decide_eq_true a3, tC := of_decide_eq_true a4, kC := a5, exC := of_decide_eq_true a6, veC := of_decide_eq_true a7, mrC := of_decide_eq_true a8, tyC := of_decide_eq_true a9, hdC := a10, sup := of_decide_eq_true a11, opq := of_decide_eq_true a12, top := top, fn := ?_ }
  unfold fnE at e
  unfold fnEB at h2
  obtain ⟨ar, txt, j, p0, p1, p2, p3, p4, p5, rest, t1, t2, t3, t4, t5⟩ := T.body
  cases q : K.lookup (d.f K) with
  | none =>
    rw [q] at e
    cases e
  | some o =>
    obtain ⟨oc, od, dt, osl⟩ := o
    rw [q] at e h2
    cases dt with
    | func fd =>
      obtain ⟨n1, n2, n3, n4, n5, n6, n7, n8, n9, n10, n11, n12, n13, n14, n15⟩ := fd
      have e2 : (some (n1, n2, n3, n4, n5, n6, n15) : FnE) = (some (("__init__" : Str), d.qual, defArgs d.st, FuncBody.stmts (defBody d.st), defScope d.st, mainGlobals, builtinsNs) : FnE) := e
      simp only [Option.some.injEq, Prod.mk.injEq] at e2
      obtain ⟨g1, g2, g3, g4, g5, g6, g7⟩ := e2
      obtain ⟨nm, cc, cda, rfl, rfl, rfl, h3⟩ := three_ok h2
      · obtain ⟨b1, h3⟩ := ba h3
        obtain ⟨b2, h3⟩ := ba h3
        obtain ⟨b3, b4⟩ := ba h3
        have b1 := of_decide_eq_true b1
        obtain ⟨cl, cld, csl, c1⟩ := cellE_ok b2
        obtain ⟨ccl, cdd, vs, ccs, file, tf, c2, c3, c4⟩ := codeE_ok b3
        subst g1 g2 g3 g4 g5 g6 g7 b1

        refine ⟨oc, n14, n10, n11, n9, od, n12, osl, cc, cda, cl, ccl, cld, cdd, csl, ccs, vs, file, tf, d.qual, defArgs d.st, defScope d.st, ar, txt, j, p0, p1, p2, p3, p4, p5, rest, by rw [t1], b4, c1, c2, c3, c4, T.sc, t2, t3, t4, ?_⟩
        rcases t5 with ⟨f, q1, q2, q3, q4, s1, s2, s3⟩ | ⟨f, g, q1, q2, q3, q4, r1, r2, r3, r4, s1, s2, s3, s4⟩
        · exact .inl ⟨f, q1, q2, q3, q4, s1, s2, fun x v => s3 _ _ _ _ _ _ _ x v⟩
        · exact .inr ⟨f, g, q1, q2, q3, q4, r1, r2, r3, r4, s1, s2, s3, fun x v u => s4 _ _ _ _ _ _ _ x v u⟩
    | _ => cases e
end KpH
namespace KpH
open PySem PySem.Spec PyProof.Rows L2 Kp
open He (ga ma fAd Fa ba eqO eqO_ok emptyTab emptyTab_eq frG frT frT_in frT_none growD Defn cT codeOf codeOf_eq codeIn_ref tabsB)
open He5 (DefA fnA wf wrapB wrapB_ok cmet_of fun_of)
/-! ### the Hook -/
abbrev AlZ : Type := Bool × List He.FnW × List FnE
/-- what is looked at in K: facts, defs, errors, one Bool more; the defs' tables: empty, not in K -/
def okZ (P : Program) (fa : List Fa) (fn : List DefA) (er : List ErrD) (ex : PySem.W.Frag → Bool) (K : PySem.W.Frag) : Bool := (fa.all fun f => f.ok K) && ((fn.all fun d => d.ok K) && ((er.all fun d => d.ok P K) && ex K))
def obsZ (P : Program) (names : List Str × List Str) (n : Nat) (fa : List Fa) (fn : List DefA) (er : List ErrD) (tf : List Defn) (ex : PySem.W.Frag → Bool) (g : Addr → Option Obj) : AlZ :=
  (okZ P fa fn er ex (frZ g names n) && tabsB g tf (frZ g names n), fn.map fun d => fnA (frZ g names n) (d.at_ (frZ g names n)), er.map fun d => fnE (frZ g names n) (d.f (frZ g names n)))
def valZ (fn : List DefA) (er : List ErrD) : AlZ := (true, fn.map DefA.val, er.map ErrD.val)
structure SaysZ (P : Program) (fa : List Fa) (fn : List DefA) (er : List ErrD) (tf : List Defn) (ex : PySem.W.Frag → Bool) (h : Heap) (K : PySem.W.Frag) : Prop where
  ok : okZ P fa fn er ex K = true
  defs : fn.map (fun d => fnA K (d.at_ K)) = fn.map DefA.val
  errs : er.map (fun d => fnE K (d.f K)) = er.map ErrD.val
  hd : ∀ p ∈ tf, PySem.W.codeHdIn K (cT K p).1 (cT K p).2 = true
  out : ∀ p ∈ tf, K.lookup (cT K p).2 = none
  empty : ∀ p ∈ tf, h.get? (cT K p).2 = some { cls := .none, data := .fields #[] }
theorem saysZ_of {P : Program} {names : List Str × List Str} {n : Nat} {fa : List Fa} {fn : List DefA} {er : List ErrD} {tf : List Defn} {ex : PySem.W.Frag → Bool} {h : Heap} (e : obsZ P names n fa fn er tf ex h.get? = valZ fn er) : SaysZ P fa fn er tf ex h (frZ h.get? names n) := by
  have e1 : (okZ P fa fn er ex (frZ h.get? names n) && tabsB h.get? tf (frZ h.get? names n)) = true := congrArg (fun z : AlZ => z.1) e
  have e2 : fn.map (fun d => fnA (frZ h.get? names n) (d.at_ (frZ h.get? names n))) = fn.map DefA.val := congrArg (fun z : AlZ => z.2.1) e
  have e3 : er.map (fun d => fnE (frZ h.get? names n) (d.f (frZ h.get? names n))) = er.map ErrD.val := congrArg (fun z : AlZ => z.2.2) e
  generalize hK : frZ h.get? names n = K at e1 e2 e3
  obtain ⟨h1, h2⟩ := ba e1
  have key : ∀ p ∈ tf, PySem.W.codeHdIn K (cT K p).1 (cT K p).2 = true ∧ ∃ o, h.get? (cT K p).2 = some o ∧ emptyTab o = true := fun p hp => by
    obtain ⟨h3, h4⟩ := ba (List.all_eq_true.mp h2 p hp)
    refine ⟨h3, ?_⟩
    cases q : h.get? (cT K p).2 with
    | none =>
      rw [q] at h4
      cases h4
    | some o =>
      rw [q] at h4
      exact ⟨o, rfl, h4⟩
  exact ⟨h1, e2, e3, fun p hp => (key p hp).1, fun p hp => by
    obtain ⟨_, o, q, z⟩ := key p hp
    rw [← hK]
    rw [← hK] at q
    exact frT_none q z, fun p hp => by
    obtain ⟨_, o, q, z⟩ := key p hp
    rw [q, emptyTab_eq z]⟩
def hookZ (P : Program) (names : List Str × List Str) (n : Nat) (fa : List Fa) (fn : List DefA) (er : List ErrD) (tf : List Defn) (ex : PySem.W.Frag → Bool) : PySem.W.Hook where
  α := AlZ
  obs := fun s => obsZ P names n fa fn er tf ex s.heap.get?
  val := fun _ => valZ fn er
  says := fun _ h => ∃ K : PySem.W.Frag, K.In h ∧ SaysZ P fa fn er tf ex h K
  of := fun _ _ e => ⟨_, frT_in, saysZ_of e⟩
  keeps := fun _ _ _ ⟨K, hK, c⟩ k => ⟨K, PySem.W.Frag.In.keeps hK k, ⟨c.ok, c.defs, c.errs, c.hd, c.out, fun p hp => k _ _ (c.empty p hp)⟩⟩
theorem obsZ_eq {P : Program} {names : List Str × List Str} {n : Nat} {fa : List Fa} {fn : List DefA} {er : List ErrD} {tf : List Defn} {ex : PySem.W.Frag → Bool} {g : Addr → Option Obj} {s : Shared} (h : ∀ a, g a = s.heap.get? a) : obsZ P names n fa fn er tf ex g = (hookZ P names n fa fn er tf ex).obs s := by
  have e : g = s.heap.get? := funext h
  rw [e] <;> rfl
section
variable {P : Program} {fa : List Fa} {fn : List DefA} {er : List ErrD} {tf : List Defn} {ex : PySem.W.Frag → Bool} {h : Heap} {K : PySem.W.Frag}
theorem SaysZ.fact (c : SaysZ P fa fn er tf ex h K) {f : Fa} (hf : f ∈ fa) : f.ok K = true := List.all_eq_true.mp (ba c.ok).1 f hf
theorem SaysZ.more (c : SaysZ P fa fn er tf ex h K) : ex K = true := (ba (ba (ba c.ok).2).2).2
theorem SaysZ.def_ (c : SaysZ P fa fn er tf ex h K) {d : DefA} (hd : d ∈ fn) : ∃ fd, FunD K d.name d.qual d.params d.body d.scope (d.dvs K) (d.kws K) (d.at_ K) fd := by
  obtain ⟨i, hi, e⟩ := List.mem_iff_getElem.mp hd
  have hi' : fn[i]? = some d := by rw [List.getElem?_eq_getElem hi, e]
  have e2 : (fn.map fun d => fnA K (d.at_ K))[i]? = (fn.map DefA.val)[i]? := by rw [c.defs]
  rw [List.getElem?_map, List.getElem?_map, hi'] at e2
  exact DefA.funD (Option.some.inj e2) (List.all_eq_true.mp (ba (ba c.ok).2).1 d hd)
theorem SaysZ.err (c : SaysZ P fa fn er tf ex h K) {d : ErrD} (hd : d ∈ er) (T : ErrT d.st d.qual d.fs) (top : (P.main.scope.names.lookup ("super" : Str)).isSome = false) : ErrC P K (d.C K) (d.f K) d.fs := by
  obtain ⟨i, hi, e⟩ := List.mem_iff_getElem.mp hd
  have hi' : er[i]? = some d := by rw [List.getElem?_eq_getElem hi, e]
  have e2 : (er.map fun d => fnE K (d.f K))[i]? = (er.map ErrD.val)[i]? := by rw [c.errs]
  rw [List.getElem?_map, List.getElem?_map, hi'] at e2
  exact ErrD.errC T top (Option.some.inj e2) (List.all_eq_true.mp (ba (ba (ba c.ok).2).2).1 d hd)
end
/-! ### defs without defaults -/
/-- a global def; a method; a classmethod; a property -/
def dG (x : Str) (st : Stmt) : DefA := ⟨fun K => ga K x, x, x, defArgs st, defBody st, defScope st, [], []⟩
def dM (C m : Str) (qual : Str) (st : Stmt) : DefA := ⟨fun K => ma K (ga K C) m, m, qual, defArgs st, defBody st, defScope st, [], []⟩
def dW (T : String) (C m : Str) (qual : Str) (st : Stmt) : DefA := ⟨fun K => wf K (ga K C) T m, m, qual, defArgs st, defBody st, defScope st, [], []⟩
section
variable {P : Program} {fa : List Fa} {fn : List DefA} {er : List ErrD} {tf : List Defn} {ex : PySem.W.Frag → Bool} {h : Heap} {K : PySem.W.Frag}
theorem SaysZ.fG (c : SaysZ P fa fn er tf ex h K) {x : Str} {st : Stmt} (hd : dG x st ∈ fn) : ∃ fd, Fun K x x st (ga K x) fd := let ⟨fd, F⟩ := c.def_ hd; ⟨fd, fun_of F⟩
theorem SaysZ.fM (c : SaysZ P fa fn er tf ex h K) {C m qual : Str} {st : Stmt} (hd : dM C m qual st ∈ fn) : ∃ fd, Fun K m qual st (ma K (ga K C) m) fd := let ⟨fd, F⟩ := c.def_ hd; ⟨fd, fun_of F⟩
theorem SaysZ.fW (c : SaysZ P fa fn er tf ex h K) {T : String} {C m qual : Str} {st : Stmt} (hd : dW T C m qual st ∈ fn) : ∃ fd, Fun K m qual st (wf K (ga K C) T m) fd := let ⟨fd, F⟩ := c.def_ hd; ⟨fd, fun_of F⟩
end
/-! ### Bools of structures -/
instance {K : PySem.W.Frag} {C : Addr} : Decidable (Cls K C) := decidable_of_iff (PySem.W.plainGet K C Str.empty = true ∧ PySem.W.hasDictIn K C = true ∧ PySem.W.plainOver K C = true ∧ PySem.W.findIn K (.ref C) "__setattr__" = some (some (.builtin "object.__setattr__"))) ⟨fun ⟨a, b, c, d⟩ => ⟨a, b, c, d⟩, fun ⟨a, b, c, d⟩ => ⟨a, b, c, d⟩⟩
instance {K : PySem.W.Frag} {C f : Addr} : Decidable (Mk K C f) := decidable_of_iff (PySem.W.makesIn K C = true ∧ PySem.W.findIn K (.ref C) "__init__" = some (some (.ref f)) ∧ PySem.W.isFn K (.ref f) = true ∧ PySem.W.keepIn K (.ref C) = true) ⟨fun ⟨a, b, c, d⟩ => ⟨a, b, c, d⟩, fun ⟨a, b, c, d⟩ => ⟨a, b, c, d⟩⟩
instance {K : PySem.W.Frag} {C f : Addr} {m : Str} : Decidable (Meth K C m f) := decidable_of_iff (PySem.W.findIn K (.ref C) m = some (some (.ref f)) ∧ PySem.W.isFn K (.ref f) = true ∧ PySem.W.keepIn K (.ref f) = true) ⟨fun ⟨a, b, c⟩ => ⟨a, b, c⟩, fun ⟨a, b, c⟩ => ⟨a, b, c⟩⟩
instance {K : PySem.W.Frag} {C f : Addr} {m : Str} : Decidable (OwnM K C m f) := decidable_of_iff (PySem.W.findIn K (.ref C) m = some (some (.ref f)) ∧ PySem.W.isFn K (.ref f) = true ∧ PySem.W.fnIn K f = true) ⟨fun ⟨a, b, c⟩ => ⟨a, b, c⟩, fun ⟨a, b, c⟩ => ⟨a, b, c⟩⟩
instance {K : PySem.W.Frag} {C : Addr} {m : Str} : Decidable (NoAttr K C m) := inferInstanceAs (Decidable (PySem.W.findIn K (.ref C) m = some none))
instance {K : PySem.W.Frag} {C : Addr} {mc : Value} : Decidable (ClX.CRead K C mc) := decidable_of_iff (PySem.W.readsIn K C mc = true ∧ PySem.W.specialIn K (.ref C) "__getattribute__" = some (some (.builtin "type.__getattribute__"))) ⟨fun ⟨a, b⟩ => ⟨a, b⟩, fun ⟨a, b⟩ => ⟨a, b⟩⟩
instance {K : PySem.W.Frag} {C : Addr} : Decidable (ExcC K C) := decidable_of_iff (PySem.W.findIn K (.ref C) "__getattribute__" = some (some (.builtin "BaseException.__getattribute__")) ∧ PySem.W.findIn K (.ref C) "__getattr__" = some none ∧ PySem.W.subIn K (.ref C) (.type "BaseException") = some true ∧ PySem.W.hasDictIn K C = true ∧
  PySem.W.findIn K (.ref C) "__class__" = some (some (.builtin "object.__class__")) ∧ PySem.W.specialIn K (.builtin "object.__class__") "__get__" = some (some (.builtin "getset_descriptor.__get__")) ∧ PySem.W.takesIn K (.builtin "object.__class__") = some true ∧ PySem.W.mroIn K C (.type "object") = some true)
  ⟨fun ⟨a, b, c, d, e, f, g, h⟩ => ⟨a, b, c, d, e, f, g, h⟩, fun ⟨a, b, c, d, e, f, g, h⟩ => ⟨a, b, c, d, e, f, g, h⟩⟩
instance {K : PySem.W.Frag} {C : Addr} : Decidable (XfC K C) := decidable_of_iff (PySem.W.findIn K (.ref C) "__getattribute__" = some (some (.builtin "BaseException.__getattribute__")) ∧ PySem.W.findIn K (.ref C) "__getattr__" = some none ∧ PySem.W.subIn K (.ref C) (.type "BaseException") = some true ∧ PySem.W.hasDictIn K C = true) ⟨fun ⟨a, b, c, d⟩ => ⟨a, b, c, d⟩, fun ⟨a, b, c, d⟩ => ⟨a, b, c, d⟩⟩
/-- C.m is a classmethod -/
def cmB (K : PySem.W.Frag) (C : Addr) (m : Str) : Bool := wrapB K C "classmethod" "classmethod.__get__" m && PySem.W.fnIn K (wf K C "classmethod" m)
theorem cmB_ok {K : PySem.W.Frag} {C : Addr} {m : Str} (h : cmB K C m = true) : ClX.CMet K C (.type "type") m (ma K C m) (wf K C "classmethod" m) := cmet_of (ba h).1 (ba h).2
/-- C.f is a property -/
def prB (K : PySem.W.Frag) (C : Addr) (f : Str) : Bool := decide (PySem.W.findIn K (.ref C) f = some (some (.ref (ma K C f)))) && (decide (PySem.W.specialIn K (.ref (ma K C f)) "__get__" = some (some (.builtin "property.__get__"))) && (decide (PySem.W.takesIn K (.ref (ma K C f)) = some true) && (match PySem.W.recIn K (ma K C f) "property" with
  | some (.ref _ :: _) => true
  | _ => false)))
theorem prB_ok {K : PySem.W.Frag} {C : Addr} {f : Str} (h : prB K C f = true) : PropOf K C f (ma K C f) (wf K C "property" f) := by
  obtain ⟨h1, h⟩ := ba h
  obtain ⟨h2, h⟩ := ba h
  obtain ⟨h3, h4⟩ := ba h
  refine ⟨of_decide_eq_true h1, of_decide_eq_true h2, of_decide_eq_true h3, ?_⟩
  unfold wf
  split at h4
  · rename_i g r e
    exact ⟨r, by rw [e]⟩
  · cases h4
end KpH
set_option maxHeartbeats 4000000
namespace Kq
open PySem PySem.Spec PyProof.Rows L2 Kp KpH
open He (ga ma cT codeOf codeOf_eq codeIn_ref)
open He5 (wf)
/-! ### the head -/
theorem all_at {l : List Bool} (h : l.all id = true) (i : Nat) {b : Bool} (hi : l[i]? = some b) : b = true := List.all_eq_true.mp h b (List.mem_of_getElem? hi)
def fa0 : List He.Fa := [.free "int", .free "len", .free "abs", .free "list", .free "tuple", .free "str", .free "set", .free "min", .free "range", .free "enumerate", .free "zip", .free "sorted", .free "all", .free "repr", .free "isinstance", .free "super", .free "dict", .free "bool", .free "max", .free "ValueError"]
def fa1 : List He.Fa := [.glo "_law_draw", .glo "_law_pick", .glo "_law_words", .glo "_law_pen", .glo "_law_closed", .glo "_law_made", .glo "_law_is_chain", .glo "_law_steps", .glo "_law_bent", .glo "_law_chain_right", .glo "_law_run_right", .glo "is_word", .glo "overlapping", .glo "made_of", .glo "closed_by", .glo "rows_to", .glo "need_order", .glo "made_by", .glo "is_right", .glo "shows_chain"]
def fa2 : List He.Fa := [.glo "Group", .glo "Order", .glo "Asker", .glo "Step", .glo "law", .int "MOST_WORDS_checks" 24, .int "MOST_WORDS_asked" 7, .str "LETTERS" "abcdefghijklmnopqrstuvwxyz"]
def fa : List He.Fa := fa0 ++ fa1 ++ fa2
def fn0 : List He5.DefA := [dG "_law_draw" s_l_draw, dG "_law_pick" s_l_pick, dG "_law_words" s_l_words, dG "_law_pen" s_l_pen, dG "_law_closed" s_l_closed, dG "_law_made" s_l_made, dG "_law_is_chain" s_l_is_chain, dG "_law_steps" s_l_steps, dG "_law_bent" s_l_bent, dG "_law_chain_right" s_l_chain_right, dG "_law_run_right" s_l_run_right, dG "is_word" s_is_word]
def fn1 : List He5.DefA := [dG "overlapping" s_overlapping, dG "made_of" s_made_of, dG "closed_by" s_closed_by, dG "rows_to" s_rows_to, dG "need_order" s_need_order, dG "made_by" s_made_by, dG "is_right" s_is_right, dG "shows_chain" s_shows_chain, dG "law" s_law, dM "Group" "__init__" "Group.__init__" s_Group_init, dM "Group" "__len__" "Group.__len__" s_Group_len, dM "Group" "__contains__" "Group.__contains__" s_Group_contains]
def fn2 : List He5.DefA := [dM "Group" "__eq__" "Group.__eq__" s_Group_eq, dM "Group" "__and__" "Group.__and__" s_Group_and, dM "Group" "__or__" "Group.__or__" s_Group_or, dM "Group" "__sub__" "Group.__sub__" s_Group_sub, dM "Group" "overlaps" "Group.overlaps" s_Group_overlaps, dW "classmethod" "Group" "of" "Group.of" s_Group_of, dM "Order" "__init__" "Order.__init__" s_Order_init, dM "Order" "__len__" "Order.__len__" s_Order_len, dM "Order" "__contains__" "Order.__contains__" s_Order_contains, dM "Order" "stands" "Order.stands" s_Order_stands, dW "classmethod" "Order" "of" "Order.of" s_Order_of, dM "Asker" "__init__" "Asker.__init__" s_Asker_init]
def fn3 : List He5.DefA := [dM "Asker" "pair_of" "Asker.pair_of" s_Asker_pair_of, dM "Asker" "group_of" "Asker.group_of" s_Asker_group_of, dM "Asker" "is_sure" "Asker.is_sure" s_Asker_is_sure, dM "Asker" "told_pairs" "Asker.told_pairs" s_Asker_told_pairs, dM "Asker" "clash_in" "Asker.clash_in" s_Asker_clash_in, dM "Asker" "steps_in" "Asker.steps_in" s_Asker_steps_in, dM "Asker" "answer" "Asker.answer" s_Asker_answer, dM "Asker" "chain_of" "Asker.chain_of" s_Asker_chain_of, dM "Asker" "bar_of" "Asker.bar_of" s_Asker_bar_of, dM "Step" "__init__" "Step.__init__" s_Step_init, dM "Step" "__eq__" "Step.__eq__" s_Step_eq]
def fn : List He5.DefA := fn0 ++ fn1 ++ fn2 ++ fn3
def er : List ErrD := []
def tf : List He.Defn := [("Asker", some "clash_in")]
def ex0 (K : PySem.W.Frag) : List Bool := [decide (Cls K (ga K "Group")),
  decide (Mk K (ga K "Group") (ma K (ga K "Group") "__init__")),
  decide (PySem.W.selfFirst K (ga K "Group") = true),
  decide (PySem.W.findIn K (.ref (ga K "Group")) "__class__" = some (some (.builtin "object.__class__"))),
  decide (PySem.W.specialIn K (.builtin "object.__class__") "__get__" = some (some (.builtin "getset_descriptor.__get__"))),
  decide (PySem.W.takesIn K (.builtin "object.__class__") = some true),
  decide (PySem.W.mroIn K (ga K "Group") (.type "object") = some true),
  decide (PySem.W.kitOne K (.ref (ga K "Group")) (.ref (ga K "Group")) = some true),
  decide (NoAttr K (ga K "Group") "row"),
  decide (OwnM K (ga K "Group") "__len__" (ma K (ga K "Group") "__len__")),
  decide (OwnM K (ga K "Group") "__contains__" (ma K (ga K "Group") "__contains__")),
  decide (OwnM K (ga K "Group") "__eq__" (ma K (ga K "Group") "__eq__"))]
def ex1 (K : PySem.W.Frag) : List Bool := [decide (OwnM K (ga K "Group") "__and__" (ma K (ga K "Group") "__and__")),
  decide (OwnM K (ga K "Group") "__or__" (ma K (ga K "Group") "__or__")),
  decide (OwnM K (ga K "Group") "__sub__" (ma K (ga K "Group") "__sub__")),
  decide (Meth K (ga K "Group") "overlaps" (ma K (ga K "Group") "overlaps")),
  decide (ClX.CRead K (ga K "Group") (.type "type")),
  cmB K (ga K "Group") "of",
  decide (Cls K (ga K "Order")),
  decide (Mk K (ga K "Order") (ma K (ga K "Order") "__init__")),
  decide (PySem.W.selfFirst K (ga K "Order") = true),
  decide (PySem.W.findIn K (.ref (ga K "Order")) "__class__" = some (some (.builtin "object.__class__"))),
  decide (PySem.W.specialIn K (.builtin "object.__class__") "__get__" = some (some (.builtin "getset_descriptor.__get__"))),
  decide (PySem.W.takesIn K (.builtin "object.__class__") = some true)]
def ex2 (K : PySem.W.Frag) : List Bool := [decide (PySem.W.mroIn K (ga K "Order") (.type "object") = some true),
  decide (PySem.W.kitOne K (.ref (ga K "Order")) (.ref (ga K "Order")) = some true),
  decide (NoAttr K (ga K "Order") "row"),
  decide (NoAttr K (ga K "Order") "group"),
  decide (NoAttr K (ga K "Order") "place_of"),
  decide (OwnM K (ga K "Order") "__len__" (ma K (ga K "Order") "__len__")),
  decide (OwnM K (ga K "Order") "__contains__" (ma K (ga K "Order") "__contains__")),
  decide (Meth K (ga K "Order") "stands" (ma K (ga K "Order") "stands")),
  decide (ClX.CRead K (ga K "Order") (.type "type")),
  cmB K (ga K "Order") "of",
  decide (Cls K (ga K "Asker")),
  decide (Mk K (ga K "Asker") (ma K (ga K "Asker") "__init__"))]
def ex3 (K : PySem.W.Frag) : List Bool := [decide (PySem.W.selfFirst K (ga K "Asker") = true),
  decide (PySem.W.findIn K (.ref (ga K "Asker")) "__class__" = some (some (.builtin "object.__class__"))),
  decide (PySem.W.specialIn K (.builtin "object.__class__") "__get__" = some (some (.builtin "getset_descriptor.__get__"))),
  decide (PySem.W.takesIn K (.builtin "object.__class__") = some true),
  decide (PySem.W.mroIn K (ga K "Asker") (.type "object") = some true),
  decide (PySem.W.kitOne K (.ref (ga K "Asker")) (.ref (ga K "Asker")) = some true),
  decide (NoAttr K (ga K "Asker") "first"),
  decide (NoAttr K (ga K "Asker") "taken"),
  decide (NoAttr K (ga K "Asker") "kept_from"),
  decide (Meth K (ga K "Asker") "pair_of" (ma K (ga K "Asker") "pair_of")),
  decide (Meth K (ga K "Asker") "group_of" (ma K (ga K "Asker") "group_of")),
  decide (Meth K (ga K "Asker") "is_sure" (ma K (ga K "Asker") "is_sure"))]
def ex4 (K : PySem.W.Frag) : List Bool := [decide (Meth K (ga K "Asker") "told_pairs" (ma K (ga K "Asker") "told_pairs")),
  decide (Meth K (ga K "Asker") "clash_in" (ma K (ga K "Asker") "clash_in")),
  decide (Meth K (ga K "Asker") "steps_in" (ma K (ga K "Asker") "steps_in")),
  decide (Meth K (ga K "Asker") "answer" (ma K (ga K "Asker") "answer")),
  decide (Meth K (ga K "Asker") "chain_of" (ma K (ga K "Asker") "chain_of")),
  decide (Meth K (ga K "Asker") "bar_of" (ma K (ga K "Asker") "bar_of")),
  decide (Cls K (ga K "Step")),
  decide (Mk K (ga K "Step") (ma K (ga K "Step") "__init__")),
  decide (PySem.W.selfFirst K (ga K "Step") = true),
  decide (PySem.W.findIn K (.ref (ga K "Step")) "__class__" = some (some (.builtin "object.__class__"))),
  decide (PySem.W.specialIn K (.builtin "object.__class__") "__get__" = some (some (.builtin "getset_descriptor.__get__"))),
  decide (PySem.W.takesIn K (.builtin "object.__class__") = some true)]
def ex5 (K : PySem.W.Frag) : List Bool := [decide (PySem.W.mroIn K (ga K "Step") (.type "object") = some true),
  decide (PySem.W.kitOne K (.ref (ga K "Step")) (.ref (ga K "Step")) = some true),
  decide (NoAttr K (ga K "Step") "first"),
  decide (NoAttr K (ga K "Step") "second"),
  decide (NoAttr K (ga K "Step") "way"),
  decide (NoAttr K (ga K "Step") "made"),
  decide (OwnM K (ga K "Step") "__eq__" (ma K (ga K "Step") "__eq__")),
  decide (PySem.W.kitOne K (.ref (ga K "Order")) (.ref (ga K "Order")) = some true),
  decide (PySem.W.kitOne K (.type "NoneType") (.ref (ga K "Step")) = some false),
  decide (PySem.W.kitOne K (.type "NoneType") (.ref (ga K "Group")) = some false),
  decide (PySem.W.kitOne K (.type "tuple") (.ref (ga K "Group")) = some false)]
def exs (K : PySem.W.Frag) : List Bool := ex0 K ++ ex1 K ++ ex2 K ++ ex3 K ++ ex4 K ++ ex5 K
def ex (K : PySem.W.Frag) : Bool := (exs K).all id
def roots : List Str × List Str := (["_law_draw", "_law_pick", "_law_words", "_law_pen", "_law_closed", "_law_made", "_law_is_chain", "_law_steps", "_law_bent", "_law_chain_right", "_law_run_right", "is_word", "overlapping", "made_of", "closed_by", "rows_to", "need_order", "made_by", "is_right", "shows_chain", "Group", "Order", "Asker", "Step", "law"], ["__and__", "__contains__", "__eq__", "__init__", "__len__", "__or__", "__sub__", "answer", "bar_of", "chain_of", "clash_in", "group_of", "is_sure", "of", "overlaps", "pair_of", "stands", "steps_in", "told_pairs"])
abbrev PP : Program := (PySem.Challenge.rw_keptphrases_k83_chains_and_bars).prog
end Kq
set_option maxHeartbeats 0
namespace Kq
open PySem PySem.W PySem.Calls PyProof.Rows
abbrev R : OpenRow := OpenLaw.row PySem.Challenge.rw_keptphrases_k83_chains_and_bars
abbrev hk : Hook := KpH.hookZ PP roots 4 fa fn er tf ex
def ob (s : SharedT) : KpH.AlZ := KpH.obsZ PP roots 4 fa fn er tf ex (HandSHeadRun.getT s)
theorem ob_eq (s : SharedT) : ob s = hk.obs s.abs := KpH.obsZ_eq (HandSHeadRun.getT_eq s)
def names0 : List PySem.Str := ["_wall", "MOST_WORDS_checks", "LETTERS", "is_integer", "is_word", "PhraseError", "BadWord", "BadPlace", "BadTruth", "BadOrder", "BadGroup", "Unlike", "BadBook", "NoWord", "Taken", "BadText", "NotPhrase", "Clash", "TooMany", "NoChange", "Group", "Order", "MOST_ORDERS", "BAR", "can_follow", "rows_in", "Book", "Pull", "check_group", "first_gap"]
def names1 : List PySem.Str := ["pull_on", "first_pull", "overlapping", "made_of", "closed_by", "rows_to", "MOST_WORDS_asked", "Step", "need_order", "Asker", "made_by", "is_right", "shows_chain", "_law_pen", "_law_draw", "_law_pick", "_law_words", "_law_closed", "_law_made", "_law_is_chain", "_law_steps", "_law_bent", "_law_chain_right", "_law_run_right"]
def names : List PySem.Str := names0 ++ names1
theorem run_f (w : World) : HandSHeadRun.RunEq R (view R.prog [65]) hk ob 20000 names (w.withFollow "special-get-raises" false) := by
  intro os
  kernel_rfl
theorem run_t (w : World) : HandSHeadRun.RunEq R (view R.prog [65]) hk ob 20000 names (w.withFollow "special-get-raises" true) := by
  intro os
  kernel_rfl
theorem run (w : World) : HandSHeadRun.RunEq R (view R.prog [65]) hk ob 20000 names w := byRow2 "special-get-raises" run_f run_t w
end Kq
/-! Lists of ints and texts as data, for ==. -/
namespace Kp
open PySem PySem.Spec PyProof.Rows L2
variable {K : PySem.W.Frag} {H : Hp}
theorem dp_ints : ∀ cs : List Int, DpAll K H (cs.map V.int) (cs.map PyData.int)
  | [] => .nil
  | c :: cs => .cons (.int c) (dp_ints cs)
theorem dp_strs : ∀ cs : List Str, DpAll K H (cs.map V.str) (cs.map PyData.str)
  | [] => .nil
  | c :: cs => .cons (.str c) (dp_strs cs)
theorem lay_all : ∀ {ds : List PyData}, (∀ d ∈ ds, d.canLay0 = true) → PyData.canLayAll0 ds = true
  | [], _ => rfl
  | d :: ds, h => by
    show (PyData.canLay0 d && PyData.canLayAll0 ds) = true
    rw [h d List.mem_cons_self, lay_all fun e he => h e (List.mem_cons_of_mem _ he)]
    rfl
theorem depth_all : ∀ {ds : List PyData} {n : Nat}, (∀ d ∈ ds, d.depth ≤ n) → PyData.depthAll ds ≤ n
  | [], _, _ => Nat.zero_le _
  | d :: ds, n, h => by
    show max (PyData.depth d) (PyData.depthAll ds) ≤ n
    exact Nat.max_le.mpr ⟨h d List.mem_cons_self, depth_all fun e he => h e (List.mem_cons_of_mem _ he)⟩
theorem shaped_lst {ds : List PyData} (h : ∀ d ∈ ds, d.canLay0 = true ∧ d.depth ≤ 60) : SeqAt.shaped (.list ds) = true := by
  unfold SeqAt.shaped
  refine Bool.and_eq_true_iff.mpr ⟨lay_all fun d hd => (h d hd).1, decide_eq_true ?_⟩
  show PyData.depthAll ds + 1 ≤ 64
  have := depth_all fun d hd => (h d hd).2
  omega
theorem shaped_tup {ds : List PyData} (h : ∀ d ∈ ds, d.canLay0 = true ∧ d.depth ≤ 60) : SeqAt.shaped (.tuple ds) = true := by
  unfold SeqAt.shaped
  refine Bool.and_eq_true_iff.mpr ⟨lay_all fun d hd => (h d hd).1, decide_eq_true ?_⟩
  show PyData.depthAll ds + 1 ≤ 64
  have := depth_all fun d hd => (h d hd).2
  omega
theorem shaped_ints (cs : List Int) : SeqAt.shaped (.list (cs.map PyData.int)) = true := shaped_lst fun d hd => by
  obtain ⟨c, _, rfl⟩ := List.mem_map.mp hd
  exact ⟨rfl, Nat.zero_le _⟩
theorem shaped_strs {cs : List Str} (h : ∀ c ∈ cs, PyData.strOk c = true) : SeqAt.shaped (.list (cs.map PyData.str)) = true := shaped_lst fun d hd => by
  obtain ⟨c, hc, rfl⟩ := List.mem_map.mp hd
  exact ⟨h c hc, Nat.zero_le _⟩
theorem shaped_strsT {cs : List Str} (h : ∀ c ∈ cs, PyData.strOk c = true) : SeqAt.shaped (.tuple (cs.map PyData.str)) = true := shaped_tup fun d hd => by
  obtain ⟨c, hc, rfl⟩ := List.mem_map.mp hd
  exact ⟨h c hc, Nat.zero_le _⟩
theorem eqv_nil {ds : List PyData} : PyData.eqv (.list ds) (.list []) = decide (ds = []) := by
  cases ds <;> rfl
theorem eqvAll_strs : ∀ xs ys : List Str, PyData.eqvAll (xs.map PyData.str) (ys.map PyData.str) = decide (xs = ys)
  | [], [] => rfl
  | [], _ :: _ => rfl
  | _ :: _, [] => rfl
  | x :: xs, y :: ys => by
    show (x == y && PyData.eqvAll (xs.map PyData.str) (ys.map PyData.str)) = _
    rw [eqvAll_strs xs ys]
    by_cases h : x = y
    · subst h
      simp
    · simp [h]
theorem eqv_strs (xs ys : List Str) : PyData.eqv (.list (xs.map PyData.str)) (.list (ys.map PyData.str)) = decide (xs = ys) := eqvAll_strs xs ys
theorem eqv_strsT (xs ys : List Str) : PyData.eqv (.tuple (xs.map PyData.str)) (.tuple (ys.map PyData.str)) = decide (xs = ys) := eqvAll_strs xs ys
end Kp
set_option maxHeartbeats 2000000
/-! The rules whose readings speak of X.K, with K apart: for the blocks of comprehensions. -/
namespace Kp
open PySem PySem.Spec PyProof.Rows L2
def rLenK (K : PySem.W.Frag) : List V → Hp → VK → Prop := fun xs H Q => ∃ x n, xs = [x] ∧ LenV K x H n ∧ Q (.int n) H
def rListK (K : PySem.W.Frag) : List V → Hp → VK → Prop := fun xs H Q => ∃ p ys, xs = [.ref p] ∧ (SqL K H p ys ∨ SqT K H p ys) ∧ ∀ l, H l = none → Q (.ref l) (upd H l (.lst ys))
def rTupleK (K : PySem.W.Frag) : List V → Hp → VK → Prop := fun xs H Q => ∃ p ys, xs = [.ref p] ∧ ((SqL K H p ys ∧ ∀ l, H l = none → Q (.ref l) (upd H l (.tup ys))) ∨ (SqT K H p ys ∧ Q (.ref p) H))
section
variable {X : Cx} {K : PySem.W.Frag} {e o : Expr} {es : List Expr} {ta to : TE} {t : TA} {f name : Str} {pos apos cpos : Pos} {tg : Expr} {T id : String} {r : V → List V → Hp → VK → Prop}
theorem ix_listK (hK : X.K = K) : IxR X (rIxL K) := hK ▸ ix_list
theorem ix_tupK (hK : X.K = K) : IxR X (rIxT K) := hK ▸ ix_tup
theorem ix_seqK (hK : X.K = K) : IxR X (rIx K) := hK ▸ ix_seq
theorem call_lenK (hK : X.K = K) : CallR X (.builtin "len") (rLenK K) := hK ▸ call_len
theorem call_list_ofK (hK : X.K = K) : CallR X (.type "list") (rListK K) := hK ▸ call_list_of
theorem call_tuple_ofK (hK : X.K = K) : CallR X (.type "tuple") (rTupleK K) := hK ▸ call_tuple_of
theorem op_in_seqK (hK : X.K = K) : OpR X (compareOp .In) (rIn K false) := hK ▸ op_in_seq
theorem op_notIn_seqK (hK : X.K = K) : OpR X (compareOp .NotIn) (rIn K true) := hK ▸ op_notIn_seq
theorem sl_listK (hK : X.K = K) : SlR X (rSlL K) := hK ▸ sl_list
theorem sl_tupK (hK : X.K = K) : SlR X (rSlT K) := hK ▸ sl_tup
theorem call_isiKK (hK : X.K = K) : CallR X (.builtin "isinstance") (rIsi K) := hK ▸ call_isi
theorem call_isiTK (hK : X.K = K) : CallR X (.builtin "isinstance") (rIsiT K) := hK ▸ call_isiT
theorem op_eqDK (hK : X.K = K) (hu : X.A.units + 64 < cLine) : OpR X (compareOp .Eq) (rEqD K) := hK ▸ op_eqD hu
theorem op_neDK (hK : X.K = K) (hu : X.A.units + 64 < cLine) : OpR X (compareOp .NotEq) (rNeD K) := hK ▸ op_neD hu
theorem pe_fldK (hK : X.K = K) (he : PE X e ta) (hb : attributeBase e f X.env (eval e X.env) = eval e X.env := by rfl) : PE X (.Attribute e f pos) (tFld K ta f) := hK ▸ pe_fld he hb
theorem pi_listK (hK : X.K = K) (h : PE X e ta) : PI X tg e (iList K ta) := hK ▸ pi_list h
theorem pi_tupK (hK : X.K = K) (h : PE X e ta) : PI X tg e (iTup K ta) := hK ▸ pi_tup h
theorem pe_revLK {k : Nat} {p1 p2 p3 : Pos} (hK : X.K = K) (he : PE X e ta) : PE X (.Subscript e (.Slice none none (some (.UnaryOp .USub (.Constant (.int 1) k p1) p2)) p3) pos) (tRevL K ta) := hK ▸ pe_revL he
theorem pe_bmK (hK : X.K = K) (pa : PlainAttrs T) (slot : Slot T name id) (hty : typeOf (.builtin id) = pure (.type "method_descriptor")) (hm : MtR X id r) (ho : PE X o to) (ha : PA X (e :: es) t)
    (hbase : attributeBase o name X.env (eval o X.env) = eval o X.env := by rfl)
    (hfew : ((backTo cpos (starEach (e :: es) X.env)).all (fun x => !x.1) && (backToKw cpos (keywordEach [] X.env)).all (fun x => x.1.isSome)
      && decide ((e :: es).length + ([] : List Keyword).length + (if ([] : List Keyword).isEmpty then 0 else 1) < 30)) = true := by rfl)
    (hline : (apos.endLine == cpos.line) = true := by rfl) (hs : starEach (e :: es) X.env = (false, eval e X.env) :: starEach es X.env := by rfl) (hplain : (backTo cpos (starEach es X.env)).any (·.1) = false := by rfl) :
    PE X (.Call (.Attribute o name apos) (e :: es) [] cpos) (tBM K T r to t) := hK ▸ pe_bm pa slot hty hm ho ha hbase hfew hline hs hplain
theorem pg_tupK {es : List Expr} {k : Nat} {t : TGs} {n : Nat} (hK : X.K = K) (hc : X.calm = true) (h : PGs X es t)
    (hn : (assignEach es X.env).length = n := by rfl) (hst : (assignEach es X.env).findIdx? (·.1) = none := by rfl) : PG X (.Tuple es k pos) (gTup K n t) := hK ▸ pg_tup hc h hn hst
theorem pi_zipK {e e2 : Expr} {ta : TA} {p pos tpos : Pos} {elts : List Expr} {kk : Nat} (hK : X.K = K) (hg : Gl X "zip") (hm : X.mg "zip" = none) (ha : PA X [e, e2] ta)
    (hs : starEach [e, e2] X.env = (false, eval e X.env) :: starEach [e2] X.env := by rfl) (hpl : (backTo pos (starEach [e2] X.env)).any (·.1) = false := by rfl) :
    PI X (.Tuple elts kk tpos) (.Call (.Name "zip" p) [e, e2] [] pos) (iZip K ta) := hK ▸ pi_zip hg hm ha hs hpl
end
end Kp
set_option maxHeartbeats 4000000
namespace Kq
open PySem PySem.Spec PyProof.Rows L2 Kp
/-! ### the pen -/
structure Pen (H : Hp) (p l : Addr) (cs : List Int) (k : Nat) : Prop where
  at_ : ∃ t r : Int, H p = some (.lst [.ref l, .int t, .int r]) ∧ 0 ≤ t ∧ t + k ≤ 100000
  cells : H l = some (.lst (cs.map V.int))
  few : cs.length ≤ 63
theorem Pen.ne {H : Hp} {p l : Addr} {cs : List Int} {k : Nat} (h : Pen H p l cs k) : l ≠ p := by
  intro e
  obtain ⟨t, r, a, _⟩ := h.at_
  have c := h.cells
  rw [e, a] at c
  cases cs with
  | nil => cases c
  | cons x cs =>
    injection c with c
    injection c with c
    injection c with c1 c2
    cases c1
theorem Pen.less {H : Hp} {p l : Addr} {cs : List Int} {k j : Nat} (h : Pen H p l cs k) (hj : j ≤ k) : Pen H p l cs j := by
  obtain ⟨t, r, a, b, c⟩ := h.at_
  exact ⟨⟨t, r, a, b, by omega⟩, h.cells, h.few⟩
/-- all but the pen is as it was -/
def Kept (p : Addr) (H H' : Hp) : Prop := ∀ b o, b ≠ p → H b = some o → H' b = some o
theorem Kept.refl (p : Addr) (H : Hp) : Kept p H H := fun _ _ _ h => h
theorem Kept.trans {p : Addr} {H H1 H2 : Hp} (a : Kept p H H1) (b : Kept p H1 H2) : Kept p H H2 := fun c o n h => b c o n (a c o n h)
theorem Kept.mut {p : Addr} {H : Hp} {o : HO} : Kept p H (upd H p o) := fun b u n h => by rw [upd_ne n]; exact h
theorem Kept.new {p q : Addr} {H : Hp} {o : HO} (h : H q = none) : Kept p H (upd H q o) := fun b u n e => by rw [upd_ne (ne_of_none e h)]; exact e
theorem Kept.of {p : Addr} {H H' : Hp} (e : Ext H H') : Kept p H H' := fun b o _ h => e b o h
theorem Pen.ext {H H' : Hp} {p l : Addr} {cs : List Int} {k : Nat} (h : Pen H p l cs k) (e : Ext H H') : Pen H' p l cs k := by
  obtain ⟨t, r, a, b⟩ := h.at_
  exact ⟨⟨t, r, e _ _ a, b⟩, e _ _ h.cells, h.few⟩
structure TxB (mg : Str → Option Value) : Prop where
  n_int : mg "int" = none
  n_len : mg "len" = none
  n_abs : mg "abs" = none
  n_list : mg "list" = none
  n_tuple : mg "tuple" = none
  n_str : mg "str" = none
  n_set : mg "set" = none
  n_min : mg "min" = none
  n_range : mg "range" = none
  n_enumerate : mg "enumerate" = none
  n_zip : mg "zip" = none
  n_sorted : mg "sorted" = none
  n_all : mg "all" = none
  n_repr : mg "repr" = none
  n_isinstance : mg "isinstance" = none
  n_super : mg "super" = none
  n_dict : mg "dict" = none
  n_bool : mg "bool" = none
  n_max : mg "max" = none
  n_ValueError : mg "ValueError" = none
def spDraw : Sp := fun vs H Q _ => ∃ (p l : Addr) (cs : List Int) (k : Nat) (m : Int), vs = [.ref p, .int m] ∧ Pen H p l cs (k + 1) ∧ 1 ≤ m ∧ m ≤ 1000 ∧ ∀ (d : Int) (H' : Hp), 0 ≤ d → d < m → Pen H' p l cs k → Kept p H H' → Q (.int d) H'
section
variable {P : Program} {w : World} {K : PySem.W.Frag} {mg : Str → Option Value} {base : Heap} {f : Addr} {fd : FuncData}
theorem ok_draw (F : Fun K "_law_draw" "_law_draw" s_l_draw f fd) (B : TxB mg) : FnR P w K mg base (L2.CX P w) 1 f spDraw := by
  refine fnP F sc_l_draw (fun _ _ _ _ _ _ us hl => match us, hl with | [_, _], _ => rfl) (fun vs H Q E h => ?_) (fun cdv A outer s H vs Q E hr h => ?_)
  · obtain ⟨p, l, cs, k, m, rfl, _⟩ := h
    rfl
  · refine ⟨_, PSs.nox (pss_cons (ps_if (pt_cmpR op_gt (pe_ix (ix_listK (K := K) rfl) (pv 0) pe_int (fun _ _ => rfl)) pe_int (nomark _))
(pss_cons (ps_set (i := 2) sc_l_draw.nd rfl (Or.inl rfl) (pe_op op_modN (pe_callTy call_int1 (by rfl) B.n_int (by decide +kernel) (pa_cons (pe_ix (ix_listK (K := K) rfl) (pv 0) pe_int (fun _ _ => rfl)) pa_nil)) (pv 1)))
(pss_cons (ps_asg (pe_op op_fdivN (pe_callTy call_int1 (by rfl) B.n_int (by decide +kernel) (pa_cons (pe_ix (ix_listK (K := K) rfl) (pv 0) pe_int (fun _ _ => rfl)) pa_nil)) (pv 1)) (pg_sub (pv 0) pe_int set_list))
(pss_one (ps_ret (pv 2)))))
pss_nil)
(pss_cons (ps_set (i := 3) sc_l_draw.nd rfl (Or.inl rfl) (pe_ix (ix_listK (K := K) rfl) (pv 0) pe_int (fun _ _ => rfl)))
(pss_cons (ps_asg (pe_op op_add (pv 3) pe_int) (pg_sub (pv 0) pe_int set_list))
(pss_cons (ps_set (i := 4) sc_l_draw.nd rfl (Or.inl rfl) (pe_op op_add (pe_op op_mul pe_int (pv 3)) pe_int))
(Evl.pss_cut (ps_if (pt_cmpR (op_neDK (K := K) rfl hr.units) (pe_ix (ix_listK (K := K) rfl) (pv 0) pe_int (fun _ _ => rfl)) (pe_lst pa_nil) (nomark _))
(pss_one (ps_set (i := 4) sc_l_draw.nd rfl (Or.inl rfl) (pe_ix (ix_listK (K := K) rfl) (pe_ix (ix_listK (K := K) rfl) (pv 0) pe_int (fun _ _ => rfl)) (pe_op op_modN (pe_callTy call_int1 (by rfl) B.n_int (by decide +kernel) (pa_cons (pv 3) pa_nil)) (pe_callB (call_lenK (K := K) rfl) (by rfl) B.n_len (by decide +kernel) (pa_cons (pe_ix (ix_listK (K := K) rfl) (pv 0) pe_int (fun _ _ => rfl)) pa_nil))) (fun _ _ => rfl))))
pss_nil)
(Evl.pss_cut (ps_if (PW.pt (pw_and (pt_cmpR op_lt (pv 3) (pe_callB (call_lenK (K := K) rfl) (by rfl) B.n_len (by decide +kernel) (pa_cons (pe_ix (ix_listK (K := K) rfl) (pv 0) pe_int (fun _ _ => rfl)) pa_nil)) (nomark _)) (pw_and1 (pt_cmpR op_ge (pe_callB call_abs (by rfl) B.n_abs (by decide +kernel) (pa_cons (pv 4) pa_nil)) (pe_op op_pow pe_int pe_int) (nomark _)))))
(pss_cons (ps_set (i := 5) sc_l_draw.nd rfl (Or.inl rfl) (pe_op op_add (pe_op op_mul pe_int (pe_op op_sub (pe_callB call_abs (by rfl) B.n_abs (by decide +kernel) (pa_cons (pv 4) pa_nil)) (pe_op op_pow pe_int pe_int))) (pe_callTy call_int1 (by rfl) B.n_int (by decide +kernel) (pa_cons (pe_cmpR op_lt (pv 4) pe_int (nomark _)) pa_nil))))
(pss_cons (ps_asg (pe_op op_fdivN (pe_callTy call_int1 (by rfl) B.n_int (by decide +kernel) (pa_cons (pv 5) pa_nil)) (pv 1)) (pg_sub (pv 0) pe_int set_list))
(pss_one (ps_ret (pe_op op_modN (pe_callTy call_int1 (by rfl) B.n_int (by decide +kernel) (pa_cons (pv 5) pa_nil)) (pv 1))))))
pss_nil)
(pss_cons (ps_set (i := 6) sc_l_draw.nd rfl (Or.inl rfl) (pe_op op_modN (pe_callTy call_int1 (by rfl) B.n_int (by decide +kernel) (pa_cons (pe_op op_pow (pe_op op_add (pe_op op_add (pe_op op_modN (pe_callTy call_int1 (by rfl) B.n_int (by decide +kernel) (pa_cons (pv 4) pa_nil)) pe_int) (pe_op op_mul pe_int (pv 3))) pe_int) pe_int) pa_nil)) pe_int))
(pss_cons (ps_set (i := 6) sc_l_draw.nd rfl (Or.inl rfl) (pe_op op_modN (pe_callTy call_int1 (by rfl) B.n_int (by decide +kernel) (pa_cons (pe_op op_pow (pe_op op_add (pe_op op_add (pe_op op_mul (pv 6) (pe_op op_add (pe_op op_mul pe_int (pv 3)) pe_int)) (pe_op op_mul (pe_op op_mul pe_int (pv 3)) (pv 3))) pe_int) pe_int) pa_nil)) pe_int))
(pss_one (ps_ret (pe_op op_modN (pe_callTy call_int1 (by rfl) B.n_int (by decide +kernel) (pa_cons (pe_op op_fdivN (pv 6) pe_int) pa_nil)) (pv 1)))))))))))), ?_⟩
    obtain ⟨p, l, cs, k, m, rfl, pen, h1, h2, hQ⟩ := h
    have lp := pen.ne
    obtain ⟨⟨t, r, ha, t0, tk⟩, hl, hc⟩ := pen
    have hm : m ≠ 0 := by omega
    have hm2 : m.natAbs < 1073741824 := by omega
    have good : ∀ i : Int, 0 ≤ i.fmod m ∧ i.fmod m < m := fun i => ⟨Int.fmod_nonneg_of_pos i (by omega), Int.fmod_lt_of_pos i (by omega)⟩
    have pend : ∀ (H' : Hp) (t' r' : Int), H' p = some (.lst [.ref l, .int t', .int r']) → H' l = some (.lst (cs.map V.int)) → 0 ≤ t' → t' + k ≤ 100000 → Pen H' p l cs k := fun H' t' r' e1 e2 e3 e4 => ⟨⟨t', r', e1, e3, e4⟩, e2, hc⟩
    refine ⟨_, rfl, p, _, _, _, rfl, rfl, SqL.of ha, rfl, _, _, rfl, rfl, _, rfl, ?_⟩
    by_cases hr0 : r > 0
    · rw [decide_eq_true hr0]
      refine iteT ?_
      refine ⟨_, rfl, p, _, _, _, rfl, rfl, SqL.of ha, rfl, .inl ⟨_, rfl, _, rfl, _, _, rfl, rfl, hm, ?_⟩⟩
      refine ⟨_, rfl, p, _, _, _, rfl, rfl, SqL.of ha, rfl, .inl ⟨_, rfl, _, rfl, _, _, rfl, rfl, ⟨hm, hm2⟩, ?_⟩⟩
      refine ⟨_, rfl, p, _, _, 2, rfl, rfl, ha, rfl, ?_⟩
      refine ⟨_, rfl, ?_⟩
      exact hQ _ _ (good r).1 (good r).2 (pend _ t (r.fdiv m) upd_same (by rw [upd_ne lp]; exact hl) t0 (by omega)) Kept.mut
    · rw [decide_eq_false hr0]
      refine iteF ?_
      refine ⟨_, rfl, p, _, _, _, rfl, rfl, SqL.of ha, rfl, ?_⟩
      refine ⟨_, rfl, _, _, rfl, rfl, ?_⟩
      refine ⟨_, rfl, p, _, _, 1, rfl, rfl, ha, rfl, ?_⟩
      refine ⟨_, rfl, _, _, rfl, rfl, .inl ⟨by decide, by decide⟩, _, _, rfl, rfl, ?_⟩
      have ha1 : upd H p (.lst ([V.ref l, .int t, .int r].set 1 (.int (t + 1)))) p = some (.lst [.ref l, .int (t + 1), .int r]) := upd_same
      have hl1 : upd H p (.lst ([V.ref l, .int t, .int r].set 1 (.int (t + 1)))) l = some (.lst (cs.map V.int)) := by rw [upd_ne lp]; exact hl
      have kt : Kept p H (upd H p (.lst ([V.ref l, .int t, .int r].set 1 (.int (t + 1))))) := Kept.mut
      have pen1 := pend _ (t + 1) r ha1 hl1 (by omega) (by omega)
      generalize upd H p (.lst ([V.ref l, .int t, .int r].set 1 (.int (t + 1)))) = H1 at ha1 hl1 kt pen1 ⊢
      refine ⟨fun σ' H' => ∃ c : Int, σ' = [some (V.ref p), some (V.int m), none, some (V.int t), some (V.int c), none, none] ∧ Ext H1 H', ?_, ?_⟩
      · refine ⟨_, rfl, p, _, _, _, rfl, rfl, SqL.of ha1, rfl, ?_⟩
        refine ⟨by decide, fun q hq => ?_⟩
        have e2 : Ext H1 (upd H1 q (.lst [])) := Ext.upd hq
        refine ⟨_, _, Dp.lst (SqL.of (e2 _ _ hl1)) (dp_ints cs), Dp.lst (SqL.of upd_same) .nil, shaped_ints cs, rfl, _, rfl, ?_⟩
        rw [eqv_nil]
        by_cases hcs : cs = []
        · subst hcs
          refine iteF ?_
          exact ⟨_, rfl, e2⟩
        · rw [decide_eq_false (by simpa using hcs)]
          refine iteT ?_
          have hpos : 0 < cs.length := List.length_pos_iff.mpr hcs
          have hlen : cs.length = (cs.map V.int).length := (List.length_map _).symm
          have hlp : ((cs.length : Nat) : Int) ≠ 0 := by omega
          refine ⟨_, rfl, p, _, _, _, rfl, rfl, SqL.of (e2 _ _ ha1), rfl, ?_⟩
          refine ⟨_, rfl, .inl ⟨_, rfl, ?_⟩⟩
          refine ⟨_, rfl, p, _, _, _, rfl, rfl, SqL.of (e2 _ _ ha1), rfl, ?_⟩
          refine ⟨_, cs.length, rfl, .inl ⟨_, SqL.of (e2 _ _ hl1), hlen⟩, ?_⟩
          refine ⟨_, _, rfl, rfl, hlp, ?_⟩
          have b1 : 0 ≤ t.fmod (cs.length : Int) := Int.fmod_nonneg_of_pos t (by omega)
          have b2 : t.fmod (cs.length : Int) < cs.length := Int.fmod_lt_of_pos t (by omega)
          obtain ⟨j, hj⟩ := Int.eq_ofNat_of_zero_le b1
          have hjl : j < cs.length := by omega
          refine ⟨l, _, _, .int cs[j], rfl, rfl, SqL.of (e2 _ _ hl1), ?_, ?_⟩
          · rw [hj]
            exact atI_nat (by simp [hjl])
          · exact ⟨_, rfl, e2⟩
      · rintro σ' H' ⟨c, rfl, e3⟩
        have ha2 := e3 _ _ ha1
        have hl2 := e3 _ _ hl1
        have kt2 : Kept p H H' := kt.trans (Kept.of e3)
        have hlen : cs.length = (cs.map V.int).length := (List.length_map _).symm
        have end_ : ∀ i : Int, Q (.int (i.fmod m)) H' := fun i => hQ _ _ (good _).1 (good _).2 (pen1.ext e3) kt2
        refine ⟨fun σ' H2 => σ' = [some (V.ref p), some (V.int m), none, some (V.int t), some (V.int c), none, none] ∧ H2 = H', ?_, ?_⟩
        rotate_left
        · rintro σ' H2 ⟨rfl, rfl⟩
          have c1 : 0 ≤ c.fmod 2147483549 := Int.fmod_nonneg_of_pos c (by decide)
          have c2 : c.fmod 2147483549 < 2147483549 := Int.fmod_lt_of_pos c (by decide)
          have ne1 : (2147483549 : Int) ≠ 0 := by decide
          have ne2 : (2147483647 : Int) ≠ 0 := by decide
          have ne3 : (2147483563 : Int) ≠ 0 := by decide
          refine ⟨_, rfl, .inl ⟨_, rfl, _, _, rfl, rfl, ne1, ?_⟩⟩
          refine ⟨_, rfl, _, _, rfl, rfl, .inl ⟨by decide, by decide⟩, _, _, rfl, rfl, _, _, rfl, rfl, ?_⟩
          refine ⟨_, _, rfl, rfl, ⟨by decide, by decide, by omega⟩, .inl ⟨_, rfl, _, _, rfl, rfl, ne2, ?_⟩⟩
          generalize ((c.fmod 2147483549 + 46186 * t + 3416) ^ (5 : Int).toNat) = Z
          have z1 : 0 ≤ Z.fmod 2147483647 := Int.fmod_nonneg_of_pos Z (by decide)
          have z2 : Z.fmod 2147483647 < 2147483647 := Int.fmod_lt_of_pos Z (by decide)
          refine ⟨_, rfl, _, rfl, _, _, rfl, rfl, .inl ⟨by decide, by decide⟩, _, _, rfl, rfl, _, _, rfl, rfl, .inl ⟨by omega, by omega⟩, ?_⟩
          refine ⟨_, rfl, _, _, rfl, rfl, .inl ⟨by decide, by decide⟩, _, rfl, _, _, rfl, rfl, .inl ⟨by omega, by omega⟩, ?_⟩
          refine ⟨_, _, rfl, rfl, _, _, rfl, rfl, _, _, rfl, rfl, ⟨by decide, by decide, ?_⟩, .inl ⟨_, rfl, _, _, rfl, rfl, ne3, ?_⟩⟩
          · have m1 : 0 ≤ Z.fmod 2147483647 * (2 * t + 899) := Int.mul_nonneg z1 (by omega)
            have m2 : Z.fmod 2147483647 * (2 * t + 899) ≤ 2147483647 * 200899 := Int.mul_le_mul (by omega) (by omega) (by omega) (by decide)
            have m3 : 0 ≤ 54420 * t * t := Int.mul_nonneg (by omega) t0
            have m4 : 54420 * t * t ≤ 5442000000 * 100000 := Int.mul_le_mul (by omega) (by omega) t0 (by decide)
            omega
          refine ⟨_, rfl, _, _, rfl, rfl, ⟨by decide, by decide⟩, .inl ⟨_, rfl, _, rfl, _, _, rfl, rfl, hm, ?_⟩⟩
          exact end_ _
        refine ⟨_, rfl, _, rfl, p, _, _, _, rfl, rfl, SqL.of ha2, rfl, ?_⟩
        refine ⟨_, cs.length, rfl, .inl ⟨_, SqL.of hl2, hlen⟩, ?_⟩
        refine ⟨_, _, rfl, rfl, _, rfl, ?_⟩
        refine ite2 (fun _ => ?_) (fun _ => ?_)
        · refine ⟨_, rfl, _, rfl, _, _, rfl, rfl, ⟨by decide, by decide, by decide⟩, _, _, rfl, rfl, _, rfl, ?_⟩
          refine ite2 (fun _ => ?_) (fun _ => ?_)
          · refine ⟨_, rfl, _, rfl, _, _, rfl, rfl, ⟨by decide, by decide, by decide⟩, _, _, rfl, rfl, _, _, rfl, rfl, .inl ⟨by decide, by decide⟩, ?_⟩
            refine ⟨_, rfl, _, _, rfl, rfl, .inr ⟨_, rfl, _, _, rfl, rfl, ?_⟩⟩
            refine ⟨_, rfl, .inl ⟨_, rfl, _, rfl, _, _, rfl, rfl, ⟨hm, hm2⟩, ?_⟩⟩
            refine ⟨_, rfl, p, _, _, 2, rfl, rfl, ha2, rfl, ?_⟩
            refine ⟨_, rfl, .inl ⟨_, rfl, _, rfl, _, _, rfl, rfl, hm, ?_⟩⟩
            exact hQ _ _ (good _).1 (good _).2 (pend _ (t + 1) _ upd_same (by rw [upd_ne lp]; exact hl2) (by omega) (by omega)) (kt2.trans Kept.mut)
          · exact ⟨rfl, rfl⟩
        · exact ⟨rfl, rfl⟩
end
end Kq
set_option maxHeartbeats 4000000
namespace Kq
open PySem PySem.Spec PyProof.Rows L2 Kp
theorem kept_l {K : PySem.W.Frag} {H H' : Hp} {p a : Addr} {xs : List V} (e : Kept p H H') (n : a ≠ p) (h : SqL K H a xs) : SqL K H' a xs := by
  rcases h with (h | ⟨o, h⟩) | h
  · exact .inl (.inl (e _ _ n h))
  · exact .inl (.inr ⟨o, e _ _ n h⟩)
  · exact .inr h
theorem yes {Q : Bool → Hp → Prop} {σ : L2.St} {H : Hp} (h : Q true H) : tYes σ H Q := h
theorem seq_nat {j n : Nat} (h : j < n) : seqIndex? (j : Int) n = some j := by
  unfold seqIndex?
  have h1 : ¬ ((j : Int) < 0) := by omega
  simp [h1, h]
theorem erase_perm : ∀ (l : List V) (j : Nat) (h : j < l.length), ([l[j]] ++ l.eraseIdx j).Perm l
  | a :: l, 0, _ => List.Perm.refl _
  | a :: l, j + 1, h => by
    have hj : j < l.length := by simpa using h
    have ih := erase_perm l j hj
    show (l[j] :: a :: l.eraseIdx j).Perm (a :: l)
    exact (List.Perm.swap a _ _).trans (List.Perm.cons a ih)
def spPick (K : PySem.W.Frag) : Sp := fun vs H Q _ => ∃ (p l : Addr) (cs : List Int) (k : Nat) (y : V), vs = [.ref p, y] ∧ Pen H p l cs (k + 1) ∧
  ((∃ q xs, y = .ref q ∧ SqL K H q xs ∧ q ≠ p ∧ 0 < xs.length ∧ xs.length ≤ 1000 ∧ ∀ (i : Nat) (v : V) (H' : Hp), xs[i]? = some v → Pen H' p l cs k → Kept p H H' → Q v H') ∨
   (∃ z : Str, y = .str z ∧ 0 < z.length ∧ z.length ≤ 1000 ∧ ∀ (c : Nat) (H' : Hp), c ∈ z.cps.toList → Pen H' p l cs k → Kept p H H' → Q (.str ⟨#[c]⟩) H'))
structure TxP (K : PySem.W.Frag) (mg : Str → Option Value) (fDraw fPick : Addr) : Prop where
  g_l_draw : mg "_law_draw" = some (.ref fDraw)
  g_l_pick : mg "_law_pick" = some (.ref fPick)
  k_l_draw : PySem.W.keepIn K (.ref fDraw) = true
  k_l_pick : PySem.W.keepIn K (.ref fPick) = true
  F_draw : ∃ fd, Fun K "_law_draw" "_law_draw" s_l_draw fDraw fd
  F_pick : ∃ fd, Fun K "_law_pick" "_law_pick" s_l_pick fPick fd
section
variable {P : Program} {w : World} {K : PySem.W.Frag} {mg : Str → Option Value} {base : Heap} {fDraw fPick : Addr}
theorem pen_draw (B : TxB mg) (T : TxP K mg fDraw fPick) : FnR P w K mg base (L2.CX P w) 1 fDraw spDraw := by
  obtain ⟨fd, F⟩ := T.F_draw
  exact ok_draw F B
theorem ok_pick (B : TxB mg) (T : TxP K mg fDraw fPick) : FnR P w K mg base (L2.CX P w) 2 fPick (spPick K) := by
  obtain ⟨fd, F⟩ := T.F_pick
  have G_l_draw := pen_draw (P := P) (w := w) (base := base) B T
  refine fnP F sc_l_pick (fun _ _ _ _ _ _ us hl => match us, hl with | [_, _], _ => rfl) (fun vs H Q E h => ?_) (fun cdv A outer s H vs Q E hr h => ?_)
  · obtain ⟨p, l, cs, k, y, rfl, _⟩ := h
    rfl
  · refine ⟨_, PSs.nox (pss_one (ps_ret (pe_ix (ix_seqK (K := K) rfl) (pv 1) (pe_callR G_l_draw (hr.mono (by decide)) T.k_l_draw (by rfl) T.g_l_draw passL (pa_cons (pv 0) (pa_cons (pe_callB (call_lenK (K := K) rfl) (by rfl) B.n_len (by decide +kernel) (pa_cons (pv 1) pa_nil)) pa_nil))) (fun _ _ => rfl)))), ?_⟩
    obtain ⟨p, l, cs, k, y, rfl, pen, h⟩ := h
    rcases h with ⟨q, xs, rfl, hq, nq, h1, h2, hQ⟩ | ⟨z, rfl, h1, h2, hQ⟩
    · refine ⟨_, rfl, _, rfl, _, rfl, _, xs.length, rfl, .inl ⟨_, hq, rfl⟩, ?_⟩
      refine ⟨p, l, cs, k, _, rfl, pen, by omega, by omega, fun d H' d0 d1 pen' kt => ?_⟩
      obtain ⟨j, rfl⟩ := Int.eq_ofNat_of_zero_le d0
      have hj : j < xs.length := by omega
      have hv : xs[j]? = some xs[j] := List.getElem?_eq_getElem hj
      exact .inl ⟨q, xs, _, _, rfl, rfl, kept_l kt nq hq, atI_nat hv, hQ j _ H' hv pen' kt⟩
    · have hz : z.length ≤ sizeLine := Nat.le_trans h2 (by decide)
      refine ⟨_, rfl, _, rfl, _, rfl, _, z.length, rfl, ⟨hz, rfl⟩, ?_⟩
      refine ⟨p, l, cs, k, _, rfl, pen, by omega, by omega, fun d H' d0 d1 pen' kt => ?_⟩
      obtain ⟨j, rfl⟩ := Int.eq_ofNat_of_zero_le d0
      have hj : j < z.cps.toList.length := by
        have e : z.cps.toList.length = z.length := by simp [Str.length]
        omega
      have hv : z.cps.toList[j]? = some z.cps.toList[j] := List.getElem?_eq_getElem hj
      exact .inr (.inr ⟨z, _, _, rfl, rfl, hz, atI_nat hv, hQ _ H' (List.getElem_mem hj) pen' kt⟩)
end
end Kq
set_option maxHeartbeats 2000000
/-! More calls by positional promises. -/
namespace Kp
open PySem PySem.Spec PyProof.Rows L2
section
variable {X : Cx} {k : Nat} {f C : Addr} {sp : Sp} {E : XK} {x m : Str} {e o : Expr} {es : List Expr} {t : TA} {ta te : TE} {p pos apos sp_ : Pos}
/-- f() -/
theorem pe_callR0 (F : FX X k f sp) (hr : Room k X.A) (hk : PySem.W.keepIn X.K (.ref f) = true) (hg : Gl X x) (hm : X.mg x = some (.ref f)) (hx : PsX X E) (hd : (x == ("__debug__" : Str)) = false := by decide) :
    PE X (.Call (.Name x p) [] [] pos) (tCallR sp E tNil) := by
  refine ⟨fun pins s σ H Q I h => ?_⟩
  refine wpAny_Call_Name_kw (ld_glob I hg hm ?_ hd)
  exact PySem.W.callWith_K0 I.kIn hk (wpAny_call (run_fnR (us := []) F hr hx I .nil h))
/-- f( *y ) -/
def tCallS1 (K : PySem.W.Frag) (sp : Sp) (E : XK) (te : TE) : TE := fun σ H Q => te σ H fun y H1 => ∃ a xs, y = V.ref a ∧ (SqT K H1 a xs ∨ SqL K H1 a xs) ∧ sp xs H1 Q E
theorem pe_callS1 (F : FX X k f sp) (hr : Room k X.A) (hk : PySem.W.keepIn X.K (.ref f) = true) (hg : Gl X x) (hm : X.mg x = some (.ref f)) (hx : PsX X E) (he : PE X e te) (hd : (x == ("__debug__" : Str)) = false := by decide)
    (hst : starEach [.Starred e sp_] X.env = [(true, eval e X.env)] := by rfl) : PE X (.Call (.Name x p) [.Starred e sp_] [] pos) (tCallS1 X.K sp E te) := by
  refine ⟨fun pins s σ H Q I h => ?_⟩
  refine wpAny_Call_Name_kw (ld_glob I hg hm ?_ hd)
  refine PySem.W.callWith_S (h₀ := X.base) I.ok.mod.kin hk (thn (he.run pins s σ H _ I h) fun v s1 ⟨y, H1, I1, ry, a, xs, ey, hxs, q⟩ => ?_) hst
  subst ey
  obtain rfl : v = Value.ref a := ry
  exact StX.star_any I1 hxs fun us s2 I2 rv => ⟨I2.kIn, wpAny_call (run_fnR F hr hx I2 rv q)⟩
/-- o.m(e, ..) -/
def tMethR (C : Addr) (m : Str) (sp : Sp) (E : XK) (ta : TE) (t : TA) : TE := fun σ H Q => ta σ H fun x H1 => ∃ a dx fs, x = .ref a ∧ H1 a = some (.ins C dx fs) ∧ fs.lookup m = none ∧ t σ H1 fun vs H2 => sp (.ref a :: vs) H2 Q E
theorem pe_methR {pl : Sem Bool} (he : PE X o ta) (c : Cls X.K C) (hm : Meth X.K C m f) (F : FX X k f sp) (hr : Room k X.A) (hx : PsX X E) (ha : PA X (e :: es) t)
    (hst : starEach (e :: es) X.env = (false, eval e X.env) :: starEach es X.env := by rfl) (hpl : (backTo pos (starEach es X.env)).any (·.1) = false := by rfl)
    (ht : eval (.Call (.Attribute o m apos) (e :: es) [] pos) X.env = (do
      let ov ← eval o X.env
      standAt apos.atName
      let (f, first) ← holding [ov] (getMethod ov m pl)
      callWith pos f first (backTo pos (starEach (e :: es) X.env)) (backToKw pos (keywordEach [] X.env))) := by rfl) :
    PE X (.Call (.Attribute o m apos) (e :: es) [] pos) (tMethR C m sp E ta t) := by
  refine ⟨fun pins s σ H Q I h => ?_⟩
  refine PySem.W.methodCall_KW (pl := pl) (thn (he.run pins s σ H _ I h) fun u s1 ⟨x, H1, I1, rx, a, dx, fs, ex, ea, l, q⟩ => ?_) ht
  subst ex
  obtain rfl : u = Value.ref a := rx
  refine getmeth_ok I1 ea c hm l ?_
  refine PySem.W.callWith_K (first := [.ref a]) (h₀ := X.base) I.ok.mod.kin hm.kp (thn (ha.run pos pins s1 σ H1 _ I1 q) fun us s2 ⟨vs, H2, I2, r, q2⟩ => ⟨I2.kIn, ?_⟩) hst hpl
  exact wpAny_call (run_fnR (us := .ref a :: us) (vs := .ref a :: vs) F hr hx I2 (.cons rfl r) q2)
/-- e.f, a property: the getter's promise -/
def tPropR (C : Addr) (sp : Sp) (E : XK) (ta : TE) : TE := fun σ H Q => ta σ H fun x H1 => ∃ a dx fs, x = .ref a ∧ H1 a = some (.ins C dx fs) ∧ sp [.ref a] H1 Q E
theorem pe_propR {g pa : Addr} {nm : Str} (he : PE X e ta) (c : Cls X.K C) (hp : PropOf X.K C nm pa g) (F : FX X k g sp) (hr : Room (k + 1) X.A) (hx : Passes (L2.CX X.prog X.w) X.nox E)
    (hab : attributeBase e nm X.env (eval e X.env) = eval e X.env := by rfl) : PE X (.Attribute e nm pos) (tPropR C sp E ta) := by
  refine ⟨fun pins s σ H Q I h => ?_⟩
  refine attr_of hab (thn (he.run pins s σ H _ I h) fun u s1 ⟨x, H1, I1, rx, a, dx, fs, ex, ea, q⟩ => ?_)
  subst ex
  obtain rfl : u = Value.ref a := rx
  obtain ⟨mA, O, _, _, _, _⟩ := ins_get I1.hok ea
  obtain ⟨od, J, _⟩ := O.look
  obtain ⟨rest, hrec⟩ := hp.rec_
  have I2 := I1.tok (s1.toks + 1)
  have hc : (PySem.W.clsIn X.K C).isSome = true := by
    obtain ⟨cd, hc, _⟩ := PySem.W.any_some c.hd
    rw [hc]
    rfl
  refine PySem.W.get_bind I1.kIn J (PySem.W.plainGet_of (c.get nm)).1 (PySem.W.findObj_data hc hp.at_ hp.get hp.tak) (PySem.W.plainGet_of (c.get nm)).2 (wpAny_call (PySem.W.prop_get (s := { s1 with toks := s1.toks + 1 }) I1.kIn hrec ?_))
  refine codeAny_mono (F X.A.in1 X.stack { s1 with toks := s1.toks + 1 } H1 [.ref a] [.ref a] Q E hr.in1 I2.env0.in1 (.cons rfl .nil) q) fun r s' hq => ?_
  cases r with
  | error er => exact False.elim (hx pins σ H1 { s1 with toks := s1.toks + 1 } er s' (I2.wish _) hq)
  | ok fl =>
    cases fl with
    | ret u =>
      obtain ⟨v, H', I3, rv, q3⟩ := I2.after hq
      show wpAny _ _ (handedOut u) _ _ _
      rw [PySem.W.handedOut_of (handed_of rv)]
      exact wpAny_pure ⟨v, H', I3, rv, q3⟩
    | next => exact False.elim hq
    | brk => exact False.elim hq
    | cont => exact False.elim hq
end
end Kp
set_option maxHeartbeats 2000000
/-! Further rules: own `in`, chains of three comparisons, repr of a bool, list(text), dicts with tuple keys. -/
namespace Kp
open PySem PySem.Spec PyProof.Rows L2
/-! ### y in x by the class's own def -/
section
variable {X : Cx} {k : Nat} {f C : Addr} {sp : Sp} {E : XK}
def rInO (C : Addr) (sp : Sp) (E : XK) : R2 := fun x y H Q => ∃ a dx fs, y = .ref a ∧ H a = some (.ins C dx fs) ∧ sp [.ref a, x] H (fun v H' => ∃ c, v = .bl c ∧ Q (.bl c) H') E
def rNotInO (C : Addr) (sp : Sp) (E : XK) : R2 := fun x y H Q => ∃ a dx fs, y = .ref a ∧ H a = some (.ins C dx fs) ∧ sp [.ref a, x] H (fun v H' => ∃ c, v = .bl c ∧ Q (.bl (!c)) H') E
theorem op_inO (hs : PySem.W.findIn X.K (.ref C) "__contains__" = some (some (.ref f))) (hf : PySem.W.isFn X.K (.ref f) = true) (F : FX X k f sp) (hr : Room k X.A) (hx : PsX X E) : OpR X (compareOp .In) (rInO C sp E) := by
  intro pins s σ H x y v u Q I rx ry h
  obtain ⟨a, dx, fs, rfl, ha, q⟩ := h
  cases (show u = Value.ref a from ry)
  obtain ⟨mA, O, _⟩ := ins_get I.hok ha
  obtain ⟨od, J, _⟩ := O.look
  obtain ⟨m, hF⟩ := I.fr
  refine PySem.W.in_K hF I.ok.mod.kin J hs hf ?_
  refine wpAny_mono (wpAny_call (run_fnR (us := [.ref a, v]) (vs := [.ref a, x]) F hr hx I (.cons rfl (.cons rx .nil)) q)) (fun w s' z => ?_) fun _ _ x => x
  obtain ⟨z', H', I', rz, c, ez, qz⟩ := z
  subst ez
  cases rz
  exact wpAny_truthy_bool ⟨.bl c, H', I', rfl, qz⟩
theorem op_notInO (hs : PySem.W.findIn X.K (.ref C) "__contains__" = some (some (.ref f))) (hf : PySem.W.isFn X.K (.ref f) = true) (F : FX X k f sp) (hr : Room k X.A) (hx : PsX X E) : OpR X (compareOp .NotIn) (rNotInO C sp E) := by
  intro pins s σ H x y v u Q I rx ry h
  obtain ⟨a, dx, fs, rfl, ha, q⟩ := h
  cases (show u = Value.ref a from ry)
  obtain ⟨mA, O, _⟩ := ins_get I.hok ha
  obtain ⟨od, J, _⟩ := O.look
  obtain ⟨m, hF⟩ := I.fr
  refine PySem.W.notIn_K hF I.ok.mod.kin J hs hf ?_
  refine wpAny_mono (wpAny_call (run_fnR (us := [.ref a, v]) (vs := [.ref a, x]) F hr hx I (.cons rfl (.cons rx .nil)) q)) (fun w s' z => ?_) fun _ _ x => x
  obtain ⟨z', H', I', rz, c, ez, qz⟩ := z
  subst ez
  cases rz
  exact wpAny_truthy_bool ⟨.bl (!c), H', I', rfl, qz⟩
end
/-! ### a op1 b op2 c op3 d -/
section
variable {X : Cx} {a b c d : Expr} {ta tb tc td : TE} {pos : Pos}
def tChain3 (r r' r'' : R2) (ta tb tc td : TE) : TE := fun σ H Q => ta σ H fun x H1 => tb σ H1 fun y H2 => r x y H2 fun z H3 => ∃ k, z = .bl k ∧
  (if k = true then tc σ H3 fun w' H4 => r' y w' H4 fun z2 H5 => ∃ k2, z2 = .bl k2 ∧ (if k2 = true then td σ H5 fun w2 H6 => r'' w' w2 H6 Q else Q (.bl false) H5) else Q (.bl false) H3)
theorem pe_chain3 {op op' op'' : CmpOp} {r r' r'' : R2} (ho : OpR X (compareOp op) r) (ho' : OpR X (compareOp op') r') (ho'' : OpR X (compareOp op'') r'') (ha : PE X a ta) (hb : PE X b tb) (hc : PE X c tc) (hd : PE X d td)
    (hm : lastMarks [op, op', op''] [b, c, d] = false := by with_unfolding_all rfl) : PE X (.Compare a [op, op', op''] [b, c, d] pos) (tChain3 r r' r'' ta tb tc td) := by
  refine ⟨fun pins s σ H Q I h => ?_⟩
  refine Compare_chain (thn (ha.run pins s σ H _ I h) fun v s1 ⟨x, H1, I1, r1, q1⟩ => chain_link (thn (hb.run pins s1 σ H1 _ I1 q1) fun u s2 ⟨y, H2, I2, r2, q2⟩ =>
    thn (ho pins s2 σ H2 x y v u _ I2 r1 r2 q2) fun d s3 ⟨z, H3, I3, r3, k, e, q3⟩ => ?_)) hm
  subst e
  cases r3
  refine wpAny_truthy_bool ?_
  cases k with
  | false => exact ite_ff ⟨.bl false, H3, I3, rfl, q3⟩
  | true =>
    refine ite_tt (chain_link (thn (hc.run pins s3 σ H3 _ I3 q3) fun w' s4 ⟨z', H4, I4, r4, q4⟩ => thn (ho' pins s4 σ H4 y z' u w' _ I4 r2 r4 q4) fun d5 s5 ⟨z5, H5, I5, r5, k5, e5, q5⟩ => ?_))
    subst e5
    cases r5
    refine wpAny_truthy_bool ?_
    cases k5 with
    | false => exact ite_ff ⟨.bl false, H5, I5, rfl, q5⟩
    | true => exact ite_tt (chain_last (thn (hd.run pins s5 σ H5 _ I5 q5) fun w6 s6 ⟨z6, H6, I6, r6, q6⟩ => ho'' pins s6 σ H6 z' z6 w' w6 Q I6 r4 r6 q6))
theorem pt_chain3 {op op' op'' : CmpOp} {r r' r'' : R2} (ho : OpR X (compareOp op) r) (ho' : OpR X (compareOp op') r') (ho'' : OpR X (compareOp op'') r'') (ha : PE X a ta) (hb : PE X b tb) (hc : PE X c tc) (hd : PE X d td)
    (hm : lastMarks [op, op', op''] [b, c, d] = false := by with_unfolding_all rfl) : PT X (.Compare a [op, op', op''] [b, c, d] pos) (tTest (tChain3 r r' r'' ta tb tc td)) := by
  refine ⟨fun pins s σ H Q I h => ?_⟩
  refine isTrue_chain (thn (ha.run pins s σ H _ I h) fun v s1 ⟨x, H1, I1, r1, q1⟩ => test_link (thn (hb.run pins s1 σ H1 _ I1 q1) fun u s2 ⟨y, H2, I2, r2, q2⟩ =>
    thn (ho pins s2 σ H2 x y v u _ I2 r1 r2 q2) fun d s3 ⟨z, H3, I3, r3, k, e, q3⟩ => ?_)) hm
  subst e
  cases r3
  refine wpAny_truthy_bool ?_
  cases k with
  | false =>
    obtain ⟨k', e', q'⟩ := q3
    cases e'
    exact ite_ff ⟨H3, I3, q'⟩
  | true =>
    refine ite_tt (test_link (thn (hc.run pins s3 σ H3 _ I3 q3) fun w' s4 ⟨z', H4, I4, r4, q4⟩ => thn (ho' pins s4 σ H4 y z' u w' _ I4 r2 r4 q4) fun d5 s5 ⟨z5, H5, I5, r5, k5, e5, q5⟩ => ?_))
    subst e5
    cases r5
    refine wpAny_truthy_bool ?_
    cases k5 with
    | false =>
      obtain ⟨k', e', q'⟩ := q5
      cases e'
      exact ite_ff ⟨H5, I5, q'⟩
    | true =>
      refine ite_tt (test_last (thn (hd.run pins s5 σ H5 _ I5 q5) fun w6 s6 ⟨z6, H6, I6, r6, q6⟩ => thn (ho'' pins s6 σ H6 z' z6 w' w6 _ I6 r4 r6 q6) fun d7 s7 ⟨z7, H7, I7, r7, k7, e7, q7⟩ => ?_))
      subst e7
      cases r7
      exact wpAny_truthy_bool ⟨H7, I7, q7⟩
end
/-! ### two readings of one expression, of one walked thing -/
section
variable {X : Cx} {e tg : Expr}
theorem pe_orE {t1 t2 : TE} (h1 : PE X e t1) (h2 : PE X e t2) : PE X e (fun σ H Q => t1 σ H Q ∨ t2 σ H Q) := ⟨fun pins s σ H Q I h => h.elim (fun q => h1.run pins s σ H Q I q) fun q => h2.run pins s σ H Q I q⟩
theorem pi_or {t1 t2 : TI} (h1 : PI X tg e t1) (h2 : PI X tg e t2) : PI X tg e (fun σ H R => t1 σ H R ∨ t2 σ H R) := ⟨fun pins s σ H R I h => h.elim (fun q => h1.run pins s σ H R I q) fun q => h2.run pins s σ H R I q⟩
/-! ### repr(True); list(text) -/
theorem call_repr_bl : CallR X (.builtin "repr") (fun xs H Q => ∃ b, xs = [.bl b] ∧ Q (.str (if b then "True" else "False")) H) := by
  intro pins s σ H xs us Q I r h
  obtain ⟨b, rfl, q⟩ := h
  obtain ⟨u, rfl, rx⟩ := vals1 r
  cases rx
  exact PySem.P.repr_of_bool ⟨.str _, H, I.tok _, ⟨_, rfl⟩, q⟩
theorem call_list_txt (hc : X.calm = true) : CallR X (.type "list") (fun xs H Q => ∃ x : Str, xs = [.str x] ∧ x.length ≤ sizeLine ∧ ∀ p, H p = none → Q (.ref p) (upd H p (.lst (x.cps.toList.map fun c => V.str ⟨#[c]⟩)))) := by
  intro pins s σ H xs us Q I r h
  obtain ⟨x, rfl, hl, q⟩ := h
  obtain ⟨u, rfl, t, rfl⟩ := vals1 r
  refine call_list_str (hn := hl) (I.ok.hd hc) x t fun h' tk acc' c' k e it => ?_
  have rv : Vals (x.cps.toList.map fun c => V.str ⟨#[c]⟩) acc'.toList := by
    refine vals_of_idx _ _ (by have := it.1; simp; exact this) fun j v hv => ?_
    obtain ⟨c, t', h1, h2⟩ := it.2 j v (by simpa using hv)
    subst h2
    exact ⟨.str ⟨#[c]⟩, by rw [List.getElem?_map, Array.getElem?_toList, h1]; rfl, _, rfl⟩
  refine ⟨.ref s.heap.objs.size, _, I.laid (t' := tk) (o := .lst (x.cps.toList.map fun c => V.str ⟨#[c]⟩)) k (Nat.le_refl _) ⟨by rw [List.length_map]; exact hl, acc'.toList, c', rv, by rw [Array.toArray_toList]; exact e⟩, rfl, q _ (I.hok.fresh (Nat.le_refl _))⟩
end
/-! ### dicts with tuple keys: a copy of an empty one, of a list of pairs, a display of one entry -/
section
variable {X : Cx}
theorem dt_at {P : Program} {w : World} {H : Hp} {h : Heap} {a : Addr} {kvs : List (List Key × V)} {xs : List (List Key × Addr × Value)} (z : kvs.length ≤ sizeLine) (hd : (a == sysModules) = false) (rel : KT H kvs xs) (dd : h.DictOfH (tupleKind (mixKind P w)) a xs) : ObjOk P w H h a (.dT kvs) := by
  obtain ⟨o, es, ep, h1, h2, h3, h4, _, h5⟩ := dd
  exact ⟨z, hd, xs, rel, o, es, ep, h1, h2, h3, h4, h5⟩
/-- dict(d), d empty: the copy is to have tuple keys -/
theorem call_dict_e : CallR X (.type "dict") (fun xs H Q => ∃ a : Addr, xs = [.ref a] ∧ Rd H a (.dK []) ∧ ∀ p, H p = none → Q (.ref p) (upd H p (.dT []))) := by
  intro pins s σ H xs us Q I r q
  obtain ⟨a, ex, hd, q⟩ := q
  subst ex
  obtain ⟨u, eu, rx⟩ := vals1 r
  subst eu
  cases rx
  obtain ⟨z, lo, vs, rel, dd⟩ := dk_rd I.hok hd
  cases rel
  refine kt_call_dict lo dd (by decide) fun h' d' hs => ?_
  have hm : (s.heap.objs.size == sysModules) = false := beq_eq_false_iff_ne.mpr (Nat.ne_of_gt I.big)
  obtain ⟨o, es, ep, h1, h2, h3, h4, h5, h6⟩ := d'
  have he : es.toList = [] := by
    cases h5' : es.toList with
    | nil => rfl
    | cons x y => rw [h5'] at h5; cases h5
  exact ⟨.ref s.heap.objs.size, upd H s.heap.objs.size (.dT []), I.laid (t' := s.toks) (fun b u e => (hs.2 b (Nat.ne_of_lt (Heap.lt_size e))).trans (Heap.get?_push_of_some _ e)) (Nat.le_refl _)
    (show ObjOk X.prog X.w _ _ _ (.dT []) from ⟨by decide, hm, [], .nil, o, es, ep, h1, h2, h3, by simpa using he, List.nodup_nil⟩), rfl, q _ (I.hok.fresh (Nat.le_refl _))⟩
theorem storedAll_new {K : Type} [DecidableEq K] : ∀ (ps acc : List (K × Addr × Value)), ((acc ++ ps).map (·.1)).Nodup → storedAllH acc ps = acc ++ ps
  | [], acc, _ => by simp [storedAllH]
  | p :: ps, acc, h => by
    have hn : atKey acc p.1 = none := by
      unfold atKey
      rw [Option.map_eq_none_iff, List.find?_eq_none]
      intro x hx e
      rw [List.map_append, List.nodup_append] at h
      exact h.2.2 x.1 (List.mem_map.mpr ⟨x, hx, rfl⟩) p.1 (by simp) (by simpa using e)
    show storedAllH (storedH acc p.1 p.2.1 p.2.2) ps = acc ++ p :: ps
    rw [storedH_new hn, storedAll_new ps _ (by simpa using h)]
    simp
/-- an entry of dict([(k, v), ..]): the pair's place, the key's, the key, the value -/
structure PairE where
  p : Addr
  b : Addr
  k : List Key
  v : V
def rDictPT (K : PySem.W.Frag) : List V → Hp → VK → Prop := fun xs H Q => ∃ (a : Addr) (L : List PairE), xs = [.ref a] ∧ SqL K H a (L.map fun e => V.ref e.p) ∧ (∀ e ∈ L, SqT K H e.p [.ref e.b, e.v] ∧ H e.b = some (.tup (e.k.map kV))) ∧ (L.map fun e => e.k).Nodup ∧
  ∀ p, H p = none → Q (.ref p) (upd H p (.dT (L.map fun e => (e.k, e.v))))
theorem pairs_ofT {pins : List (Addr × Obj)} {σ : L2.St} {H : Hp} {s : Shared} (I : Inv X pins σ H s) : ∀ {L : List PairE}, (∀ e ∈ L, SqT X.K H e.p [.ref e.b, e.v] ∧ H e.b = some (.tup (e.k.map kV))) →
    ∃ us : List Value, us.length = L.length ∧ ∀ (j : Nat) (e : PairE), L[j]? = some e → ∃ u, us[j]? = some u ∧ RelV e.v u ∧ IsTup s.heap e.p #[.ref e.b, u]
  | [], _ => ⟨[], rfl, fun j q e => by simp at e⟩
  | e :: L, h => by
    obtain ⟨us, hl, hp⟩ := pairs_ofT I (L := L) fun x hx => h x (List.mem_cons_of_mem _ hx)
    obtain ⟨its, rv, ht, _⟩ := I.tuple (h e List.mem_cons_self).1
    obtain ⟨u1, u2, ei, r1, r2⟩ := vals2 rv
    subst ei
    cases r1
    refine ⟨u2 :: us, by simp [hl], fun j q eq => ?_⟩
    cases j with
    | zero =>
      have e' : e = q := Option.some.inj eq
      subst e'
      exact ⟨u2, rfl, r2, ht⟩
    | succ j =>
      obtain ⟨u, e1, e2⟩ := hp j q (by simpa using eq)
      exact ⟨u, by simpa using e1, e2⟩
theorem kt_zip {H : Hp} : ∀ {L : List PairE} {us : List Value}, us.length = L.length → (∀ e ∈ L, H e.b = some (.tup (e.k.map kV))) → (∀ (j : Nat) (e : PairE), L[j]? = some e → ∃ u, us[j]? = some u ∧ RelV e.v u) →
    KT H (L.map fun e => (e.k, e.v)) ((L.zip us).map fun z => (z.1.k, z.1.b, z.2))
  | [], [], _, _, _ => .nil
  | [], _ :: _, h, _, _ => by simp at h
  | _ :: _, [], h, _, _ => by simp at h
  | e :: L, u :: us, h, hb, hv => by
    obtain ⟨u', e1, e2⟩ := hv 0 e rfl
    cases (Option.some.inj e1)
    exact .cons ⟨rfl, hb e List.mem_cons_self, e2⟩ (kt_zip (by simpa using h) (fun x hx => hb x (List.mem_cons_of_mem _ hx)) fun j x hx => hv (j + 1) x (by simpa using hx))
theorem call_dictPT (hcalm : X.calm = true) (hu : X.A.units + 64 < cLine) : CallR X (.type "dict") (rDictPT X.K) := by
  intro pins s σ H xs us Q I r q
  obtain ⟨a, L, ex, hq, hp, nd, q⟩ := q
  subst ex
  obtain ⟨u, eu, rx⟩ := vals1 r
  subst eu
  cases rx
  obtain ⟨its, rv, pl, hz⟩ := I.list hq
  rw [List.length_map] at hz
  obtain ⟨ws, hl, hw⟩ := pairs_ofT I hp
  have ei : its = L.map fun e => Value.ref e.p := by
    have : L.map (fun e => V.ref e.p) = (L.map fun e => e.p).map V.ref := by rw [List.map_map]; rfl
    rw [this] at rv
    rw [refs_at rv, List.map_map]
    rfl
  subst ei
  obtain ⟨o, n, ho, hc, hd, hdat⟩ := pl
  have hzl : (L.zip ws).length = L.length := by rw [List.length_zip, hl]; simp
  have hm : (s.heap.objs.size == sysModules) = false := beq_eq_false_iff_ne.mpr (Nat.ne_of_gt I.big)
  have rel : KT H (L.map fun e => (e.k, e.v)) ((L.zip ws).map fun z => (z.1.k, z.1.b, z.2)) := kt_zip hl (fun e he => (hp e he).2) fun j e he => by
    obtain ⟨u, e1, e2, _⟩ := hw j e he
    exact ⟨u, e1, e2⟩
  have gz : ∀ (j : Nat) (z : PairE × Value), (L.zip ws)[j]? = some z → L[j]? = some z.1 ∧ ws[j]? = some z.2 := fun j z h => List.getElem?_zip_eq_some.mp h
  refine PySem.call_dict_pairsH (knd := tupleKind (mixKind X.prog X.w)) (ps := (L.zip ws).map fun z => (z.1.k, z.1.b, z.2)) (PairArg.list a (L.map fun e => Value.ref e.p).toArray (fun j => (L.map fun e => e.p).getD j 0) ((L.zip ws).map fun z => (Value.ref z.1.b, z.2))) (I.ok.hd hcalm)
    (tupleKind_room_in1 (by show X.A.units + 1 + 1 < cLine; omega)) ⟨⟨o, n, ho, hc, hd, hdat⟩, by simp [hl], fun j k v hj => ?_⟩ ⟨by simp, fun j k v hj => ?_⟩ (fun h' hk x hx => ?_) (by rw [List.length_map, hzl]; exact hz) fun h' tk dd hk => ?_
  · rw [List.getElem?_map] at hj
    cases hq2 : (L.zip ws)[j]? with
    | none => rw [hq2] at hj; cases hj
    | some z =>
      rw [hq2] at hj
      obtain ⟨g1, g2⟩ := gz j z hq2
      have e1 : (Value.ref z.1.b, z.2) = (k, v) := Option.some.inj hj
      cases e1
      obtain ⟨u, w1, w2, w3⟩ := hw j z.1 g1
      rw [g2] at w1
      cases w1
      have ep : (L.map fun e => e.p).getD j 0 = z.1.p := by rw [List.getD_eq_getElem?_getD, List.getElem?_map, g1]; rfl
      refine ⟨by simp [g1, ep], ?_⟩
      show PairAt s.heap ((L.map fun e => e.p).getD j 0) (Value.ref z.1.b) z.2
      rw [ep]
      exact .inl w3
  · have hj' : ((L.zip ws).map fun z => (Value.ref z.1.b, z.2))[j]? = some (k, v) := hj
    rw [List.getElem?_map] at hj'
    cases hq2 : (L.zip ws)[j]? with
    | none => rw [hq2] at hj'; cases hj'
    | some z =>
      rw [hq2] at hj'
      have e1 : (Value.ref z.1.b, z.2) = (k, v) := Option.some.inj hj'
      cases e1
      exact ⟨z.1.k, z.1.b, by rw [List.getElem?_map, hq2]; rfl, rfl⟩
  · obtain ⟨z, hz', rfl⟩ := List.mem_map.mp hx
    have hmem : z.1 ∈ L := (List.of_mem_zip hz').1
    have hb := (hp _ hmem).2
    have I2 := key_of (P := X.prog) (w := X.w) I.hok hb
    obtain ⟨o2, its2, n2, q1, q2⟩ := I2
    exact ⟨o2, its2, n2, hk _ _ (Nat.ne_of_lt (Heap.lt_size q1)) (fun z => nomatch z) q1, q2⟩
  · rw [storedAll_new _ _ (by
      rw [List.nil_append, List.map_map]
      have : (fun x : List Key × Addr × Value => x.1) ∘ (fun z : PairE × Value => (z.1.k, z.1.b, z.2)) = (fun e : PairE => e.k) ∘ (·.1) := rfl
      rw [this, ← List.map_map, List.map_fst_zip (by rw [hl]; exact Nat.le_refl _)]
      exact nd), List.nil_append] at dd
    have hn : H s.heap.objs.size = none := I.hok.fresh (Nat.le_refl _)
    refine ⟨.ref s.heap.objs.size, _, I.laid (t' := tk) (o := .dT (L.map fun e => (e.k, e.v))) (fun b u e => hk b u (fun z => nomatch z) e) (Nat.le_refl _) (dt_at (by rw [List.length_map]; exact hz) hm (L2.Paired.mapP rel fun p q z => ⟨z.1, ?_, z.2.2⟩) dd), rfl, q _ hn⟩
    rw [upd_ne (ne_of_none z.2.1 hn)]
    exact z.2.1
end
end Kp
set_option maxHeartbeats 2000000
/-! Comprehensions that only make things, over any walk; texts in lists. -/
namespace Kp
open PySem PySem.Spec PyProof.Rows L2 Evl
section
variable {K : PySem.W.Frag} {σ : L2.St} {H : Hp} {te : TE} {t : TT}
/-- a comprehension over what J walks, n turns, the i-th item told by Y -/
theorem el_lcW {J : It} {n : Nat} {G : Hp → Prop} {Y : Nat → V → Prop} {wi : TI} {j : Nat} {vs : List Nat} (w : Walk J n G (fun i H x H' => H' = H ∧ Y i x)) (f : Nat → Bool) (v : Nat → V)
    (hwi : ∀ H1, Ex H H1 → ∀ R : It → Hp → Prop, (∀ H2, Ex H1 H2 → R J H2) → wi σ H1 R) (hG : ∀ H1, Ex H H1 → G H1) (hz : n ≤ 40000) (hw : ∀ x, wipe ((wipe σ vs).set j (some x)) vs = wipe σ vs)
    (ht : ∀ (i : Nat) (x : V) H1, Ex H H1 → i < n → Y i x → EvT t ((wipe σ vs).set j (some x)) H1 (f i)) (he : ∀ (i : Nat) (x : V) H1, Ex H H1 → i < n → Y i x → f i = true → Ev te ((wipe σ vs).set j (some x)) H1 (v i)) :
    EvL (tLc wi (gName j) t te vs) σ H (given n f v) := fun H0 e Q q => hwi H0 e _ fun H1 e1 Dl hD =>
  lc_it w (Cw H1 f v Dl) ⟨hD, Ex.new hD, upd_same⟩ (fun i H' _ p => hG H' ((e.trans e1).trans p.2.1)) (fun i x H' H'' hi p y => by
    obtain ⟨rfl, y⟩ := y
    exact ⟨hw x, cw_turn p (by omega) (ht i x H1 (e.trans e1) hi y) (fun hf => he i x H1 (e.trans e1) hi y hf)⟩)
    (fun H' p => q Dl H' (fresh_back e1 p.1) (e1.trans p.2.1) p.2.2)
theorem et_yes : EvT tYes σ H true := fun H1 e Q q => q H1 (Ex.refl H1)
/-- over a text -/
theorem el_lcS {z : Str} {tl : TE} {j : Nat} {vs : List Nat} (f : Nat → Bool) (v : Nat → V) (h : Ev tl σ H (.str z)) (hz : z.cps.size ≤ 40000) (hw : ∀ x, wipe ((wipe σ vs).set j (some x)) vs = wipe σ vs)
    (ht : ∀ (i c : Nat) H1, Ex H H1 → z.cps[i]? = some c → EvT t ((wipe σ vs).set j (some (.str ⟨#[c]⟩))) H1 (f i)) (he : ∀ (i c : Nat) H1, Ex H H1 → z.cps[i]? = some c → f i = true → Ev te ((wipe σ vs).set j (some (.str ⟨#[c]⟩))) H1 (v i)) :
    EvL (tLc (iStr tl) (gName j) t te vs) σ H (given z.cps.size f v) :=
  el_lcW (Y := fun i x => ∃ c, z.cps[i]? = some c ∧ x = .str ⟨#[c]⟩) walk_str f v (fun H1 e R q => h H1 e _ fun H2 e2 => ⟨z, rfl, q H2 e2⟩) (fun _ _ => True.intro) hz hw
    (fun i x H1 e hi ⟨c, hc, ex⟩ => by subst ex; exact ht i c H1 e hc) (fun i x H1 e hi ⟨c, hc, ex⟩ hf => by subst ex; exact he i c H1 e hc hf)
/-- as readings -/
theorem run_lcS {z : Str} {tl : TE} {j : Nat} {vs : List Nat} {Q : VK} (f : Nat → Bool) (v : Nat → V) (h : Ev tl σ H (.str z)) (hz : z.cps.size ≤ 40000) (hw : ∀ x, wipe ((wipe σ vs).set j (some x)) vs = wipe σ vs)
    (ht : ∀ (i c : Nat) H1, Ex H H1 → z.cps[i]? = some c → EvT t ((wipe σ vs).set j (some (.str ⟨#[c]⟩))) H1 (f i)) (he : ∀ (i c : Nat) H1, Ex H H1 → z.cps[i]? = some c → f i = true → Ev te ((wipe σ vs).set j (some (.str ⟨#[c]⟩))) H1 (v i))
    (k : ∀ p H2, H p = none → Ex H H2 → H2 p = some (.lst (given z.cps.size f v)) → Q (.ref p) H2) : tLc (iStr tl) (gName j) t te vs σ H Q := el_lcS f v h hz hw ht he H (Ex.refl H) Q k
theorem run_lcL {a : Addr} {xs : List V} {tl : TE} {j : Nat} {vs : List Nat} {Q : VK} (f : Nat → Bool) (v : Nat → V) (h : Ev tl σ H (.ref a)) (hx : SqL K H a xs) (hz : xs.length ≤ 40000) (hw : ∀ x, wipe ((wipe σ vs).set j (some x)) vs = wipe σ vs)
    (ht : ∀ (i : Nat) (x : V) H1, Ex H H1 → xs[i]? = some x → EvT t ((wipe σ vs).set j (some x)) H1 (f i)) (he : ∀ (i : Nat) (x : V) H1, Ex H H1 → xs[i]? = some x → f i = true → Ev te ((wipe σ vs).set j (some x)) H1 (v i))
    (k : ∀ p H2, H p = none → Ex H H2 → H2 p = some (.lst (given xs.length f v)) → Q (.ref p) H2) : tLc (iList K tl) (gName j) t te vs σ H Q := el_lcL f v h hx hz hw ht he H (Ex.refl H) Q k
theorem run_lcT {a : Addr} {xs : List V} {tl : TE} {j : Nat} {vs : List Nat} {Q : VK} (f : Nat → Bool) (v : Nat → V) (h : Ev tl σ H (.ref a)) (hx : SqT K H a xs) (hz : xs.length ≤ 40000) (hw : ∀ x, wipe ((wipe σ vs).set j (some x)) vs = wipe σ vs)
    (ht : ∀ (i : Nat) (x : V) H1, Ex H H1 → xs[i]? = some x → EvT t ((wipe σ vs).set j (some x)) H1 (f i)) (he : ∀ (i : Nat) (x : V) H1, Ex H H1 → xs[i]? = some x → f i = true → Ev te ((wipe σ vs).set j (some x)) H1 (v i))
    (k : ∀ p H2, H p = none → Ex H H2 → H2 p = some (.lst (given xs.length f v)) → Q (.ref p) H2) : tLc (iTup K tl) (gName j) t te vs σ H Q :=
  el_lcW (Y := fun i x => xs[i]? = some x) (walk_tup.mono (fun _ h => h) fun i H x H' _ _ y => y) f v (fun H1 e R q => h H1 e _ fun H2 e2 => ⟨a, rfl, ⟨xs, ex_t (e.trans e2) hx⟩, q H2 e2⟩) (fun H1 e => ex_t e hx) hz hw
    (fun i x H1 e _ y => ht i x H1 e y) (fun i x H1 e _ y hf => he i x H1 e y hf) H (Ex.refl H) Q k
end
theorem given_map {n : Nat} {f : Nat → Bool} {v : Nat → V} (h : ∀ i, i < n → f i = true) : given n f v = (List.range n).map v := by
  unfold given
  rw [List.filter_eq_self.mpr fun i hi => h i (List.mem_range.mp hi)]
theorem range_map {α : Type} (xs : List α) (v : Nat → V) (g : α → V) (h : ∀ i x, xs[i]? = some x → v i = g x) : (List.range xs.length).map v = xs.map g := by
  apply List.ext_getElem?
  intro i
  rw [List.getElem?_map, List.getElem?_map]
  by_cases hi : i < xs.length
  · rw [List.getElem?_range hi, List.getElem?_eq_getElem hi]
    simp only [Option.map_some]
    rw [h i _ (List.getElem?_eq_getElem hi)]
  · rw [List.getElem?_eq_none (by simpa using hi), List.getElem?_eq_none (by simpa using hi)]
    rfl
theorem given_filter {α : Type} (xs : List α) (f : Nat → Bool) (v : Nat → V) (p : α → Bool) (g : α → V) (hf : ∀ i x, xs[i]? = some x → f i = p x) (hv : ∀ i x, xs[i]? = some x → v i = g x) : given xs.length f v = (xs.filter p).map g := by
  have key : ∀ n, n ≤ xs.length → given n f v = ((xs.take n).filter p).map g := by
    intro n
    induction n with
    | zero => intro _; rfl
    | succ n ih =>
      intro hn
      have hx : xs[n]? = some xs[n] := List.getElem?_eq_getElem hn
      rw [List.take_add_one, hx]
      simp only [Option.toList_some, List.filter_append, List.map_append]
      cases q : p xs[n] with
      | true =>
        rw [given_yes ((hf n _ hx).trans q), ih (by omega), hv n _ hx]
        simp [q]
      | false =>
        rw [given_no ((hf n _ hx).trans q), ih (by omega)]
        simp [q]
  rw [key xs.length (Nat.le_refl _), List.take_length]
theorem inV_strs (x : Str) (ws : List Str) : inV (.str x) (ws.map V.str) = decide (x ∈ ws) := by
  unfold inV
  rw [List.any_map]
  induction ws with
  | nil => rfl
  | cons w ws ih =>
    rw [List.any_cons, ih]
    show ((w == x) || decide (x ∈ ws)) = _
    by_cases h : x = w
    · subst h
      simp
    · have h' : (w == x) = false := by simpa using fun z : w = x => h z.symm
      rw [h']
      simp [h]
theorem flat_strs (ws : List Str) : (ws.map V.str).all flatV = true := by
  rw [List.all_map]
  exact List.all_eq_true.mpr fun _ _ => rfl
theorem flat_ints (ws : List Int) : (ws.map V.int).all flatV = true := by
  rw [List.all_map]
  exact List.all_eq_true.mpr fun _ _ => rfl
/-! ### words -/
def LetS (w : Str) : Prop := ∀ c ∈ w.cps.toList, 97 ≤ c ∧ c ≤ 122
instance (w : Str) : Decidable (LetS w) := by unfold LetS; infer_instance
def Wordy (w : Str) : Prop := LetS w ∧ 1 ≤ w.length ∧ w.length ≤ 8
theorem LetS.cut {w : Str} (h : LetS w) (lo hi : Option Int) : LetS (cutS w lo hi) := fun c hc => by
  unfold cutS at hc
  exact h c (List.mem_of_mem_drop (List.mem_of_mem_take hc))
theorem LetS.add {w u : Str} (h : LetS w) (k : LetS u) : LetS (w ++ u) := fun c hc => by
  have hc : c ∈ (w.cps ++ u.cps).toList := hc
  rw [Array.toList_append, List.mem_append] at hc
  exact hc.elim (h c) (k c)
theorem len_add (w u : Str) : (w ++ u).length = w.length + u.length := by
  show (w.cps ++ u.cps).size = w.cps.size + u.cps.size
  exact Array.size_append
theorem cut_to (w : Str) (n : Nat) : (cutS w none (some (n : Int))).length ≤ n := by
  unfold cutS
  show (List.toArray _).size ≤ n
  rw [List.size_toArray, List.length_take]
  have h : HT.sIx w.length w.length (some (n : Int)) ≤ n := by
    rw [HT.sIx_nat]
    omega
  omega
theorem LetS.one {c : Nat} (h : 97 ≤ c ∧ c ≤ 122) : LetS ⟨#[c]⟩ := fun d hd => by
  have e : d = c := by simpa using hd
  rw [e]
  exact h
theorem letS_ok {w : Str} (h : LetS w) : PyData.strOk w = true := by
  unfold PyData.strOk
  rw [Array.all_eq_true]
  intro i hi
  have := h w.cps[i] (by simp)
  simp
  omega
theorem nodup_le {α : Type} [DecidableEq α] : ∀ {xs ys : List α}, xs.Nodup → (∀ x ∈ xs, x ∈ ys) → xs.length ≤ ys.length
  | [], _, _, _ => Nat.zero_le _
  | x :: xs, ys, h, k => by
    obtain ⟨h1, h2⟩ := List.nodup_cons.mp h
    have hx : x ∈ ys := k x List.mem_cons_self
    have ih : xs.length ≤ (ys.erase x).length := nodup_le h2 fun z hz => by
      have hne : z ≠ x := fun e => h1 (e ▸ hz)
      exact (List.mem_erase_of_ne hne).mpr (k z (List.mem_cons_of_mem _ hz))
    rw [List.length_erase_of_mem hx] at ih
    have : 0 < ys.length := List.length_pos_of_mem hx
    show xs.length + 1 ≤ ys.length
    omega
theorem add_inj {w : Str} {a b : Nat} (h : w ++ (⟨#[a]⟩ : Str) = w ++ (⟨#[b]⟩ : Str)) : a = b := by
  have h1 : (w.cps ++ #[a]).toList = (w.cps ++ #[b]).toList := congrArg (fun z : Str => z.cps.toList) h
  rw [Array.toList_append, Array.toList_append] at h1
  have h2 := List.append_cancel_left h1
  simpa using h2
/-- one sign is left that makes a new word -/
theorem new_word {ws : List Str} {w : Str} {cs : List Nat} (hn : cs.Nodup) (hl : ws.length < cs.length) : ∃ c ∈ cs, w ++ (⟨#[c]⟩ : Str) ∉ ws := by
  apply Classical.byContradiction
  intro h
  have h' : ∀ c ∈ cs, w ++ (⟨#[c]⟩ : Str) ∈ ws := fun c hc => Classical.byContradiction fun z => h ⟨c, hc, z⟩
  have nd : (cs.map fun c => w ++ (⟨#[c]⟩ : Str)).Nodup := by
    refine List.Pairwise.map _ (fun a b hab e => hab (add_inj e)) hn
  have := nodup_le nd fun x hx => by
    obtain ⟨c, hc, rfl⟩ := List.mem_map.mp hx
    exact h' c hc
  rw [List.length_map] at this
  omega
end Kp
set_option maxHeartbeats 2000000
/-! A display {t: v} whose key is a tuple; calls by keywords alone. -/
namespace Kp
open PySem PySem.Spec PyProof.Rows L2
section
variable {X : Cx} {pos : Pos} {k v : Expr} {tk tv : TE}
def tDisp1 (tk tv : TE) : TE := fun σ H Q => ∀ p, H p = none → tk σ (upd H p (.dT [])) fun y H1 => tv σ H1 fun z H2 => H2 p = some (.dT []) ∧ ∃ (b : Addr) (key : List Key), y = .ref b ∧ H2 b = some (.tup (key.map kV)) ∧ Q (.ref p) (upd H2 p (.dT [(key, z)]))
theorem pe_disp1 (hu : X.A.units + 64 < cLine) (hk : PE X k tk) (hv : PE X v tv) : PE X (.Dict [some k] [v] pos) (tDisp1 tk tv) := by
  refine ⟨fun pins s σ H Q I q => ?_⟩
  have hn := I.hok.fresh (Nat.le_refl s.heap.objs.size)
  have I1 := I.laid (a := s.heap.objs.size) (o := .dT []) (h' := s.heap.push { cls := .type "dict", data := .dict #[] }) (t' := s.toks) (fun _ _ q => Heap.get?_push_of_some _ q) (Nat.le_refl _) (dt_empty s.heap I.big)
  rw [arm_eval_Dict, zip_pairTrees [some k] [v] X.env pos rfl rfl, dictDisplay_pairs (pairTrees [some k] [v] X.env pos) (by intro z; cases z) (by show (1 : Nat) < 17; decide)]
  refine wpAny_bind (wpAny_standAt (wpAny_bind (wpAny_subDictH (knd := tupleKind (mixKind X.prog X.w)) (by show X.A.units < cLine; omega) (by show 1 ≤ 15; decide) ?_)))
  refine thn ((pps_cons hk hv pps_nil).run pins _ σ _ (fun ps H2 => match ps with | [(y, z)] => H2 s.heap.objs.size = some (.dT []) ∧ ∃ (b : Addr) (key : List Key), y = .ref b ∧ H2 b = some (.tup (key.map kV)) ∧ Q (.ref s.heap.objs.size) (upd H2 s.heap.objs.size (.dT [(key, z)])) | _ => False) I1 (q _ hn)) fun ws s2 ⟨ps, H2, I2, rel, q2⟩ => ?_
  match ps, rel, q2 with
  | [(y, z)], rel, ⟨e, b, key, ey, eb, q2⟩ =>
    subst ey
    cases rel with
    | @cons _ u _ us h t =>
      cases t
      obtain ⟨h1, h2⟩ := h
      obtain ⟨zz, hd, xs, rl, dd⟩ := dt_of I2.hok e
      cases rl
      obtain ⟨u1, u2⟩ := u
      cases (show u1 = Value.ref b from h1)
      refine ⟨[(key, b, u2)], ⟨rfl, rfl, key_of I2.hok eb, True.intro⟩, dd, fun h' tk' dd' hs => ?_⟩
      rw [storedAll_new _ _ (by simp)] at dd'
      have he : ∃ q, h'.get? s.heap.objs.size = some q := let ⟨q, _, _, hq, _⟩ := dd'; ⟨q, hq⟩
      have nb : b ≠ s.heap.objs.size := fun z => by
        rw [z, e] at eb
        cases eb
      refine wpAny_pure ⟨.ref s.heap.objs.size, _, d_write I2 (by rw [e]; exact True.intro) hs he (dt_at (by show 1 ≤ sizeLine; decide) hd (.cons ⟨rfl, by rw [upd_ne nb]; exact eb, h2⟩ .nil) dd'), rfl, q2⟩
end

/-! ### calls by keywords alone -/
section
variable {K : PySem.W.Frag} {x qual : Str} {st : Stmt} {f : Addr} {fd : FuncData} {ps ks : List Str} {n : Nat} {g : List Value → List Value → List Value} {gV : List V → List V → List V}
theorem kbn_of (F : Fun K x qual st f fd) (hb : ∀ (kV doc pm : Value) (an : Option Addr) (cdv ct : Value) (us ws : List Value), us.length = n → ws.length = ks.length →
    bindArgs (PySem.W.fnOf x qual (defArgs st) (defBody st) (defScope st) .none kV doc pm an cdv ct) ⟨us, ks.zip ws⟩ = pure (ps.zip (g us ws)))
    (hrel : ∀ {vs : List V} {us : List Value} {zs : List V} {ws : List Value}, Vals vs us → Vals zs ws → Vals (gV vs zs) (g us ws)) : KBn K fd ps n ks g gV := by
  obtain ⟨oc, od, kV, doc, pm, an, cdv, ct, osl, rfl, lk, hcd⟩ := F.ex
  exact ⟨fun s us ws X l1 l2 => BindsTo.of_looks fun M => .of_pure (hb kV doc pm an cdv ct us ws l1 l2), hrel⟩
end
section
variable {X : Cx} {CX : CXT} {k n : Nat} {f C : Addr} {fd : FuncData} {ps ks : List Str} {sp : Sp} {E : XK} {x m : Str} {p pos apos : Pos} {o : Expr} {kws : List Keyword} {ta : TE} {tk : TA} {g : List Value → List Value → List Value} {gV : List V → List V → List V}
/-- f(k = v, ..) -/
def tCallK0 (m : Nat) (sp : Sp) (gV : List V → List V → List V) (E : XK) (tk : TA) : TE := fun σ H Q => tk σ H fun zs H2 => zs.length = m ∧ sp (gV [] zs) H2 Q E
theorem pe_callK0 (F : FnOk X.prog X.w X.K X.mg X.base CX k f fd ps sp) (hr : Room k X.A) (hg : Gl X x) (hm : X.mg x = some (.ref f)) (hk : PySem.W.keepIn X.K (.ref f) = true) (hb : KBn X.K fd ps 0 ks g gV) (hx : Passes CX X E)
    (hkw : PK X kws tk) (hall : (backToKw pos (keywordEach kws X.env)).all (·.1.isSome) = true := by rfl) (hks : (backToKw pos (keywordEach kws X.env)).filterMap (·.1) = ks := by rfl)
    (hdb : (x == ("__debug__" : Str)) = false := by decide) (hpl : ((backTo pos (starEach [] X.env)).any (·.1) || (backToKw pos (keywordEach kws X.env)).any (·.1.isNone)) = false := by rfl) :
    PE X (.Call (.Name x p) [] kws pos) (tCallK0 ks.length sp gV E tk) := by
  refine ⟨fun pins s σ H Q I h => ?_⟩
  refine wpAny_Call_Name_kw (ld_glob I hg hm ?_ hdb)
  refine PySem.W.callWith_KW0 (h₀ := X.base) I.ok.mod.kin hk hall (thn (hkw.run pos pins s σ H _ I h) fun ws s2 ⟨zs, H2, I2, rz, l2, q2⟩ => ⟨I2.kIn, ?_⟩) hpl
  rw [hks]
  exact run_fnN F hr hb hx I2 .nil rz rfl l2 q2
/-- o.m(k = v, ..) -/
def tMethK0 (C : Addr) (m : Str) (n : Nat) (sp : Sp) (gV : List V → List V → List V) (E : XK) (ta : TE) (tk : TA) : TE := fun σ H Q => ta σ H fun x H1 => ∃ a dx fs, x = .ref a ∧ H1 a = some (.ins C dx fs) ∧ fs.lookup m = none ∧ tk σ H1 fun zs H2 => zs.length = n ∧ sp (gV [.ref a] zs) H2 Q E
theorem pe_methK0 {pl : Sem Bool} (he : PE X o ta) (c : Cls X.K C) (hm : Meth X.K C m f) (F : FnOk X.prog X.w X.K X.mg X.base CX k f fd ps sp) (hr : Room k X.A) (hb : KBn X.K fd ps 1 ks g gV) (hx : Passes CX X E)
    (hkw : PK X kws tk) (hall : (backToKw pos (keywordEach kws X.env)).all (·.1.isSome) = true := by rfl) (hks : (backToKw pos (keywordEach kws X.env)).filterMap (·.1) = ks := by rfl)
    (hpl : ((backTo pos (starEach [] X.env)).any (·.1) || (backToKw pos (keywordEach kws X.env)).any (·.1.isNone)) = false := by rfl)
    (ht : eval (.Call (.Attribute o m apos) [] kws pos) X.env = (do
      let ov ← eval o X.env
      standAt apos.atName
      let (f, first) ← holding [ov] (getMethod ov m pl)
      callWith pos f first (backTo pos (starEach [] X.env)) (backToKw pos (keywordEach kws X.env))) := by rfl) :
    PE X (.Call (.Attribute o m apos) [] kws pos) (tMethK0 C m ks.length sp gV E ta tk) := by
  refine ⟨fun pins s σ H Q I h => ?_⟩
  refine PySem.W.methodCall_KW (pl := pl) (thn (he.run pins s σ H _ I h) fun u s1 ⟨x, H1, I1, rx, a, dx, fs, ex, ea, l, q⟩ => ?_) ht
  subst ex
  obtain rfl : u = Value.ref a := rx
  refine getmeth_ok I1 ea c hm l ?_
  refine PySem.W.callWith_KW0 (first := [.ref a]) (h₀ := X.base) I.ok.mod.kin hm.kp hall (thn (hkw.run pos pins s1 σ H1 _ I1 q) fun ws s2 ⟨zs, H2, I2, rz, l2, q2⟩ => ⟨I2.kIn, ?_⟩) hpl
  rw [hks]
  exact run_fnN (us := [.ref a]) (vs := [.ref a]) F hr hb hx I2 (.cons rfl .nil) rz rfl l2 q2
end
end Kp
set_option maxHeartbeats 4000000
namespace Kq
open PySem PySem.Spec PyProof.Rows L2 Kp
open Evl (Ev EvL EvT EvA given)
abbrev letters : Str := "abcdefghijklmnopqrstuvwxyz"
abbrev signs24 : Str := "abcdefghijklmnopqrstuvwx"
theorem str_at {ws : List Str} {i : Nat} {x : V} (h : (ws.map V.str)[i]? = some x) : ∃ u, ws[i]? = some u ∧ x = .str u := by
  rw [List.getElem?_map] at h
  cases q : ws[i]? with
  | none => rw [q] at h; cases h
  | some u =>
    rw [q] at h
    exact ⟨u, rfl, (Option.some.inj h).symm⟩
/-- the word with the sign c: all else are y and z -/
structure Mk1 (c : Nat) (w : Str) : Prop where
  has : c ∈ w.cps.toList
  all : ∀ d ∈ w.cps.toList, d = c ∨ d = 121 ∨ d = 122
theorem Mk1.uniq {c d : Nat} {w : Str} (a : Mk1 c w) (b : Mk1 d w) (hd : d ≤ 120) : d = c := by
  rcases a.all d b.has with h | h | h <;> omega
def YZ (w : Str) : Prop := ∀ d ∈ w.cps.toList, d = 121 ∨ d = 122
theorem join_mem : ∀ (ys : List Str) (c : Nat), c ∈ (Str.join "" ys).cps.toList → ∃ y ∈ ys, c ∈ y.cps.toList
  | [], c, h => by cases h
  | [y], c, h => ⟨y, by simp, h⟩
  | y :: z :: r, c, h => by
    have e : Str.join "" (y :: z :: r) = y ++ "" ++ Str.join "" (z :: r) := rfl
    rw [e] at h
    have h' : c ∈ ((y.cps ++ ("" : Str).cps) ++ (Str.join "" (z :: r)).cps).toList := h
    rw [Array.toList_append, Array.toList_append, List.mem_append, List.mem_append] at h'
    rcases h' with (h' | h') | h'
    · exact ⟨y, by simp, h'⟩
    · cases h'
    · obtain ⟨u, hu, hc⟩ := join_mem (z :: r) c h'
      exact ⟨u, List.mem_cons_of_mem _ hu, hc⟩
theorem cut_parts (w : Str) (n : Nat) : (cutS w none (some (n : Int))).cps.toList ++ (cutS w (some (n : Int)) none).cps.toList = w.cps.toList := by
  unfold cutS
  have e1 : HT.sIx w.length 0 none = 0 := rfl
  have e2 : HT.sIx w.length w.length none = w.length := rfl
  have e3 : ∀ d, HT.sIx w.length d (some (n : Int)) = min n w.length := fun d => by
    unfold HT.sIx
    simp
    omega
  have hl : w.cps.toList.length = w.length := Array.length_toList
  rw [e1, e2, e3, e3]
  simp only [List.drop_zero, Nat.sub_zero]
  have e4 : (List.drop (min n w.length) w.cps.toList).take (w.length - min n w.length) = List.drop (min n w.length) w.cps.toList := by
    rw [List.take_of_length_le]
    rw [List.length_drop, hl]
    exact Nat.le_refl _
  rw [e4]
  exact List.take_append_drop _ _
theorem sizes_one {ys : List Str} (h : ∀ y ∈ ys, y.length = 1) : (ys.map (·.length)).sum = ys.length := by
  induction ys with
  | nil => rfl
  | cons y r ih =>
    rw [List.map_cons, List.sum_cons, List.length_cons, ih fun z hz => h z (List.mem_cons_of_mem _ hz), h y List.mem_cons_self]
    omega
theorem sign_all : ∀ c ∈ signs24.cps.toList, 97 ≤ c ∧ c ≤ 120 := by decide +kernel
theorem sign_nd : signs24.cps.toList.Nodup := by decide +kernel
theorem eraseN_perm : ∀ (l : List Nat) (j : Nat) (h : j < l.length), ([l[j]] ++ l.eraseIdx j).Perm l
  | a :: l, 0, _ => List.Perm.refl _
  | a :: l, j + 1, h => by
    have hj : j < l.length := by simpa using h
    exact (List.Perm.swap a _ _).trans (List.Perm.cons a (eraseN_perm l j hj))
theorem eraseN_map {α β : Type} (f : α → β) : ∀ (l : List α) (j : Nat), (l.eraseIdx j).map f = (l.map f).eraseIdx j
  | [], _ => rfl
  | _ :: _, 0 => rfl
  | a :: l, j + 1 => by
    show f a :: (l.eraseIdx j).map f = f a :: (l.map f).eraseIdx j
    rw [eraseN_map f l j]
def spWords : Sp := fun vs H Q _ => ∃ (p l : Addr) (cs : List Int) (k m : Nat), vs = [.ref p, .int m] ∧ m ≤ 20 ∧ Pen H p l cs (k + 10 * m) ∧
  ∀ (ws : List Str) (r : Addr) (H' : Hp), ws.length = m → (∀ w ∈ ws, Wordy w) → ws.Nodup → H r = none → H' r = some (.lst (ws.map V.str)) → Pen H' p l cs k → Kept p H H' → Q (.ref r) H'
structure TxW (K : PySem.W.Frag) (mg : Str → Option Value) (fWords : Addr) : Prop where
  g_l_words : mg "_law_words" = some (.ref fWords)
  k_l_words : PySem.W.keepIn K (.ref fWords) = true
  F_words : ∃ fd, Fun K "_law_words" "_law_words" s_l_words fWords fd
section
variable {P : Program} {w : World} {K : PySem.W.Frag} {mg : Str → Option Value} {base : Heap} {fDraw fPick fWords : Addr}
theorem ok_words (B : TxB mg) (T : TxP K mg fDraw fPick) (W : TxW K mg fWords) : FnR P w K mg base (L2.CX P w) 3 fWords spWords := by
  obtain ⟨fd, F⟩ := W.F_words
  have G_l_draw := pen_draw (P := P) (w := w) (base := base) B T
  have G_l_pick := ok_pick (P := P) (w := w) (base := base) B T
  refine fnP F sc_l_words (fun _ _ _ _ _ _ us hl => match us, hl with | [_, _], _ => rfl) (fun vs H Q E h => ?_) (fun cdv A outer s H vs Q E hr h => ?_)
  · obtain ⟨p, l, cs, k, m, rfl, _⟩ := h
    rfl
  · refine ⟨_, PSs.nox (pss_cons (ps_par (i := 2) (j := 3) (by rfl) sc_l_words.nd rfl rfl (by decide) rfl rfl (pa_cons (pe_callTy (call_list_txt rfl) (by rfl) B.n_list (by decide +kernel) (pa_cons pe_str pa_nil)) (pa_cons (pe_lst pa_nil) pa_nil)) (by rfl))
(pss_cons (ps_for PassesOwn.never rfl (pi_range1 (by rfl) B.n_range (pa_cons (pv 1) pa_nil)) (pg_name (i := 4) sc_l_words.nd rfl (Or.inl rfl))
(pss_cons (ps_set (i := 5) sc_l_words.nd rfl (Or.inl rfl) (pe_bmK (K := K) rfl PySem.F.plainAttrs_list PySem.F.slot_list_pop PySem.F.type_list_pop mt_popAt (pv 2) (pa_cons (pe_callR G_l_draw (hr.mono (by decide)) T.k_l_draw (by rfl) T.g_l_draw passL (pa_cons (pv 0) (pa_cons (pe_callB (call_lenK (K := K) rfl) (by rfl) B.n_len (by decide +kernel) (pa_cons (pv 2) pa_nil)) pa_nil))) pa_nil)))
(pss_cons (ps_set (i := 6) sc_l_words.nd rfl (Or.inl rfl) (pe_callR G_l_pick (hr.mono (by decide)) T.k_l_pick (by rfl) T.g_l_pick passL (pa_cons (pv 0) (pa_cons (pe_lst (pa_cons pe_int (pa_cons pe_int (pa_cons pe_int (pa_cons pe_int (pa_cons pe_int (pa_cons pe_int pa_nil))))))) pa_nil))))
(pss_cons (ps_set (i := 7) sc_l_words.nd rfl (Or.inl rfl) (pe_join pe_str (pe_lc (own := [("_law_again", 9)]) (g := gName 9) (tt := tYes) rfl sc_l_words.nd (pi_range1 (by rfl) B.n_range (pa_cons (pv 6) pa_nil)) (blkOk_by (own := [("_law_again", 9)]) (N := N_l_words) (sc := defScope s_l_words) (by decide +kernel)) (fun _ _ _ _ _ => (pg_name (i := 9) sc_l_words.nd rfl (Or.inl rfl))) (fun _ _ _ _ _ => pts_nil) (fun _ _ _ _ _ => by exact (pe_callR G_l_pick (hr.mono (by decide)) T.k_l_pick (by rfl) T.g_l_pick passL (pa_cons (pv 0) (pa_cons (pe_lst (pa_cons pe_str (pa_cons pe_str (pa_cons pe_str pa_nil)))) pa_nil)))))))
(pss_cons (ps_set (i := 8) sc_l_words.nd rfl (Or.inl rfl) (pe_callR G_l_draw (hr.mono (by decide)) T.k_l_draw (by rfl) T.g_l_draw passL (pa_cons (pv 0) (pa_cons (pe_op op_add (pe_callB call_len_str (by rfl) B.n_len (by decide +kernel) (pa_cons (pv 7) pa_nil)) pe_int) pa_nil))))
(pss_one (ps_expr (pe_bmK (K := K) rfl PySem.F.plainAttrs_list PySem.F.slot_list_append PySem.F.type_list_append mt_append (pv 3) (pa_cons (pe_op op_add_str (pe_op op_add_str (pe_slice sl_str (pv 7) po_none (po_some (pv 8))) (pv 5)) (pe_slice sl_str (pv 7) (po_some (pv 8)) po_none)) pa_nil)))))))))
(pss_one (ps_ret (pv 3))))), ?_⟩
    obtain ⟨p, l, cs, k, m, rfl, hm, pen, hQ⟩ := h
    refine ⟨signs24, rfl, by decide +kernel, fun lf hlf => ?_⟩
    have e1 := Ext.upd (o := HO.lst (signs24.cps.toList.map fun c => V.str ⟨#[c]⟩)) hlf
    refine ⟨by decide, fun q hq => ?_⟩
    refine ⟨_, _, rfl, ?_⟩
    have lq : lf ≠ q := ne_of_none upd_same hq
    have e2 := e1.trans (Ext.upd (o := HO.lst ([] : List V)) hq)
    have o1 : upd (upd H lf (.lst (signs24.cps.toList.map fun c => V.str ⟨#[c]⟩))) q (.lst []) lf = some (.lst (signs24.cps.toList.map fun c => V.str ⟨#[c]⟩)) := by rw [upd_ne lq]; exact upd_same
    have o2 : upd (upd H lf (.lst (signs24.cps.toList.map fun c => V.str ⟨#[c]⟩))) q (.lst []) q = some (.lst []) := upd_same
    have hq0 : H q = none := Same.free (fun b o e => e1 b o e) hq
    generalize upd (upd H lf (.lst (signs24.cps.toList.map fun c => V.str ⟨#[c]⟩))) q (.lst []) = H1 at e2 o1 o2 ⊢
    have pp : ∀ {a : Addr}, H a = none → a ≠ p := fun ha => by
      obtain ⟨_, _, b, _⟩ := pen.at_
      exact (ne_of_none b ha).symm
    have lp := pp hlf
    have qp := pp hq0
    refine ⟨_, rfl, _, rfl, by omega, by omega, ?_⟩
    refine for_range (lo := 0) (n := (m : Int).toNat) (fun i (σ' : L2.St) H' => (∃ a4 a5 a6 a7 a8, σ' = [some (V.ref p), some (V.int m), some (V.ref lf), some (V.ref q), a4, a5, a6, a7, a8, none]) ∧
      ∃ (ds ls : List Nat) (ws : List Str), ws.length = i ∧ ds.length = i ∧ (ds ++ ls).Perm signs24.cps.toList ∧ (∀ (j : Nat) (c : Nat) (u : Str), ds[j]? = some c → ws[j]? = some u → Mk1 c u) ∧ (∀ w ∈ ws, Wordy w) ∧ ws.Nodup ∧ H' q = some (.lst (ws.map V.str)) ∧ H' lf = some (.lst (ls.map fun c => V.str ⟨#[c]⟩)) ∧ Pen H' p l cs (k + 10 * (m - i)) ∧ Kept p H H') ?_ (fun i σ' H' hi hp => ?_) (fun σ' H' hp => ?_)
    · exact ⟨⟨_, _, _, _, _, rfl⟩, [], signs24.cps.toList, [], rfl, rfl, List.Perm.refl _, (fun j c u h => by simp at h), by simp, by simp, o2, o1, pen.ext e2, Kept.of e2⟩
    · obtain ⟨⟨a4, a5, a6, a7, a8, rfl⟩, ds, ls, ws, h1, h1d, hperm, hmk, h2, h3, h4, h4l, h5, h6⟩ := hp
      have him : i < m := by omega
      have bud : k + 10 * (m - i) = (k + 10 * (m - (i + 1)) + 1 + 7) + 1 + 1 := by omega
      rw [bud] at h5
      have hlen := hperm.length_eq
      rw [List.length_append, show signs24.cps.toList.length = 24 from by decide +kernel] at hlen
      have hls : 0 < ls.length := by omega
      refine ⟨_, rfl, .inl ⟨rfl, _, SqL.of h4l⟩, ?_⟩
      refine ⟨_, rfl, _, rfl, _, ls.length, rfl, .inl ⟨_, SqL.of h4l, (List.length_map _).symm⟩, ?_⟩
      refine ⟨p, l, cs, _, _, rfl, h5, by omega, by omega, fun d H2 d0 d1 pen2 kt2 => ?_⟩
      obtain ⟨j, rfl⟩ := Int.eq_ofNat_of_zero_le d0
      have hj : j < ls.length := by omega
      have hlj : ls[j]? = some ls[j] := List.getElem?_eq_getElem hj
      have ec : ls[j] ∈ signs24.cps.toList := hperm.mem_iff.mp (List.mem_append_right _ (List.getElem_mem hj))
      have ep2 : (ds ++ [ls[j]] ++ ls.eraseIdx j).Perm signs24.cps.toList := by
        refine List.Perm.trans ?_ hperm
        rw [List.append_assoc]
        refine List.Perm.append_left ds ?_
        exact eraseN_perm ls j hj
      generalize ec0 : ls[j] = c0 at hlj ec ep2
      refine ⟨lf, _, _, j, .str ⟨#[c0]⟩, rfl, rfl, kt2 _ _ lp h4l, by omega, by omega, seq_nat (by simpa using hj), by rw [List.getElem?_map, hlj]; rfl, ?_⟩
      have e3 : ((ls.map fun c => V.str ⟨#[c]⟩).eraseIdx j) = (ls.eraseIdx j).map fun c => V.str ⟨#[c]⟩ := (eraseN_map _ ls j).symm
      rw [e3]
      have k3 : ∀ b o, b ≠ p → b ≠ lf → H' b = some o → upd H2 lf (.lst ((ls.eraseIdx j).map fun c => V.str ⟨#[c]⟩)) b = some o := fun b o n1 n2 hb => by rw [upd_ne n2]; exact kt2 _ _ n1 hb
      have o3 : upd H2 lf (.lst ((ls.eraseIdx j).map fun c => V.str ⟨#[c]⟩)) lf = some (.lst ((ls.eraseIdx j).map fun c => V.str ⟨#[c]⟩)) := upd_same
      have pen3 : Pen (upd H2 lf (.lst ((ls.eraseIdx j).map fun c => V.str ⟨#[c]⟩))) p l cs (k + 10 * (m - (i + 1)) + 1 + 7 + 1) := by
        obtain ⟨tt, rr, aa, bb⟩ := pen2.at_
        have ll : l ≠ lf := ne_of_none pen.cells hlf
        exact ⟨⟨tt, rr, by rw [upd_ne lp.symm]; exact aa, bb⟩, by rw [upd_ne ll]; exact pen2.cells, pen2.few⟩
      have kt3 : Kept p H (upd H2 lf (.lst ((ls.eraseIdx j).map fun c => V.str ⟨#[c]⟩))) := fun b o nb hb => by
        rw [upd_ne (ne_of_none hb hlf)]
        exact kt2 _ _ nb (h6 b o nb hb)
      have h4b := k3 _ _ qp lq.symm h4
      generalize upd H2 lf (.lst ((ls.eraseIdx j).map fun c => V.str ⟨#[c]⟩)) = H3 at o3 pen3 kt3 h4b ⊢
      clear k3 kt2 h4l h4 h5 h6 pen2
      refine ⟨_, rfl, by show 6 ≤ sizeLine; decide, fun x hx => ?_⟩
      have e4 := Ext.upd (o := HO.lst ([.int 0, .int 0, .int 0, .int 1, .int 2, .int 7] : List V)) hx
      have xp : x ≠ p := by
        obtain ⟨_, _, a, _⟩ := pen3.at_
        exact (ne_of_none a hx).symm
      refine ⟨p, l, cs, _, .ref x, rfl, pen3.ext e4, .inl ⟨x, _, rfl, SqL.of upd_same, xp, by show 0 < 6; decide, by show 6 ≤ 1000; decide, fun j2 v2 H4 hv2 pen4 kt4 => ?_⟩⟩
      obtain ⟨n2, rfl, hn2⟩ : ∃ n : Nat, v2 = .int n ∧ n ≤ 7 := by
        have hm : v2 ∈ ([.int 0, .int 0, .int 0, .int 1, .int 2, .int 7] : List V) := List.mem_of_getElem? hv2
        simp only [List.mem_cons, List.not_mem_nil, or_false] at hm
        rcases hm with rfl | rfl | rfl | rfl | rfl | rfl
        · exact ⟨0, rfl, by decide⟩
        · exact ⟨0, rfl, by decide⟩
        · exact ⟨0, rfl, by decide⟩
        · exact ⟨1, rfl, by decide⟩
        · exact ⟨2, rfl, by decide⟩
        · exact ⟨7, rfl, by decide⟩
      have kt5 := (kt3.trans (Kept.of e4)).trans kt4
      have h4c := kt4 _ _ qp (e4 _ _ h4b)
      have o4 := kt4 _ _ lp (e4 _ _ o3)
      clear hv2
      refine ⟨⟨_, rfl⟩, ?_⟩
      refine ⟨_, rfl, _, rfl, by omega, by omega, fun D hD => ?_⟩
      have pD : p ≠ D := by
        obtain ⟨_, _, a, _⟩ := pen4.at_
        exact ne_of_none a hD
      refine lc_range (lo := 0) (n := ((n2 : Nat) : Int).toNat) (fun i2 H' => ∃ ys : List Str, H' D = some (.lst (ys.map V.str)) ∧ ys.length = i2 ∧ (∀ y ∈ ys, y.length = 1 ∧ YZ y) ∧ Pen H' p l cs (k + 10 * (m - (i + 1)) + 1 + (7 - i2)) ∧ Kept p H4 H') ?_ (fun i2 H' hi2 hp => ?_) (fun H' hp => ?_)
      · exact ⟨[], upd_same, rfl, by simp, pen4.ext (Ext.upd hD), Kept.of (Ext.upd hD)⟩
      · obtain ⟨ys, q1, q2, q3, q4, q5⟩ := hp
        refine ⟨rfl, ?_⟩
        refine yes ?_
        refine iteT ?_
        refine ⟨_, rfl, by show 3 ≤ sizeLine; decide, fun y hy => ?_⟩
        have e5 := Ext.upd (o := HO.lst ([.str "y", .str "z", .str "z"] : List V)) hy
        have yp : y ≠ p := by
          obtain ⟨_, _, a, _⟩ := q4.at_
          exact (ne_of_none a hy).symm
        have bud2 : k + 10 * (m - (i + 1)) + 1 + (7 - i2) = k + 10 * (m - (i + 1)) + 1 + (7 - (i2 + 1)) + 1 := by omega
        rw [bud2] at q4
        refine ⟨p, l, cs, _, .ref y, rfl, q4.ext e5, .inl ⟨y, _, rfl, SqL.of upd_same, yp, by show 0 < 3; decide, by show 3 ≤ 1000; decide, fun j5 v5 H5 hv5 pen5 kt6 => ?_⟩⟩
        obtain ⟨z5, rfl, hz5⟩ : ∃ z : Str, v5 = .str z ∧ z.length = 1 ∧ YZ z := by
          have hm : v5 ∈ ([.str "y", .str "z", .str "z"] : List V) := List.mem_of_getElem? hv5
          have hy : ("y" : Str).length = 1 ∧ YZ "y" := ⟨by decide +kernel, by unfold YZ; decide +kernel⟩
          have hz : ("z" : Str).length = 1 ∧ YZ "z" := ⟨by decide +kernel, by unfold YZ; decide +kernel⟩
          simp only [List.mem_cons, List.not_mem_nil, or_false] at hm
          rcases hm with rfl | rfl | rfl
          · exact ⟨_, rfl, hy⟩
          · exact ⟨_, rfl, hz⟩
          · exact ⟨_, rfl, hz⟩
        refine ⟨_, kt6 _ _ pD.symm (e5 _ _ q1), by rw [List.length_map]; exact Nat.lt_of_le_of_lt (by omega : ys.length ≤ 7) (by decide), ys ++ [z5], ?_, by simp [q2], ?_, ?_, ?_⟩
        · rw [List.map_append]
          exact upd_same
        · intro y0 hy0
          rcases List.mem_append.mp hy0 with h | h
          · exact q3 y0 h
          · rw [List.mem_singleton.mp h]
            exact hz5
        · obtain ⟨tt, rr, aa, bb⟩ := pen5.at_
          have lD : l ≠ D := ne_of_none pen4.cells hD
          exact ⟨⟨tt, rr, by rw [upd_ne pD]; exact aa, bb⟩, by rw [upd_ne lD]; exact pen5.cells, pen5.few⟩
        · intro b o nb hb
          rw [upd_ne (ne_of_none hb hD)]
          exact kt6 _ _ nb (e5 _ _ (q5 b o nb hb))
      · obtain ⟨ys, q1, q2, q3, q4, q5⟩ := hp
        have hsum := sizes_one fun y hy => (q3 y hy).1
        have hyn : ys.length = n2 := by omega
        refine ⟨"", D, ys, rfl, rfl, .inl (SqL.of q1), ?_, ?_⟩
        · show (ys.map (·.length)).sum + ys.length * ("" : Str).length ≤ 16777216
          rw [hsum, show ("" : Str).length = 0 from rfl]
          omega
        rw [TL.join_eq]
        have hr1 : YZ (Str.join "" ys) := fun d hd => by
          obtain ⟨y, hy, hc⟩ := join_mem ys d hd
          exact (q3 y hy).2 d hc
        have hr2 : (Str.join "" ys).length ≤ 7 := by
          have := StrLaws.join_length_le "" ys
          rw [hsum, show ("" : Str).length = 0 from rfl] at this
          omega
        generalize Str.join "" ys = rest at hr1 hr2 ⊢
        have kt6 := kt5.trans q5
        have h4d := q5 _ _ qp h4c
        have o5 := q5 _ _ lp o4
        refine ⟨_, rfl, _, rfl, rest, rfl, Nat.le_trans hr2 (by decide), _, _, rfl, rfl, ?_⟩
        refine ⟨p, l, cs, _, _, rfl, by
          have e : k + 10 * (m - (i + 1)) + 1 + (7 - ((n2 : Nat) : Int).toNat) = (k + 10 * (m - (i + 1)) + (7 - ((n2 : Nat) : Int).toNat)) + 1 := by omega
          rw [e] at q4
          exact q4, by omega, by omega, fun d6 H6 d60 d61 pen6 kt7 => ?_⟩
        obtain ⟨n6, rfl⟩ := Int.eq_ofNat_of_zero_le d60
        have kt8 := kt6.trans kt7
        have h4e := kt7 _ _ qp h4d
        have o6 := kt7 _ _ lp o5
        have hcut := cut_parts rest n6
        refine ⟨_, rfl, .inl ⟨rfl, _, SqL.of h4e⟩, ?_⟩
        refine ⟨_, rfl, ?_⟩
        have hu1 : (cutS rest none (some (n6 : Int))).length + (cutS rest (some (n6 : Int)) none).length = rest.length := by
          have := congrArg List.length hcut
          simpa [Str.length] using this
        refine ⟨_, rfl, _, rfl, rest, rfl, Nat.le_trans hr2 (by decide), ?_⟩
        refine ⟨_, rfl, _, _, rfl, rfl, ?_, ?_⟩
        · show (cutS rest none (some (n6 : Int))).length + 1 ≤ sizeLine
          exact Nat.le_trans (show (cutS rest none (some (n6 : Int))).length + 1 ≤ 8 by omega) (by decide)
        refine ⟨_, rfl, _, rfl, _, rfl, rest, rfl, Nat.le_trans hr2 (by decide), ?_⟩
        have hlu : (cutS rest none (some (n6 : Int)) ++ (⟨#[c0]⟩ : Str)).length = (cutS rest none (some (n6 : Int))).length + 1 := len_add _ _
        refine ⟨_, _, rfl, rfl, ?_, ?_⟩
        · rw [hlu]
          exact Nat.le_trans (show (cutS rest none (some (n6 : Int))).length + 1 + (cutS rest (some (n6 : Int)) none).length ≤ 8 by omega) (by decide)
        have hnl : (cutS rest none (some (n6 : Int)) ++ (⟨#[c0]⟩ : Str) ++ cutS rest (some (n6 : Int)) none).length = rest.length + 1 := by rw [len_add, hlu]; omega
        have hnm : ∀ d, d ∈ (cutS rest none (some (n6 : Int)) ++ (⟨#[c0]⟩ : Str) ++ cutS rest (some (n6 : Int)) none).cps.toList ↔ d = c0 ∨ d ∈ rest.cps.toList := fun d => by
          have e : (cutS rest none (some (n6 : Int)) ++ (⟨#[c0]⟩ : Str) ++ cutS rest (some (n6 : Int)) none).cps.toList = (cutS rest none (some (n6 : Int))).cps.toList ++ [c0] ++ (cutS rest (some (n6 : Int)) none).cps.toList := by
            show ((( cutS rest none (some (n6 : Int))).cps ++ #[c0]) ++ (cutS rest (some (n6 : Int)) none).cps).toList = _
            rw [Array.toList_append, Array.toList_append]
          rw [e, ← hcut]
          simp only [List.mem_append, List.mem_singleton]
          constructor
          · rintro ((h | h) | h)
            · exact .inr (.inl h)
            · exact .inl h
            · exact .inr (.inr h)
          · rintro (h | h | h)
            · exact .inl (.inr h)
            · exact .inl (.inl h)
            · exact .inr h
        generalize cutS rest none (some (n6 : Int)) ++ (⟨#[c0]⟩ : Str) ++ cutS rest (some (n6 : Int)) none = nw at hnl hnm ⊢
        have hsg := sign_all c0 ec
        have mk : Mk1 c0 nw := ⟨(hnm c0).2 (.inl rfl), fun d hd => ((hnm d).1 hd).imp id fun h => hr1 d h⟩
        have wd : Wordy nw := ⟨fun d hd => by rcases mk.all d hd with h | h | h <;> omega, by omega, by omega⟩
        have new : nw ∉ ws := fun hn => by
          obtain ⟨j9, hj9⟩ := List.mem_iff_getElem?.mp hn
          have hj9l : j9 < ws.length := (List.getElem?_eq_some_iff.mp hj9).1
          have hd9 : ds[j9]? = some ds[j9] := List.getElem?_eq_getElem (by omega)
          have mk9 := hmk j9 _ _ hd9 hj9
          have e9 : c0 = ds[j9] := mk9.uniq mk (by omega)
          have nd := (ep2.nodup_iff).mpr sign_nd
          rw [List.append_assoc, List.nodup_append] at nd
          exact nd.2.2 ds[j9] (List.getElem_mem _) c0 (by simp) e9.symm
        refine ⟨q, ws.map V.str, .str nw, rfl, rfl, h4e, by rw [List.length_map, h1]; exact Nat.lt_of_le_of_lt (by omega : i ≤ 25) (by decide), ?_⟩
        refine ⟨⟨_, _, _, _, _, rfl⟩, ds ++ [c0], ls.eraseIdx j, ws ++ [nw], by simp [h1], by simp [h1d], ep2, ?_, ?_, ?_, ?_, ?_, ?_, ?_⟩
        · intro j9 c9 u9 hc9 hu9
          by_cases hlt : j9 < i
          · rw [List.getElem?_append_left (by omega)] at hc9 hu9
            exact hmk j9 c9 u9 hc9 hu9
          · have hle := (List.getElem?_eq_some_iff.mp hu9).1
            rw [List.length_append, List.length_singleton] at hle
            have e : j9 = i := by omega
            subst e
            rw [List.getElem?_append_right (by omega), h1d, Nat.sub_self] at hc9
            rw [List.getElem?_append_right (by omega), h1, Nat.sub_self] at hu9
            cases hc9
            cases hu9
            exact mk
        · intro x hx
          rcases List.mem_append.mp hx with hx | hx
          · exact h2 x hx
          · rw [List.mem_singleton.mp hx]
            exact wd
        · exact List.nodup_append.mpr ⟨h3, by simp, fun a ha b hb e => by
            rw [List.mem_singleton.mp hb] at e
            exact new (e ▸ ha)⟩
        · rw [List.map_append]
          exact upd_same
        · rw [upd_ne lq]
          exact o6
        · have pen7 := pen6.less (j := k + 10 * (m - (i + 1))) (by omega)
          obtain ⟨tt, rr, aa, bb⟩ := pen7.at_
          have ql : l ≠ q := ne_of_none pen.cells hq0
          exact ⟨⟨tt, rr, by rw [upd_ne qp.symm]; exact aa, bb⟩, by rw [upd_ne ql]; exact pen7.cells, pen7.few⟩
        · intro b2 o nb hb2
          rw [upd_ne (ne_of_none hb2 hq0)]
          exact kt8 b2 o nb hb2
    · obtain ⟨⟨a4, a5, a6, a7, a8, rfl⟩, ds, ls, ws, h1, h1d, hperm, hmk, h2, h3, h4, h4l, h5, h6⟩ := hp
      refine ⟨_, rfl, ?_⟩
      exact hQ ws q H' (by omega) h2 h3 hq0 h4 (h5.less (by omega)) h6
end
end Kq
set_option maxHeartbeats 4000000
namespace Kq
open PySem PySem.Spec PyProof.Rows L2 Kp
/-- the addresses of the defs and classes -/
structure Ad where
  fDraw : Addr
  fPick : Addr
  fWords : Addr
  fPen : Addr
  fClosed : Addr
  fMade : Addr
  fIsChain : Addr
  fSteps : Addr
  fBent : Addr
  fChainR : Addr
  fRunR : Addr
  fIsWord : Addr
  fOver : Addr
  fMadeOf : Addr
  fClosedBy : Addr
  fRowsTo : Addr
  fNeedOrd : Addr
  fMadeBy : Addr
  fIsRight : Addr
  fShows : Addr
  CG : Addr
  gI : Addr
  g_len : Addr
  g_contains : Addr
  g_eq : Addr
  g_and : Addr
  g_or : Addr
  g_sub : Addr
  g_overlaps : Addr
  g_of : Addr
  gp_of : Addr
  CO : Addr
  oI : Addr
  o_len : Addr
  o_contains : Addr
  o_stands : Addr
  o_of : Addr
  op_of : Addr
  CA : Addr
  aI : Addr
  a_pair_of : Addr
  a_group_of : Addr
  a_is_sure : Addr
  a_told_pairs : Addr
  a_clash_in : Addr
  a_steps_in : Addr
  a_answer : Addr
  a_chain_of : Addr
  a_bar_of : Addr
  CS : Addr
  sI : Addr
  s_eq : Addr
/-- a class's facts -/
structure CT (K : PySem.W.Frag) (mg : Str → Option Value) (nm : Str) (C i : Addr) : Prop where
  g : mg nm = some (.ref C)
  cl : Cls K C
  mak : Mk K C i
  sf : PySem.W.selfFirst K C = true
  ca : PySem.W.findIn K (.ref C) "__class__" = some (some (.builtin "object.__class__"))
  cn : PySem.W.specialIn K (.builtin "object.__class__") "__get__" = some (some (.builtin "getset_descriptor.__get__"))
  ct : PySem.W.takesIn K (.builtin "object.__class__") = some true
  cm : PySem.W.mroIn K C (.type "object") = some true
  isi : PySem.W.kitOne K (.ref C) (.ref C) = some true
structure Tx (K : PySem.W.Frag) (mg : Str → Option Value) (tL tM tA : Tok) (ad : Ad) : Prop where
  B : TxB mg
  P : TxP K mg ad.fDraw ad.fPick
  W : TxW K mg ad.fWords
  g_LETTERS : mg "LETTERS" = some (.str letters tL)
  g_MOST_WORDS_checks : mg "MOST_WORDS_checks" = some (.int 24 tM)
  g_MOST_WORDS_asked : mg "MOST_WORDS_asked" = some (.int 7 tA)
  g_l_pen : mg "_law_pen" = some (.ref ad.fPen)
  k_l_pen : PySem.W.keepIn K (.ref ad.fPen) = true
  F_l_pen : ∃ fd, Fun K "_law_pen" "_law_pen" s_l_pen ad.fPen fd
  g_l_closed : mg "_law_closed" = some (.ref ad.fClosed)
  k_l_closed : PySem.W.keepIn K (.ref ad.fClosed) = true
  F_l_closed : ∃ fd, Fun K "_law_closed" "_law_closed" s_l_closed ad.fClosed fd
  g_l_made : mg "_law_made" = some (.ref ad.fMade)
  k_l_made : PySem.W.keepIn K (.ref ad.fMade) = true
  F_l_made : ∃ fd, Fun K "_law_made" "_law_made" s_l_made ad.fMade fd
  g_l_is_chain : mg "_law_is_chain" = some (.ref ad.fIsChain)
  k_l_is_chain : PySem.W.keepIn K (.ref ad.fIsChain) = true
  F_l_is_chain : ∃ fd, Fun K "_law_is_chain" "_law_is_chain" s_l_is_chain ad.fIsChain fd
  g_l_steps : mg "_law_steps" = some (.ref ad.fSteps)
  k_l_steps : PySem.W.keepIn K (.ref ad.fSteps) = true
  F_l_steps : ∃ fd, Fun K "_law_steps" "_law_steps" s_l_steps ad.fSteps fd
  g_l_bent : mg "_law_bent" = some (.ref ad.fBent)
  k_l_bent : PySem.W.keepIn K (.ref ad.fBent) = true
  F_l_bent : ∃ fd, Fun K "_law_bent" "_law_bent" s_l_bent ad.fBent fd
  g_l_chain_right : mg "_law_chain_right" = some (.ref ad.fChainR)
  k_l_chain_right : PySem.W.keepIn K (.ref ad.fChainR) = true
  F_l_chain_right : ∃ fd, Fun K "_law_chain_right" "_law_chain_right" s_l_chain_right ad.fChainR fd
  g_l_run_right : mg "_law_run_right" = some (.ref ad.fRunR)
  k_l_run_right : PySem.W.keepIn K (.ref ad.fRunR) = true
  F_l_run_right : ∃ fd, Fun K "_law_run_right" "_law_run_right" s_l_run_right ad.fRunR fd
  g_is_word : mg "is_word" = some (.ref ad.fIsWord)
  k_is_word : PySem.W.keepIn K (.ref ad.fIsWord) = true
  F_is_word : ∃ fd, Fun K "is_word" "is_word" s_is_word ad.fIsWord fd
  g_overlapping : mg "overlapping" = some (.ref ad.fOver)
  k_overlapping : PySem.W.keepIn K (.ref ad.fOver) = true
  F_overlapping : ∃ fd, Fun K "overlapping" "overlapping" s_overlapping ad.fOver fd
  g_made_of : mg "made_of" = some (.ref ad.fMadeOf)
  k_made_of : PySem.W.keepIn K (.ref ad.fMadeOf) = true
  F_made_of : ∃ fd, Fun K "made_of" "made_of" s_made_of ad.fMadeOf fd
  g_closed_by : mg "closed_by" = some (.ref ad.fClosedBy)
  k_closed_by : PySem.W.keepIn K (.ref ad.fClosedBy) = true
  F_closed_by : ∃ fd, Fun K "closed_by" "closed_by" s_closed_by ad.fClosedBy fd
  g_rows_to : mg "rows_to" = some (.ref ad.fRowsTo)
  k_rows_to : PySem.W.keepIn K (.ref ad.fRowsTo) = true
  F_rows_to : ∃ fd, Fun K "rows_to" "rows_to" s_rows_to ad.fRowsTo fd
  g_need_order : mg "need_order" = some (.ref ad.fNeedOrd)
  k_need_order : PySem.W.keepIn K (.ref ad.fNeedOrd) = true
  F_need_order : ∃ fd, Fun K "need_order" "need_order" s_need_order ad.fNeedOrd fd
  g_made_by : mg "made_by" = some (.ref ad.fMadeBy)
  k_made_by : PySem.W.keepIn K (.ref ad.fMadeBy) = true
  F_made_by : ∃ fd, Fun K "made_by" "made_by" s_made_by ad.fMadeBy fd
  g_is_right : mg "is_right" = some (.ref ad.fIsRight)
  k_is_right : PySem.W.keepIn K (.ref ad.fIsRight) = true
  F_is_right : ∃ fd, Fun K "is_right" "is_right" s_is_right ad.fIsRight fd
  g_shows_chain : mg "shows_chain" = some (.ref ad.fShows)
  k_shows_chain : PySem.W.keepIn K (.ref ad.fShows) = true
  F_shows_chain : ∃ fd, Fun K "shows_chain" "shows_chain" s_shows_chain ad.fShows fd
  G : CT K mg "Group" ad.CG ad.gI
  G_row : NoAttr K ad.CG "row"
  G_dlen : OwnM K ad.CG "__len__" ad.g_len
  G_dcontains : OwnM K ad.CG "__contains__" ad.g_contains
  G_deq : OwnM K ad.CG "__eq__" ad.g_eq
  G_dand : OwnM K ad.CG "__and__" ad.g_and
  G_dor : OwnM K ad.CG "__or__" ad.g_or
  G_dsub : OwnM K ad.CG "__sub__" ad.g_sub
  m_overlaps : Meth K ad.CG "overlaps" ad.g_overlaps
  F_Group_init : ∃ fd, Fun K "__init__" "Group.__init__" s_Group_init ad.gI fd
  F_Group_len : ∃ fd, Fun K "__len__" "Group.__len__" s_Group_len ad.g_len fd
  F_Group_contains : ∃ fd, Fun K "__contains__" "Group.__contains__" s_Group_contains ad.g_contains fd
  F_Group_eq : ∃ fd, Fun K "__eq__" "Group.__eq__" s_Group_eq ad.g_eq fd
  F_Group_and : ∃ fd, Fun K "__and__" "Group.__and__" s_Group_and ad.g_and fd
  F_Group_or : ∃ fd, Fun K "__or__" "Group.__or__" s_Group_or ad.g_or fd
  F_Group_sub : ∃ fd, Fun K "__sub__" "Group.__sub__" s_Group_sub ad.g_sub fd
  F_Group_overlaps : ∃ fd, Fun K "overlaps" "Group.overlaps" s_Group_overlaps ad.g_overlaps fd
  G_rd : ClX.CRead K ad.CG (.type "type")
  G_of : ClX.CMet K ad.CG (.type "type") "of" ad.gp_of ad.g_of
  F_Group_of : ∃ fd, Fun K "of" "Group.of" s_Group_of ad.g_of fd
  O : CT K mg "Order" ad.CO ad.oI
  O_row : NoAttr K ad.CO "row"
  O_group : NoAttr K ad.CO "group"
  O_place_of : NoAttr K ad.CO "place_of"
  O_dlen : OwnM K ad.CO "__len__" ad.o_len
  O_dcontains : OwnM K ad.CO "__contains__" ad.o_contains
  m_stands : Meth K ad.CO "stands" ad.o_stands
  F_Order_init : ∃ fd, Fun K "__init__" "Order.__init__" s_Order_init ad.oI fd
  F_Order_len : ∃ fd, Fun K "__len__" "Order.__len__" s_Order_len ad.o_len fd
  F_Order_contains : ∃ fd, Fun K "__contains__" "Order.__contains__" s_Order_contains ad.o_contains fd
  F_Order_stands : ∃ fd, Fun K "stands" "Order.stands" s_Order_stands ad.o_stands fd
  O_rd : ClX.CRead K ad.CO (.type "type")
  O_of : ClX.CMet K ad.CO (.type "type") "of" ad.op_of ad.o_of
  F_Order_of : ∃ fd, Fun K "of" "Order.of" s_Order_of ad.o_of fd
  A : CT K mg "Asker" ad.CA ad.aI
  A_first : NoAttr K ad.CA "first"
  A_taken : NoAttr K ad.CA "taken"
  A_kept_from : NoAttr K ad.CA "kept_from"
  m_pair_of : Meth K ad.CA "pair_of" ad.a_pair_of
  m_group_of : Meth K ad.CA "group_of" ad.a_group_of
  m_is_sure : Meth K ad.CA "is_sure" ad.a_is_sure
  m_told_pairs : Meth K ad.CA "told_pairs" ad.a_told_pairs
  m_clash_in : Meth K ad.CA "clash_in" ad.a_clash_in
  m_steps_in : Meth K ad.CA "steps_in" ad.a_steps_in
  m_answer : Meth K ad.CA "answer" ad.a_answer
  m_chain_of : Meth K ad.CA "chain_of" ad.a_chain_of
  m_bar_of : Meth K ad.CA "bar_of" ad.a_bar_of
  F_Asker_init : ∃ fd, Fun K "__init__" "Asker.__init__" s_Asker_init ad.aI fd
  F_Asker_pair_of : ∃ fd, Fun K "pair_of" "Asker.pair_of" s_Asker_pair_of ad.a_pair_of fd
  F_Asker_group_of : ∃ fd, Fun K "group_of" "Asker.group_of" s_Asker_group_of ad.a_group_of fd
  F_Asker_is_sure : ∃ fd, Fun K "is_sure" "Asker.is_sure" s_Asker_is_sure ad.a_is_sure fd
  F_Asker_told_pairs : ∃ fd, Fun K "told_pairs" "Asker.told_pairs" s_Asker_told_pairs ad.a_told_pairs fd
  F_Asker_clash_in : ∃ fd, Fun K "clash_in" "Asker.clash_in" s_Asker_clash_in ad.a_clash_in fd
  F_Asker_steps_in : ∃ fd, Fun K "steps_in" "Asker.steps_in" s_Asker_steps_in ad.a_steps_in fd
  F_Asker_answer : ∃ fd, Fun K "answer" "Asker.answer" s_Asker_answer ad.a_answer fd
  F_Asker_chain_of : ∃ fd, Fun K "chain_of" "Asker.chain_of" s_Asker_chain_of ad.a_chain_of fd
  F_Asker_bar_of : ∃ fd, Fun K "bar_of" "Asker.bar_of" s_Asker_bar_of ad.a_bar_of fd
  S : CT K mg "Step" ad.CS ad.sI
  S_first : NoAttr K ad.CS "first"
  S_second : NoAttr K ad.CS "second"
  S_way : NoAttr K ad.CS "way"
  S_made : NoAttr K ad.CS "made"
  S_deq : OwnM K ad.CS "__eq__" ad.s_eq
  F_Step_init : ∃ fd, Fun K "__init__" "Step.__init__" s_Step_init ad.sI fd
  F_Step_eq : ∃ fd, Fun K "__eq__" "Step.__eq__" s_Step_eq ad.s_eq fd
  isOO : PySem.W.kitOne K (.ref ad.CO) (.ref ad.CO) = some true
  isNS : PySem.W.kitOne K (.type "NoneType") (.ref ad.CS) = some false
  isNG : PySem.W.kitOne K (.type "NoneType") (.ref ad.CG) = some false
  isTG : PySem.W.kitOne K (.type "tuple") (.ref ad.CG) = some false
end Kq
set_option maxHeartbeats 2000000
/-! xs == [], xs != [] whatever the items are. -/
namespace Kp
open PySem PySem.Spec PyProof.Rows L2
section
variable {prog : Program} {w : World} {A : Around} {E : Value → Shared → Prop} {s : Shared}
theorem list_eq_un (l b : Addr) (items items2 : Array Value) (n n2 : Nat) (dd dd2 : Option Addr) (sl sl2 : Array (Option Value)) (hsz : items.size ≠ items2.size) :
    MeetsIn prog w (Builtin.«list.__eq__» ⟨[.ref l, .ref b], []⟩)
      (fun A R s => s.heap.get? l = some { cls := .type "list", dict := dd, data := .seq items n, slots := sl } ∧ s.heap.get? b = some { cls := .type "list", dict := dd2, data := .seq items2 n2, slots := sl2 } ∧ R (.ok (.ret (.bool false))) s) := by
  intro A R s h
  obtain ⟨hp, g, d, tk, os⟩ := s; obtain ⟨hl, hb, h⟩ := h
  have f3 := AutoSeq1.sub_list_list
  have hne : (items.size != items2.size) = true := by simp [hsz]
  wp_walk using wpAny_loadPart' hl, wpAny_loadPart' hb
  exact h
theorem list_ne_un (l b : Addr) (items items2 : Array Value) (n n2 : Nat) (dd dd2 : Option Addr) (sl sl2 : Array (Option Value)) (hsz : items.size ≠ items2.size) :
    MeetsIn prog w (Builtin.«list.__ne__» ⟨[.ref l, .ref b], []⟩)
      (fun A R s => s.heap.get? l = some { cls := .type "list", dict := dd, data := .seq items n, slots := sl } ∧ s.heap.get? b = some { cls := .type "list", dict := dd2, data := .seq items2 n2, slots := sl2 } ∧ R (.ok (.ret (.bool true))) s) := by
  intro A R s h
  obtain ⟨hp, g, d, tk, os⟩ := s; obtain ⟨hl, hb, h⟩ := h
  have f3 := AutoSeq1.sub_list_list
  have hne : (items.size != items2.size) = true := by simp [hsz]
  wp_walk using wpAny_loadPart' hl, wpAny_loadPart' hb
  exact h
theorem rc_eq_un {l b : Addr} {items items2 : Array Value} {Q : Value → Shared → Prop} (hl : s.heap.IsList l items) (hb : s.heap.IsList b items2) (hsz : items.size ≠ items2.size) (hu : A.units < cLine) (h : Q (.bool false) s) : wpAny (model prog w) A (richCompare .Eq (.ref l) (.ref b)) Q E s := by
  obtain ⟨⟨cls, dd, data, sl⟩, ho, hc, n, hd⟩ := id hl
  obtain ⟨⟨cls2, dd2, data2, sl2⟩, ho2, hc2, n2, hd2⟩ := id hb
  simp only at hc hd hc2 hd2
  subst hc hd hc2 hd2
  exact wpAny_richCompare_same_room (op := .Eq) ⟨_, ho, rfl⟩ ⟨_, ho2, rfl⟩ F.slot_list_eq (call_meetsIn F.slot_list_eq ⟨_, ho, rfl⟩ F.entry_list_eq (F.args_list_eq_2 _ _) (list_eq_un l b items items2 n n2 dd dd2 sl sl2 hsz)
    ⟨ho, ho2, show Value.bool false ≠ Value.notImplemented ∧ Q (.bool false) s from ⟨(fun x => nomatch x), h⟩⟩) hu
theorem rc_ne_un {l b : Addr} {items items2 : Array Value} {Q : Value → Shared → Prop} (hl : s.heap.IsList l items) (hb : s.heap.IsList b items2) (hsz : items.size ≠ items2.size) (hu : A.units < cLine) (h : Q (.bool true) s) : wpAny (model prog w) A (richCompare .NotEq (.ref l) (.ref b)) Q E s := by
  obtain ⟨⟨cls, dd, data, sl⟩, ho, hc, n, hd⟩ := id hl
  obtain ⟨⟨cls2, dd2, data2, sl2⟩, ho2, hc2, n2, hd2⟩ := id hb
  simp only at hc hd hc2 hd2
  subst hc hd hc2 hd2
  exact wpAny_richCompare_same_room (op := .NotEq) ⟨_, ho, rfl⟩ ⟨_, ho2, rfl⟩ F.slot_list_ne (call_meetsIn F.slot_list_ne ⟨_, ho, rfl⟩ F.entry_list_ne (F.args_list_ne_2 _ _) (list_ne_un l b items items2 n n2 dd dd2 sl sl2 hsz)
    ⟨ho, ho2, show Value.bool true ≠ Value.notImplemented ∧ Q (.bool true) s from ⟨(fun x => nomatch x), h⟩⟩) hu
end
section
variable {X : Cx}
def rEqE (K : PySem.W.Frag) : R2 := fun x y H Q => ∃ p q xs, x = .ref p ∧ y = .ref q ∧ SqL K H p xs ∧ SqL K H q [] ∧ Q (.bl xs.isEmpty) H
def rNeE (K : PySem.W.Frag) : R2 := fun x y H Q => ∃ p q xs, x = .ref p ∧ y = .ref q ∧ SqL K H p xs ∧ SqL K H q [] ∧ Q (.bl (!xs.isEmpty)) H
theorem op_eqE (hu : X.A.units + 64 < cLine) : OpR X (compareOp .Eq) (rEqE X.K) := by
  intro pins s σ H x y v u Q I rx ry h
  obtain ⟨p, q, xs, rfl, rfl, hp, hq, z⟩ := h
  cases xs with
  | nil => exact op_eqD hu pins s σ H _ _ v u Q I rx ry ⟨_, _, Dp.lst hp .nil, Dp.lst hq .nil, rfl, rfl, by simpa [PyData.eqv, PyData.eqvAll] using z⟩
  | cons x xs =>
    cases rx
    cases ry
    obtain ⟨its, rv, pl, hz⟩ := I.list hp
    obtain ⟨its2, rv2, pl2, hz2⟩ := I.list hq
    obtain ⟨o, n, ho, hc, hd, hdat⟩ := pl
    obtain ⟨o2, n2, ho2, hc2, hd2, hdat2⟩ := pl2
    have l1 := rv.length
    have l2 := rv2.length
    exact rc_eq_un ⟨o, ho, hc, n, hdat⟩ ⟨o2, ho2, hc2, n2, hdat2⟩ (by simp; simp at l1 l2; omega) (by omega) ⟨.bl false, H, I, rfl, z⟩
theorem op_neE (hu : X.A.units + 64 < cLine) : OpR X (compareOp .NotEq) (rNeE X.K) := by
  intro pins s σ H x y v u Q I rx ry h
  obtain ⟨p, q, xs, rfl, rfl, hp, hq, z⟩ := h
  cases xs with
  | nil => exact op_neD hu pins s σ H _ _ v u Q I rx ry ⟨_, _, Dp.lst hp .nil, Dp.lst hq .nil, rfl, rfl, by simpa [PyData.eqv, PyData.eqvAll] using z⟩
  | cons x xs =>
    cases rx
    cases ry
    obtain ⟨its, rv, pl, hz⟩ := I.list hp
    obtain ⟨its2, rv2, pl2, hz2⟩ := I.list hq
    obtain ⟨o, n, ho, hc, hd, hdat⟩ := pl
    obtain ⟨o2, n2, ho2, hc2, hd2, hdat2⟩ := pl2
    have l1 := rv.length
    have l2 := rv2.length
    exact rc_ne_un ⟨o, ho, hc, n, hdat⟩ ⟨o2, ho2, hc2, n2, hdat2⟩ (by simp; simp at l1 l2; omega) (by omega) ⟨.bl true, H, I, rfl, z⟩
theorem op_eqEK {K : PySem.W.Frag} (hK : X.K = K) (hu : X.A.units + 64 < cLine) : OpR X (compareOp .Eq) (rEqE K) := hK ▸ op_eqE hu
theorem op_neEK {K : PySem.W.Frag} (hK : X.K = K) (hu : X.A.units + 64 < cLine) : OpR X (compareOp .NotEq) (rNeE K) := hK ▸ op_neE hu
end
end Kp
/-! Sets of texts: set(a tuple of texts), its length, sorted of it. Made after the pattern of the kit's sets of ints. -/
namespace Kp
open PySem PySem.Spec PyProof.Rows L2

abbrev SK (P : Program) (w : World) : PySem.KeyKind P w Str := PySem.strKind P w
/-- the text of a row of a set's table -/
def txt (e : Int × Value) : Str := match e.2 with
  | .str x _ => x
  | _ => Str.empty
def Row (w : World) (e : Int × Value) : Prop := ∃ x tk, e.2 = Value.str x tk ∧ e.1 = hashStr w x
/-- the set of texts at a: M tells its members, n their number -/
def TxtSt (w : World) (h : Heap) (a : Addr) (M : Str → Bool) (n : Nat) : Prop :=
  ∃ o es ep t, h.get? a = some o ∧ o.ExactSet ∧ o.data = .set es ep t ∧ (∀ e ∈ es.toList, Row w e) ∧ (es.toList.map txt).Nodup ∧
    (∀ x, M x = true ↔ x ∈ es.toList.map txt) ∧ es.size < scanBound ∧ t.fits es.size = true ∧ es.size = n ∧ Ris t.place.toList ∧
    (w.params.followText "set-order" = true ∨ t.led = true)

section
variable {P : Program} {w : World} {h h' : Heap} {a : Addr} {M : Str → Bool} {n : Nat}
theorem TxtSt.at (R : TxtSt w h a M n) (k : ∀ o, h.get? a = some o → h'.get? a = some o) : TxtSt w h' a M n :=
  let ⟨o, es, ep, t, ho, r⟩ := R
  ⟨o, es, ep, t, k o ho, r⟩
theorem TxtSt.congr {M' : Str → Bool} (R : TxtSt w h a M n) (e : ∀ k, M' k = M k) : TxtSt w h a M' n := by
  have q : M' = M := funext e
  exact q ▸ R
theorem rows_elems {l : List (Int × Value)} (g : ∀ e ∈ l, Row w e) : ElemsOf (SK P w) l := fun e he => by
  obtain ⟨x, tk, h1, h2⟩ := g e he
  refine ⟨⟨x, ?_, h2⟩, ?_⟩
  · rw [h1]; exact strKind_is P w x tk
  · rw [h1]; rfl
theorem row_is {e : Int × Value} (g : Row w e) (x : Str) : (SK P w).is x e.2 = true ↔ txt e = x := by
  obtain ⟨y, tk, h1, _⟩ := g
  unfold txt
  rw [h1]
  constructor
  · intro q
    obtain ⟨t, z⟩ := Value.isStrOf_shape (show Value.isStrOf x (.str y tk) = true from q)
    injection z
  · intro q
    subst q
    exact strKind_is P w _ tk
theorem row_mem {l : List (Int × Value)} (g : ∀ e ∈ l, Row w e) (x : Str) : x ∈ l.map txt ↔ ∃ e ∈ l, (SK P w).is x e.2 = true := by
  rw [List.mem_map]
  exact ⟨fun ⟨e, he, q⟩ => ⟨e, he, (row_is (g e he) x).2 q⟩, fun ⟨e, he, q⟩ => ⟨e, he, (row_is (g e he) x).1 q⟩⟩
end

section
variable {P : Program} {w : World} {A : Around} {E : Value → Shared → Prop} {s : Shared} {a : Addr} {M : Str → Bool} {n : Nat}

theorem ts_add_tail {g : Bool → Sem Unit} (hg : ∀ (b : Bool) (s₁ : Shared) (Q' : Unit → Shared → Prop), Q' () s₁ → wpAny (model P w) A (g b) Q' E s₁)
    {o : Obj} {es : Array (Int × Value)} {ep : Nat} {t : SetTable} (ho : s.heap.get? a = some o) (hex : o.ExactSet) (hd : o.data = .set es ep t)
    {es1 : Array (Int × Value)} {t2 : SetTable} {M' : Str → Bool} (g1 : ∀ e ∈ es1.toList, Row w e) (nd1 : (es1.toList.map txt).Nodup) (m1 : ∀ k, M' k = true ↔ k ∈ es1.toList.map txt)
    (hb1 : es1.size < scanBound) (hf2 : t2.fits es1.size = true) (hr : Ris t2.place.toList) (hl : w.params.followText "set-order" = true ∨ t2.led = true) {was : Bool} {R : Option Bool → Shared → Prop}
    (hR : ∀ h', Heap.SameBut a s.heap h' → TxtSt w h' a M' es1.size → R (some true) { s with heap := h' }) :
    wpAny (model P w) A (do
        storeSet a es1 t2
        if (!was && t2.tooFull) = true then do
            g (relayAll t2 es1 (SetTable.grown es1.size)).2.2
            storeSet a (relayAll t2 es1 (SetTable.grown es1.size)).1 (relayAll t2 es1 (SetTable.grown es1.size)).2.1
            pure (some true)
          else pure (some true)) R E s := by
  refine wpAny_bind (wpAny_storeSet_of ho hd ?_ (fits_of_scanBound hb1))
  have ho1 := store_at (es' := es1) (t' := t2) ho hd
  have sb1 := Heap.SameBut.update s.heap a (Obj.putSet es1 t2)
  split
  · have pm := relayAll_perm t2 es1 (SetTable.grown es1.size)
    have hf3 := relayAll_fits t2 es1 (SetTable.grown es1.size)
    have hr3 := relayAll_ris t2 es1 (SetTable.grown es1.size)
    have hl3 := relayAll_led t2 es1 (SetTable.grown es1.size)
    generalize relayAll t2 es1 (SetTable.grown es1.size) = Z at pm hf3 hr3 hl3 ⊢
    obtain ⟨es2, t3, gave⟩ := Z
    dsimp only at pm hf3 hr3 hl3 ⊢
    have hsz : es2.size = es1.size := by rw [← Array.length_toList, pm.length_eq, Array.length_toList]
    have hb2 : es2.size < scanBound := by rw [hsz]; exact hb1
    refine wpAny_bind (hg _ _ _ ?_)
    refine wpAny_bind (wpAny_storeSet_of ho1 rfl ?_ (fits_of_scanBound hb2))
    have ho2 := store_at (es' := es2) (t' := t3) ho1 rfl
    refine wpAny_pure (hR _ (sb1.trans (Heap.SameBut.update _ a _)) ?_)
    exact ⟨_, es2, _, t3, ho2, hex, rfl, fun e he => g1 e (pm.mem_iff.mp he), (pm.map txt).nodup_iff.mpr nd1, fun k => (m1 k).trans (pm.map txt).mem_iff.symm, hb2, hf3, hsz, hr3,
      hl.imp id fun z => by rw [hl3]; exact z⟩
  · exact wpAny_pure (hR _ sb1 ⟨_, es1, _, t2, ho1, hex, rfl, g1, nd1, m1, hb1, hf2, rfl, hr, hl⟩)

theorem ts_add {x : Str} {tk : Tok} {Q : Bool → Shared → Prop} (R : TxtSt w s.heap a M n) (room : n + 1 < scanBound)
    (hQ : ∀ h', Heap.SameBut a s.heap h' → TxtSt w h' a (fun j => M j || decide (j = x)) (if M x = true then n else n + 1) → Q (!M x) { s with heap := h' }) :
    wpAny (model P w) A (setAddHashed a (.str x tk) ((SK P w).hash x)) Q E s := by
  obtain ⟨o, es, ep, t, ho, hex, hd, g, nd, hm, hb, hf, hn, hr, hl⟩ := R
  have hkey : (SK P w).is x (.str x tk) = true := strKind_is P w x tk
  have hsc : (Value.str x tk).scannable = true := rfl
  have hel : ElemsOf (SK P w) es.toList := rows_elems g
  unfold setAddHashed setAddHashedIn
  refine wpAny_holding (wpAny_bind (wpAny_setState_of ho hd hf ?_))
  dsimp only
  rw [byScan_of hsc hb hel]
  simp only [↓reduceIte]
  unfold setAddByScan
  refine wpAny_bind ?_
  refine wpAny_bind (wpAny_rule ?_)
  refine wpAny_bind (wpAny_setScan_of hkey ho hd hf hel ?_)
  cases hfi : List.findIdx? (fun e => (SK P w).is x e.2) es.toList with
  | some j =>
    dsimp only
    obtain ⟨hj, pj, _⟩ := List.findIdx?_eq_some_iff_getElem.mp hfi
    have hMx : M x = true := (hm x).2 ((row_mem (P := P) (w := w) g x).2 ⟨es.toList[j], List.getElem_mem hj, pj⟩)
    refine wpAny_pure (wpAny_pure ?_)
    have q := hQ s.heap (Heap.SameBut.refl a s.heap) ⟨o, es, ep, t, ho, hex, hd, g, nd, fun i => by
      rw [Bool.or_eq_true, decide_eq_true_eq, ← hm i]
      exact ⟨fun z => z.elim id (fun e => e ▸ hMx), .inl⟩, hb, hf, by rw [if_pos hMx]; exact hn, hr, hl⟩
    rw [hMx] at q
    exact q
  | none =>
    dsimp only
    have hnx : x ∉ es.toList.map txt := fun z => by
      obtain ⟨e, he, q⟩ := (row_mem (P := P) (w := w) g x).1 z
      have c := List.findIdx?_eq_none_iff.mp hfi e he
      rw [q] at c
      cases c
    have hMx : M x = false := by
      cases q : M x with
      | false => rfl
      | true => exact absurd ((hm x).1 q) hnx
    have hgw : ∀ (b : Bool) {s₁ : Shared} {Q' : Unit → Shared → Prop}, Q' () s₁ → wpAny (model P w) A (match b with | true => rule "set.scan.the-table-gave-way" | false => pure ()) Q' E s₁ :=
      fun b s₁ Q' q => by cases b <;> first | exact wpAny_pure q | exact wpAny_rule q
    have pm := layNew_perm t es ((SK P w).hash x) (.str x tk)
    have hf1 := layNew_fits t es ((SK P w).hash x) (.str x tk)
    have hr1 := layNew_ris t es ((SK P w).hash x) (.str x tk) hr
    have hl1 := layNew_led t es ((SK P w).hash x) (.str x tk)
    generalize layNew t es ((SK P w).hash x) (.str x tk) = Z at pm hf1 hr1 hl1 ⊢
    obtain ⟨es1, t1, was, gave⟩ := Z
    dsimp only at pm hf1 hr1 hl1 ⊢
    rw [Array.toList_push] at pm
    have pc : es1.toList.Perm (((SK P w).hash x, Value.str x tk) :: es.toList) := pm.trans (List.perm_append_singleton _ _)
    have pk : (es1.toList.map txt).Perm (x :: es.toList.map txt) := pc.map txt
    have g1 : ∀ e ∈ es1.toList, Row w e := fun e he => by
      rcases List.mem_cons.mp (pc.mem_iff.mp he) with z | z
      · rw [z]; exact ⟨x, tk, rfl, rfl⟩
      · exact g e z
    have nd1 : (es1.toList.map txt).Nodup := pk.nodup_iff.mpr (List.nodup_cons.mpr ⟨hnx, nd⟩)
    have m1 : ∀ i, (M i || decide (i = x)) = true ↔ i ∈ es1.toList.map txt := fun i => by
      rw [Bool.or_eq_true, decide_eq_true_eq, hm i, pk.mem_iff, List.mem_cons]
      exact Or.comm
    have hsz : es1.size = n + 1 := by rw [← Array.length_toList, pc.length_eq, List.length_cons, Array.length_toList, hn]
    have hb1 : es1.size < scanBound := by rw [hsz]; exact room
    have hled : w.params.followText "set-order" = true ∨ t1.led = true := hl.imp id fun z => by rw [hl1]; exact z
    have fin : ∀ h', Heap.SameBut a s.heap h' → TxtSt w h' a (fun j => M j || decide (j = x)) es1.size → Q true { s with heap := h' } := fun h' sb r => by
      have q := hQ h' sb
      rw [hMx] at q
      rw [hsz] at r
      exact q r
    refine wpAny_bind (hgw _ ?_)
    split
    · refine wpAny_bind ?_
      rw [hashByValue_scannable 8 hsc]
      refine wpAny_pure ?_
      refine ts_add_tail ?_ ho hex hd g1 nd1 m1 hb1 ?_ ?_ ?_ ?_
      · intro b s₁ Q' q; cases b <;> first | exact wpAny_pure q | exact wpAny_rule q
      · first | (split <;> first | exact hf1 | exact SetTable.fits_plain_off hf1) | exact hf1
      · first | (split <;> exact hr1) | exact hr1
      · first | (split <;> exact hled) | exact hled
      · intro h' sb r; dsimp only; exact wpAny_pure (fin h' sb r)
    · refine wpAny_bind (wpAny_pure ?_)
      simp only [↓reduceIte]
      refine ts_add_tail ?_ ho hex hd g1 nd1 m1 hb1 hf1 hr1 hled ?_
      · intro b s₁ Q' q; cases b <;> first | exact wpAny_pure q | exact wpAny_rule q
      · intro h' sb r; dsimp only; exact wpAny_pure (fin h' sb r)
end

/-! ### set(t) of a tuple of texts -/
theorem ts_empty {w : World} {h : Heap} {a : Addr} {ws : List Str} (ho : h.get? a = some { cls := .type "set", dict := none, data := .set #[] 0 (.fresh 0 0 (!w.params.followText "set-order")) }) : TxtSt w h a (fun j => decide (j ∈ ws.take 0)) 0 := by
  refine ⟨_, #[], 0, _, ho, ⟨rfl, rfl, rfl⟩, rfl, (fun e he => by simp at he), (by simp), (fun k => by simp), (by decide), (by rfl), rfl, List.Pairwise.nil, ?_⟩
  show _ ∨ (!w.params.followText "set-order") = true
  cases w.params.followText "set-order"
  · exact .inr rfl
  · exact .inl rfl
section
variable {P : Program} {w : World} {A : Around} {E : Value → Shared → Prop} {s : Shared}
theorem ts_update {I : Addr} {fp wr : List Addr} {G : Array GenState → Array GenState → Prop} {n : Nat} {Pv : Nat → Value → Prop} {St : Nat → Shared → Prop} {R : Result → Shared → Prop}
    (W : WalksS P w A.in1 I fp wr G n Pv St) (S : Addr) (hSf : S ∉ fp) (ws : List Str) (hn : n = ws.length) (hb : ws.length + 1 < scanBound) (hval : ∀ i v, Pv i v → ∃ k t, ws[i]? = some k ∧ v = .str k t) :
    ∀ (k i : Nat) (s : Shared), n - i = k → i ≤ n → St i s → (∃ c, c ≤ i ∧ TxtSt w s.heap S (fun j => decide (j ∈ ws.take i)) c) →
      (∀ s' c, Moved (S :: wr) G s s' → c ≤ n → TxtSt w s'.heap S (fun j => decide (j ∈ ws)) c → R (.ok (.ret .none)) s') →
      codeAny (model P w) A (.builtin "set.update.loop" ⟨[.ref S, .ref I], []⟩) R s := by
  have hSw : S ∉ wr := fun h => hSf (W.sub _ h)
  have hsub : ∀ b ∈ wr, b ∈ S :: wr := fun b hb => List.mem_cons_of_mem _ hb
  intro k
  induction k with
  | zero =>
    intro i s hk' hi hst ⟨c, hc, hS⟩ hR
    have hin : i = n := by omega
    subst hin
    refine codeAny_builtin F.entry_set_update_loop ?_
    rw [Around.under_plainId F.plain_set_update_loop _]
    show wpAny _ A.in1 (pyNext (.ref I) >>= _) _ _ s
    refine wpAny_bind (W.done s _ _ hst fun s' hm => ?_)
    show wpAny _ A.in1 (ret Value.none) _ _ s'
    have e : ws.take i = ws := List.take_of_length_le (by omega)
    rw [e] at hS
    exact wpAny_pure (hR s' c (hm.mono hsub) hc (hS.at fun o e => hm.heap S o hSw e))
  | succ k ih =>
    intro i s hk' hi hst ⟨c, hc, hS⟩ hR
    have hlt : i < n := by omega
    refine codeAny_builtin F.entry_set_update_loop ?_
    rw [Around.under_plainId F.plain_set_update_loop _]
    show wpAny _ A.in1 (pyNext (.ref I) >>= _) _ _ s
    refine wpAny_bind (W.item i s _ _ hlt hst fun v s' hP hst' hm => ?_)
    obtain ⟨z, t, hz, rfl⟩ := hval i v hP
    have hS' : TxtSt w s'.heap S (fun j => decide (j ∈ ws.take i)) c := hS.at fun o e => hm.heap S o hSw e
    show wpAny _ A.in1 (holding [Value.str z t] (setAdd S (.str z t)) >>= _) _ _ s'
    refine wpAny_bind (wpAny_holding ?_)
    unfold setAdd
    refine wpAny_holding ?_
    refine wpAny_bind ((SK P w).pyHash (k := z) (strKind_is _ _ _ _) ?_)
    refine ts_add (s := { s' with toks := s'.toks + 1 }) hS' (by omega) fun h' hsb hS2 => ?_
    have hS3 : TxtSt w h' S (fun j => decide (j ∈ ws.take (i + 1))) (if decide (z ∈ ws.take i) = true then c else c + 1) := hS2.congr fun j => by
      rw [List.take_add_one, hz]
      simp [List.mem_append]
    have hc3 : (if decide (z ∈ ws.take i) = true then c else c + 1) ≤ i + 1 := by
      split <;> omega
    refine wpAny_pure ⟨plainId_quiet F.plain_set_update_loop _, ih (i + 1) _ (by omega) hlt (W.frame _ s' _ _ hst' (Nat.le_succ _) fun b hb o e => ?_) ⟨_, hc3, hS3⟩ fun s'' c2 hm'' hc'' hS'' => ?_⟩
    · rw [hsb.2 b (fun h : b = S => hSf (by rw [← h]; exact hb))]; exact e
    · refine hR s'' c2 (Moved.trans W.gtrans ((hm.mono hsub).then_heap (Nat.le_succ _) fun b o hb e => ?_) hm'') hc'' hS''
      rw [hsb.2 b (fun h : b = S => hb (by rw [h]; exact List.mem_cons_self))]; exact e

theorem texts_at : ∀ {us : List Value} {xs : List Str}, StrsAre us xs → ∀ (i : Nat) (v : Value), us[i]? = some v → ∃ k t, xs[i]? = some k ∧ v = .str k t
  | _, _, .nil, i, v, h => by simp at h
  | _, _, .cons n t hr, 0, v, h => by
    simp at h
    exact ⟨_, t, rfl, h.symm⟩
  | _, _, .cons n t hr, i + 1, v, h => by
    simp only [List.getElem?_cons_succ] at h ⊢
    exact texts_at hr i v h

set_option maxRecDepth 100000 in
set_option maxHeartbeats 3200000 in
theorem call_set_texts {l : Addr} {items : Array Value} (ws : List Str) {Q : Value → Shared → Prop} (hh : A.handled = none) (hl : s.heap.IsTuple l items) (hit : StrsAre items.toList ws) (hb : ws.length + 1 < scanBound)
    (h : ∀ (h' : Heap) (tk c : Nat), TxtSt w h' s.heap.objs.size (fun j => decide (j ∈ ws)) c → c ≤ ws.length → (∀ b o, s.heap.get? b = some o → h'.get? b = some o) → Q (.ref s.heap.objs.size) { s with heap := h', toks := tk }) :
    wpAny (model P w) A (call (.type "set") [.ref l]) Q E s := by
  have hisz : items.size = ws.length := by
    have q := StrsAre.length hit
    rw [Array.length_toList] at q
    exact q
  obtain ⟨c, tl, hmro⟩ := F.called_set.mro
  have hmade := F.called_set.made
  have hsub := F.called_set.sub
  refine wpAny_call (codeAny_of_tree ?_)
  show wpAny _ _ (callAny (.type "set") _) _ _ _
  refine wpAny_pure ⟨Code.quiet_builtin _ (by decide +kernel), codeAny_builtin F.entry_type_call ?_⟩
  rw [Around.under_plain (weight_type_call_type "set" [.ref l] []) rfl]
  have h1 := F.called_set.notType
  have h2 := F.called_set.canCreate
  have hct := F.typeCall_set_1 (.ref l)
  repeat (any_goals (first | assumption | wp_step))

  refine codeAny_mono (code_set_led1 (.ref l) (E := E) (Q₁ := fun obj s₁ => obj = .ref s.heap.objs.size ∧ s₁ = { s with heap := s.heap.push { cls := .type "set", dict := none, data := .set #[] 0 (.fresh 0 0 (!w.params.followText "set-order")) } }) ⟨rfl, rfl⟩) fun r s₁ hr => ?_
  cases r with
  | error e => exact hr
  | ok fl =>
    cases fl with
    | ret obj =>
      obtain ⟨rfl, rfl⟩ := hr
      have hS : (s.heap.push { cls := .type "set", dict := none, data := .set #[] 0 (.fresh 0 0 (!w.params.followText "set-order")) }).get? s.heap.objs.size = some { cls := .type "set", dict := none, data := .set #[] 0 (.fresh 0 0 (!w.params.followText "set-order")) } := Heap.get?_push_size _ rfl
      have hT : Shared.TypeIs { s with heap := s.heap.push { cls := .type "set", dict := none, data := .set #[] 0 (.fresh 0 0 (!w.params.followText "set-order")) } } (.ref s.heap.objs.size) "set" := ⟨_, hS, rfl⟩
      have hli := F.called_set.init.lookup
      have hbi := F.called_set.init.bind (.ref s.heap.objs.size)
      repeat (any_goals (first | assumption | wp_step))

      refine codeAny_mono (codeAny_call_builtin (R := wants (fun r s₂ => r = .none ∧ ∃ h' tk c, s₂ = { s with heap := h', toks := tk } ∧ TxtSt w h' s.heap.objs.size (fun j => decide (j ∈ ws)) c ∧ c ≤ ws.length ∧
          (∀ b o, s.heap.get? b = some o → h'.get? b = some o)) E) F.called_set.init.plain F.entry_set_init (check_set_init_1 hT ?_)) fun r₂ s₂ hr₂ => ?_
      · obtain ⟨ol, hol, hcl, nl, hdl⟩ := hl
        obtain ⟨ocls, odict, odata, oslots⟩ := ol
        simp only at hcl hdl
        subst hcl; subst hdl
        have hol' : (s.heap.push { cls := .type "set", dict := none, data := .set #[] 0 (.fresh 0 0 (!w.params.followText "set-order")) }).get? l = some { cls := .type "tuple", dict := odict, data := .seq items nl, slots := oslots } := Heap.get?_push_of_some _ hol
        have hsls := F.sub_tuple_set
        have hslf := F.sub_tuple_frozenset
        have hne : (Value.type "tuple" == Value.type "dict") = false := by decide
        have hl1 : (s.heap.push { cls := .type "set", dict := none, data := .set #[] 0 (.fresh 0 0 (!w.params.followText "set-order")) }).IsTuple l items := ⟨_, hol', rfl, nl, rfl⟩
        unfold Builtin.«set.__init__» noKeywords Builtin.Frozenset.updateFrom
        generalize hPI : pyIter = PI
        wp_walk
        subst hPI

        refine wpAny_pyIter_tuple hl1 ?_
        refine wpAny_bind (wpAny_runValue ?_)
        have hlS : l < s.heap.objs.size := Heap.lt_size hol
        have hh3 : A.in1.in1.in1.handled = none := by simp [hh]
        have hneI : l ≠ (s.heap.push { cls := .type "set", dict := none, data := .set #[] 0 (.fresh 0 0 (!w.params.followText "set-order")) }).objs.size := by
          rw [Heap.size_push]; exact Nat.ne_of_lt (Nat.lt_succ_of_lt hlS)
        have hSf : s.heap.objs.size ∉ [(s.heap.push { cls := .type "set", dict := none, data := .set #[] 0 (.fresh 0 0 (!w.params.followText "set-order")) }).objs.size, l] := by
          rw [Heap.size_push]; simp only [List.mem_cons, List.mem_singleton, List.not_mem_nil, or_false, not_or]
          exact ⟨Nat.ne_of_lt (Nat.lt_succ_self _), Nat.ne_of_gt hlS⟩
        have hval : ∀ (i : Nat) (v : Value), items[i]? = some v → ∃ k t, ws[i]? = some k ∧ v = .str k t := fun i v hv => texts_at hit i v (by rw [Array.getElem?_toList]; exact hv)
        refine ts_update ((Walks.tuple hh3 _ l hneI items).toS) s.heap.objs.size
          hSf ws hisz hb hval (items.size - 0) 0 _ (by omega) (Nat.zero_le _)
          ⟨⟨_, Heap.get?_push_size _ rfl, rfl, rfl⟩, (hl1.push _)⟩ ?hS0 ?hR
        case hS0 =>
          have hget : ((s.heap.push { cls := .type "set", dict := none, data := .set #[] 0 (.fresh 0 0 (!w.params.followText "set-order")) }).push { cls := .type "tuple_iterator", data := .fields #[.ref l, .int 0 0] }).get? s.heap.objs.size
              = some { cls := .type "set", dict := none, data := .set #[] 0 (.fresh 0 0 (!w.params.followText "set-order")) } := Heap.get?_push_of_some _ hS
          exact ⟨0, Nat.le_refl 0, ts_empty hget⟩
        case hR =>
          intro s' c' hm hc' hS'
          obtain ⟨h', g2, d', tk', os'⟩ := s'
          have eg : g2 = s.gens := hm.gens
          have ed : d' = s.drawn := hm.drawn
          have eo : os' = s.os := hm.os
          subst eg; subst ed; subst eo
          show wpAny _ _ _ _ _ _
          refine wpAny_pure ?_
          show wpAny _ _ (ret Value.none) _ _ _
          rw [hisz] at hc'
          refine wpAny_pure ⟨rfl, h', tk', c', rfl, hS', hc', fun b o e => ?_⟩
          have hb0 : b < s.heap.objs.size := Heap.lt_size e
          have hb1 : b ≠ s.heap.objs.size := Nat.ne_of_lt hb0
          have hb2 : b ≠ (s.heap.push { cls := .type "set", dict := none, data := .set #[] 0 (.fresh 0 0 (!w.params.followText "set-order")) }).objs.size := by
            rw [Heap.size_push]; exact Nat.ne_of_lt (Nat.lt_succ_of_lt hb0)
          exact hm.heap b o (by simp only [List.mem_cons, List.mem_singleton, List.not_mem_nil, or_false, not_or]; exact ⟨hb1, hb2⟩) (Heap.get?_push_of_some _ (Heap.get?_push_of_some _ e))

      · cases r₂ with
        | error e => exact hr₂
        | ok fl₂ =>
          cases fl₂ with
          | ret r =>
            obtain ⟨rfl, h', tk, c', rfl, hS', hc', hk'⟩ := hr₂
            repeat (any_goals (first | assumption | wp_step))
            exact h _ _ _ hS' hc' hk'
          | _ => exact hr₂.elim
    | _ => exact hr.elim

theorem strs_of : ∀ (l : List Value), (∀ v ∈ l, ∃ k tk, v = Value.str k tk) → StrsAre l (l.map fun v => txt (0, v))
  | [], _ => .nil
  | v :: l, h => by
    obtain ⟨k, tk, rfl⟩ := h v List.mem_cons_self
    exact .cons k tk (strs_of l fun u hu => h u (List.mem_cons_of_mem _ hu))

theorem sorted_texts {a : Addr} {M : Str → Bool} {n : Nat} {Q : Value → Shared → Prop} (R : TxtSt w s.heap a M n) (hh : A.handled = none)
    (hQ : ∀ s' p (out : Array Value) (c : Nat) (ys : List Str), (∀ b o, s.heap.get? b = some o → s'.heap.get? b = some o) → s'.gens = s.gens → s'.os = s.os → s.heap.objs.size ≤ p →
      s'.heap.get? p = some (seqObj "list" out c) → StrsAre out.toList ys → sortedS ys = true → ys.Nodup → (∀ k, k ∈ ys ↔ M k = true) → ys.length = n → Q (.ref p) s') (h64 : n < 64) :
    wpAny (model P w) A (call (.builtin "sorted") [.ref a]) Q E s := by
  obtain ⟨o, es, ep, t, ho, hex, hd, g, nd, hm, hb, hf, hn, hr, hl⟩ := R
  refine Calls.call_function_entry kind_sorted plain_sorted entry_sorted (args_sorted1 _) ?_
  unfold Builtin.«sorted»
  refine wpAny_bind (m := checkCount "sorted" 1 1 _) (wpAny_pure ?_)
  refine wpAny_bind (collect_set (A := A.in1) hh ⟨o, ho, hex.1, hd⟩ hf hb hr hl fun s1 vs k1 hz g1 o1 pm => ?_)
  have hvl : vs.length = n := by rw [pm.length_eq, List.length_map, Array.length_toList]; exact hn
  have hI : StrsAre vs (vs.map fun v => txt (0, v)) := strs_of vs fun v hv => by
    obtain ⟨e, he, q⟩ := List.mem_map.mp (pm.mem_iff.mp hv)
    obtain ⟨k, tk, h1, _⟩ := g e he
    exact ⟨k, tk, by rw [← q]; exact h1⟩
  have pk : (vs.map fun v => txt (0, v)).Perm (es.toList.map txt) := by
    have q := pm.map fun v => txt (0, v)
    rw [List.map_map] at q
    exact q
  refine wpAny_bind (wpAny_newList ?_ (by rw [hvl, sizeLine_eq]; omega))
  have hoL : (s1.heap.push (seqObj "list" vs.toArray 0)).get? s1.heap.objs.size = some (seqObj "list" vs.toArray 0) := Heap.get?_push_size _ rfl
  refine wpAny_bind (wpAny_holding (wpAny_call_entry slot_list_sort ⟨_, hoL, rfl⟩ entry_list_sort (list_sort_treeK strKind_oneLt hoL hI.keysOf (fun v₁ v₂ rest e => keyKind_strs (by rw [← e]; exact hI)) (by rw [hvl]; exact h64) fun st' hp hs => ⟨_, rfl, ?_⟩) (args_list_sort _)))
  obtain ⟨ys, a1, a2, a3⟩ := sorted_out_str hI hp hs
  generalize (arrOf st').map (·.2) = out at a1 ⊢
  obtain ⟨c, hc⟩ := sortedHeap_at (vs := vs) (out := out) hoL
  have pn : ys.Perm (es.toList.map txt) := a2.trans pk
  refine wpAny_pure ⟨_, rfl, hQ _ s1.heap.objs.size out c ys (fun b u e => ?_) g1 o1 hz hc a1 a3 (pn.nodup_iff.mpr nd) (fun k => by rw [pn.mem_iff, ← hm k]) ?_⟩
  · have q := k1 b u e
    have hlt := Heap.lt_size q
    show (sortedHeap (s1.heap.push (seqObj "list" vs.toArray 0)) s1.heap.objs.size vs out).get? b = some u
    rw [sortedHeap_old (Nat.ne_of_lt hlt) (by rw [size_push']; exact Nat.lt_succ_of_lt hlt)]
    exact Heap.get?_push_of_some _ q
  · rw [pn.length_eq, List.length_map, Array.length_toList]; exact hn
end

/-- the set of texts at a, as a thing of the abstract heap -/
def TSO (w : World) (a : Addr) (M : Str → Bool) (n : Nat) : HO := .ext fun h => TxtSt w h a M n
section
variable {X : Cx}
theorem tso_new {w : World} {P : Program} {H : Hp} {h : Heap} {a : Addr} {M : Str → Bool} {n : Nat} (R : TxtSt w h a M n) : ObjOk P w H h a (TSO w a M n) := by
  have ⟨o, _, _, _, ho, _⟩ := R
  exact ⟨R, ⟨o, ho⟩, fun h1 h2 p k => TxtSt.at p k⟩
theorem tso_get {pins : List (Addr × Obj)} {σ : L2.St} {H : Hp} {s : Shared} {a : Addr} {M : Str → Bool} {n : Nat} (I : Inv X pins σ H s) (ha : H a = some (TSO X.w a M n)) : TxtSt X.w s.heap a M n := (I.hok a _ ha).1
/-- set(t) -/
def rSetOf (K : PySem.W.Frag) (w : World) : List V → Hp → VK → Prop := fun xs H Q => ∃ (l : Addr) (ws : List Str), xs = [V.ref l] ∧ SqT K H l (ws.map V.str) ∧ ws.length ≤ 60 ∧
  ∀ a n, H a = none → n ≤ ws.length → Q (.ref a) (upd H a (TSO w a (fun x => decide (x ∈ ws)) n))
theorem cr_setOf (hc : X.calm = true) : CallR X (.type "set") (rSetOf X.K X.w) := by
  intro pins s σ H xs us Q I r h
  obtain ⟨l, ws, rfl, hl, hz, q⟩ := h
  rw [Vals.ref1 r]
  obtain ⟨its, rv, pl, _⟩ := I.tuple hl
  have hn : H s.heap.objs.size = none := I.hok.fresh (Nat.le_refl _)
  refine call_set_texts (P := X.prog) (w := X.w) ws (I.ok.hd hc) pl (by simpa using rv.strs) (by unfold scanBound; omega) fun h' tk c R hc k => ?_
  exact ⟨.ref s.heap.objs.size, upd H s.heap.objs.size (TSO X.w s.heap.objs.size (fun x => decide (x ∈ ws)) c), I.laid (t' := tk) k (Nat.le_refl _) (tso_new R), rfl, q _ c hn hc⟩
/-- sorted(set) -/
def rSortSet (w : World) : List V → Hp → VK → Prop := fun vs H Q => ∃ (a : Addr) (M : Str → Bool) (n : Nat), vs = [V.ref a] ∧ H a = some (TSO w a M n) ∧ n < 64 ∧
  ∀ (ys : List Str) (p : Addr), sortedS ys = true → ys.Nodup → (∀ k, k ∈ ys ↔ M k = true) → ys.length = n → H p = none → Q (.ref p) (upd H p (.lst (ys.map V.str)))
theorem cr_sortSet (hc : X.calm = true) : CallR X (.builtin "sorted") (rSortSet X.w) := by
  intro pins s σ H vs us Q I r h
  obtain ⟨a, M, n, rfl, ha, h64, q⟩ := h
  have R := tso_get I ha
  rw [Vals.ref1 r]
  refine sorted_texts R (I.ok.hd hc) (fun s' p out c ys k g o hp hg hi hs hd hm hl => ?_) h64
  have hlen : (ys.map V.str).length ≤ sizeLine := by rw [List.length_map, hl, sizeLine_eq]; omega
  have hn : H p = none := I.hok.fresh hp
  have J : Inv X pins σ (upd H p (.lst (ys.map V.str))) { s with heap := s'.heap, gens := s'.gens, drawn := s'.drawn, toks := s'.toks } :=
    I.call (ch := []) (Un.laid k hp hn) (I.hok.laid k hp ⟨hlen, out.toList, c, vals_of_strs hi, hg⟩) (by rw [g]; exact I.bare) (fun _ z => nomatch z)
  have e : s' = { s with heap := s'.heap, gens := s'.gens, drawn := s'.drawn, toks := s'.toks } := by
    cases s'
    cases s
    cases o
    rfl
  rw [e]
  exact ⟨.ref p, _, J, rfl, q ys p hs hd hm hl hn⟩
/-- len(set): the number of the unlike texts -/
def rLenSet (w : World) : List V → Hp → VK → Prop := fun vs H Q => ∃ (a : Addr) (M : Str → Bool) (n : Nat), vs = [V.ref a] ∧ H a = some (TSO w a M n) ∧
  ∀ ys : List Str, ys.Nodup → (∀ k, k ∈ ys ↔ M k = true) → ys.length = n → Q (.int n) H
theorem cr_lenSet : CallR X (.builtin "len") (rLenSet X.w) := by
  intro pins s σ H vs us Q I r h
  obtain ⟨a, M, n, rfl, ha, q⟩ := h
  obtain ⟨o, es, ep, t, ho, hex, hd, g, nd, hm, hb, hf, hn, hr, hl⟩ := tso_get I ha
  rw [Vals.ref1 r]
  refine call_len_set ho hex hd hf (by rw [hn] at hb ⊢; unfold scanBound at hb; omega) ⟨.int n, H, I.tok _, ⟨_, by rw [hn]⟩, q (es.toList.map txt) nd (fun k => (hm k).symm) ?_⟩
  rw [List.length_map, Array.length_toList]; exact hn
end
end Kp
/-! Sorted lists of texts: one for each set. -/
namespace Kp
open PySem PySem.Spec PyProof.Rows L2
theorem lt_tri : ∀ {a b : List Nat}, ltCps a b = false → ltCps b a = false → a = b
  | [], [], _, _ => rfl
  | [], _ :: _, h, _ => by simp [ltCps] at h
  | _ :: _, [], _, h => by simp [ltCps] at h
  | a :: r, b :: t, h, k => by
    simp only [ltCps, Bool.or_eq_false_iff, decide_eq_false_iff_not, Bool.and_eq_false_iff, beq_eq_false_iff_ne] at h k
    have e : a = b := by omega
    subst e
    have h2 := h.2.resolve_left (fun z => z rfl)
    have k2 := k.2.resolve_left (fun z => z rfl)
    rw [lt_tri h2 k2]
theorem le_tr : ∀ {a b c : List Nat}, ltCps b a = false → ltCps c b = false → ltCps c a = false
  | [], b, [], _, _ => rfl
  | [], [], _ :: _, _, h => by simp [ltCps] at h ⊢
  | [], _ :: _, _ :: _, _, _ => by simp [ltCps]
  | _ :: _, [], [], h, _ => by simp [ltCps] at h
  | _ :: _, [], _ :: _, h, _ => by simp [ltCps] at h
  | _ :: _, _ :: _, [], _, h => by simp [ltCps] at h
  | a :: r, b :: t, c :: u, h, k => by
    simp only [ltCps, Bool.or_eq_false_iff, decide_eq_false_iff_not, Bool.and_eq_false_iff, beq_eq_false_iff_ne] at h k ⊢
    refine ⟨by omega, ?_⟩
    by_cases e : c = a
    · subst e
      have e2 : b = c := by omega
      subst e2
      exact .inr (le_tr (h.2.resolve_left fun z => z rfl) (k.2.resolve_left fun z => z rfl))
    · exact .inl e
abbrev leS (a b : Str) : Prop := ltCps b.cps.toList a.cps.toList = false
theorem rising_pw : ∀ (p : Str) (l : List Str), risingS p l = true → (p :: l).Pairwise leS
  | p, [], _ => List.pairwise_singleton _ _
  | p, x :: r, h => by
    obtain ⟨h1, h2⟩ := Bool.and_eq_true_iff.mp (show (!ltCps x.cps.toList p.cps.toList && risingS x r) = true from h)
    have ih := rising_pw x r h2
    have hx : leS p x := by simpa using h1
    refine List.pairwise_cons.mpr ⟨fun y hy => ?_, ih⟩
    rcases List.mem_cons.mp hy with rfl | hy
    · exact hx
    · exact le_tr hx (List.rel_of_pairwise_cons ih hy)
theorem sorted_pw : ∀ {l : List Str}, sortedS l = true → l.Pairwise leS
  | [], _ => .nil
  | x :: r, h => rising_pw x r h
theorem str_ext {a b : Str} (h : a.cps.toList = b.cps.toList) : a = b := by
  cases a
  cases b
  exact congrArg Str.mk (Array.toList_inj.mp h)
theorem sorted_unique {l k : List Str} (h : sortedS l = true) (h' : sortedS k = true) (p : l.Perm k) : l = k :=
  p.eq_of_pairwise (fun a b _ _ h1 h2 => str_ext (lt_tri h2 h1)) (sorted_pw h) (sorted_pw h')
/-- us is the set of the words ws, in order -/
structure IsG (us ws : List Str) : Prop where
  so : sortedS us = true
  nd : us.Nodup
  mem : ∀ k, k ∈ us ↔ k ∈ ws
theorem IsG.unique {us vs ws zs : List Str} (h : IsG us ws) (k : IsG vs zs) (e : ∀ x, x ∈ ws ↔ x ∈ zs) : us = vs :=
  sorted_unique h.so k.so ((List.perm_ext_iff_of_nodup h.nd k.nd).mpr fun x => (h.mem x).trans ((e x).trans (k.mem x).symm))
theorem IsG.len {us ws : List Str} (h : IsG us ws) : us.length ≤ ws.length := nodup_le h.nd fun x hx => (h.mem x).mp hx
theorem IsG.lenNd {us ws : List Str} (h : IsG us ws) (nd : ws.Nodup) : us.length = ws.length := Nat.le_antisymm h.len (nodup_le nd fun x hx => (h.mem x).mpr hx)
end Kp
set_option maxHeartbeats 4000000
namespace Kq
open PySem PySem.Spec PyProof.Rows L2 Kp
open Evl (Ev EvL EvT EvA given)
/-! ### words and groups -/
theorem let_all : ∀ c, c < 26 → 97 + c ∈ letters.cps.toList := by decide +kernel
theorem let_in (c : Nat) (h : 97 ≤ c ∧ c ≤ 122) : c ∈ letters.cps.toList := by
  have := let_all (c - 97) (by omega)
  rwa [show 97 + (c - 97) = c from by omega] at this
def spIsWord : Sp := fun vs H Q _ => ∃ z : Str, vs = [.str z] ∧ Wordy z ∧ Q (.bl true) H
section
variable {P : Program} {w : World} {K : PySem.W.Frag} {mg : Str → Option Value} {base : Heap} {tL tM tA : Tok} {ad : Ad}
theorem ok_is_word (T : Tx K mg tL tM tA ad) : FnR P w K mg base (L2.CX P w) 1 ad.fIsWord spIsWord := by
  obtain ⟨fd, F⟩ := T.F_is_word
  have B := T.B
  refine fnP F sc_is_word (fun _ _ _ _ _ _ us hl => match us, hl with | [_], _ => rfl) (fun vs H Q E h => ?_) (fun cdv A outer s H vs Q E hr h => ?_)
  · obtain ⟨z, rfl, _⟩ := h
    rfl
  · refine ⟨_, PSs.nox (pss_cons (ps_if (PW.pt (pw_or (pt_not (pt_val (pe_callB (call_isiKK (K := K) rfl) (by rfl) B.n_isinstance (by decide +kernel) (pa_cons (pv 0) (pa_cons (pe_bltn (v := .ty "str") (u := .type "str") (by rfl) B.n_str (by decide +kernel) rfl) pa_nil))))) (pw_or1 (pt_not (pt_chain op_le op_le pe_int (pe_callB call_len_str (by rfl) B.n_len (by decide +kernel) (pa_cons (pv 0) pa_nil)) pe_int)))))
(pss_one (ps_ret pe_bl))
pss_nil)
(pss_cons (ps_for PassesOwn.never rfl (pi_str (pv 0)) (pg_name (i := 1) sc_is_word.nd rfl (Or.inl rfl))
(pss_one (ps_if (pt_cmpR op_notIn_sign (pv 1) (pe_glob (v := .str letters) (by rfl) T.g_LETTERS ⟨_, rfl⟩) rfl)
(pss_one (ps_ret pe_bl))
pss_nil)))
(pss_one (ps_ret pe_bl)))), ?_⟩
    obtain ⟨z, rfl, hz, hQ⟩ := h
    refine ⟨_, rfl, .str z, _, .type "str", .type "str", true, rfl, .ty "str", .base (.str z), kit_ty (by decide +kernel), _, rfl, ?_⟩
    refine iteF ?_
    have hl : z.length ≤ sizeLine := Nat.le_trans hz.2.2 (by decide)
    refine ⟨_, rfl, z, rfl, hl, _, _, rfl, rfl, _, rfl, ?_⟩
    have c1 : decide ((1 : Int) ≤ (z.length : Int)) = true := decide_eq_true (by have := hz.2.1; omega)
    have c2 : decide ((z.length : Int) ≤ 8) = true := decide_eq_true (by have := hz.2.2; omega)
    rw [c1]
    refine iteT ?_
    refine ⟨_, _, rfl, rfl, _, rfl, ?_⟩
    rw [c2]
    refine iteF ?_
    refine ⟨_, rfl, z, rfl, ?_⟩
    refine for_it walk_str (fun i (σ' : L2.St) H' => ∃ a1, σ' = [some (V.str z), a1] ∧ H' = H) ?_ (fun _ _ _ _ _ => True.intro) (fun i x σ' H' H'' hi hp hy => ?_) (fun σ' H' hp => ?_)
    · exact ⟨_, rfl, rfl⟩
    · obtain ⟨a1, rfl, rfl⟩ := hp
      obtain ⟨rfl, c, hc, rfl⟩ := hy
      refine ⟨_, rfl, c, letters, rfl, rfl, _, rfl, ?_⟩
      have hcm : c ∈ z.cps.toList := by
        rw [← Array.getElem?_toList] at hc
        exact List.mem_of_getElem? hc
      have hcl : c ∈ letters.cps.toList := let_in c (hz.1 c hcm)
      rw [decide_eq_true hcl]
      refine iteF ?_
      exact ⟨_, rfl, rfl⟩
    · obtain ⟨a1, rfl, rfl⟩ := hp
      exact hQ
/-- a group at g: its words -/
def GrpAt (CG : Addr) (H : Hp) (g : Addr) (ws : List Str) : Prop := ∃ dx t, H g = some (.ins CG dx [("row", .ref t)]) ∧ H t = some (.tup (ws.map V.str))
theorem GrpAt.ext {CG : Addr} {H H' : Hp} {g : Addr} {ws : List Str} (h : GrpAt CG H g ws) (e : Ext H H') : GrpAt CG H' g ws :=
  let ⟨dx, t, a, b⟩ := h
  ⟨dx, t, e _ _ a, e _ _ b⟩
def spGI (K : PySem.W.Frag) (CG : Addr) : Sp := fun vs H Q _ => ∃ (x p dx : Addr) (ws : List Str), vs = [.ref x, .ref p] ∧ H x = some (.ins CG dx []) ∧ H p = some (.tup (ws.map V.str)) ∧ (∀ w ∈ ws, Wordy w) ∧ ws.length ≤ 60 ∧ (∀ us, IsG us ws → us.length ≤ 24) ∧
  ∀ (us : List Str) (t : Addr) (H' : Hp), IsG us ws → (∀ b o, b ≠ x → H b = some o → H' b = some o) → H' x = some (.ins CG dx [("row", .ref t)]) → H' t = some (.tup (us.map V.str)) → Q .non H'
theorem ok_group_init (T : Tx K mg tL tM tA ad) : FnR P w K mg base (L2.CX P w) 2 ad.gI (spStar 1 (spGI K ad.CG)) := by
  obtain ⟨fd, F⟩ := T.F_Group_init
  have B := T.B
  have G_is_word := ok_is_word (P := P) (w := w) (base := base) T
  refine fnS (ps := ["self"]) F sc_Group_init (fun kV doc pm an cdv ct => StX.bind_star1 (B := fun us => bindArgs (PySem.W.fnOf "__init__" "Group.__init__" (defArgs s_Group_init) (defBody s_Group_init) (defScope s_Group_init) .none kV doc pm an cdv ct) ⟨us, []⟩) (fun _ => rfl) (fun _ _ _ => rfl)) (fun cdv A outer s H vs Q E hr h => ?_)
  · refine ⟨_, PSs.nox (pss_cons (ps_for PassesOwn.never rfl (pi_tupK (K := K) rfl (pv 1)) (pg_name (i := 2) sc_Group_init.nd rfl (Or.inl rfl))
(pss_one (ps_if (pt_not (pt_val (pe_callR G_is_word (hr.mono (by decide)) T.k_is_word (by rfl) T.g_is_word passL (pa_cons (pv 2) pa_nil))))
(pss_one ps_never)
pss_nil)))
(pss_cons (ps_set (i := 3) sc_Group_init.nd rfl (Or.inl rfl) (pe_callB (cr_sortSet rfl) (by rfl) B.n_sorted (by decide +kernel) (pa_cons (pe_callTy (cr_setOf rfl) (by rfl) B.n_set (by decide +kernel) (pa_cons (pv 1) pa_nil)) pa_nil)))
(pss_cons (ps_if (pt_cmpR op_gt (pe_callB (call_lenK (K := K) rfl) (by rfl) B.n_len (by decide +kernel) (pa_cons (pv 3) pa_nil)) (pe_glob (v := .int 24) (by rfl) T.g_MOST_WORDS_checks ⟨_, rfl⟩) (nomark _))
(pss_one ps_never)
pss_nil)
(pss_one (ps_fld (pv 0) (pe_callTy (call_tuple_ofK (K := K) rfl) (by rfl) B.n_tuple (by decide +kernel) (pa_cons (pv 3) pa_nil)) rfl))))), ?_⟩
    obtain ⟨x, p, dx, ws, rfl, hx, hp, hw, h60, h24, hQ⟩ := h
    refine ⟨_, rfl, p, rfl, ⟨_, SqT.of hp⟩, ?_⟩
    refine for_tup (xs := ws.map V.str) (fun i (σ' : L2.St) H' => ∃ a2, σ' = [some (V.ref x), some (V.ref p), a2, none] ∧ H' = H) ?_ (fun i σ' H' _ hp' => ?_) (fun i y σ' H' hy hp' => ?_) (fun σ' H' hp' => ?_)
    · exact ⟨_, rfl, rfl⟩
    · obtain ⟨a2, rfl, rfl⟩ := hp'
      exact SqT.of hp
    · obtain ⟨a2, rfl, rfl⟩ := hp'
      obtain ⟨u, hu, rfl⟩ := str_at hy
      refine ⟨_, rfl, u, rfl, hw u (List.mem_of_getElem? hu), _, rfl, ?_⟩
      refine iteF ?_
      exact ⟨_, rfl, rfl⟩
    · obtain ⟨a2, rfl, rfl⟩ := hp'
      refine ⟨_, rfl, p, ws, rfl, SqT.of hp, h60, fun a n ha hn => ?_⟩
      generalize hh1 : upd H' a _ = H1
      have e1 : Ext H' H1 := hh1 ▸ Ext.upd ha
      have o1 : H1 a = some (TSO w a (fun x => decide (x ∈ ws)) n) := by
        rw [← hh1]
        exact upd_same
      refine ⟨a, _, n, rfl, o1, by omega, fun us q so nd mem ln hq => ?_⟩
      generalize hh2 : upd H1 q _ = H2
      have e2 : Ext H1 H2 := hh2 ▸ Ext.upd hq
      have o2 : H2 q = some (.lst (us.map V.str)) := by
        rw [← hh2]
        exact upd_same
      have ig : IsG us ws := ⟨so, nd, fun k => by rw [mem k]; simp⟩
      have l24 := h24 us ig
      refine ⟨_, rfl, _, us.length, rfl, .inl ⟨_, SqL.of o2, by simp⟩, _, _, rfl, rfl, _, rfl, ?_⟩
      rw [decide_eq_false (by omega)]
      refine iteF ?_
      refine ⟨_, rfl, q, _, rfl, .inl ⟨SqL.of o2, fun t ht => ?_⟩⟩
      generalize hh3 : upd H2 t _ = H3
      have e3 : Ext H2 H3 := hh3 ▸ Ext.upd ht
      have o3 : H3 t = some (.tup (us.map V.str)) := by
        rw [← hh3]
        exact upd_same
      have e13 := (e1.trans e2).trans e3
      have hx3 := e13 _ _ hx
      refine ⟨_, rfl, x, ad.CG, dx, [], rfl, hx3, T.G.cl, T.G_row, by decide, ?_⟩
      have xt : x ≠ t := ne_of_none ((e1.trans e2) _ _ hx) ht
      exact hQ us t _ ig (fun b o nb hb => by rw [upd_ne nb]; exact e13 _ _ hb) upd_same (by rw [upd_ne xt.symm]; exact o3)
/-- a group is made -/
theorem mk_group {H : Hp} {Q : VK} {E : XK} {ws : List Str} (hw : ∀ w ∈ ws, Wordy w) (h60 : ws.length ≤ 60) (h24 : ∀ us, IsG us ws → us.length ≤ 24) (k : ∀ (g : Addr) (us : List Str) (H' : Hp), IsG us ws → Ext H H' → H g = none → GrpAt ad.CG H' g us → Q (.ref g) H') :
    mkSp ad.CG (spStar 1 (spGI K ad.CG)) E (ws.map V.str) H Q := by
  intro x dx hx hdx ne
  refine ⟨[V.ref x], ws.map V.str, rfl, rfl, by rw [List.length_map]; exact Nat.le_trans h60 (by decide), fun p hp => ?_⟩
  have xdx : x ≠ dx := ne.symm
  have hx1 : upd (upd H dx (.own x)) x (.ins ad.CG dx []) x = some (.ins ad.CG dx []) := upd_same
  have px : p ≠ x := fun z => by rw [z, hx1] at hp; cases hp
  have e1 : Ext H (upd (upd H dx (.own x)) x (.ins ad.CG dx [])) := (Ext.upd hdx).trans (Ext.upd (by rw [upd_ne xdx]; exact hx))
  have e2 := e1.trans (Ext.upd (o := HO.tup (ws.map V.str)) hp)
  refine ⟨x, p, dx, ws, rfl, by rw [upd_ne px.symm]; exact hx1, upd_same, hw, h60, h24, fun us t H' ig kp hx' ht => ⟨rfl, ?_⟩⟩
  refine k x us H' ig (fun b o hb => ?_) hx ⟨dx, t, hx', ht⟩
  exact kp b o (ne_of_none hb hx) (e2 _ _ hb)
def spGLen (CG : Addr) : Sp := fun vs H Q _ => ∃ (g : Addr) (ws : List Str), vs = [.ref g] ∧ GrpAt CG H g ws ∧ Q (.int ws.length) H
def spGAnd (CG : Addr) : Sp := fun vs H Q _ => ∃ (a b : Addr) (ws us : List Str), vs = [.ref a, .ref b] ∧ GrpAt CG H a ws ∧ GrpAt CG H b us ∧ (∀ w ∈ ws, Wordy w) ∧ ws.length ≤ 24 ∧
  ∀ (g : Addr) (zs : List Str) (H' : Hp), IsG zs (ws.filter fun x => decide (x ∈ us)) → Ext H H' → GrpAt CG H' g zs → Q (.ref g) H'
def spGEq (CG : Addr) : Sp := fun vs H Q _ => ∃ (a b : Addr) (ws us : List Str), vs = [.ref a, .ref b] ∧ GrpAt CG H a ws ∧ GrpAt CG H b us ∧ (∀ w ∈ ws, Wordy w) ∧ (∀ w ∈ us, Wordy w) ∧ Q (.bl (decide (ws = us))) H
theorem ty_grp (T : Tx K mg tL tM tA ad) {H : Hp} {g : Addr} {ws : List Str} (h : GrpAt ad.CG H g ws) : TyX K H (.ref g) (.ref ad.CG) :=
  let ⟨dx, t, a, b⟩ := h
  .base (.ins a T.G.cl T.G.ca T.G.cn T.G.ct T.G.cm)
theorem ok_group_len (T : Tx K mg tL tM tA ad) : FnR P w K mg base (L2.CX P w) 1 ad.g_len (spGLen ad.CG) := by
  obtain ⟨fd, F⟩ := T.F_Group_len
  have B := T.B
  refine fnP F sc_Group_len (fun _ _ _ _ _ _ us hl => match us, hl with | [_], _ => rfl) (fun vs H Q E h => ?_) (fun cdv A outer s H vs Q E hr h => ?_)
  · obtain ⟨g, ws, rfl, _⟩ := h
    rfl
  · refine ⟨_, PSs.nox (pss_one (ps_ret (pe_callB (call_lenK (K := K) rfl) (by rfl) B.n_len (by decide +kernel) (pa_cons (pe_fldK (K := K) rfl (pv 0)) pa_nil)))), ?_⟩
    obtain ⟨g, ws, rfl, ⟨dx, t, ha, hb⟩, hQ⟩ := h
    refine ⟨_, rfl, g, ad.CG, dx, _, .ref t, rfl, ha, T.G.cl, T.G_row, rfl, ?_⟩
    exact ⟨_, ws.length, rfl, .inr ⟨_, SqT.of hb, by simp⟩, hQ⟩
theorem ok_group_eq (T : Tx K mg tL tM tA ad) : FnR P w K mg base (L2.CX P w) 1 ad.g_eq (spGEq ad.CG) := by
  obtain ⟨fd, F⟩ := T.F_Group_eq
  have B := T.B
  refine fnP F sc_Group_eq (fun _ _ _ _ _ _ us hl => match us, hl with | [_, _], _ => rfl) (fun vs H Q E h => ?_) (fun cdv A outer s H vs Q E hr h => ?_)
  · obtain ⟨g, b, ws, us, rfl, _⟩ := h
    rfl
  · refine ⟨_, PSs.nox (pss_one (ps_ret (pe_and (pe_callB (call_isiKK (K := K) rfl) (by rfl) B.n_isinstance (by decide +kernel) (pa_cons (pv 1) (pa_cons (pe_glob (v := .ref _) (by rfl) T.G.g rfl) pa_nil))) (pe_one (pe_cmpR (op_eqDK (K := K) rfl hr.units) (pe_fldK (K := K) rfl (pv 0)) (pe_fldK (K := K) rfl (pv 1)) (nomark _)))))), ?_⟩
    obtain ⟨a, b, ws, us, rfl, ga, gb, hw, hu, hQ⟩ := h
    refine ⟨_, rfl, .ref b, .ref ad.CG, .ref ad.CG, .ref ad.CG, true, rfl, .own ad.CG, ty_grp T gb, T.G.isi, ?_⟩
    obtain ⟨dx, t, ha, ht⟩ := ga
    obtain ⟨dy, t', hb, ht'⟩ := gb
    refine ⟨true, rfl, iteT ?_⟩
    refine ⟨_, rfl, a, ad.CG, dx, _, .ref t, rfl, ha, T.G.cl, T.G_row, rfl, ?_⟩
    refine ⟨_, rfl, b, ad.CG, dy, _, .ref t', rfl, hb, T.G.cl, T.G_row, rfl, ?_⟩
    refine ⟨_, _, Dp.tup (SqT.of ht) (dp_strs ws), Dp.tup (SqT.of ht') (dp_strs us), shaped_strsT fun c hc => letS_ok (hw c hc).1, shaped_strsT fun c hc => letS_ok (hu c hc).1, ?_⟩
    rw [eqv_strsT]
    exact hQ
theorem ok_group_and (T : Tx K mg tL tM tA ad) : FnR P w K mg base (L2.CX P w) 4 ad.g_and (spGAnd ad.CG) := by
  obtain ⟨fd, F⟩ := T.F_Group_and
  have B := T.B
  have G_Group_init := ok_group_init (P := P) (w := w) (base := base) T
  refine fnP F sc_Group_and (fun _ _ _ _ _ _ us hl => match us, hl with | [_, _], _ => rfl) (fun vs H Q E h => ?_) (fun cdv A outer s H vs Q E hr h => ?_)
  · obtain ⟨g, b, ws, us, rfl, _⟩ := h
    rfl
  · refine ⟨_, PSs.nox (pss_cons (ps_if (pt_not (pt_val (pe_callB (call_isiKK (K := K) rfl) (by rfl) B.n_isinstance (by decide +kernel) (pa_cons (pv 1) (pa_cons (pe_glob (v := .ref _) (by rfl) T.G.g rfl) pa_nil)))))
(pss_one ps_never)
pss_nil)
(pss_cons (ps_setLc (i := 2) (own := [("word", 3)]) (g := gName 3) rfl sc_Group_and.nd rfl rfl (sw_true rfl rfl rfl (by decide +kernel)) (pi_tupK (K := K) rfl (pe_fldK (K := K) rfl (pv 0))) (blkOk_by (own := [("word", 3)]) (N := N_Group_and) (sc := defScope s_Group_and) (by decide +kernel)) (fun _ _ _ _ _ => (pg_name (i := 3) sc_Group_and.nd rfl (Or.inl rfl))) (fun _ _ _ _ _ => (pts_one (pt_cmpR (op_in_seqK (K := K) rfl) (pv 3) (pe_fldK (K := K) rfl (pv 1)) (by rfl)))) (fun _ _ _ _ _ => by exact (pv 3)))
(pss_one (ps_ret (pe_mkS1 (E := E0) T.G.mak G_Group_init (hr.mono (by decide)) (by rfl) T.G.g passL (pv 2)))))), ?_⟩
    obtain ⟨a, b, ws, us, rfl, ga, gb, hw, h24, hQ⟩ := h
    refine ⟨_, rfl, .ref b, .ref ad.CG, .ref ad.CG, .ref ad.CG, true, rfl, .own ad.CG, ty_grp T gb, T.G.isi, _, rfl, ?_⟩
    refine iteF ?_
    obtain ⟨dx, t, ha, ht⟩ := ga
    obtain ⟨dy, t', hb, ht'⟩ := gb
    dsimp only [tNext, tSeq, tAsg]
    refine Kp.run_lcT (a := t) (xs := ws.map V.str) (fun i => decide (ws.getD i "" ∈ us)) (fun i => V.str (ws.getD i "")) ?_ (SqT.of ht) (by rw [List.length_map]; omega) (fun _ => rfl) (fun i x H9 e9 hx => ?_) (fun i x H9 e9 hx _ => ?_) (fun D H2 hD e2 hD2 => ?_)
    · exact fun H1 e1 Q' q => ⟨_, rfl, a, ad.CG, dx, _, .ref t, rfl, e1 _ _ ha, T.G.cl, T.G_row, rfl, q H1 (Evl.Ex.refl H1)⟩
    · obtain ⟨u, hu, rfl⟩ := str_at hx
      have eu : ws.getD i "" = u := by rw [List.getD_eq_getElem?_getD, hu]; rfl
      rw [eu, ← Kp.inV_strs]
      exact fun H10 e10 Q' q' => ⟨_, rfl, _, rfl, b, ad.CG, dy, _, .ref t', rfl, e10 _ _ (e9 _ _ hb), T.G.cl, T.G_row, rfl, t', _, rfl, .inr (SqT.of (e10 _ _ (e9 _ _ ht'))), rfl, Kp.flat_strs us, _, rfl, q' H10 (Evl.Ex.refl H10)⟩
    · obtain ⟨u, hu, rfl⟩ := str_at hx
      have eu : ws.getD i "" = u := by rw [List.getD_eq_getElem?_getD, hu]; rfl
      rw [eu]
      exact Evl.ev_var rfl
    have eg : given (ws.map V.str).length (fun i => decide (ws.getD i "" ∈ us)) (fun i => V.str (ws.getD i "")) = (ws.filter fun u => decide (u ∈ us)).map V.str := by
      rw [List.length_map]
      exact Kp.given_filter ws _ _ _ _ (fun i x hx => by rw [List.getD_eq_getElem?_getD, hx]; rfl) (fun i x hx => by rw [List.getD_eq_getElem?_getD, hx]; rfl)
    rw [eg] at hD2
    have lf : (ws.filter fun u => decide (u ∈ us)).length ≤ ws.length := List.length_filter_le _ _
    refine ⟨_, rfl, D, _, rfl, .inr (SqL.of hD2), ?_⟩
    exact mk_group (fun x hx => hw x (List.mem_filter.mp hx).1) (by omega) (fun us' ig => by have := ig.len; omega) fun g zs H' ig e3 _ hg => hQ g zs H' ig (Ext.trans e2 e3) hg
end
end Kq
/-! Runs of places, what is made of two that overlap, closed lists, chains. -/
namespace Kq
open Kp
abbrev Rn := Nat × Nat
def ovl (p q : Rn) : Bool := decide (p.1 < q.1) && (decide (q.1 ≤ p.2) && decide (p.2 < q.2))
def ov (p q : Rn) : Bool := if p.1 < q.1 then ovl p q else ovl q p
/-- made_of -/
def mks (p q : Rn) : List Rn := if p.1 < q.1 then [(q.1, p.2), (p.1, q.2), (p.1, q.1 - 1), (p.2 + 1, q.2)] else [(p.1, q.2), (q.1, p.2), (q.2 + 1, p.2), (q.1, p.1 - 1)]
/-- the law's row -/
def mkl (p q : Rn) : List Rn := [(q.1, p.2), (p.1, q.2), (p.1, q.1 - 1), (p.2 + 1, q.2)]
def lmk (p q : Rn) : List Rn := if p.1 < q.1 then mkl p q else mkl q p
theorem ov_comm (p q : Rn) : ov p q = ov q p := by
  unfold ov ovl
  by_cases h : p.1 < q.1
  · rw [if_pos h, if_neg (by omega)]
  · rw [if_neg h]
    by_cases h2 : q.1 < p.1
    · rw [if_pos h2]
    · rw [if_neg h2]
      simp [h, h2]
theorem lmk_mem (p q r : Rn) : r ∈ lmk p q ↔ r ∈ mks p q := by
  unfold lmk mks mkl
  split
  · rfl
  · simp only [List.mem_cons, List.not_mem_nil, or_false]
    constructor
    · rintro (h | h | h | h)
      · exact .inl h
      · exact .inr (.inl h)
      · exact .inr (.inr (.inr h))
      · exact .inr (.inr (.inl h))
    · rintro (h | h | h | h)
      · exact .inl h
      · exact .inr (.inl h)
      · exact .inr (.inr (.inr h))
      · exact .inr (.inr (.inl h))
theorem mks_comm {p q r : Rn} (h : ov p q = true) : r ∈ mks p q ↔ r ∈ mks q p := by
  rw [← lmk_mem, ← lmk_mem]
  unfold lmk
  unfold ov ovl at h
  by_cases h1 : p.1 < q.1
  · rw [if_pos h1, if_neg (by omega)]
  · rw [if_neg h1] at h ⊢
    simp only [Bool.and_eq_true, decide_eq_true_eq] at h
    rw [if_pos h.1]
def OkR (n : Nat) (r : Rn) : Prop := r.1 ≤ r.2 ∧ r.2 < n
theorem mks_ok {n : Nat} {p q r : Rn} (hp : OkR n p) (hq : OkR n q) (h : ov p q = true) (hr : r ∈ mks p q) : OkR n r := by
  rw [← lmk_mem] at hr
  unfold lmk mkl at hr
  unfold ov ovl at h
  unfold OkR at *
  by_cases h1 : p.1 < q.1
  · rw [if_pos h1] at h hr
    simp only [Bool.and_eq_true, decide_eq_true_eq] at h
    simp only [List.mem_cons, List.not_mem_nil, or_false] at hr
    rcases hr with rfl | rfl | rfl | rfl <;> simp only <;> omega
  · rw [if_neg h1] at h hr
    simp only [Bool.and_eq_true, decide_eq_true_eq] at h
    simp only [List.mem_cons, List.not_mem_nil, or_false] at hr
    rcases hr with rfl | rfl | rfl | rfl <;> simp only <;> omega
/-- what follows from some runs -/
inductive Cl (S : Rn → Prop) : Rn → Prop
  | base {r : Rn} : S r → Cl S r
  | step {p q r : Rn} : Cl S p → Cl S q → ov p q = true → r ∈ mks p q → Cl S r
theorem Cl.mono {S T : Rn → Prop} (h : ∀ r, S r → T r) {r : Rn} (c : Cl S r) : Cl T r := by
  induction c with
  | base b => exact .base (h _ b)
  | step _ _ o m i j => exact .step i j o m
theorem Cl.join {S T : Rn → Prop} (h : ∀ r, T r → Cl S r) {r : Rn} (c : Cl T r) : Cl S r := by
  induction c with
  | base b => exact h _ b
  | step _ _ o m i j => exact .step i j o m
theorem Cl.congr {S T : Rn → Prop} (h : ∀ r, S r ↔ T r) (r : Rn) : Cl S r ↔ Cl T r := ⟨Cl.mono fun r => (h r).1, Cl.mono fun r => (h r).2⟩
/-- a run that overlaps none -/
theorem Cl.alone {S : Rn → Prop} {n : Nat} {x : Rn} (hS : ∀ r, S r → OkR n r) (hx : x.1 = x.2 ∨ (x.1 = 0 ∧ x.2 = n - 1)) {r : Rn} (c : Cl (fun r => S r ∨ r = x) r) : OkR n x → Cl S r ∨ r = x := by
  intro okx
  have okc : ∀ r, Cl (fun r => S r ∨ r = x) r → OkR n r := fun r c => by
    induction c with
    | base b => exact b.elim (hS _) fun e => e ▸ okx
    | step _ _ o m i j => exact mks_ok i j o m
  have no : ∀ q, OkR n q → ov x q = true → False := fun q hq h => by
    unfold OkR at *
    unfold ov ovl at h
    by_cases h1 : x.1 < q.1
    · rw [if_pos h1] at h
      simp only [Bool.and_eq_true, decide_eq_true_eq] at h
      omega
    · rw [if_neg h1] at h
      simp only [Bool.and_eq_true, decide_eq_true_eq] at h
      omega
  induction c with
  | base b => exact b.imp .base id
  | step cp cq o m i j =>
    rcases i with i | rfl
    · rcases j with j | rfl
      · exact .inl (.step i j o m)
      · rw [ov_comm] at o
        exact (no _ (okc _ cp) o).elim
    · exact (no _ (okc _ cq) o).elim
/-! ### the worklist -/
structure WL (S : Rn → Prop) (n : Nat) (F L : List Rn) : Prop where
  nd : F.Nodup
  ok : ∀ r ∈ F, OkR n r
  sub : ∀ r ∈ L, r ∈ F
  cl : ∀ r ∈ F, Cl S r
  base : ∀ r, S r → r ∈ F
  closed : ∀ x ∈ F, ∀ y ∈ F, x ∉ L → y ∉ L → ov x y = true → ∀ r ∈ mks x y, r ∈ F
theorem WL.done {S : Rn → Prop} {n : Nat} {F : List Rn} (w : WL S n F []) (r : Rn) : r ∈ F ↔ Cl S r := by
  refine ⟨w.cl r, fun c => ?_⟩
  induction c with
  | base b => exact w.base _ b
  | step _ _ o m i j => exact w.closed _ i _ j (by simp) (by simp) o _ m
/-- while the run is looked at with the first i of the runs F: N are new -/
structure WI (S : Rn → Prop) (n : Nat) (F L : List Rn) (run : Rn) (i : Nat) (N : List Rn) : Prop where
  nd : (F ++ N).Nodup
  ok : ∀ r ∈ N, OkR n r
  cl : ∀ r ∈ N, Cl S r
  made : ∀ (j : Nat) (y : Rn), j < i → F[j]? = some y → ov run y = true → ∀ r ∈ mks run y, r ∈ F ++ N
theorem WI.start {S : Rn → Prop} {n : Nat} {F L : List Rn} {run : Rn} (w : WL S n F (run :: L)) : WI S n F L run 0 [] :=
  ⟨by simpa using w.nd, by simp, by simp, fun j y h => absurd h (Nat.not_lt_zero _)⟩
theorem WI.fin {S : Rn → Prop} {n : Nat} {F L N : List Rn} {run : Rn} (w : WL S n F (run :: L)) (v : WI S n F L run F.length N) : WL S n (F ++ N) (L ++ N) := by
  have hrun : run ∈ F := w.sub _ (by simp)
  refine ⟨v.nd, fun r hr => (List.mem_append.mp hr).elim (w.ok r) (v.ok r), fun r hr => ?_, fun r hr => (List.mem_append.mp hr).elim (w.cl r) (v.cl r), fun r hr => List.mem_append_left _ (w.base r hr), fun x hx y hy nx ny o r hr => ?_⟩
  · rcases List.mem_append.mp hr with h | h
    · exact List.mem_append_left _ (w.sub r (List.mem_cons_of_mem _ h))
    · exact List.mem_append_right _ h
  · rw [List.mem_append, not_or] at nx ny
    have hx' := (List.mem_append.mp hx).resolve_right nx.2
    have hy' := (List.mem_append.mp hy).resolve_right ny.2
    have at_ : ∀ y, y ∈ F → ov run y = true → ∀ r ∈ mks run y, r ∈ F ++ N := fun y hy o r hr => by
      obtain ⟨j, hj⟩ := List.mem_iff_getElem?.mp hy
      exact v.made j y (List.getElem?_eq_some_iff.mp hj).1 hj o r hr
    by_cases ex : x = run
    · subst ex
      exact at_ y hy' o r hr
    · by_cases ey : y = run
      · subst ey
        rw [mks_comm o] at hr
        rw [ov_comm] at o
        exact at_ x hx' o r hr
      · exact List.mem_append_left _ (w.closed x hx' y hy' (by simp [ex, nx.1]) (by simp [ey, ny.1]) o r hr)
/-- one turn's end: all that is made of the run and the i-th is there -/
theorem WI.next {S : Rn → Prop} {n : Nat} {F L N N' : List Rn} {run y : Rn} {i : Nat} (v : WI S n F L run i N) (hy : F[i]? = some y) (hN : ∀ r ∈ N, r ∈ N') (nd : (F ++ N').Nodup) (ok : ∀ r ∈ N', OkR n r) (cl : ∀ r ∈ N', Cl S r)
    (h : ov run y = true → ∀ r ∈ mks run y, r ∈ F ++ N') : WI S n F L run (i + 1) N' := by
  refine ⟨nd, ok, cl, fun j z hj hz o r hr => ?_⟩
  by_cases e : j = i
  · subst e
    rw [hy] at hz
    cases hz
    exact h o r hr
  · have := v.made j z (by omega) hz o r hr
    rcases List.mem_append.mp this with h | h
    · exact List.mem_append_left _ h
    · exact List.mem_append_right _ (hN r h)
def grid : List Rn := (List.range 7).flatMap fun a => (List.range 7).map fun b => (a, b)
theorem grid_len : grid.length = 49 := by decide +kernel
theorem grid_mem {n : Nat} (hn : n ≤ 7) {r : Rn} (h : OkR n r) : r ∈ grid := by
  unfold grid
  rw [List.mem_flatMap]
  unfold OkR at h
  exact ⟨r.1, by rw [List.mem_range]; omega, List.mem_map.mpr ⟨r.2, by rw [List.mem_range]; omega, rfl⟩⟩
theorem len49 {n : Nat} {F : List Rn} (hn : n ≤ 7) (nd : F.Nodup) (ok : ∀ r ∈ F, OkR n r) : F.length ≤ 49 := by
  rw [← grid_len]
  exact nodup_le nd fun x hx => grid_mem hn (ok x hx)
/-! ### where each run comes from, and chains -/
structure Row where
  p : Rn
  q : Rn
  w : Nat
  r : Rn
/-- rows lead from what is there, one by one -/
def chain : List Rn → List Row → Prop
  | _, [] => True
  | th, x :: xs => x.p ∈ th ∧ x.q ∈ th ∧ ov x.p x.q = true ∧ (mks x.p x.q)[x.w]? = some x.r ∧ chain (th ++ [x.r]) xs
/-- an entry of closed_by's dict: the run and what it is made of -/
structure Ent where
  r : Rn
  s : Option (Rn × Rn × Nat)
def Prov (E : List Ent) : Prop := ∀ (i : Nat) (e : Ent) (p q : Rn) (w : Nat), E[i]? = some e → e.s = some (p, q, w) → p ∈ (E.take i).map (·.r) ∧ q ∈ (E.take i).map (·.r) ∧ ov p q = true ∧ (mks p q)[w]? = some e.r
/-- behind the entries from m on: the wanted runs W, the rows L -/
def Good (E : List Ent) (m : Nat) (W : List Rn) (L : List Row) : Prop :=
  ∀ th : List Rn, (∀ x ∈ W, (x ∈ (E.take m).map (·.r) ∨ ∃ e ∈ E, e.r = x ∧ e.s = none) → x ∈ th) → chain th L ∧ ∀ x ∈ W, x ∈ E.map (·.r) → x ∈ th ∨ x ∈ L.map (·.r)
theorem Good.start (E : List Ent) (W : List Rn) : Good E E.length W [] := by
  intro th h
  refine ⟨True.intro, fun x hx he => .inl (h x hx (.inl ?_))⟩
  rw [List.take_length]
  exact he
theorem take_succ_r {E : List Ent} {m : Nat} {e : Ent} (he : E[m]? = some e) : (E.take (m + 1)).map (·.r) = (E.take m).map (·.r) ++ [e.r] := by
  rw [List.take_add_one, he]
  simp
theorem Good.skip {E : List Ent} {m : Nat} {W : List Rn} {L : List Row} {e : Ent} (g : Good E (m + 1) W L) (he : E[m]? = some e) (h : e.r ∉ W ∨ e.s = none) : Good E m W L := by
  intro th hth
  refine g th fun x hx hc => hth x hx ?_
  rcases hc with hc | hc
  · rw [take_succ_r he] at hc
    rcases List.mem_append.mp hc with hc | hc
    · exact .inl hc
    · have e1 := List.mem_singleton.mp hc
      subst e1
      exact .inr ⟨e, List.mem_of_getElem? he, rfl, h.resolve_left (fun z => z hx)⟩
  · exact .inr hc
theorem Good.take {E : List Ent} {m : Nat} {W W' : List Rn} {L : List Row} {e : Ent} {p q : Rn} {w : Nat} (pv : Prov E) (g : Good E (m + 1) W L) (he : E[m]? = some e) (hs : e.s = some (p, q, w)) (hW : ∀ x, x ∈ W' ↔ x ∈ W ∨ x = p ∨ x = q) : Good E m W' (⟨p, q, w, e.r⟩ :: L) := by
  obtain ⟨hp, hq, ho, hm⟩ := pv m e p q w he hs
  intro th hth
  have hp' : p ∈ th := hth p ((hW p).2 (.inr (.inl rfl))) (.inl hp)
  have hq' : q ∈ th := hth q ((hW q).2 (.inr (.inr rfl))) (.inl hq)
  obtain ⟨c, d⟩ := g (th ++ [e.r]) fun x hx hc => by
    rcases hc with hc | hc
    · rw [take_succ_r he] at hc
      rcases List.mem_append.mp hc with hc | hc
      · exact List.mem_append_left _ (hth x ((hW x).2 (.inl hx)) (.inl hc))
      · exact List.mem_append_right _ hc
    · exact List.mem_append_left _ (hth x ((hW x).2 (.inl hx)) (.inr hc))
  refine ⟨⟨hp', hq', ho, hm, c⟩, fun x hx hE => ?_⟩
  rcases (hW x).1 hx with hx | rfl | rfl
  · rcases d x hx hE with h | h
    · rcases List.mem_append.mp h with h | h
      · exact .inl h
      · exact .inr (by rw [List.map_cons, List.mem_cons]; exact .inl (List.mem_singleton.mp h))
    · exact .inr (List.mem_cons_of_mem _ h)
  · exact .inl hp'
  · exact .inl hq'
/-- the whole: a chain from the first ones to the run -/
theorem Good.fin {E : List Ent} {W : List Rn} {L : List Row} {run : Rn} {th : List Rn} (g : Good E 0 W L) (hb : ∀ e ∈ E, e.s = none → e.r ∈ th) (hr : run ∈ W) (hE : run ∈ E.map (·.r)) : chain th L ∧ (run ∈ th ∨ run ∈ L.map (·.r)) := by
  obtain ⟨c, d⟩ := g th fun x hx hc => by
    rcases hc with hc | ⟨e, he, rfl, hs⟩
    · simp at hc
    · exact hb e he hs
  exact ⟨c, d run hr hE⟩
end Kq
/-! Sorted sets of words, steps of sets. -/
namespace Kq
open PySem PySem.Spec PyProof.Rows L2 Kp
theorem lt_asym : ∀ {a b : List Nat}, ltCps a b = true → ltCps b a = false
  | [], [], h => by simp [ltCps] at h
  | [], _ :: _, _ => by simp [ltCps]
  | _ :: _, [], h => by simp [ltCps] at h
  | a :: r, b :: t, h => by
    simp only [ltCps, Bool.or_eq_true, decide_eq_true_eq, Bool.and_eq_true, beq_iff_eq, Bool.or_eq_false_iff, decide_eq_false_iff_not, Bool.and_eq_false_iff, beq_eq_false_iff_ne] at h ⊢
    refine ⟨by omega, ?_⟩
    by_cases e : b = a
    · rcases h with z | z
      · omega
      · exact .inr (lt_asym z.2)
    · exact .inl e
def insS (x : Str) : List Str → List Str
  | [] => [x]
  | y :: l => if ltCps y.cps.toList x.cps.toList = true then y :: insS x l else x :: y :: l
theorem insS_perm (x : Str) : ∀ l, (insS x l).Perm (x :: l)
  | [] => List.Perm.refl _
  | y :: l => by
    unfold insS
    split
    · exact (List.Perm.cons y (insS_perm x l)).trans (List.Perm.swap x y l)
    · exact List.Perm.refl _
theorem rising_ins : ∀ (p : Str) (l : List Str) (x : Str), risingS p l = true → ltCps x.cps.toList p.cps.toList = false → risingS p (insS x l) = true
  | p, [], x, _, h => by
    show (!ltCps x.cps.toList p.cps.toList && true) = true
    rw [h]
    rfl
  | p, y :: l, x, hl, h => by
    obtain ⟨h1, h2⟩ := Bool.and_eq_true_iff.mp (show (!ltCps y.cps.toList p.cps.toList && risingS y l) = true from hl)
    unfold insS
    split
    · rename_i q
      show (!ltCps y.cps.toList p.cps.toList && risingS y (insS x l)) = true
      rw [h1, rising_ins y l x h2 (lt_asym q)]
      rfl
    · rename_i q
      show (!ltCps x.cps.toList p.cps.toList && (!ltCps y.cps.toList x.cps.toList && risingS y l)) = true
      rw [h, Bool.eq_false_iff.mpr q, h2]
      rfl
theorem sorted_ins {x : Str} : ∀ {l : List Str}, sortedS l = true → sortedS (insS x l) = true
  | [], _ => rfl
  | y :: l, h => by
    unfold insS
    split
    · rename_i q
      exact rising_ins y l x h (lt_asym q)
    · rename_i q
      show (!ltCps y.cps.toList x.cps.toList && risingS y l) = true
      rw [Bool.eq_false_iff.mpr q, show risingS y l = true from h]
      rfl
theorem sort_ex : ∀ ws : List Str, ∃ us : List Str, sortedS us = true ∧ us.Perm ws
  | [] => ⟨[], rfl, List.Perm.refl _⟩
  | w :: ws => let ⟨us, h1, h2⟩ := sort_ex ws; ⟨insS w us, sorted_ins h1, (insS_perm w us).trans (List.Perm.cons w h2)⟩
theorem dedup_ex : ∀ ws : List Str, ∃ vs : List Str, vs.Nodup ∧ ∀ k, k ∈ vs ↔ k ∈ ws
  | [] => ⟨[], List.nodup_nil, fun _ => Iff.rfl⟩
  | w :: ws => by
    obtain ⟨vs, nd, h⟩ := dedup_ex ws
    by_cases hw : w ∈ vs
    · refine ⟨vs, nd, fun k => ?_⟩
      rw [h k, List.mem_cons]
      exact ⟨.inr, fun z => z.elim (fun e => e ▸ (h w).1 hw) id⟩
    · refine ⟨w :: vs, List.nodup_cons.mpr ⟨hw, nd⟩, fun k => ?_⟩
      rw [List.mem_cons, List.mem_cons, h k]
theorem gs_ex (ws : List Str) : ∃ us, IsG us ws := by
  obtain ⟨vs, nd, h⟩ := dedup_ex ws
  obtain ⟨us, h1, h2⟩ := sort_ex vs
  exact ⟨us, h1, h2.nodup_iff.mpr nd, fun k => h2.mem_iff.trans (h k)⟩
/-- the sorted set of some words -/
noncomputable def gs (ws : List Str) : List Str := Classical.choose (gs_ex ws)
theorem gs_is (ws : List Str) : IsG (gs ws) ws := Classical.choose_spec (gs_ex ws)
theorem gs_eq {us ws : List Str} (h : IsG us ws) : us = gs ws := h.unique (gs_is ws) fun _ => Iff.rfl
theorem gs_congr {ws us : List Str} (h : ∀ k, k ∈ ws ↔ k ∈ us) : gs ws = gs us := (gs_is ws).unique (gs_is us) h
theorem gs_mem {ws : List Str} {k : Str} : k ∈ gs ws ↔ k ∈ ws := (gs_is ws).mem k
/-- one of the four sets made of two -/
def setop : Nat → List Str → List Str → List Str
  | 0, f, s => f.filter fun x => decide (x ∈ s)
  | 1, f, s => f ++ s
  | 2, f, s => f.filter fun x => !decide (x ∈ s)
  | _, f, s => s.filter fun x => !decide (x ∈ f)
def ovB (ws us : List Str) : Bool := decide (0 < (ws.filter fun x => decide (x ∈ us)).length) && decide ((ws.filter fun x => decide (x ∈ us)).length < min ws.length us.length)
/-- a step of any values -/
structure SV where
  f : List Str
  s : List Str
  w : V
  m : Option (List Str)
noncomputable def stepOk (x : SV) : Bool := match x.w, x.m with
  | .int k, some us => (decide (0 ≤ k) && decide (k ≤ 3)) && (ovB x.f x.s && decide (gs (setop k.toNat x.f x.s) = us))
  | _, _ => false
noncomputable def chainB (some_ : List Str) : List (List Str) → List SV → Bool
  | known, [] => decide (some_ ∈ known)
  | known, x :: r => (decide (x.f ∈ known) && (decide (x.s ∈ known) && stepOk x)) && chainB some_ (known ++ [x.m.getD []]) r
end Kq
set_option maxHeartbeats 4000000
namespace Kq
open PySem PySem.Spec PyProof.Rows L2 Kp
open Evl (Ev EvL EvT EvA given)
theorem ext_none {H H' : Hp} {o : Addr} (e : Ext H H') (h : H' o = none) : H o = none := by
  cases h2 : H o with
  | none => rfl
  | some x =>
    rw [e _ _ h2] at h
    cases h
/-- a row of words at p -/
def RowAt (H : Hp) (p : Addr) (ws : List Str) : Prop := H p = some (.lst (ws.map V.str)) ∨ H p = some (.tup (ws.map V.str))
def spGOf (CG : Addr) : Sp := fun vs H Q _ => ∃ (p : Addr) (ws : List Str), vs = [.ref CG, .ref p] ∧ RowAt H p ws ∧ (∀ w ∈ ws, Wordy w) ∧ ws.length ≤ 24 ∧ ∀ (g : Addr) (us : List Str) (H' : Hp), IsG us ws → Ext H H' → H g = none → GrpAt CG H' g us → Q (.ref g) H'
def spGCon (CG : Addr) : Sp := fun vs H Q _ => ∃ (g : Addr) (ws : List Str) (x : Str), vs = [.ref g, .str x] ∧ GrpAt CG H g ws ∧ Q (.bl (decide (x ∈ ws))) H
def spGOr (CG : Addr) : Sp := fun vs H Q _ => ∃ (a b : Addr) (ws us : List Str), vs = [.ref a, .ref b] ∧ GrpAt CG H a ws ∧ GrpAt CG H b us ∧ (∀ w ∈ ws, Wordy w) ∧ (∀ w ∈ us, Wordy w) ∧ ws.length + us.length ≤ 24 ∧
  ∀ (g : Addr) (zs : List Str) (H' : Hp), IsG zs (ws ++ us) → Ext H H' → GrpAt CG H' g zs → Q (.ref g) H'
def spGSub (CG : Addr) : Sp := fun vs H Q _ => ∃ (a b : Addr) (ws us : List Str), vs = [.ref a, .ref b] ∧ GrpAt CG H a ws ∧ GrpAt CG H b us ∧ (∀ w ∈ ws, Wordy w) ∧ ws.length ≤ 24 ∧
  ∀ (g : Addr) (zs : List Str) (H' : Hp), IsG zs (ws.filter fun x => !decide (x ∈ us)) → Ext H H' → GrpAt CG H' g zs → Q (.ref g) H'
def spGOv (CG : Addr) : Sp := fun vs H Q _ => ∃ (a b : Addr) (ws us : List Str), vs = [.ref a, .ref b] ∧ GrpAt CG H a ws ∧ GrpAt CG H b us ∧ ws.length ≤ 24 ∧ us.length ≤ 24 ∧ ∀ H', Ext H H' → Q (.bl (ovB ws us)) H'
section
variable {P : Program} {w : World} {K : PySem.W.Frag} {mg : Str → Option Value} {base : Heap} {tL tM tA : Tok} {ad : Ad}
theorem ok_group_of (T : Tx K mg tL tM tA ad) : FnR P w K mg base (L2.CX P w) 4 ad.g_of (spGOf ad.CG) := by
  obtain ⟨fd, F⟩ := T.F_Group_of
  have B := T.B
  have G_Group_init := ok_group_init (P := P) (w := w) (base := base) T
  refine fnP F sc_Group_of (fun _ _ _ _ _ _ us hl => match us, hl with | [_, _], _ => rfl) (fun vs H Q E h => ?_) (fun cdv A outer s H vs Q E hr h => ?_)
  · obtain ⟨p, ws, rfl, _⟩ := h
    rfl
  · refine ⟨_, PSs.nox (pss_cons (ps_if (pt_not (pt_val (pe_callB (call_isiTK (K := K) rfl) (by rfl) B.n_isinstance (by decide +kernel) (pa_cons (pv 1) (pa_cons (pe_tup (pa_cons (pe_bltn (v := .ty "list") (u := .type "list") (by rfl) B.n_list (by decide +kernel) rfl) (pa_cons (pe_bltn (v := .ty "tuple") (u := .type "tuple") (by rfl) B.n_tuple (by decide +kernel) rfl) pa_nil))) pa_nil)))))
(pss_one ps_never)
pss_nil)
(pss_one (ps_ret (pe_clsS1 (i := 0) (E := E0) T.G.mak G_Group_init (hr.mono (by decide)) passL (pv 1))))), ?_⟩
    obtain ⟨p, ws, rfl, hp, hw, h24, hQ⟩ := h
    refine ⟨_, rfl, ?_⟩
    refine ⟨by decide, fun t ht => ?_⟩
    have e1 := Ext.upd (o := HO.tup [V.ty "list", V.ty "tuple"]) ht
    have fin : mkSp ad.CG (spStar 1 (spGI K ad.CG)) E0 (ws.map V.str) (upd H t (HO.tup [V.ty "list", V.ty "tuple"])) Q := mk_group hw (by omega) (fun us ig => Nat.le_trans ig.len h24) fun g us H' ig e2 hg gg => hQ g us H' ig (e1.trans e2) (ext_none e1 hg) gg
    rcases hp with hp | hp
    · refine ⟨_, t, _, .type "list", [.type "list", .type "tuple"], true, rfl, upd_same, .cons (.ty "list") (.cons (.ty "tuple") .nil), .base (.lst (e1 _ _ hp)), kitAny_cons (kit_ty (b := "list") (r := true) (by decide +kernel)) (fun z => nomatch z) (fun _ => rfl), _, rfl, ?_⟩
      refine iteF ?_
      exact ⟨rfl, _, rfl, p, _, rfl, .inr (SqL.of (e1 _ _ hp)), fin⟩
    · refine ⟨_, t, _, .type "tuple", [.type "list", .type "tuple"], true, rfl, upd_same, .cons (.ty "list") (.cons (.ty "tuple") .nil), .base (.tup (e1 _ _ hp)), kitAny_cons (kit_ty (b := "list") (r := false) (by decide +kernel)) (fun _ => kitAny_cons (kit_ty (b := "tuple") (r := true) (by decide +kernel)) (fun z => nomatch z) (fun _ => rfl)) (fun z => nomatch z), _, rfl, ?_⟩
      refine iteF ?_
      exact ⟨rfl, _, rfl, p, _, rfl, .inl (SqT.of (e1 _ _ hp)), fin⟩
theorem ok_group_contains (T : Tx K mg tL tM tA ad) : FnR P w K mg base (L2.CX P w) 1 ad.g_contains (spGCon ad.CG) := by
  obtain ⟨fd, F⟩ := T.F_Group_contains
  have B := T.B
  refine fnP F sc_Group_contains (fun _ _ _ _ _ _ us hl => match us, hl with | [_, _], _ => rfl) (fun vs H Q E h => ?_) (fun cdv A outer s H vs Q E hr h => ?_)
  · obtain ⟨g, ws, x, rfl, _⟩ := h
    rfl
  · refine ⟨_, PSs.nox (pss_one (ps_ret (pe_and (pe_callB (call_isiKK (K := K) rfl) (by rfl) B.n_isinstance (by decide +kernel) (pa_cons (pv 1) (pa_cons (pe_bltn (v := .ty "str") (u := .type "str") (by rfl) B.n_str (by decide +kernel) rfl) pa_nil))) (pe_one (pe_cmpR (op_in_seqK (K := K) rfl) (pv 1) (pe_fldK (K := K) rfl (pv 0)) (by rfl)))))), ?_⟩
    obtain ⟨g, ws, x, rfl, ⟨dx, t, ha, hb⟩, hQ⟩ := h
    refine ⟨_, rfl, .str x, _, .type "str", .type "str", true, rfl, .ty "str", .base (.str x), kit_ty (by decide +kernel), ?_⟩
    refine ⟨true, rfl, iteT ?_⟩
    refine ⟨_, rfl, _, rfl, g, ad.CG, dx, _, .ref t, rfl, ha, T.G.cl, T.G_row, rfl, t, _, rfl, .inr (SqT.of hb), rfl, Kp.flat_strs ws, ?_⟩
    rw [Kp.inV_strs]
    exact hQ
theorem ok_group_or (T : Tx K mg tL tM tA ad) : FnR P w K mg base (L2.CX P w) 4 ad.g_or (spGOr ad.CG) := by
  obtain ⟨fd, F⟩ := T.F_Group_or
  have B := T.B
  have G_Group_init := ok_group_init (P := P) (w := w) (base := base) T
  refine fnP F sc_Group_or (fun _ _ _ _ _ _ us hl => match us, hl with | [_, _], _ => rfl) (fun vs H Q E h => ?_) (fun cdv A outer s H vs Q E hr h => ?_)
  · obtain ⟨g, b, ws, us, rfl, _⟩ := h
    rfl
  · refine ⟨_, PSs.nox (pss_cons (ps_if (pt_not (pt_val (pe_callB (call_isiKK (K := K) rfl) (by rfl) B.n_isinstance (by decide +kernel) (pa_cons (pv 1) (pa_cons (pe_glob (v := .ref _) (by rfl) T.G.g rfl) pa_nil)))))
(pss_one ps_never)
pss_nil)
(pss_one (ps_ret (pe_mkSS (E := E0) T.G.mak G_Group_init (hr.mono (by decide)) (by rfl) T.G.g passL (StX.pa_star (pe_fldK (K := K) rfl (pv 0)) (StX.pa_star (pe_fldK (K := K) rfl (pv 1)) pa_nil)))))), ?_⟩
    obtain ⟨a, b, ws, us, rfl, ga, gb, hw, hu, h24, hQ⟩ := h
    refine ⟨_, rfl, .ref b, .ref ad.CG, .ref ad.CG, .ref ad.CG, true, rfl, .own ad.CG, ty_grp T gb, T.G.isi, _, rfl, ?_⟩
    refine iteF ?_
    obtain ⟨dx, t, ha, ht⟩ := ga
    obtain ⟨dy, t', hb, ht'⟩ := gb
    refine ⟨_, rfl, a, ad.CG, dx, _, .ref t, rfl, ha, T.G.cl, T.G_row, rfl, t, _, rfl, .inl (SqT.of ht), ?_⟩
    refine ⟨_, rfl, b, ad.CG, dy, _, .ref t', rfl, hb, T.G.cl, T.G_row, rfl, t', _, rfl, .inl (SqT.of ht'), ?_⟩
    have e : ws.map V.str ++ (us.map V.str ++ []) = (ws ++ us).map V.str := by rw [List.append_nil, List.map_append]
    show mkSp ad.CG (spStar 1 (spGI K ad.CG)) E0 (ws.map V.str ++ (us.map V.str ++ [])) H Q
    rw [e]
    exact mk_group (fun x hx => (List.mem_append.mp hx).elim (hw x) (hu x)) (by rw [List.length_append]; omega) (fun us' ig => by have := ig.len; rw [List.length_append] at this; omega) fun g zs H' ig e3 _ hg => hQ g zs H' ig e3 hg
theorem ok_group_sub (T : Tx K mg tL tM tA ad) : FnR P w K mg base (L2.CX P w) 4 ad.g_sub (spGSub ad.CG) := by
  obtain ⟨fd, F⟩ := T.F_Group_sub
  have B := T.B
  have G_Group_init := ok_group_init (P := P) (w := w) (base := base) T
  refine fnP F sc_Group_sub (fun _ _ _ _ _ _ us hl => match us, hl with | [_, _], _ => rfl) (fun vs H Q E h => ?_) (fun cdv A outer s H vs Q E hr h => ?_)
  · obtain ⟨g, b, ws, us, rfl, _⟩ := h
    rfl
  · refine ⟨_, PSs.nox (pss_cons (ps_if (pt_not (pt_val (pe_callB (call_isiKK (K := K) rfl) (by rfl) B.n_isinstance (by decide +kernel) (pa_cons (pv 1) (pa_cons (pe_glob (v := .ref _) (by rfl) T.G.g rfl) pa_nil)))))
(pss_one ps_never)
pss_nil)
(pss_cons (ps_setLc (i := 2) (own := [("word", 3)]) (g := gName 3) rfl sc_Group_sub.nd rfl rfl (sw_true rfl rfl rfl (by decide +kernel)) (pi_tupK (K := K) rfl (pe_fldK (K := K) rfl (pv 0))) (blkOk_by (own := [("word", 3)]) (N := N_Group_sub) (sc := defScope s_Group_sub) (by decide +kernel)) (fun _ _ _ _ _ => (pg_name (i := 3) sc_Group_sub.nd rfl (Or.inl rfl))) (fun _ _ _ _ _ => (pts_one (pt_cmpR (op_notIn_seqK (K := K) rfl) (pv 3) (pe_fldK (K := K) rfl (pv 1)) (by rfl)))) (fun _ _ _ _ _ => by exact (pv 3)))
(pss_one (ps_ret (pe_mkS1 (E := E0) T.G.mak G_Group_init (hr.mono (by decide)) (by rfl) T.G.g passL (pv 2)))))), ?_⟩
    obtain ⟨a, b, ws, us, rfl, ga, gb, hw, h24, hQ⟩ := h
    refine ⟨_, rfl, .ref b, .ref ad.CG, .ref ad.CG, .ref ad.CG, true, rfl, .own ad.CG, ty_grp T gb, T.G.isi, _, rfl, ?_⟩
    refine iteF ?_
    obtain ⟨dx, t, ha, ht⟩ := ga
    obtain ⟨dy, t', hb, ht'⟩ := gb
    dsimp only [tNext, tSeq, tAsg]
    refine Kp.run_lcT (a := t) (xs := ws.map V.str) (fun i => !decide (ws.getD i "" ∈ us)) (fun i => V.str (ws.getD i "")) ?_ (SqT.of ht) (by rw [List.length_map]; omega) (fun _ => rfl) (fun i x H9 e9 hx => ?_) (fun i x H9 e9 hx _ => ?_) (fun D H2 hD e2 hD2 => ?_)
    · exact fun H1 e1 Q' q => ⟨_, rfl, a, ad.CG, dx, _, .ref t, rfl, e1 _ _ ha, T.G.cl, T.G_row, rfl, q H1 (Evl.Ex.refl H1)⟩
    · obtain ⟨u, hu, rfl⟩ := str_at hx
      have eu : ws.getD i "" = u := by rw [List.getD_eq_getElem?_getD, hu]; rfl
      rw [eu, ← Kp.inV_strs]
      exact fun H10 e10 Q' q' => ⟨_, rfl, _, rfl, b, ad.CG, dy, _, .ref t', rfl, e10 _ _ (e9 _ _ hb), T.G.cl, T.G_row, rfl, t', _, rfl, .inr (SqT.of (e10 _ _ (e9 _ _ ht'))), rfl, Kp.flat_strs us, _, rfl, q' H10 (Evl.Ex.refl H10)⟩
    · obtain ⟨u, hu, rfl⟩ := str_at hx
      have eu : ws.getD i "" = u := by rw [List.getD_eq_getElem?_getD, hu]; rfl
      rw [eu]
      exact Evl.ev_var rfl
    have eg : given (ws.map V.str).length (fun i => !decide (ws.getD i "" ∈ us)) (fun i => V.str (ws.getD i "")) = (ws.filter fun u => !decide (u ∈ us)).map V.str := by
      rw [List.length_map]
      exact Kp.given_filter ws _ _ _ _ (fun i x hx => by rw [List.getD_eq_getElem?_getD, hx]; rfl) (fun i x hx => by rw [List.getD_eq_getElem?_getD, hx]; rfl)
    rw [eg] at hD2
    have lf : (ws.filter fun u => !decide (u ∈ us)).length ≤ ws.length := List.length_filter_le _ _
    refine ⟨_, rfl, D, _, rfl, .inr (SqL.of hD2), ?_⟩
    exact mk_group (fun x hx => hw x (List.mem_filter.mp hx).1) (by omega) (fun us' ig => by have := ig.len; omega) fun g zs H' ig e3 _ hg => hQ g zs H' ig (Ext.trans e2 e3) hg
theorem ok_group_overlaps (T : Tx K mg tL tM tA ad) : FnR P w K mg base (L2.CX P w) 1 ad.g_overlaps (spGOv ad.CG) := by
  obtain ⟨fd, F⟩ := T.F_Group_overlaps
  have B := T.B
  refine fnP F sc_Group_overlaps (fun _ _ _ _ _ _ us hl => match us, hl with | [_, _], _ => rfl) (fun vs H Q E h => ?_) (fun cdv A outer s H vs Q E hr h => ?_)
  · obtain ⟨g, b, ws, us, rfl, _⟩ := h
    rfl
  · refine ⟨_, PSs.nox (pss_cons (ps_if (pt_not (pt_val (pe_callB (call_isiKK (K := K) rfl) (by rfl) B.n_isinstance (by decide +kernel) (pa_cons (pv 1) (pa_cons (pe_glob (v := .ref _) (by rfl) T.G.g rfl) pa_nil)))))
(pss_one ps_never)
pss_nil)
(pss_cons (ps_set (i := 2) sc_Group_overlaps.nd rfl (Or.inl rfl) (pe_callB (call_lenK (K := K) rfl) (by rfl) B.n_len (by decide +kernel) (pa_cons (pe_lc (own := [("word", 3)]) (g := gName 3) rfl sc_Group_overlaps.nd (pi_tupK (K := K) rfl (pe_fldK (K := K) rfl (pv 0))) (blkOk_by (own := [("word", 3)]) (N := N_Group_overlaps) (sc := defScope s_Group_overlaps) (by decide +kernel)) (fun _ _ _ _ _ => (pg_name (i := 3) sc_Group_overlaps.nd rfl (Or.inl rfl))) (fun _ _ _ _ _ => (pts_one (pt_cmpR (op_in_seqK (K := K) rfl) (pv 3) (pe_fldK (K := K) rfl (pv 1)) (by rfl)))) (fun _ _ _ _ _ => by exact (pv 3))) pa_nil)))
(pss_one (ps_ret (pe_chain op_lt op_lt pe_int (pv 2) (pe_callB (call_min2 rfl) (by rfl) B.n_min (by decide +kernel) (pa_cons (pe_callB (call_lenK (K := K) rfl) (by rfl) B.n_len (by decide +kernel) (pa_cons (pe_fldK (K := K) rfl (pv 0)) pa_nil)) (pa_cons (pe_callB (call_lenK (K := K) rfl) (by rfl) B.n_len (by decide +kernel) (pa_cons (pe_fldK (K := K) rfl (pv 1)) pa_nil)) pa_nil)))))))), ?_⟩
    obtain ⟨a, b, ws, us, rfl, ga, gb, h24, h24', hQ⟩ := h
    refine ⟨_, rfl, .ref b, .ref ad.CG, .ref ad.CG, .ref ad.CG, true, rfl, .own ad.CG, ty_grp T gb, T.G.isi, _, rfl, ?_⟩
    refine iteF ?_
    obtain ⟨dx, t, ha, ht⟩ := ga
    obtain ⟨dy, t', hb, ht'⟩ := gb
    dsimp only [tNext, tSeq, tAsg, tCB, tCons]
    refine Kp.run_lcT (a := t) (xs := ws.map V.str) (fun i => decide (ws.getD i "" ∈ us)) (fun i => V.str (ws.getD i "")) ?_ (SqT.of ht) (by rw [List.length_map]; omega) (fun _ => rfl) (fun i x H9 e9 hx => ?_) (fun i x H9 e9 hx _ => ?_) (fun D H2 hD e2 hD2 => ?_)
    · exact fun H1 e1 Q' q => ⟨_, rfl, a, ad.CG, dx, _, .ref t, rfl, e1 _ _ ha, T.G.cl, T.G_row, rfl, q H1 (Evl.Ex.refl H1)⟩
    · obtain ⟨u, hu, rfl⟩ := str_at hx
      have eu : ws.getD i "" = u := by rw [List.getD_eq_getElem?_getD, hu]; rfl
      rw [eu, ← Kp.inV_strs]
      exact fun H10 e10 Q' q' => ⟨_, rfl, _, rfl, b, ad.CG, dy, _, .ref t', rfl, e10 _ _ (e9 _ _ hb), T.G.cl, T.G_row, rfl, t', _, rfl, .inr (SqT.of (e10 _ _ (e9 _ _ ht'))), rfl, Kp.flat_strs us, _, rfl, q' H10 (Evl.Ex.refl H10)⟩
    · obtain ⟨u, hu, rfl⟩ := str_at hx
      have eu : ws.getD i "" = u := by rw [List.getD_eq_getElem?_getD, hu]; rfl
      rw [eu]
      exact Evl.ev_var rfl
    have eg : given (ws.map V.str).length (fun i => decide (ws.getD i "" ∈ us)) (fun i => V.str (ws.getD i "")) = (ws.filter fun u => decide (u ∈ us)).map V.str := by
      rw [List.length_map]
      exact Kp.given_filter ws _ _ _ _ (fun i x hx => by rw [List.getD_eq_getElem?_getD, hx]; rfl) (fun i x hx => by rw [List.getD_eq_getElem?_getD, hx]; rfl)
    rw [eg] at hD2
    have hq := hQ H2 e2
    unfold ovB at hq
    generalize (ws.filter fun u => decide (u ∈ us)) = fs at hD2 hq
    refine ⟨_, fs.length, rfl, .inl ⟨_, SqL.of hD2, by simp⟩, ?_⟩
    refine ⟨_, rfl, _, _, rfl, rfl, _, rfl, ?_⟩
    have e0 : decide ((0 : Int) < (fs.length : Int)) = decide (0 < fs.length) := by simp
    rw [e0]
    by_cases h0 : 0 < fs.length
    · rw [decide_eq_true h0] at hq ⊢
      refine iteT ?_
      refine ⟨_, rfl, a, ad.CG, dx, _, .ref t, rfl, e2 _ _ ha, T.G.cl, T.G_row, rfl, _, ws.length, rfl, .inr ⟨_, SqT.of (e2 _ _ ht), by simp⟩, ?_⟩
      refine ⟨_, rfl, b, ad.CG, dy, _, .ref t', rfl, e2 _ _ hb, T.G.cl, T.G_row, rfl, _, us.length, rfl, .inr ⟨_, SqT.of (e2 _ _ ht'), by simp⟩, ?_⟩
      refine ⟨_, _, rfl, _, _, rfl, rfl, ?_⟩
      have em : decide ((fs.length : Int) < (if (us.length : Int) < (ws.length : Int) then (us.length : Int) else (ws.length : Int))) = decide (fs.length < min ws.length us.length) := by
        congr 1
        apply propext
        split <;> omega
      show Q (.bl (decide ((fs.length : Int) < (if (us.length : Int) < (ws.length : Int) then (us.length : Int) else (ws.length : Int))))) H2
      rw [em]
      exact hq
    · rw [decide_eq_false h0] at hq ⊢
      refine iteF ?_
      exact hq
end
end Kq
set_option maxHeartbeats 4000000
/-! enumerate over a tuple; t[::-1]. -/
namespace Kp
open PySem PySem.Spec PyProof.Rows
set_option maxHeartbeats 1000000 in
theorem meets_enumerate_newT (l : Addr) (items : Array Value) :
    Meets (Builtin.«enumerate.__new__» ⟨[.type "enumerate", .ref l], []⟩) (fun _ R s => s.heap.IsTuple l items ∧
      R (.ok (.ret (.ref (s.heap.push { cls := .type "tuple_iterator", data := .fields #[.ref l, .int 0 0] }).objs.size)))
        { s with heap := (s.heap.push { cls := .type "tuple_iterator", data := .fields #[.ref l, .int 0 0] }).push { cls := .type "enumerate", data := .fields #[.none, .bool false, .ref s.heap.objs.size, rawInt 0, .none, .none] } }) :=
  .of_wp fun prog w A R s h => by
    obtain ⟨hp, g, d, tk, os⟩ := s; obtain ⟨hL, h⟩ := h
    have hsub := sub_enumerate
    have q1 : ∀ {A' : Around} {E : Value → Shared → Prop} {Q : Value → Shared → Prop}, Q (.ref hp.objs.size) ⟨hp.push { cls := .type "tuple_iterator", data := .fields #[.ref l, .int 0 0] }, g, d, tk, os⟩ → wpAny (model prog w) A' (pyIter (.ref l)) Q E ⟨hp, g, d, tk, os⟩ :=
      fun q => wpAny_pyIter_tuple hL q
    wp_walk using q1
    refine wpAny_stack_any fun st => wpAny_pure ?_
    split
    · rename_i c _ _ _ _ _
      cases (c == Value.type "enumerate")
      · wp_walk using q1
        exact ⟨_, rfl, h⟩
      · wp_walk using q1
        exact ⟨_, rfl, h⟩
    · wp_walk using q1
      exact ⟨_, rfl, h⟩
section
variable {prog : Program} {w : World} {A : Around} {E : Value → Shared → Prop} {s : Shared}
theorem call_enumerate_tup {l : Addr} {items : Array Value} {Q : Value → Shared → Prop} (hL : s.heap.IsTuple l items)
    (h : ∀ h', IsEnum h' (s.heap.objs.size + 1) s.heap.objs.size 0 .none → h'.IsTupleIter s.heap.objs.size l 0 → h'.objs.size = s.heap.objs.size + 2 →
      (∀ b o, s.heap.get? b = some o → h'.get? b = some o) → Q (.ref (s.heap.objs.size + 1)) { s with heap := h' }) :
    wpAny (model prog w) A (call (.type "enumerate") [.ref l]) Q E s := by
  refine callType_new F.called_enumerate (by decide) (F.typeCall_enumerate_1 _) (F.newCall_enumerate_1 _) (fun obj => F.args_object_init_2 obj _) F.entry_enumerate_new
    (meets_enumerate_newT l items) ⟨hL, ?_⟩
  have hz : (s.heap.push { cls := .type "tuple_iterator", data := .fields #[.ref l, .int 0 0] }).objs.size = s.heap.objs.size + 1 := Heap.size_push ..
  show _ ∧ _
  rw [hz]
  have he : IsEnum ((s.heap.push { cls := .type "tuple_iterator", data := .fields #[.ref l, .int 0 0] }).push
      { cls := .type "enumerate", data := .fields #[.none, .bool false, .ref s.heap.objs.size, rawInt 0, .none, .none] }) (s.heap.objs.size + 1) s.heap.objs.size 0 .none := by
    have := Heap.get?_push_size (s.heap.push { cls := .type "tuple_iterator", data := .fields #[.ref l, .int 0 0] })
      (o := { cls := .type "enumerate", data := .fields #[.none, .bool false, .ref s.heap.objs.size, rawInt 0, .none, .none] }) rfl
    rw [hz] at this; exact this
  refine ⟨⟨_, he, rfl⟩, h _ he ⟨_, Heap.get?_push_of_some _ (Heap.get?_push_size _ rfl), rfl, rfl⟩ (by rw [Heap.size_push, hz]) fun b o x => Heap.get?_push_of_some _ (Heap.get?_push_of_some _ x)⟩
theorem pyNext_enum_endT {e it l : Addr} {i : Nat} {items : Array Value} {old : Value} {Q : Option Value → Shared → Prop} (hh : A.handled = none)
    (he : IsEnum s.heap e it i old) (hit : s.heap.IsTupleIter it l i) (hl : s.heap.IsTuple l items) (hx : items[i]? = none)
    (hQ : ∀ h', Heap.ExtBut it s.heap h' → Q none { s with heap := h' }) : wpAny (model prog w) A (pyNext (.ref e)) Q E s := by
  have hT : s.TypeIs (.ref e) "enumerate" := ⟨_, he, rfl⟩
  unfold pyNext
  refine wpAny_bind (wpAny_attempt (wpAny_callSpecial?_slot (name := Str.ofString "__next__") hT F.slot_enumerate_next
    (wpAny_call_entry F.slot_enumerate_next hT F.entry_enumerate_next ?_ (F.args_enumerate_next_1 _))))
  show wpAny _ _ (field (.ref e) 2 >>= _) _ _ _
  refine wpAny_bind (wpAny_field he rfl (x := .ref it) rfl ?_)
  refine wpAny_bind (wpAny_nextOf_tuple_end hh hit hl hx fun h' x he' hx' => ?_)
  obtain ⟨o, ho, hc⟩ := hx'
  refine wpAny_bind (wpAny_isInstance (T := "StopIteration") (b := true) ⟨o, ho, hc⟩ isSubtype_stop ?_)
  exact wpAny_pure (hQ _ he')
end
end Kp
namespace Kp
open PySem PySem.Spec PyProof.Rows L2
/-- the tuple at a as it stands at each turn, each item in a new pair -/
def IteT (K : PySem.W.Frag) (a : Addr) : It :=
  ⟨fun i H => ∃ (xs : List V) (x : V), SqT K H a xs ∧ xs[i]? = some x, fun i H v H' => ∃ T x, v = .ref T ∧ H T = none ∧ H' = upd H T (.tup [.int (i : Nat), x]) ∧ ∀ xs, SqT K H a xs → xs[i]? = some x, fun i H => ∃ xs : List V, SqT K H a xs ∧ xs.length ≤ i⟩
theorem isTup_is {h : Heap} {a : Addr} {its : Array Value} (p : IsTup h a its) : h.IsTuple a its := p
theorem turn_enumT {P : Program} {w : World} {K : PySem.W.Frag} {elts : List Expr} {kk : Nat} {tpos : Pos} (a e it : Addr) :
    Turn P w K (.Tuple elts kk tpos) (IteT K a) [e, it] e (fun i h => (∃ old, IsEnum h e it ((i : Nat) : Int) old) ∧ h.IsTupleIter it a i ∧ e ≠ it) where
  mem := by simp
  obj := fun i h st b hb => by
    obtain ⟨⟨old, he⟩, ⟨o, ho, hc, hd⟩, _⟩ := st
    have e' : b = e ∨ b = it := by simpa using hb
    rcases e' with z | z
    · rw [z]; exact ⟨_, he, fun v q => nomatch q⟩
    · rw [z]; exact ⟨o, ho, fun v q => by rw [hd] at q; cases q⟩
  keep := fun i h h' st k => let ⟨⟨old, he⟩, hi, hne⟩ := st; ⟨⟨old, k e (by simp) _ he⟩, hi.at fun o q => k it (by simp) o q, hne⟩
  item := by
    intro X hP hw hK hc i pins s σ H E I hf st hg
    subst hP hw hK
    obtain ⟨⟨old, he⟩, hit, hne⟩ := st
    obtain ⟨xs, x, hq, hx⟩ := hg
    obtain ⟨its, rv, p, hz⟩ := I.tuple hq
    obtain ⟨u, hu, ru⟩ := rv.get hx
    have hel : e < s.heap.objs.size := Heap.lt_size he
    have hil : it < s.heap.objs.size := by obtain ⟨_, q, _⟩ := hit; exact Heap.lt_size q
    have hea : e ≠ a := fun z => by
      obtain ⟨o, ho, hcl, _⟩ := p
      have he' : s.heap.get? e = some _ := he
      rw [z, ho] at he'
      cases he'
      exact absurd (Value.type.inj hcl) (by decide)
    have hia : a ≠ it := fun z => by
      obtain ⟨o, ho, hcl, _⟩ := p
      obtain ⟨o2, ho2, hcl2, _⟩ := hit
      rw [z, ho2] at ho
      cases ho
      rw [hcl2] at hcl
      exact absurd (Value.type.inj hcl) (by decide)
    have hlt : i < its.toArray.size := by
      have := (List.getElem?_eq_some_iff.mp hu).1
      simpa using this
    refine wpAny_pyNext_enum_itemD (Draws.tuple (A := X.A.in1) (I.ok.hd hc) it a hia its.toArray) he ⟨hit, p⟩ hlt hne (by simp [hne, hea]) fun x' h' tk hP ho hst' hT hsz hk => ?_
    have ex : x' = u := by
      have h1 : its[i]? = some x' := by simpa using hP
      rw [hu] at h1
      exact (Option.some.inj h1).symm
    subst ex
    refine ⟨_, rfl, wpAny_letOwnedTupleGo_enum (s := { s with heap := h', toks := tk + 1 }) ho fun h'' he' sb => ?_⟩
    have hT2 : h''.get? s.heap.objs.size = some { cls := .type "tuple", data := .seq #[.int i tk, x'] } := (sb.2 _ (Nat.ne_of_gt hel)).trans hT
    have new : ObjOk X.prog X.w (upd H s.heap.objs.size (.tup [.int (i : Nat), x])) h'' s.heap.objs.size (.tup [.int (i : Nat), x]) :=
      ⟨by show 2 ≤ sizeLine; decide, [.int i tk, x'], .cons ⟨_, rfl⟩ (.cons ru .nil), ⟨_, hT2, rfl, _, rfl⟩⟩
    have I1 : Inv X pins σ (upd H s.heap.objs.size (.tup [.int (i : Nat), x])) { s with heap := h'', toks := tk + 1 } :=
      I.turnedNew (ch := [e, it]) (fun b ob hb q => (sb.2 b (fun z => hb (by simp [z]))).trans (hk b ob (fun z => hb (by simp [z])) (fun z => hb (by simp [z])) q)) hf (Nat.le_refl _) new
    refine ⟨.ref s.heap.objs.size, _, I1, rfl, ⟨_, x, rfl, I.hok.fresh (Nat.le_refl _), rfl, fun ys hy => by rw [I.tuple_inj hy hq]; exact hx⟩, ⟨⟨x', ?_⟩, hst'.1.at fun o q => (sb.2 it (Ne.symm hne)).trans q, hne⟩, fun b hb => ?_⟩
    · have e1 : ((i + 1 : Nat) : Int) = (i : Int) + 1 := by omega
      rw [e1]; exact he'
    · have hb' : b < s.heap.objs.size := by
        have e' : b = e ∨ b = it := by simpa using hb
        rcases e' with z | z
        · rw [z]; exact hel
        · rw [z]; exact hil
      rw [upd_ne (Nat.ne_of_lt hb')]
      exact (hf b hb).1
  done := by
    intro X hP hw hK hc i pins s σ H E I hf st hg
    subst hP hw hK
    obtain ⟨⟨old, he⟩, hit, hne⟩ := st
    obtain ⟨xs, hq, hx⟩ := hg
    obtain ⟨its, rv, p, hz⟩ := I.tuple hq
    obtain ⟨f0, f1, f2, f3, f4, f5⟩ := hf it (by simp)
    have hl := rv.length
    exact pyNext_enum_endT (I.ok.hd hc) he hit p (by simp; omega) fun h' eb => ⟨rfl, I.turned (t' := s.toks) (fun b o hb q => eb b o hb q) f0 f1 f3 f4 f5⟩
  self := fun A i s Q E st h => let ⟨⟨_, he⟩, _⟩ := st; wpAny_pyIter_enum he h
def iEnumT (K : PySem.W.Frag) (ta : TA) : TI := fun σ H R => ta σ H fun vs H1 => ∃ a xs, vs = [.ref a] ∧ SqT K H1 a xs ∧ R (IteT K a) H1
theorem pi_enumT {X : Cx} {K : PySem.W.Frag} {e : Expr} {ta : TA} {p pos tpos : Pos} {elts : List Expr} {kk : Nat} (hK : X.K = K) (hg : Gl X "enumerate") (hm : X.mg "enumerate" = none) (ha : PA X [e] ta) (hs : starEach [e] X.env = [(false, eval e X.env)] := by rfl) :
    PI X (.Tuple elts kk tpos) (.Call (.Name "enumerate" p) [e] [] pos) (iEnumT K ta) := by
  subst hK
  refine ⟨fun pins s σ H R I h => ?_⟩
  refine Call_ (ld_blt I hg hm boot_enumerate (PyProof.Rows.callWith_type1 (thn (ha.run pos pins s σ H _ I h) fun us s1 ⟨vs, H1, I1, r1, q1⟩ => ?_) hs rfl))
  obtain ⟨a, xs, ex, hq, q⟩ := q1
  subst ex
  cases r1 with
  | cons r rr =>
    cases rr
    cases r
    obtain ⟨its, rv, p', hz⟩ := I1.tuple hq
    refine call_enumerate_tup p' fun h' he hit hsz hk => wpAny_pyIter_enum he ?_
    have I2 : Inv X pins σ H1 { s1 with heap := h' } := I1.kept (t' := s1.toks) hk
    refine ⟨s1.heap.objs.size + 1, [s1.heap.objs.size + 1, s1.heap.objs.size], _, _, H1, rfl, I2, turn_enumT a (s1.heap.objs.size + 1) s1.heap.objs.size, ⟨⟨.none, he⟩, hit, Nat.succ_ne_self _⟩, fun b hb => ?_, q⟩
    have e' : b = s1.heap.objs.size + 1 ∨ b = s1.heap.objs.size := by simpa using hb
    have hle : s1.heap.objs.size ≤ b := by
      rcases e' with z | z
      · rw [z]; exact Nat.le_add_right _ _
      · rw [z]; exact Nat.le_refl _
    exact I1.fpOk hle (I1.hok.fresh hle)
theorem walk_enumT {K : PySem.W.Frag} {a : Addr} {xs : List V} : Walk (IteT K a) xs.length (fun H => SqT K H a xs) (YPair (fun i => some (.int (i : Nat))) (fun i => xs[i]?)) := by
  refine ⟨fun i _ hi q => ⟨xs, xs[i], q, by simp [hi]⟩, fun _ q => ⟨xs, q, Nat.le_refl _⟩, fun i H v H' _ q y => ?_⟩
  obtain ⟨T, x, h1, h2, h3, h4⟩ := y
  exact ⟨T, .int (i : Nat), x, h1, h2, h3, rfl, h4 xs q⟩
/-! ### t[::-1] of a tuple -/
def tRevT (K : PySem.W.Frag) (te : TE) : TE := fun σ H Q => te σ H fun x H1 => ∃ a xs, x = .ref a ∧ SqT K H1 a xs ∧ ∀ p, H1 p = none → Q (.ref p) (upd H1 p (.tup xs.reverse))
/-- a dict comprehension over any walk -/
theorem dc_it {J : It} {n : Nat} {G : Hp → Prop} {Y : Nat → Hp → V → Hp → Prop} (w : Walk J n G Y) {g : TG} {tt : TT} {tk tv : TE} {vs : List Nat} {σ : L2.St} {H1 : Hp} {D : Addr} {Qd : Hp → Prop} (Pv : Nat → Hp → Prop) (h0 : Pv 0 (upd H1 D (.dK []))) (hG : ∀ i H, i ≤ n → Pv i H → G H)
    (hs : ∀ i x H H', i < n → Pv i H → Y i H x H' → g x (wipe σ vs) H' fun σ2 H2 => wipe σ2 vs = wipe σ vs ∧ tt σ2 H2 fun b H3 =>
      if b = true then tk σ2 H3 fun y H4 => tv σ2 H4 fun z H5 => ∃ kvs k, y = kV k ∧ H5 D = some (.dK kvs) ∧ kvs.length < sizeLine ∧ Pv (i + 1) (upd H5 D (.dK (putK kvs k z))) else Pv (i + 1) H3) (hd : ∀ H, Pv n H → Qd H) :
    ∃ W : Nat → Nat → Hp → Prop, (∃ m, W 0 m (upd H1 D (.dK []))) ∧ ∀ i m H, W i m H →
      (J.stop i H ∧ Qd H) ∨ (J.go i H ∧ ∃ Nx : Hp → Prop, (∀ H', Nx H' → ∃ m', m' < m ∧ W (i + 1) m' H') ∧ ∀ x H', J.yld i H x H' → g x (wipe σ vs) H' fun σ2 H2 => wipe σ2 vs = wipe σ vs ∧ tt σ2 H2 fun b H3 =>
        if b = true then tk σ2 H3 fun y H4 => tv σ2 H4 fun z H5 => ∃ kvs k, y = kV k ∧ H5 D = some (.dK kvs) ∧ kvs.length < sizeLine ∧ Nx (upd H5 D (.dK (putK kvs k z))) else Nx H3) := by
  refine ⟨fun i m H => m = n - i ∧ i ≤ n ∧ Pv i H, ⟨n, by simp, Nat.zero_le _, h0⟩, ?_⟩
  rintro i m H ⟨rfl, hi, p⟩
  have q := hG i H hi p
  by_cases hlt : i < n
  · refine .inr ⟨w.goes i H hlt q, Pv (i + 1), fun H' p' => ⟨n - (i + 1), by omega, rfl, hlt, p'⟩, fun x H' y => hs i x H H' hlt p (w.yields i H x H' hlt q y)⟩
  · have e : i = n := by omega
    subst e
    exact .inl ⟨w.stops H q, hd H p⟩
end Kp
set_option maxHeartbeats 4000000
namespace Kp
open PySem PySem.Spec PyProof.Rows HT
section
variable {prog : Program} {w : World} {A : Around} {E : Value → Shared → Prop} {s : Shared}
theorem adjust_rev (n : Nat) : Builtin.Slice.sliceAdjust none none (-1) (n : Int) = ((n : Int) - 1, -1) := by
  unfold Builtin.Slice.sliceAdjust
  simp
theorem places_rev (n : Nat) : Builtin.Slice.slicePlaces ((n : Int) - 1) (-1) (-1) = n := by
  unfold Builtin.Slice.slicePlaces
  rw [if_neg (by decide)]
  by_cases h : n = 0
  · subst h
    rfl
  · rw [if_pos (by omega)]
    simp
theorem fm_map {α β : Type} {f : α → Option β} {g : α → β} : ∀ l : List α, (∀ x ∈ l, f x = some (g x)) → l.filterMap f = l.map g
  | [], _ => rfl
  | a :: l, h => by
    rw [List.filterMap_cons, h a List.mem_cons_self, List.map_cons, fm_map l fun x hx => h x (List.mem_cons_of_mem _ hx)]
theorem pick_rev (xs : Array Value) : ((List.range xs.size).filterMap fun (m : Nat) => xs[(((xs.size : Int) - 1) + (m : Int) * (-1)).toNat]?) = xs.toList.reverse := by
  have e : (List.range xs.size).filterMap (fun (m : Nat) => xs[(((xs.size : Int) - 1) + (m : Int) * (-1)).toNat]?) = (List.range xs.size).map fun m => (xs.toList.reverse)[m]?.getD .none := by
    refine fm_map _ fun m hm => ?_
    have hm' : m < xs.size := List.mem_range.mp hm
    have e1 : (((xs.size : Int) - 1) + (m : Int) * (-1)).toNat = xs.size - 1 - m := by omega
    have h1 : xs.size - 1 - m < xs.size := by omega
    rw [e1, Array.getElem?_eq_getElem h1]
    have h2 : m < xs.toList.reverse.length := by simpa using hm'
    show some _ = some _
    rw [List.getElem?_eq_getElem h2]
    simp [List.getElem_reverse]
  rw [e]
  apply List.ext_getElem
  · simp
  · intro i h1 h2
    simp only [List.getElem_map, List.getElem_range]
    rw [List.getElem?_eq_getElem h2]
    rfl
theorem applied_rev {sl : Addr} {vk : Value} {n : Nat} {Q : Int × Int × Nat → Shared → Prop} (hs : s.heap.IsSliceOf sl .none .none vk) (ps : IsPart vk (some (-1)))
    (h : Q ((n : Int) - 1, -1, n) s) : wpAny (model prog w) A (Builtin.Slice.sliceApplied (.ref sl) (pure (n : Int))) Q E s := by
  obtain ⟨os, hos, hcs, hds⟩ := id hs
  unfold Builtin.Slice.sliceApplied Builtin.Slice.sliceFields
  refine wpAny_bind (wpAny_bind (wpAny_field hos hds (x := .none) rfl (wpAny_bind (wpAny_field hos hds (x := .none) rfl (wpAny_bind (wpAny_field hos hds (x := vk) rfl (wpAny_pure ?_)))))))
  refine wpAny_bind (slicePart_ ps ?_)
  show wpAny _ _ (if ((-1 : Int) == 0) = true then _ else _) _ _ s
  rw [if_neg (by decide)]
  refine wpAny_bind (slicePart_none (wpAny_bind (slicePart_none (wpAny_bind (wpAny_pure ?_)))))
  show wpAny _ _ (match Builtin.Slice.sliceAdjust none none (-1) (n : Int) with | (lo, hi) => pure (lo, (-1 : Int), Builtin.Slice.slicePlaces lo hi (-1))) _ _ s
  rw [adjust_rev]
  show wpAny _ _ (pure ((n : Int) - 1, (-1 : Int), Builtin.Slice.slicePlaces ((n : Int) - 1) (-1) (-1))) _ _ s
  rw [places_rev]
  exact wpAny_pure h
theorem getItem_tuple_rev {t sl : Addr} {items : Array Value} {vk : Value} {Q : Value → Shared → Prop} (ht : IsTup s.heap t items) (hs : s.heap.IsSliceOf sl .none .none vk) (ps : IsPart vk (some (-1)))
    (h : Q (.ref s.heap.objs.size) { s with heap := s.heap.push { cls := .type "tuple", data := .seq items.toList.reverse.toArray } })
    (hsz : items.size ≤ sizeLine) : wpAny (model prog w) A (getItem (.ref t) (.ref sl)) Q E s := by
  have htake : sizeOk (.seq items.toList.reverse.toArray) := by
    show items.toList.reverse.toArray.size ≤ sizeLine
    rw [List.size_toArray, List.length_reverse, Array.length_toList]
    exact hsz
  obtain ⟨os, hos, hcs, hds⟩ := id hs
  have hTs : s.TypeIs (.ref sl) "slice" := ⟨os, hos, hcs⟩
  unfold getItem
  try with_reducible refine wpAny_holding ?_
  first | refine wpAny_bind (wpAny_pure ?_) | skip
  refine wpAny_bind (wpAny_sequenceKey ht.typeIs (by decide) ?_)
  refine wpAny_bind (wpAny_callSpecial?_slot (name := Str.ofString "__getitem__") ht.typeIs PyProof.Rows.slot_tuple_getitem
    (wpAny_call_entry PyProof.Rows.slot_tuple_getitem ht.typeIs entry_tuple_getitem ?_ (args_tuple_getitem _ _)))
  show wpAny _ _ (Builtin.Tuple.tupleItemsOf (.ref t) >>= _) _ _ s
  refine wpAny_bind (tupleItemsOf_ ht ?_)
  refine wpAny_bind (wpAny_typeOf hTs ?_)
  rw [if_pos (by decide)]
  refine wpAny_bind (applied_rev hs ps ?_)
  have hno : ¬ ((((items.size : Int) - 1) == 0 && (-1 : Int) == 1 && items.size == items.size) = true) := by
    rw [show ((-1 : Int) == 1) = false from by decide, Bool.and_false]
    simp
  show wpAny _ _ (if (((items.size : Int) - 1) == 0 && (-1 : Int) == 1 && items.size == items.size) = true then _ else _) _ _ s
  rw [if_neg hno, pick_rev]
  first
    | exact wpAny_bind (m := Builtin.Tuple.tupleExact _) (wpAny_newObj_type (wpAny_pure ⟨_, rfl, wpAny_pure h⟩) htake)
    | exact wpAny_bind (m := Builtin.Tuple.tupleExact _) (wpAny_newObj_type (wpAny_bind (wpAny_pure (wpAny_pure ⟨_, rfl, wpAny_pure h⟩))) htake)
    | exact wpAny_bind (wpAny_bind (m := Builtin.Tuple.tupleExact _) (wpAny_newObj_type (wpAny_pure (wpAny_pure ⟨_, rfl, wpAny_pure h⟩)) htake))
    | exact wpAny_bind (wpAny_bind (m := Builtin.Tuple.tupleExact _) (wpAny_newObj_type (wpAny_pure ⟨_, rfl, wpAny_pure h⟩) htake))
end
end Kp
namespace Kp
open PySem PySem.Spec PyProof.Rows L2
theorem pe_revT {X : Cx} {K : PySem.W.Frag} {e : Expr} {te : TE} {k : Nat} {p1 p2 p3 pos : Pos} (hK : X.K = K) (he : PE X e te) : PE X (.Subscript e (.Slice none none (some (.UnaryOp .USub (.Constant (.int 1) k p1) p2)) p3) pos) (tRevT K te) := by
  subst hK
  refine ⟨fun pins s σ H Q I h => ?_⟩
  refine Subscript_ (thn (he.run pins s σ H _ I h) fun v s1 ⟨x, H1, I1, r1, q1⟩ => ?_)
  obtain ⟨a, xs, ex, hx, q⟩ := q1
  subst ex
  cases r1
  have hst : PO X (some (.UnaryOp .USub (.Constant (.int 1) k p1) p2)) (tPart (tUn (rU fun i => .int (-i)) (tC (.int 1)))) := po_some (pe_un un_neg pe_int)
  refine wpAny_Slice ?_
  rw [evalPart_none]
  refine wpAny_pure ?_
  refine wpAny_pure ?_
  refine thn (hst.run pins s1 σ H1 (fun o H4 => o = some (-1) ∧ H4 = H1) I1 ⟨1, rfl, -1, rfl, rfl, rfl⟩) fun vs s4 ⟨o, H4, I4, ps, eo, e4⟩ => ?_
  subst eo e4
  have I5 : Inv X pins σ H4 { s4 with heap := s4.heap.push { cls := .type "slice", data := .fields #[.none, .none, vs] } } := I4.kept (t' := s4.toks) fun b ob q => Heap.get?_push_of_some _ q
  obtain ⟨its, r, ht, hz⟩ := I5.tuple hx
  have hlen := r.length
  show wpAny (model X.prog X.w) X.A (subscriptTail e (.Slice none none (some (.UnaryOp .USub (.Constant (.int 1) k p1) p2)) p3) (.ref a) (.ref s4.heap.objs.size)) (EP X pins σ Q) X.xe { s4 with heap := s4.heap.push { cls := .type "slice", data := .fields #[.none, .none, vs] } }
  refine tail_any (ops := [.ref a, .ref s4.heap.objs.size]) ht.typeIs (PyProof.Rows.slot_tuple_getitem.lookup) ?_ (by with_unfolding_all rfl)
  refine getItem_tuple_rev ht (Heap.IsSliceOf.new _ .none .none vs) ps ?_ (by rw [List.size_toArray]; omega)
  refine ⟨.ref _, _, I5.laid (t' := s4.toks) (o := .tup xs.reverse) (fun b ob q => Heap.get?_push_of_some _ q) (Nat.le_refl _) ?_, rfl, q _ (I5.hok.fresh (Nat.le_refl _))⟩
  exact ⟨by rw [List.length_reverse]; exact hz, _, r.reverse, IsTup.new _ _⟩
end Kp
set_option maxHeartbeats 4000000
namespace Kq
open PySem PySem.Spec PyProof.Rows L2 Kp
open Evl (Ev EvL EvT EvA given)
/-! ### orders -/
/-- an order at o: its words, all unlike -/
def Places (kvs : List (Key × V)) (ws : List Str) : Prop := ∀ (j : Nat) (u : Str), ws[j]? = some u → valV kvs (.inr u) = some (.int (j : Nat))
def OrdAt (CG CO : Addr) (H : Hp) (o : Addr) (ws : List Str) : Prop := ∃ dx t g d us kvs, H o = some (.ins CO dx [("row", .ref t), ("group", .ref g), ("place_of", .ref d)]) ∧ H t = some (.tup (ws.map V.str)) ∧ GrpAt CG H g us ∧ IsG us ws ∧ H d = some (.dK kvs) ∧ Places kvs ws
theorem OrdAt.ext {CG CO : Addr} {H H' : Hp} {o : Addr} {ws : List Str} (h : OrdAt CG CO H o ws) (e : Ext H H') : OrdAt CG CO H' o ws :=
  let ⟨dx, t, g, d, us, kvs, a, b, c, i, k, q⟩ := h
  ⟨dx, t, g, d, us, kvs, e _ _ a, e _ _ b, c.ext e, i, e _ _ k, q⟩
/-- words that an order takes -/
structure OkW (ws : List Str) : Prop where
  wd : ∀ w ∈ ws, Wordy w
  nd : ws.Nodup
  ne : ws ≠ []
  few : ws.length ≤ 24
def spOI (K : PySem.W.Frag) (CG CO : Addr) : Sp := fun vs H Q _ => ∃ (x p dx : Addr) (ws : List Str), vs = [.ref x, .ref p] ∧ H x = some (.ins CO dx []) ∧ H p = some (.tup (ws.map V.str)) ∧ OkW ws ∧
  ∀ (g d : Addr) (us : List Str) (kvs : List (Key × V)) (H' : Hp), IsG us ws → H' d = some (.dK kvs) → Places kvs ws → (∀ b o, b ≠ x → H b = some o → H' b = some o) → H' x = some (.ins CO dx [("row", .ref p), ("group", .ref g), ("place_of", .ref d)]) → GrpAt CG H' g us → Q .non H'
section
variable {P : Program} {w : World} {K : PySem.W.Frag} {mg : Str → Option Value} {base : Heap} {tL tM tA : Tok} {ad : Ad}
theorem ok_order_init (T : Tx K mg tL tM tA ad) : FnR P w K mg base (L2.CX P w) 4 ad.oI (spStar 1 (spOI K ad.CG ad.CO)) := by
  obtain ⟨fd, F⟩ := T.F_Order_init
  have B := T.B
  have G_is_word := ok_is_word (P := P) (w := w) (base := base) T
  have G_Group_init := ok_group_init (P := P) (w := w) (base := base) T
  refine fnS (ps := ["self"]) F sc_Order_init (fun kV doc pm an cdv ct => StX.bind_star1 (B := fun us => bindArgs (PySem.W.fnOf "__init__" "Order.__init__" (defArgs s_Order_init) (defBody s_Order_init) (defScope s_Order_init) .none kV doc pm an cdv ct) ⟨us, []⟩) (fun _ => rfl) (fun _ _ _ => rfl)) (fun cdv A outer s H vs Q E hr h => ?_)
  · refine ⟨_, PSs.nox (pss_cons (ps_if (pt_cmpR op_eq (pe_callB (call_lenK (K := K) rfl) (by rfl) B.n_len (by decide +kernel) (pa_cons (pv 1) pa_nil)) pe_int (nomark _))
(pss_one ps_never)
pss_nil)
(pss_cons (ps_for PassesOwn.never rfl (pi_tupK (K := K) rfl (pv 1)) (pg_name (i := 2) sc_Order_init.nd rfl (Or.inl rfl))
(pss_one (ps_if (pt_not (pt_val (pe_callR G_is_word (hr.mono (by decide)) T.k_is_word (by rfl) T.g_is_word passL (pa_cons (pv 2) pa_nil))))
(pss_one ps_never)
pss_nil)))
(pss_cons (ps_if (pt_cmpR op_lt (pe_callB cr_lenSet (by rfl) B.n_len (by decide +kernel) (pa_cons (pe_callTy (cr_setOf rfl) (by rfl) B.n_set (by decide +kernel) (pa_cons (pv 1) pa_nil)) pa_nil)) (pe_callB (call_lenK (K := K) rfl) (by rfl) B.n_len (by decide +kernel) (pa_cons (pv 1) pa_nil)) (nomark _))
(pss_one ps_never)
pss_nil)
(pss_cons (ps_if (pt_cmpR op_gt (pe_callB (call_lenK (K := K) rfl) (by rfl) B.n_len (by decide +kernel) (pa_cons (pv 1) pa_nil)) (pe_glob (v := .int 24) (by rfl) T.g_MOST_WORDS_checks ⟨_, rfl⟩) (nomark _))
(pss_one ps_never)
pss_nil)
(pss_cons (ps_fld (pv 0) (pe_callTy (call_tuple_ofK (K := K) rfl) (by rfl) B.n_tuple (by decide +kernel) (pa_cons (pv 1) pa_nil)) rfl)
(pss_cons (ps_fld (pv 0) (pe_mkS1 (E := E0) T.G.mak G_Group_init (hr.mono (by decide)) (by rfl) T.G.g passL (pv 1)) rfl)
(pss_one (ps_fld (pv 0) (pe_dc (own := [("at", 3), ("word", 2)]) (tt := tYes) rfl sc_Order_init.nd (pi_enumT (K := K) rfl (by rfl) B.n_enumerate (pa_cons (pv 1) pa_nil)) (blkOk_by (own := [("at", 3), ("word", 2)]) (N := N_Order_init) (sc := defScope s_Order_init) (by decide +kernel)) (fun _ _ _ _ _ => (pg_tupK (n := 2) (K := K) rfl rfl (pgs_cons (pg_name (i := 3) sc_Order_init.nd rfl (Or.inl rfl)) (pgs_cons (pg_name (i := 2) sc_Order_init.nd rfl (Or.inl rfl)) pgs_nil)))) (fun _ _ _ _ _ => pts_nil) (fun _ _ _ _ _ => by exact (pv 2)) (fun _ _ _ _ _ => by exact (pv 3))) rfl)))))))), ?_⟩
    obtain ⟨x, p, dx, ws, rfl, hx, hp, ok, hQ⟩ := h
    have hw := ok.wd
    have lpos : 0 < ws.length := List.length_pos_iff.mpr ok.ne
    have l24 := ok.few
    refine ⟨_, rfl, _, ws.length, rfl, .inr ⟨_, SqT.of hp, by simp⟩, rfl, _, rfl, ?_⟩
    refine ite2 (fun c => ?_) (fun _ => ?_)
    · exact absurd (V.int.inj (of_decide_eq_true c)) (by omega)
    refine ⟨_, rfl, p, rfl, ⟨_, SqT.of hp⟩, ?_⟩
    refine for_tup (xs := ws.map V.str) (fun i (σ' : L2.St) H' => ∃ a2, σ' = [some (V.ref x), some (V.ref p), a2, none] ∧ H' = H) ?_ (fun i σ' H' _ hp' => ?_) (fun i y σ' H' hy hp' => ?_) (fun σ' H' hp' => ?_)
    · exact ⟨_, rfl, rfl⟩
    · obtain ⟨a2, rfl, rfl⟩ := hp'
      exact SqT.of hp
    · obtain ⟨a2, rfl, rfl⟩ := hp'
      obtain ⟨u, hu, rfl⟩ := str_at hy
      refine ⟨_, rfl, u, rfl, hw u (List.mem_of_getElem? hu), _, rfl, ?_⟩
      refine iteF ?_
      exact ⟨_, rfl, rfl⟩
    · obtain ⟨a2, rfl, rfl⟩ := hp'
      refine ⟨_, rfl, p, ws, rfl, SqT.of hp, by omega, fun a n ha hn => ?_⟩
      generalize hh1 : upd H' a _ = H1
      have e1 : Ext H' H1 := hh1 ▸ Ext.upd ha
      have o1 : H1 a = some (TSO w a (fun x => decide (x ∈ ws)) n) := by
        rw [← hh1]
        exact upd_same
      refine ⟨a, _, n, rfl, o1, fun ys nd mem ln => ?_⟩
      refine ⟨_, rfl, _, ws.length, rfl, .inr ⟨_, SqT.of (e1 _ _ hp), by simp⟩, _, _, rfl, rfl, _, rfl, ?_⟩
      have nle : ws.length ≤ n := ln ▸ nodup_le ok.nd fun y hy => (mem y).mpr (decide_eq_true hy)
      rw [decide_eq_false (by omega)]
      refine iteF ?_
      refine ⟨_, rfl, _, ws.length, rfl, .inr ⟨_, SqT.of (e1 _ _ hp), by simp⟩, _, _, rfl, rfl, _, rfl, ?_⟩
      rw [decide_eq_false (by omega)]
      refine iteF ?_
      refine ⟨_, rfl, p, _, rfl, .inr ⟨SqT.of (e1 _ _ hp), ?_⟩⟩
      refine ⟨_, rfl, x, ad.CO, dx, [], rfl, e1 _ _ hx, T.O.cl, T.O_row, by decide, ?_⟩
      generalize hh2 : upd H1 x _ = H2
      have px : p ≠ x := fun z => by rw [z, hx] at hp; cases hp
      have ax : a ≠ x := ne_of_none hx ha |>.symm
      have k2 : ∀ b o, b ≠ x → H' b = some o → H2 b = some o := fun b o nb hb => by
        rw [← hh2, upd_ne nb]
        exact e1 _ _ hb
      have hx2 : H2 x = some (.ins ad.CO dx [("row", .ref p)]) := by
        rw [← hh2]
        exact upd_same
      have hp2 : H2 p = some (.tup (ws.map V.str)) := k2 _ _ px hp
      refine ⟨_, rfl, p, _, rfl, .inl (SqT.of hp2), ?_⟩
      refine mk_group hw (by omega) (fun us ig => by have := ig.len; omega) fun g us H3 ig e3 hg0 hg => ?_
      refine ⟨_, rfl, x, ad.CO, dx, _, rfl, e3 _ _ hx2, T.O.cl, T.O_group, by simp, ?_⟩
      generalize hh4 : upd H3 x _ = H4
      have k4 : ∀ b o, b ≠ x → H3 b = some o → H4 b = some o := fun b o nb hb => by
        rw [← hh4, upd_ne nb]
        exact hb
      have hx4 : H4 x = some (.ins ad.CO dx [("row", .ref p), ("group", .ref g)]) := by
        rw [← hh4]
        exact upd_same
      have hp4 : H4 p = some (.tup (ws.map V.str)) := k4 _ _ px (e3 _ _ hp2)
      have hg4 : GrpAt ad.CG H4 g us := by
        obtain ⟨dy, t, ga, gb⟩ := hg
        have gx : g ≠ x := ne_of_none hx2 hg0 |>.symm
        refine ⟨dy, t, k4 _ _ gx ga, k4 _ _ (fun z => ?_) gb⟩
        rw [z, e3 _ _ hx2] at gb
        cases gb
      refine ⟨_, rfl, p, _, rfl, SqT.of hp4, fun D hD => ?_⟩
      have xD : x ≠ D := ne_of_none hx4 hD
      refine dc_it (walk_enumT (xs := ws.map V.str)) (fun i H5 => ∃ kvs, H5 D = some (.dK kvs) ∧ kvs.length ≤ i ∧ Ext H4 H5 ∧ ∀ (j : Nat) (u : Str), j < i → ws[j]? = some u → valV kvs (.inr u) = some (.int (j : Nat))) ?_ ?_ (fun i y H5 H6 hi hp' hy => ?_) (fun H5 hp' => ?_)
      · exact ⟨[], upd_same, Nat.le_refl _, Ext.upd hD, fun j u h => absurd h (Nat.not_lt_zero _)⟩
      · exact fun i H5 _ hq => SqT.of (hq.choose_spec.2.2.1 _ _ hp4)
      · obtain ⟨kvs, hd, hl, e, hpl⟩ := hp'
        obtain ⟨T, x1, x2, rfl, hT, rfl, h1, h2⟩ := hy
        cases h1
        obtain ⟨u, hu, rfl⟩ := str_at h2
        have eT := e.trans (Ext.upd (o := HO.tup [.int ((i : Nat) : Int), .str u]) hT)
        have dT : D ≠ T := ne_of_none hd hT
        refine ⟨T, _, rfl, SqT.of upd_same, rfl, ?_⟩
        refine ⟨_, _, rfl, _, _, rfl, rfl, rfl, ?_⟩
        refine ⟨_, rfl, _, rfl, kvs, .inr u, rfl, by rw [upd_ne dT]; exact hd, by have := hl; rw [List.length_map] at hi; exact Nat.lt_of_le_of_lt (Nat.le_trans hl (by omega)) (show 24 < sizeLine by decide), ?_⟩
        refine ⟨_, upd_same, ?_, fun b o hb => ?_, fun j v hj hv => ?_⟩
        · have := length_putK kvs (.inr u) (V.int ((i : Nat) : Int))
          omega
        · rw [upd_ne (ne_of_none hb hD)]
          exact eT _ _ hb
        · rw [valV_put]
          by_cases e1 : v = u
          · subst e1
            rw [if_pos rfl]
            have hjl := (List.getElem?_eq_some_iff.mp hv).1
            have ej : j = i := (List.getElem?_inj hjl ok.nd).mp (hv.trans hu.symm)
            rw [ej]
          · rw [if_neg (fun z => e1 (Sum.inr.inj z))]
            refine hpl j v ?_ hv
            rcases Nat.lt_or_ge j i with h | h
            · exact h
            · have ej : j = i := by omega
              rw [ej, hu] at hv
              exact absurd (Option.some.inj hv).symm e1
      · obtain ⟨kvs, hd, hl, e, hpl⟩ := hp'
        refine ⟨_, rfl, x, ad.CO, dx, _, rfl, e _ _ hx4, T.O.cl, T.O_place_of, by simp, ?_⟩
        refine hQ g D us kvs _ ig (by rw [upd_ne xD.symm]; exact hd) (fun j u hu => hpl j u (by rw [List.length_map]; exact (List.getElem?_eq_some_iff.mp hu).1) hu) (fun b o nb hb => ?_) upd_same ?_
        · rw [upd_ne nb]
          exact e _ _ (k4 _ _ nb (e3 _ _ (k2 _ _ nb hb)))
        · obtain ⟨dy, t, ga, gb⟩ := hg4
          refine ⟨dy, t, ?_, ?_⟩
          · have gx : g ≠ x := fun z => by
              rw [z] at hg0
              rw [hx2] at hg0
              cases hg0
            rw [upd_ne gx]
            exact e _ _ ga
          · have tx : t ≠ x := fun z => by
              rw [z, hx4] at gb
              cases gb
            rw [upd_ne tx]
            exact e _ _ gb
end
end Kq
set_option maxHeartbeats 4000000
namespace Kq
open PySem PySem.Spec PyProof.Rows L2 Kp
open Evl (Ev EvL EvT EvA given)
/-- the words from a place to another one -/
def seg (ws : List Str) (lo hi : Nat) : List Str := (ws.drop lo).take (hi + 1 - lo)
theorem seg_get {ws : List Str} {lo hi k : Nat} (h : lo + k ≤ hi) : (seg ws lo hi)[k]? = ws[lo + k]? := by
  unfold seg
  rw [List.getElem?_take_of_lt (by omega), List.getElem?_drop]
theorem seg_len {ws : List Str} {lo hi : Nat} (h1 : lo ≤ hi) (h2 : hi < ws.length) : (seg ws lo hi).length = hi + 1 - lo := by
  unfold seg
  rw [List.length_take, List.length_drop]
  omega
theorem seg_mem {ws : List Str} {lo hi : Nat} {u : Str} : u ∈ seg ws lo hi ↔ ∃ j, lo ≤ j ∧ j ≤ hi ∧ ws[j]? = some u := by
  constructor
  · intro h
    obtain ⟨k, hk⟩ := List.mem_iff_getElem?.mp h
    have hl := (List.getElem?_eq_some_iff.mp hk).1
    unfold seg at hl
    rw [List.length_take] at hl
    have : lo + k ≤ hi := by omega
    rw [seg_get this] at hk
    exact ⟨lo + k, by omega, this, hk⟩
  · rintro ⟨j, h1, h2, hj⟩
    have e : (seg ws lo hi)[j - lo]? = some u := by
      rw [seg_get (by omega), show lo + (j - lo) = j from by omega]
      exact hj
    exact List.mem_of_getElem? e
theorem seg_nd {ws : List Str} {lo hi : Nat} (h : ws.Nodup) : (seg ws lo hi).Nodup := (List.take_sublist _ _).nodup ((List.drop_sublist _ _).nodup h)
theorem seg_sub {ws : List Str} {lo hi : Nat} {u : Str} (h : u ∈ seg ws lo hi) : u ∈ ws := by
  obtain ⟨j, _, _, hj⟩ := seg_mem.mp h
  exact List.mem_of_getElem? hj
/-- the place of a word -/
def plc (ws : List Str) (u : Str) : Nat := ws.idxOf u
theorem plc_at {ws : List Str} {u : Str} {j : Nat} (nd : ws.Nodup) (h : ws[j]? = some u) : plc ws u = j := by
  have hm := List.mem_of_getElem? h
  have hl := List.idxOf_lt_length_of_mem hm
  have e : ws[ws.idxOf u]? = some u := by
    rw [List.getElem?_eq_getElem hl]
    exact congrArg some (List.getElem_idxOf hl)
  exact (List.getElem?_inj hl nd).mp (e.trans h.symm)
theorem plc_get {ws : List Str} {u : Str} (h : u ∈ ws) : ws[plc ws u]? = some u := by
  have hl := List.idxOf_lt_length_of_mem h
  show ws[ws.idxOf u]? = some u
  rw [List.getElem?_eq_getElem hl]
  exact congrArg some (List.getElem_idxOf hl)
theorem dgetK {H : Hp} {a : Addr} {kvs : List (Key × V)} {k : Key} {v : V} (e : H a = some (.dK kvs)) (h : valV kvs k = some v) : DGet H a (kV k) (some v) := h ▸ DGet.k e
def spOOf (CG CO : Addr) : Sp := fun vs H Q _ => ∃ (p : Addr) (ws : List Str), vs = [.ref CO, .ref p] ∧ H p = some (.lst (ws.map V.str)) ∧ OkW ws ∧ ∀ (o : Addr) (H' : Hp), Ext H H' → H o = none → OrdAt CG CO H' o ws → Q (.ref o) H'
def spOLen (CG CO : Addr) : Sp := fun vs H Q _ => ∃ (o : Addr) (ws : List Str), vs = [.ref o] ∧ OrdAt CG CO H o ws ∧ Q (.int ws.length) H
def spOCon (CG CO : Addr) : Sp := fun vs H Q _ => ∃ (o : Addr) (ws : List Str) (x : Str), vs = [.ref o, .str x] ∧ OrdAt CG CO H o ws ∧ Q (.bl (decide (x ∈ ws))) H
def spOSt (CG CO : Addr) : Sp := fun vs H Q _ => ∃ (o g : Addr) (ws us : List Str) (lo hi : Nat), vs = [.ref o, .ref g] ∧ OrdAt CG CO H o ws ∧ OkW ws ∧ GrpAt CG H g us ∧ IsG us (seg ws lo hi) ∧ lo ≤ hi ∧ hi < ws.length ∧ ∀ H', Ext H H' → Q (.bl true) H'
section
variable {P : Program} {w : World} {K : PySem.W.Frag} {mg : Str → Option Value} {base : Heap} {tL tM tA : Tok} {ad : Ad}
/-- an order is made -/
theorem mk_order {H : Hp} {Q : VK} {E : XK} {ws : List Str} (ok : OkW ws) (k : ∀ (o : Addr) (H' : Hp), Ext H H' → H o = none → OrdAt ad.CG ad.CO H' o ws → Q (.ref o) H') :
    mkSp ad.CO (spStar 1 (spOI K ad.CG ad.CO)) E (ws.map V.str) H Q := by
  intro x dx hx hdx ne
  refine ⟨[V.ref x], ws.map V.str, rfl, rfl, by rw [List.length_map]; exact Nat.le_trans ok.few (by decide), fun p hp => ?_⟩
  have xdx : x ≠ dx := ne.symm
  have hx1 : upd (upd H dx (.own x)) x (.ins ad.CO dx []) x = some (.ins ad.CO dx []) := upd_same
  have px : p ≠ x := fun z => by rw [z, hx1] at hp; cases hp
  have e1 : Ext H (upd (upd H dx (.own x)) x (.ins ad.CO dx [])) := (Ext.upd hdx).trans (Ext.upd (by rw [upd_ne xdx]; exact hx))
  have e2 := e1.trans (Ext.upd (o := HO.tup (ws.map V.str)) hp)
  refine ⟨x, p, dx, ws, rfl, by rw [upd_ne px.symm]; exact hx1, upd_same, ok, fun g d us kvs H' ig hd hpl kp hx' hg => ⟨rfl, ?_⟩⟩
  refine k x H' (fun b o hb => ?_) hx ⟨dx, p, g, d, us, kvs, hx', kp _ _ px upd_same, hg, ig, hd, hpl⟩
  exact kp b o (ne_of_none hb hx) (e2 _ _ hb)
theorem ty_ord (T : Tx K mg tL tM tA ad) {H : Hp} {o : Addr} {ws : List Str} (h : OrdAt ad.CG ad.CO H o ws) : TyX K H (.ref o) (.ref ad.CO) :=
  let ⟨_, _, _, _, _, _, a, _⟩ := h
  .base (.ins a T.O.cl T.O.ca T.O.cn T.O.ct T.O.cm)
theorem ok_order_of (T : Tx K mg tL tM tA ad) : FnR P w K mg base (L2.CX P w) 6 ad.o_of (spOOf ad.CG ad.CO) := by
  obtain ⟨fd, F⟩ := T.F_Order_of
  have B := T.B
  have G_Order_init := ok_order_init (P := P) (w := w) (base := base) T
  refine fnP F sc_Order_of (fun _ _ _ _ _ _ us hl => match us, hl with | [_, _], _ => rfl) (fun vs H Q E h => ?_) (fun cdv A outer s H vs Q E hr h => ?_)
  · obtain ⟨p, ws, rfl, _⟩ := h
    rfl
  · refine ⟨_, PSs.nox (pss_cons (ps_if (pt_not (pt_val (pe_callB (call_isiTK (K := K) rfl) (by rfl) B.n_isinstance (by decide +kernel) (pa_cons (pv 1) (pa_cons (pe_tup (pa_cons (pe_bltn (v := .ty "list") (u := .type "list") (by rfl) B.n_list (by decide +kernel) rfl) (pa_cons (pe_bltn (v := .ty "tuple") (u := .type "tuple") (by rfl) B.n_tuple (by decide +kernel) rfl) pa_nil))) pa_nil)))))
(pss_one ps_never)
pss_nil)
(pss_one (ps_ret (pe_clsS1 (i := 0) (E := E0) T.O.mak G_Order_init (hr.mono (by decide)) passL (pv 1))))), ?_⟩
    obtain ⟨p, ws, rfl, hp, ok, hQ⟩ := h
    refine ⟨_, rfl, ?_⟩
    refine ⟨by decide, fun t ht => ?_⟩
    have e1 := Ext.upd (o := HO.tup [V.ty "list", V.ty "tuple"]) ht
    refine ⟨_, t, _, .type "list", [.type "list", .type "tuple"], true, rfl, upd_same, .cons (.ty "list") (.cons (.ty "tuple") .nil), .base (.lst (e1 _ _ hp)), kitAny_cons (kit_ty (b := "list") (r := true) (by decide +kernel)) (fun z => nomatch z) (fun _ => rfl), _, rfl, ?_⟩
    refine iteF ?_
    refine ⟨rfl, _, rfl, p, _, rfl, .inr (SqL.of (e1 _ _ hp)), ?_⟩
    exact mk_order ok fun o H' e2 ho oo => hQ o H' (e1.trans e2) (ext_none e1 ho) oo
theorem ok_order_len (T : Tx K mg tL tM tA ad) : FnR P w K mg base (L2.CX P w) 1 ad.o_len (spOLen ad.CG ad.CO) := by
  obtain ⟨fd, F⟩ := T.F_Order_len
  have B := T.B
  refine fnP F sc_Order_len (fun _ _ _ _ _ _ us hl => match us, hl with | [_], _ => rfl) (fun vs H Q E h => ?_) (fun cdv A outer s H vs Q E hr h => ?_)
  · obtain ⟨g, ws, rfl, _⟩ := h
    rfl
  · refine ⟨_, PSs.nox (pss_one (ps_ret (pe_callB (call_lenK (K := K) rfl) (by rfl) B.n_len (by decide +kernel) (pa_cons (pe_fldK (K := K) rfl (pv 0)) pa_nil)))), ?_⟩
    obtain ⟨o, ws, rfl, ⟨dx, t, g, d, us, kvs, ha, ht, _⟩, hQ⟩ := h
    refine ⟨_, rfl, o, ad.CO, dx, _, .ref t, rfl, ha, T.O.cl, T.O_row, rfl, ?_⟩
    exact ⟨_, ws.length, rfl, .inr ⟨_, SqT.of ht, by simp⟩, hQ⟩
theorem ok_order_contains (T : Tx K mg tL tM tA ad) : FnR P w K mg base (L2.CX P w) 1 ad.o_contains (spOCon ad.CG ad.CO) := by
  obtain ⟨fd, F⟩ := T.F_Order_contains
  have B := T.B
  refine fnP F sc_Order_contains (fun _ _ _ _ _ _ us hl => match us, hl with | [_, _], _ => rfl) (fun vs H Q E h => ?_) (fun cdv A outer s H vs Q E hr h => ?_)
  · obtain ⟨g, ws, x, rfl, _⟩ := h
    rfl
  · refine ⟨_, PSs.nox (pss_one (ps_ret (pe_and (pe_callB (call_isiKK (K := K) rfl) (by rfl) B.n_isinstance (by decide +kernel) (pa_cons (pv 1) (pa_cons (pe_bltn (v := .ty "str") (u := .type "str") (by rfl) B.n_str (by decide +kernel) rfl) pa_nil))) (pe_one (pe_cmpR (op_in_seqK (K := K) rfl) (pv 1) (pe_fldK (K := K) rfl (pv 0)) (by rfl)))))), ?_⟩
    obtain ⟨o, ws, x, rfl, ⟨dx, t, g, d, us, kvs, ha, ht, _⟩, hQ⟩ := h
    refine ⟨_, rfl, .str x, _, .type "str", .type "str", true, rfl, .ty "str", .base (.str x), kit_ty (by decide +kernel), ?_⟩
    refine ⟨true, rfl, iteT ?_⟩
    refine ⟨_, rfl, _, rfl, o, ad.CO, dx, _, .ref t, rfl, ha, T.O.cl, T.O_row, rfl, t, _, rfl, .inr (SqT.of ht), rfl, Kp.flat_strs ws, ?_⟩
    rw [Kp.inV_strs]
    exact hQ
theorem ok_order_stands (T : Tx K mg tL tM tA ad) : FnR P w K mg base (L2.CX P w) 1 ad.o_stands (spOSt ad.CG ad.CO) := by
  obtain ⟨fd, F⟩ := T.F_Order_stands
  have B := T.B
  refine fnP F sc_Order_stands (fun _ _ _ _ _ _ us hl => match us, hl with | [_, _], _ => rfl) (fun vs H Q E h => ?_) (fun cdv A outer s H vs Q E hr h => ?_)
  · obtain ⟨o, g, ws, us, lo, hi, rfl, _⟩ := h
    rfl
  · refine ⟨_, PSs.nox (pss_cons (ps_if (pt_not (pt_val (pe_callB (call_isiKK (K := K) rfl) (by rfl) B.n_isinstance (by decide +kernel) (pa_cons (pv 1) (pa_cons (pe_glob (v := .ref _) (by rfl) T.G.g rfl) pa_nil)))))
(pss_one ps_never)
pss_nil)
(pss_cons (ps_for PassesOwn.never rfl (pi_tupK (K := K) rfl (pe_fldK (K := K) rfl (pv 1))) (pg_name (i := 2) sc_Order_stands.nd rfl (Or.inl rfl))
(pss_one (ps_if (pt_cmpR (op_notIn_seqK (K := K) rfl) (pv 2) (pe_fldK (K := K) rfl (pv 0)) (by rfl))
(pss_one ps_never)
pss_nil)))
(pss_cons (ps_setLc (i := 3) (own := [("word", 2)]) (g := gName 2) (tt := tYes) rfl sc_Order_stands.nd rfl rfl (sw_true rfl rfl rfl (by decide +kernel)) (pi_tupK (K := K) rfl (pe_fldK (K := K) rfl (pv 1))) (blkOk_by (own := [("word", 2)]) (N := N_Order_stands) (sc := defScope s_Order_stands) (by decide +kernel)) (fun _ _ _ _ _ => (pg_name (i := 2) sc_Order_stands.nd rfl (Or.inl rfl))) (fun _ _ _ _ _ => pts_nil) (fun _ _ _ _ _ => by exact (pe_dget (hu_of hr) (pe_fldK (K := K) rfl (pv 0)) (pv 2) (fun _ _ => rfl))))
(pss_cons (ps_if (pt_cmpR (op_eqEK (K := K) rfl hr.units) (pv 3) (pe_lst pa_nil) (nomark _))
(pss_one (ps_ret pe_bl))
pss_nil)
(pss_one (ps_ret (pe_cmpR op_eq (pe_op op_add (pe_op op_sub (pe_callB (cr_max rfl) (by rfl) B.n_max (by decide +kernel) (pa_cons (pv 3) pa_nil)) (pe_callB (cr_min rfl) (by rfl) B.n_min (by decide +kernel) (pa_cons (pv 3) pa_nil))) pe_int) (pe_callB (call_lenK (K := K) rfl) (by rfl) B.n_len (by decide +kernel) (pa_cons (pv 3) pa_nil)) (nomark _)))))))), ?_⟩
    obtain ⟨o, g, ws, us, lo, hi, rfl, oo, ok, gg, ig, h1, h2, hQ⟩ := h
    refine ⟨_, rfl, .ref g, .ref ad.CG, .ref ad.CG, .ref ad.CG, true, rfl, .own ad.CG, ty_grp T gg, T.G.isi, _, rfl, ?_⟩
    refine iteF ?_
    obtain ⟨dx, t, g', d, us', kvs, ha, ht, _, _, hd, hpl⟩ := oo
    obtain ⟨dy, t', hb, ht'⟩ := gg
    have hin : ∀ u ∈ us, u ∈ ws := fun u hu => seg_sub ((ig.mem u).mp hu)
    refine ⟨_, rfl, g, ad.CG, dy, _, .ref t', rfl, hb, T.G.cl, T.G_row, rfl, t', rfl, ⟨_, SqT.of ht'⟩, ?_⟩
    refine for_tup (xs := us.map V.str) (fun i (σ' : L2.St) H' => ∃ a2, σ' = [some (V.ref o), some (V.ref g), a2, none] ∧ H' = H) ?_ (fun i σ' H' _ hp' => ?_) (fun i y σ' H' hy hp' => ?_) (fun σ' H' hp' => ?_)
    · exact ⟨_, rfl, rfl⟩
    · obtain ⟨a2, rfl, rfl⟩ := hp'
      exact SqT.of ht'
    · obtain ⟨a2, rfl, rfl⟩ := hp'
      obtain ⟨u, hu, rfl⟩ := str_at hy
      refine ⟨_, rfl, _, rfl, o, ad.CO, dx, _, .ref t, rfl, ha, T.O.cl, T.O_row, rfl, t, _, rfl, .inr (SqT.of ht), rfl, Kp.flat_strs ws, _, rfl, ?_⟩
      rw [Kp.inV_strs, decide_eq_true (hin u (List.mem_of_getElem? hu))]
      refine iteF ?_
      exact ⟨_, rfl, rfl⟩
    · obtain ⟨a2, rfl, rfl⟩ := hp'
      dsimp only [tNext, tSeq, tAsg]
      have lus : us.length = hi + 1 - lo := by rw [ig.lenNd (seg_nd ok.nd), seg_len h1 h2]
      have l24 := ok.few
      refine Kp.run_lcT (a := t') (xs := us.map V.str) (fun _ => true) (fun i => V.int (plc ws (us.getD i "") : Nat)) ?_ (SqT.of ht') (by rw [List.length_map]; omega) (fun _ => rfl) (fun i x H9 e9 hx => Kp.et_yes) (fun i x H9 e9 hx _ => ?_) (fun D H2 hD e2 hD2 => ?_)
      · exact fun H1 e1 Q' q => ⟨_, rfl, g, ad.CG, dy, _, .ref t', rfl, e1 _ _ hb, T.G.cl, T.G_row, rfl, q H1 (Evl.Ex.refl H1)⟩
      · obtain ⟨u, hu, rfl⟩ := str_at hx
        have eu : us.getD i "" = u := by rw [List.getD_eq_getElem?_getD, hu]; rfl
        rw [eu]
        have hp1 := hpl _ _ (plc_get (hin u (List.mem_of_getElem? hu)))
        exact fun H10 e10 Q' q' => ⟨_, rfl, o, ad.CO, dx, _, .ref d, rfl, e10 _ _ (e9 _ _ ha), T.O.cl, T.O_place_of, rfl, _, rfl, d, _, rfl, dgetK (k := Sum.inr u) (e10 _ _ (e9 _ _ hd)) hp1, q' H10 (Evl.Ex.refl H10)⟩
      have eg : given (us.map V.str).length (fun _ => true) (fun i => V.int (plc ws (us.getD i "") : Nat)) = (us.map fun u => ((plc ws u : Nat) : Int)).map V.int := by
        rw [Kp.given_map fun _ _ => rfl, List.length_map, List.map_map]
        exact Kp.range_map us _ _ fun i u hu => by rw [List.getD_eq_getElem?_getD, hu]; rfl
      rw [eg] at hD2
      have hpl2 : ∀ u ∈ us, lo ≤ plc ws u ∧ plc ws u ≤ hi := fun u hu => by
        obtain ⟨j, j1, j2, hj⟩ := seg_mem.mp ((ig.mem u).mp hu)
        rw [plc_at ok.nd hj]
        exact ⟨j1, j2⟩
      have hat : ∀ j, lo ≤ j → j ≤ hi → ((j : Nat) : Int) ∈ us.map fun u => ((plc ws u : Nat) : Int) := fun j j1 j2 => by
        have hj : ws[j]? = some ws[j] := List.getElem?_eq_getElem (by omega)
        exact List.mem_map.mpr ⟨ws[j], (ig.mem _).mpr (seg_mem.mpr ⟨j, j1, j2, hj⟩), by rw [plc_at ok.nd hj]⟩
      have hlp : (us.map fun u => ((plc ws u : Nat) : Int)).length = hi + 1 - lo := by rw [List.length_map, lus]
      have hbd : ∀ y ∈ us.map (fun u => ((plc ws u : Nat) : Int)), (lo : Int) ≤ y ∧ y ≤ hi := fun y hy => by
        obtain ⟨u, hu, rfl⟩ := List.mem_map.mp hy
        have := hpl2 u hu
        omega
      generalize (us.map fun u => ((plc ws u : Nat) : Int)) = ns at hD2 hat hlp hbd
      refine ⟨_, rfl, by decide, fun q hq => ?_⟩
      have e3 := e2.trans (Ext.upd (o := HO.lst ([] : List V)) hq)
      have hD3 : upd H2 q (.lst ([] : List V)) D = some (.lst (ns.map V.int)) := Ext.upd hq _ _ hD2
      have hq3 : upd H2 q (.lst ([] : List V)) q = some (.lst ([] : List V)) := upd_same
      generalize upd H2 q (.lst ([] : List V)) = H3 at e3 hD3 hq3 ⊢
      refine ⟨D, q, _, rfl, rfl, SqL.of hD3, SqL.of hq3, _, rfl, ?_⟩
      have hne : (ns.map V.int).isEmpty = false := by
        cases ns with
        | nil => simp at hlp; omega
        | cons => rfl
      rw [hne]
      refine iteF ?_
      refine ⟨_, rfl, D, ns, rfl, SqL.of hD3, by omega, fun m hm hle => ?_⟩
      have em : m = hi := by
        have := hle _ (hat hi h1 (Nat.le_refl _))
        have := (hbd m hm).2
        omega
      refine ⟨_, rfl, D, ns, rfl, SqL.of hD3, by omega, fun m' hm' hle' => ?_⟩
      have em' : m' = lo := by
        have := hle' _ (hat lo (Nat.le_refl _) h1)
        have := (hbd m' hm').1
        omega
      subst em em'
      refine ⟨_, _, rfl, rfl, _, _, rfl, rfl, ?_⟩
      refine ⟨_, rfl, _, ns.length, rfl, .inl ⟨_, SqL.of hD3, by simp⟩, rfl, ?_⟩
      have ez : ((hi : Nat) : Int) - (lo : Nat) + 1 = (ns.length : Nat) := by omega
      rw [decide_eq_true (congrArg V.int ez)]
      exact hQ H3 e3
end
end Kq
set_option maxHeartbeats 4000000
namespace Kq
open PySem PySem.Spec PyProof.Rows L2 Kp
open Evl (Ev EvL EvT EvA given)
/-! ### runs in the heap -/
def kR (r : Rn) : List Key := [.inl (r.1 : Int), .inl (r.2 : Int)]
def PrAt (H : Hp) (b : Addr) (r : Rn) : Prop := H b = some (.tup [.int (r.1 : Int), .int (r.2 : Int)])
theorem PrAt.ext {H H' : Hp} {b : Addr} {r : Rn} (h : PrAt H b r) (e : Ext H H') : PrAt H' b r := e _ _ h
theorem PrAt.key {H : Hp} {b : Addr} {r : Rn} (h : PrAt H b r) : H b = some (.tup ((kR r).map kV)) := h
theorem kR_inj {p q : Rn} (h : kR p = kR q) : p = q := by
  unfold kR at h
  injection h with h1 h2
  injection h2 with h2 _
  have e1 := Sum.inl.inj h1
  have e2 := Sum.inl.inj h2
  exact Prod.ext (by omega) (by omega)
theorem pr_of {H : Hp} {b : Addr} {r : Rn} (h : H b = some (.tup ((kR r).map kV))) : PrAt H b r := h
/-- the places of pairs -/
def PrsAt (H : Hp) (bs : List Addr) (rs : List Rn) : Prop := bs.length = rs.length ∧ ∀ (i : Nat) (b : Addr) (r : Rn), bs[i]? = some b → rs[i]? = some r → PrAt H b r
theorem PrsAt.ext {H H' : Hp} {bs : List Addr} {rs : List Rn} (h : PrsAt H bs rs) (e : Ext H H') : PrsAt H' bs rs := ⟨h.1, fun i b r x y => (h.2 i b r x y).ext e⟩
/-- what is handed on when all but some mutable objects stay -/
theorem PrsAt.keep {H H' : Hp} {bs : List Addr} {rs : List Rn} (h : PrsAt H bs rs) (e : ∀ b xs, H b = some (.tup xs) → H' b = some (.tup xs)) : PrsAt H' bs rs := ⟨h.1, fun i b r x y => e _ _ (h.2 i b r x y)⟩
def Tups (H H' : Hp) : Prop := ∀ b xs, H b = some (.tup xs) → H' b = some (.tup xs)
theorem Tups.of {H H' : Hp} (e : Ext H H') : Tups H H' := fun b xs h => e _ _ h
theorem Tups.trans {H H1 H2 : Hp} (a : Tups H H1) (b : Tups H1 H2) : Tups H H2 := fun c xs h => b c xs (a c xs h)
def spOver : Sp := fun vs H Q _ => ∃ (b c : Addr) (p q : Rn), vs = [.ref b, .ref c] ∧ PrAt H b p ∧ PrAt H c q ∧ ∀ H', Ext H H' → Q (.bl (ov p q)) H'
def spMadeOf : Sp := fun vs H Q _ => ∃ (b c : Addr) (p q : Rn), vs = [.ref b, .ref c] ∧ PrAt H b p ∧ PrAt H c q ∧ ov p q = true ∧ ∀ (t : Addr) (bs : List Addr) (H' : Hp), Ext H H' → H' t = some (.tup (bs.map V.ref)) → PrsAt H' bs (mks p q) → Q (.ref t) H'
section
variable {P : Program} {w : World} {K : PySem.W.Frag} {mg : Str → Option Value} {base : Heap} {tL tM tA : Tok} {ad : Ad}
theorem at0 {p : Rn} : atI ([.int (p.1 : Int), .int (p.2 : Int)] : List V) 0 = some (.int (p.1 : Int)) := rfl
theorem at1 {p : Rn} : atI ([.int (p.1 : Int), .int (p.2 : Int)] : List V) 1 = some (.int (p.2 : Int)) := rfl
theorem ok_overlapping (T : Tx K mg tL tM tA ad) : FnR P w K mg base (L2.CX P w) 1 ad.fOver spOver := by
  obtain ⟨fd, F⟩ := T.F_overlapping
  have B := T.B
  refine fnP F sc_overlapping (fun _ _ _ _ _ _ us hl => match us, hl with | [_, _], _ => rfl) (fun vs H Q E h => ?_) (fun cdv A outer s H vs Q E hr h => ?_)
  · obtain ⟨b, c, p, q, rfl, _⟩ := h
    rfl
  · refine ⟨_, PSs.nox (pss_cons (ps_asg (pe_ifExp (pt_cmpR op_lt (pe_ix (ix_tupK (K := K) rfl) (pv 0) pe_int (fun _ _ => rfl)) (pe_ix (ix_tupK (K := K) rfl) (pv 1) pe_int (fun _ _ => rfl)) (nomark _)) (pe_tup (pa_cons (pv 0) (pa_cons (pv 1) pa_nil))) (pe_tup (pa_cons (pv 1) (pa_cons (pv 0) pa_nil)))) (pg_tupK (n := 2) (K := K) rfl rfl (pgs_cons (pg_name (i := 2) sc_overlapping.nd rfl (Or.inl rfl)) (pgs_cons (pg_name (i := 3) sc_overlapping.nd rfl (Or.inl rfl)) pgs_nil))))
(pss_one (ps_ret (pe_chain3 op_lt op_le op_lt (pe_ix (ix_tupK (K := K) rfl) (pv 2) pe_int (fun _ _ => rfl)) (pe_ix (ix_tupK (K := K) rfl) (pv 3) pe_int (fun _ _ => rfl)) (pe_ix (ix_tupK (K := K) rfl) (pv 2) pe_int (fun _ _ => rfl)) (pe_ix (ix_tupK (K := K) rfl) (pv 3) pe_int (fun _ _ => rfl)))))), ?_⟩
    obtain ⟨b, c, p, q, rfl, hb, hc, hQ⟩ := h
    refine ⟨_, rfl, b, _, 0, _, rfl, rfl, SqT.of hb, rfl, _, rfl, c, _, 0, _, rfl, rfl, SqT.of hc, rfl, ?_⟩
    refine ⟨_, _, rfl, rfl, _, rfl, ?_⟩
    have fin : ∀ {x y : Addr} {p q : Rn} {H' : Hp}, PrAt H' x p → PrAt H' y q → Ext H H' → (∀ H', Ext H H' → Q (V.bl (ovl p q)) H') → tRet (tChain3 (rI0 fun i j => V.bl (decide (i < j))) (rI0 fun i j => V.bl (decide (i ≤ j))) (rI0 fun i j => V.bl (decide (i < j))) (tOp (rIxT K) (tVar 2) (tC (V.int 0))) (tOp (rIxT K) (tVar 3) (tC (V.int 0))) (tOp (rIxT K) (tVar 2) (tC (V.int 1))) (tOp (rIxT K) (tVar 3) (tC (V.int 1)))) { nx := fun _ H' => Q .non H', rt := Q } [some (V.ref b), some (V.ref c), some (V.ref x), some (V.ref y)] H' := by
      intro x y p q H' hx hy e hq
      have hq := hq H' e
      unfold ovl at hq
      refine ⟨_, rfl, x, _, 0, _, rfl, rfl, SqT.of hx, rfl, _, rfl, y, _, 0, _, rfl, rfl, SqT.of hy, rfl, _, _, rfl, rfl, _, rfl, ?_⟩
      have e1 : decide ((p.1 : Int) < (q.1 : Int)) = decide (p.1 < q.1) := by simp
      have e2 : decide ((q.1 : Int) ≤ (p.2 : Int)) = decide (q.1 ≤ p.2) := by simp
      have e3 : decide ((p.2 : Int) < (q.2 : Int)) = decide (p.2 < q.2) := by simp
      rw [e1]
      by_cases h1 : p.1 < q.1
      · rw [decide_eq_true h1] at hq ⊢
        refine iteT ?_
        refine ⟨_, rfl, x, _, 1, _, rfl, rfl, SqT.of hx, rfl, _, _, rfl, rfl, _, rfl, ?_⟩
        rw [e2]
        by_cases h2 : q.1 ≤ p.2
        · rw [decide_eq_true h2] at hq ⊢
          refine iteT ?_
          refine ⟨_, rfl, y, _, 1, _, rfl, rfl, SqT.of hy, rfl, _, _, rfl, rfl, ?_⟩
          show Q (.bl (decide ((p.2 : Int) < (q.2 : Int)))) H'
          rw [e3]
          exact hq
        · rw [decide_eq_false h2] at hq ⊢
          exact iteF hq
      · rw [decide_eq_false h1] at hq ⊢
        exact iteF hq
    have e1 : decide ((p.1 : Int) < (q.1 : Int)) = decide (p.1 < q.1) := by simp
    rw [e1]
    unfold ov at hQ
    by_cases h1 : p.1 < q.1
    · rw [decide_eq_true h1]
      simp only [if_pos h1] at hQ
      refine iteT ?_
      refine ⟨_, rfl, _, rfl, (show (2 : Nat) ≤ sizeLine by decide), fun t ht => ?_⟩
      have e := Ext.upd (o := HO.tup [V.ref b, V.ref c]) ht
      refine ⟨t, _, rfl, SqT.of upd_same, rfl, _, _, rfl, _, _, rfl, rfl, ?_⟩
      exact fin (hb.ext e) (hc.ext e) e hQ
    · rw [decide_eq_false h1]
      simp only [if_neg h1] at hQ
      refine iteF ?_
      refine ⟨_, rfl, _, rfl, (show (2 : Nat) ≤ sizeLine by decide), fun t ht => ?_⟩
      have e := Ext.upd (o := HO.tup [V.ref c, V.ref b]) ht
      refine ⟨t, _, rfl, SqT.of upd_same, rfl, _, _, rfl, _, _, rfl, rfl, ?_⟩
      exact fin (hc.ext e) (hb.ext e) e hQ
theorem ok_made_of (T : Tx K mg tL tM tA ad) : FnR P w K mg base (L2.CX P w) 1 ad.fMadeOf spMadeOf := by
  obtain ⟨fd, F⟩ := T.F_made_of
  have B := T.B
  refine fnP F sc_made_of (fun _ _ _ _ _ _ us hl => match us, hl with | [_, _], _ => rfl) (fun vs H Q E h => ?_) (fun cdv A outer s H vs Q E hr h => ?_)
  · obtain ⟨b, c, p, q, rfl, _⟩ := h
    rfl
  · refine ⟨_, PSs.nox (pss_cons (ps_if (pt_cmpR op_lt (pe_ix (ix_tupK (K := K) rfl) (pv 0) pe_int (fun _ _ => rfl)) (pe_ix (ix_tupK (K := K) rfl) (pv 1) pe_int (fun _ _ => rfl)) (nomark _))
(pss_one (ps_ret (pe_tup (pa_cons (pe_tup (pa_cons (pe_ix (ix_tupK (K := K) rfl) (pv 1) pe_int (fun _ _ => rfl)) (pa_cons (pe_ix (ix_tupK (K := K) rfl) (pv 0) pe_int (fun _ _ => rfl)) pa_nil))) (pa_cons (pe_tup (pa_cons (pe_ix (ix_tupK (K := K) rfl) (pv 0) pe_int (fun _ _ => rfl)) (pa_cons (pe_ix (ix_tupK (K := K) rfl) (pv 1) pe_int (fun _ _ => rfl)) pa_nil))) (pa_cons (pe_tup (pa_cons (pe_ix (ix_tupK (K := K) rfl) (pv 0) pe_int (fun _ _ => rfl)) (pa_cons (pe_op op_sub (pe_ix (ix_tupK (K := K) rfl) (pv 1) pe_int (fun _ _ => rfl)) pe_int) pa_nil))) (pa_cons (pe_tup (pa_cons (pe_op op_add (pe_ix (ix_tupK (K := K) rfl) (pv 0) pe_int (fun _ _ => rfl)) pe_int) (pa_cons (pe_ix (ix_tupK (K := K) rfl) (pv 1) pe_int (fun _ _ => rfl)) pa_nil))) pa_nil)))))))
pss_nil)
(pss_one (ps_ret (pe_tup (pa_cons (pe_tup (pa_cons (pe_ix (ix_tupK (K := K) rfl) (pv 0) pe_int (fun _ _ => rfl)) (pa_cons (pe_ix (ix_tupK (K := K) rfl) (pv 1) pe_int (fun _ _ => rfl)) pa_nil))) (pa_cons (pe_tup (pa_cons (pe_ix (ix_tupK (K := K) rfl) (pv 1) pe_int (fun _ _ => rfl)) (pa_cons (pe_ix (ix_tupK (K := K) rfl) (pv 0) pe_int (fun _ _ => rfl)) pa_nil))) (pa_cons (pe_tup (pa_cons (pe_op op_add (pe_ix (ix_tupK (K := K) rfl) (pv 1) pe_int (fun _ _ => rfl)) pe_int) (pa_cons (pe_ix (ix_tupK (K := K) rfl) (pv 0) pe_int (fun _ _ => rfl)) pa_nil))) (pa_cons (pe_tup (pa_cons (pe_ix (ix_tupK (K := K) rfl) (pv 1) pe_int (fun _ _ => rfl)) (pa_cons (pe_op op_sub (pe_ix (ix_tupK (K := K) rfl) (pv 0) pe_int (fun _ _ => rfl)) pe_int) pa_nil))) pa_nil)))))))), ?_⟩
    obtain ⟨b, c, p, q, rfl, hb, hc, ho, hQ⟩ := h
    refine ⟨_, rfl, b, _, 0, _, rfl, rfl, SqT.of hb, rfl, _, rfl, c, _, 0, _, rfl, rfl, SqT.of hc, rfl, ?_⟩
    refine ⟨_, _, rfl, rfl, _, rfl, ?_⟩
    have e1 : decide ((p.1 : Int) < (q.1 : Int)) = decide (p.1 < q.1) := by simp
    rw [e1]
    unfold ov ovl at ho
    unfold mks at hQ
    by_cases h1 : p.1 < q.1
    · rw [decide_eq_true h1]
      simp only [if_pos h1] at hQ ho
      simp only [Bool.and_eq_true, decide_eq_true_eq] at ho
      refine iteT ?_
      refine ⟨_, rfl, c, _, 0, _, rfl, rfl, SqT.of hc, rfl, _, rfl, b, _, 1, _, rfl, rfl, SqT.of hb, rfl, (show (2 : Nat) ≤ sizeLine by decide), fun t0 ht0 => ?_⟩
      have x0 := Ext.upd (o := HO.tup [.int ((q.1 : Nat) : Int), .int ((p.2 : Nat) : Int)]) ht0
      have hb1 := hb.ext x0
      have hc1 := hc.ext x0
      refine ⟨_, rfl, b, _, 0, _, rfl, rfl, SqT.of hb1, rfl, _, rfl, c, _, 1, _, rfl, rfl, SqT.of hc1, rfl, (show (2 : Nat) ≤ sizeLine by decide), fun t1 ht1 => ?_⟩
      have x1 := Ext.upd (o := HO.tup [.int ((p.1 : Nat) : Int), .int ((q.2 : Nat) : Int)]) ht1
      have hb2 := hb1.ext x1
      have hc2 := hc1.ext x1
      refine ⟨_, rfl, b, _, 0, _, rfl, rfl, SqT.of hb2, rfl, _, rfl, c, _, 0, _, rfl, rfl, SqT.of hc2, rfl, _, _, rfl, rfl, (show (2 : Nat) ≤ sizeLine by decide), fun t2 ht2 => ?_⟩
      have x2 := Ext.upd (o := HO.tup [.int ((p.1 : Nat) : Int), .int (((q.1 : Nat) : Int) - 1)]) ht2
      have hb3 := hb2.ext x2
      have hc3 := hc2.ext x2
      refine ⟨_, rfl, b, _, 1, _, rfl, rfl, SqT.of hb3, rfl, _, _, rfl, rfl, _, rfl, c, _, 1, _, rfl, rfl, SqT.of hc3, rfl, (show (2 : Nat) ≤ sizeLine by decide), fun t3 ht3 => ?_⟩
      have x3 := Ext.upd (o := HO.tup [.int (((p.2 : Nat) : Int) + 1), .int ((q.2 : Nat) : Int)]) ht3
      have hb4 := hb3.ext x3
      have hc4 := hc3.ext x3
      refine ⟨(show (4 : Nat) ≤ sizeLine by decide), fun t ht => ?_⟩
      have x4 := Ext.upd (o := HO.tup [.ref t0, .ref t1, .ref t2, .ref t3]) ht
      refine hQ t [t0, t1, t2, t3] _ (x0.trans (x1.trans (x2.trans (x3.trans x4)))) upd_same ⟨rfl, fun i b' r hi hr' => ?_⟩
      have g0 := x4 _ _ (x3 _ _ (x2 _ _ (x1 _ _ (upd_same (H := H) (a := t0) (o := HO.tup _)))))
      have g1 := x4 _ _ (x3 _ _ (x2 _ _ (upd_same (a := t1) (o := HO.tup _))))
      have g2 := x4 _ _ (x3 _ _ (upd_same (a := t2) (o := HO.tup _)))
      have g3 := x4 _ _ (upd_same (a := t3) (o := HO.tup _))
      match i, hi, hr' with
      | 0, hi, hr' =>
        cases hi
        cases hr'
        exact g0
      | 1, hi, hr' =>
        cases hi
        cases hr'
        exact g1
      | 2, hi, hr' =>
        cases hi
        cases hr'
        have ez : ((q.1 : Nat) : Int) - 1 = ((q.1 - 1 : Nat) : Int) := by omega
        exact Eq.trans g2 (congrArg (fun z => some (HO.tup [V.int ((p.1 : Nat) : Int), V.int z])) ez)
      | 3, hi, hr' =>
        cases hi
        cases hr'
        have ez : ((p.2 : Nat) : Int) + 1 = ((p.2 + 1 : Nat) : Int) := by omega
        dsimp only at g3
        rw [ez] at g3
        exact g3
    · rw [decide_eq_false h1]
      simp only [if_neg h1] at hQ ho
      simp only [Bool.and_eq_true, decide_eq_true_eq] at ho
      refine iteF ?_
      refine ⟨_, rfl, b, _, 0, _, rfl, rfl, SqT.of hb, rfl, _, rfl, c, _, 1, _, rfl, rfl, SqT.of hc, rfl, (show (2 : Nat) ≤ sizeLine by decide), fun t0 ht0 => ?_⟩
      have x0 := Ext.upd (o := HO.tup [.int ((p.1 : Nat) : Int), .int ((q.2 : Nat) : Int)]) ht0
      have hb1 := hb.ext x0
      have hc1 := hc.ext x0
      refine ⟨_, rfl, c, _, 0, _, rfl, rfl, SqT.of hc1, rfl, _, rfl, b, _, 1, _, rfl, rfl, SqT.of hb1, rfl, (show (2 : Nat) ≤ sizeLine by decide), fun t1 ht1 => ?_⟩
      have x1 := Ext.upd (o := HO.tup [.int ((q.1 : Nat) : Int), .int ((p.2 : Nat) : Int)]) ht1
      have hb2 := hb1.ext x1
      have hc2 := hc1.ext x1
      refine ⟨_, rfl, c, _, 1, _, rfl, rfl, SqT.of hc2, rfl, _, _, rfl, rfl, _, rfl, b, _, 1, _, rfl, rfl, SqT.of hb2, rfl, (show (2 : Nat) ≤ sizeLine by decide), fun t2 ht2 => ?_⟩
      have x2 := Ext.upd (o := HO.tup [.int (((q.2 : Nat) : Int) + 1), .int ((p.2 : Nat) : Int)]) ht2
      have hb3 := hb2.ext x2
      have hc3 := hc2.ext x2
      refine ⟨_, rfl, c, _, 0, _, rfl, rfl, SqT.of hc3, rfl, _, rfl, b, _, 0, _, rfl, rfl, SqT.of hb3, rfl, _, _, rfl, rfl, (show (2 : Nat) ≤ sizeLine by decide), fun t3 ht3 => ?_⟩
      have x3 := Ext.upd (o := HO.tup [.int ((q.1 : Nat) : Int), .int (((p.1 : Nat) : Int) - 1)]) ht3
      have hb4 := hb3.ext x3
      have hc4 := hc3.ext x3
      refine ⟨(show (4 : Nat) ≤ sizeLine by decide), fun t ht => ?_⟩
      have x4 := Ext.upd (o := HO.tup [.ref t0, .ref t1, .ref t2, .ref t3]) ht
      refine hQ t [t0, t1, t2, t3] _ (x0.trans (x1.trans (x2.trans (x3.trans x4)))) upd_same ⟨rfl, fun i b' r hi hr' => ?_⟩
      have g0 := x4 _ _ (x3 _ _ (x2 _ _ (x1 _ _ (upd_same (H := H) (a := t0) (o := HO.tup _)))))
      have g1 := x4 _ _ (x3 _ _ (x2 _ _ (upd_same (a := t1) (o := HO.tup _))))
      have g2 := x4 _ _ (x3 _ _ (upd_same (a := t2) (o := HO.tup _)))
      have g3 := x4 _ _ (upd_same (a := t3) (o := HO.tup _))
      match i, hi, hr' with
      | 0, hi, hr' =>
        cases hi
        cases hr'
        exact g0
      | 1, hi, hr' =>
        cases hi
        cases hr'
        exact g1
      | 2, hi, hr' =>
        cases hi
        cases hr'
        have ez : ((q.2 : Nat) : Int) + 1 = ((q.2 + 1 : Nat) : Int) := by omega
        dsimp only at g2
        rw [ez] at g2
        exact g2
      | 3, hi, hr' =>
        cases hi
        cases hr'
        have ez : ((p.1 : Nat) : Int) - 1 = ((p.1 - 1 : Nat) : Int) := by omega
        exact Eq.trans g3 (congrArg (fun z => some (HO.tup [V.int ((q.1 : Nat) : Int), V.int z])) ez)
end
end Kq
set_option maxHeartbeats 4000000
namespace Kq
open PySem PySem.Spec PyProof.Rows L2 Kp
open Evl (Ev EvL EvT EvA given)
/-! ### closed_by -/
def VAt (H : Hp) (v : V) : Option (Rn × Rn × Nat) → Prop
  | none => v = .non
  | some z => ∃ t b c, v = .ref t ∧ H t = some (.tup [.ref b, .ref c, .int (z.2.2 : Int)]) ∧ PrAt H b z.1 ∧ PrAt H c z.2.1
theorem VAt.keep {H H' : Hp} {v : V} {s : Option (Rn × Rn × Nat)} (h : VAt H v s) (e : Tups H H') : VAt H' v s := by
  cases s with
  | none => exact h
  | some z =>
    obtain ⟨t, b, c, h1, h2, h3, h4⟩ := h
    exact ⟨t, b, c, h1, e _ _ h2, e _ _ h3, e _ _ h4⟩
abbrev EV := Ent × V
def kvE (L : List EV) : List (List Key × V) := L.map fun z => (kR z.1.r, z.2)
def keysE (L : List EV) : List Rn := L.map fun z => z.1.r
def DAt (H : Hp) (D : Addr) (L : List EV) : Prop := H D = some (.dT (kvE L)) ∧ ∀ z ∈ L, VAt H z.2 z.1.s
theorem DAt.ext {H H' : Hp} {D : Addr} {L : List EV} (h : DAt H D L) (e : Ext H H') : DAt H' D L := ⟨e _ _ h.1, fun z hz => (h.2 z hz).keep (Tups.of e)⟩
theorem valE_none {r : Rn} : ∀ {L : List EV}, r ∉ keysE L → valV (kvE L) (kR r) = none
  | [], _ => rfl
  | z :: L, h => by
    have h1 : ¬ kR z.1.r = kR r := fun e => h (by rw [← kR_inj e]; exact List.mem_cons_self)
    show valV ((kR z.1.r, z.2) :: kvE L) (kR r) = none
    rw [valV_neg h1]
    exact valE_none fun hr => h (List.mem_cons_of_mem _ hr)
theorem valE_some {r : Rn} : ∀ {L : List EV}, r ∈ keysE L → ∃ z ∈ L, z.1.r = r ∧ valV (kvE L) (kR r) = some z.2
  | z :: L, h => by
    show ∃ z' ∈ z :: L, z'.1.r = r ∧ valV ((kR z.1.r, z.2) :: kvE L) (kR r) = some z'.2
    by_cases e : z.1.r = r
    · exact ⟨z, List.mem_cons_self, e, valV_pos (by rw [e])⟩
    · have h1 : ¬ kR z.1.r = kR r := fun e' => e (kR_inj e')
      rcases List.mem_cons.mp h with h | h
      · exact absurd h.symm e
      · obtain ⟨z', h2, h3, h4⟩ := valE_some h
        exact ⟨z', List.mem_cons_of_mem _ h2, h3, by rw [valV_neg h1]; exact h4⟩
theorem valE_is {r : Rn} {L : List EV} : (valV (kvE L) (kR r)).isSome = decide (r ∈ keysE L) := by
  by_cases h : r ∈ keysE L
  · obtain ⟨z, _, _, e⟩ := valE_some h
    rw [e, decide_eq_true h]
    rfl
  · rw [valE_none h, decide_eq_false h]
    rfl
theorem putE_new {r : Rn} {L : List EV} {s : Option (Rn × Rn × Nat)} {v : V} (h : r ∉ keysE L) : putK (kvE L) (kR r) v = kvE (L ++ [(⟨r, s⟩, v)]) := by
  rw [putK_new v (valE_none h)]
  unfold kvE
  rw [List.map_append]
  rfl
theorem keysE_len {L : List EV} : (keysE L).length = L.length := List.length_map _
theorem keysE_app {L L' : List EV} : keysE (L ++ L') = keysE L ++ keysE L' := List.map_append
theorem kvE_len {L : List EV} : (kvE L).length = L.length := List.length_map _
theorem ext_two {H H3 : Hp} {D lf : Addr} {o u : HO} (e : Ext H H3) (hD : H D = none) (hl : H lf = none) : Ext H (upd (upd H3 D o) lf u) := fun b x hb => by
  rw [upd_ne (ne_of_none hb hl), upd_ne (ne_of_none hb hD)]
  exact e _ _ hb
theorem tups_two {H3 : Hp} {D lf : Addr} {o u : HO} {kvs : List (List Key × V)} {xs : List V} (h1 : H3 D = some (.dT kvs)) (h2 : H3 lf = some (.lst xs)) : Tups H3 (upd (upd H3 D o) lf u) := fun b ys hb => by
  have n1 : b ≠ D := fun z => by rw [z, h1] at hb; cases hb
  have n2 : b ≠ lf := fun z => by rw [z, h2] at hb; cases hb
  rw [upd_ne n2, upd_ne n1]
  exact hb
theorem prs_app {H : Hp} {bs cs : List Addr} {rs qs : List Rn} (h : PrsAt H bs rs) (k : PrsAt H cs qs) : PrsAt H (bs ++ cs) (rs ++ qs) := by
  refine ⟨by simp [h.1, k.1], fun i c q hc hq => ?_⟩
  by_cases hi : i < bs.length
  · rw [List.getElem?_append_left hi] at hc
    rw [List.getElem?_append_left (by rw [← h.1]; exact hi)] at hq
    exact h.2 i c q hc hq
  · rw [List.getElem?_append_right (by omega)] at hc
    rw [List.getElem?_append_right (by rw [← h.1]; omega)] at hq
    rw [← h.1] at hq
    exact k.2 _ c q hc hq
structure ClosedE (rs : List Rn) (n : Nat) (E : List Ent) : Prop where
  mem : ∀ r, r ∈ E.map (·.r) ↔ Cl (· ∈ rs) r
  nd : (E.map (·.r)).Nodup
  ok : ∀ r ∈ E.map (·.r), OkR n r
  pv : Prov E
  bs : ∀ e ∈ E, e.s = none → e.r ∈ rs
theorem keysE_ents (L : List EV) : (L.map (·.1)).map (·.r) = keysE L := by
  unfold keysE
  rw [List.map_map]
  rfl
def spClosedBy (K : PySem.W.Frag) : Sp := fun vs H Q _ => ∃ (d m : Addr) (bs : List Addr) (rs : List Rn) (n : Nat), vs = [.ref d, .ref m] ∧ H d = some (.dK []) ∧ SqL K H m (bs.map V.ref) ∧ PrsAt H bs rs ∧ n ≤ 7 ∧ (∀ r ∈ rs, OkR n r) ∧ rs.length ≤ 100 ∧
  ∀ (D : Addr) (L : List EV) (H' : Hp), Ext H H' → H D = none → DAt H' D L → ClosedE rs n (L.map (·.1)) → Q (.ref D) H'
theorem prs_snoc {H : Hp} {bs : List Addr} {rs : List Rn} {b : Addr} {r : Rn} (h : PrsAt H bs rs) (hb : PrAt H b r) : PrsAt H (bs ++ [b]) (rs ++ [r]) := by
  refine ⟨by simp [h.1], fun i c q hc hq => ?_⟩
  by_cases hi : i < bs.length
  · rw [List.getElem?_append_left hi] at hc
    rw [List.getElem?_append_left (by rw [← h.1]; exact hi)] at hq
    exact h.2 i c q hc hq
  · rw [List.getElem?_append_right (by omega)] at hc
    rw [List.getElem?_append_right (by rw [← h.1]; omega)] at hq
    rw [← h.1] at hq
    have e : i - bs.length = 0 := by
      have := (List.getElem?_eq_some_iff.mp hc).1
      rw [List.length_singleton] at this
      omega
    rw [e] at hc hq
    cases hc
    cases hq
    exact hb
theorem isKeys_prs {H : Hp} : ∀ {L : List EV} {cs : List Addr}, IsKeys H (kvE L) cs → PrsAt H cs (keysE L)
  | [], _, h => by
    cases h
    exact ⟨rfl, fun i b r h => by simp at h⟩
  | z :: L, _, h => by
    cases h with
    | @cons _ c _ cs h1 h2 =>
      obtain ⟨l, f⟩ := isKeys_prs (L := L) h2
      refine ⟨by simp [keysE, l], fun i b r hb hr => ?_⟩
      cases i with
      | zero =>
        cases hb
        cases hr
        exact pr_of h1
      | succ i => exact f i b r (by simpa using hb) (by simpa [keysE] using hr)
theorem prov_snoc {E : List Ent} {e : Ent} (h : Prov E) (he : ∀ p q w, e.s = some (p, q, w) → p ∈ E.map (·.r) ∧ q ∈ E.map (·.r) ∧ ov p q = true ∧ (mks p q)[w]? = some e.r) : Prov (E ++ [e]) := by
  intro i e' p q w hi hs
  by_cases hl : i < E.length
  · rw [List.getElem?_append_left hl] at hi
    have := h i e' p q w hi hs
    rw [List.take_append_of_le_length (by omega)]
    exact this
  · have h1 := (List.getElem?_eq_some_iff.mp hi).1
    rw [List.length_append, List.length_singleton] at h1
    have e0 : i = E.length := by omega
    subst e0
    rw [List.getElem?_append_right (Nat.le_refl _), Nat.sub_self] at hi
    cases hi
    rw [List.take_append_of_le_length (Nat.le_refl _), List.take_length]
    exact he p q w hs
section
variable {P : Program} {w : World} {K : PySem.W.Frag} {mg : Str → Option Value} {base : Heap} {tL tM tA : Tok} {ad : Ad}
theorem ok_closed_by (T : Tx K mg tL tM tA ad) : FnR P w K mg base (L2.CX P w) 2 ad.fClosedBy (spClosedBy K) := by
  obtain ⟨fd, F⟩ := T.F_closed_by
  have B := T.B
  have G_overlapping := ok_overlapping (P := P) (w := w) (base := base) T
  have G_made_of := ok_made_of (P := P) (w := w) (base := base) T
  refine fnP F sc_closed_by (fun _ _ _ _ _ _ us hl => match us, hl with | [_, _], _ => rfl) (fun vs H Q E h => ?_) (fun cdv A outer s H vs Q E hr h => ?_)
  · obtain ⟨d, m, bs, rs, n, rfl, _⟩ := h
    rfl
  · refine ⟨_, PSs.nox (pss_cons (ps_set (i := 2) sc_closed_by.nd rfl (Or.inl rfl) (pe_callTy call_dict_e (by rfl) B.n_dict (by decide +kernel) (pa_cons (pv 0) pa_nil)))
(pss_cons (ps_set (i := 3) sc_closed_by.nd rfl (Or.inl rfl) (pe_lst pa_nil))
(pss_cons (ps_for PassesOwn.never rfl (pi_listK (K := K) rfl (pv 1)) (pg_name (i := 4) sc_closed_by.nd rfl (Or.inl rfl))
(pss_one (ps_if (pt_cmp (pc_dnotin (hu_of hr) (pv 4) (pv 2)))
(pss_cons (ps_dput (hu_of hr) (pv 2) (pv 4) pe_non rfl)
(pss_one (ps_expr (pe_bmK (K := K) rfl PySem.F.plainAttrs_list PySem.F.slot_list_append PySem.F.type_list_append mt_append (pv 3) (pa_cons (pv 4) pa_nil)))))
pss_nil)))
(pss_cons (ps_while PassesOwn.never (pt_cmpR (op_neEK (K := K) rfl hr.units) (pv 3) (pe_lst pa_nil) (nomark _))
(pss_cons (ps_set (i := 4) sc_closed_by.nd rfl (Or.inl rfl) (pe_bmK (K := K) rfl PySem.F.plainAttrs_list PySem.F.slot_list_pop PySem.F.type_list_pop mt_popAt (pv 3) (pa_cons pe_int pa_nil)))
(pss_one (ps_for PassesOwn.never rfl (pi_listK (K := K) rfl (pe_callTy (call_list_dT rfl) (by rfl) B.n_list (by decide +kernel) (pa_cons (pv 2) pa_nil))) (pg_name (i := 5) sc_closed_by.nd rfl (Or.inl rfl))
(pss_one (ps_if (pt_val (pe_callR G_overlapping (hr.mono (by decide)) T.k_overlapping (by rfl) T.g_overlapping passL (pa_cons (pv 4) (pa_cons (pv 5) pa_nil))))
(pss_one (ps_for PassesOwn.never rfl (pi_enumT (K := K) rfl (by rfl) B.n_enumerate (pa_cons (pe_callR G_made_of (hr.mono (by decide)) T.k_made_of (by rfl) T.g_made_of passL (pa_cons (pv 4) (pa_cons (pv 5) pa_nil))) pa_nil)) (pg_tupK (n := 2) (K := K) rfl rfl (pgs_cons (pg_name (i := 6) sc_closed_by.nd rfl (Or.inl rfl)) (pgs_cons (pg_name (i := 7) sc_closed_by.nd rfl (Or.inl rfl)) pgs_nil)))
(pss_one (ps_if (pt_cmp (pc_dnotin (hu_of hr) (pv 7) (pv 2)))
(pss_cons (ps_dput (hu_of hr) (pv 2) (pv 7) (pe_tup (pa_cons (pv 4) (pa_cons (pv 5) (pa_cons (pv 6) pa_nil)))) rfl)
(pss_one (ps_expr (pe_bmK (K := K) rfl PySem.F.plainAttrs_list PySem.F.slot_list_append PySem.F.type_list_append mt_append (pv 3) (pa_cons (pv 7) pa_nil)))))
pss_nil))))
pss_nil))))))
(pss_one (ps_ret (pv 2))))))), ?_⟩
    obtain ⟨d, m, bs, rs, n, rfl, hd, hm, hrs, hn, hok, hlen, hQ⟩ := h
    refine ⟨_, rfl, d, rfl, .inl hd, fun D hD => ?_⟩
    have e1 := Ext.upd (o := HO.dT []) hD
    refine ⟨by decide, fun lf hlf => ?_⟩
    have hlf0 : H lf = none := ext_none e1 hlf
    have Dl : D ≠ lf := ne_of_none upd_same hlf
    have e2 := e1.trans (Ext.upd (o := HO.lst ([] : List V)) hlf)
    have oD : upd (upd H D (.dT [])) lf (.lst []) D = some (.dT []) := by rw [upd_ne Dl]; exact upd_same
    have ol : upd (upd H D (.dT [])) lf (.lst []) lf = some (.lst []) := upd_same
    generalize upd (upd H D (.dT [])) lf (.lst []) = H1 at e2 oD ol ⊢
    refine ⟨_, rfl, m, rfl, ⟨_, hm.ext e2⟩, ?_⟩
    refine for_list (xs := bs.map V.ref) (fun i (σ' : L2.St) H' => ∃ a4, σ' = [some (V.ref d), some (V.ref m), some (V.ref D), some (V.ref lf), a4, none, none, none] ∧ ∃ (L : List EV) (bl : List Addr), Ext H H' ∧ DAt H' D L ∧ H' lf = some (.lst (bl.map V.ref)) ∧ PrsAt H' bl (keysE L) ∧ (∀ z ∈ L, z.1.s = none) ∧ (keysE L).Nodup ∧ ∀ r, r ∈ keysE L ↔ r ∈ rs.take i) ?_ (fun i σ' H' _ hp => ?_) (fun i y σ' H' hy hp => ?_) (fun σ' H' hp => ?_)
    · exact ⟨_, rfl, [], [], e2, ⟨oD, by simp⟩, ol, ⟨rfl, by simp⟩, by simp, List.nodup_nil, by simp [keysE]⟩
    · obtain ⟨a4, rfl, L, bl, e, _⟩ := hp
      exact hm.ext e
    · obtain ⟨a4, rfl, L, bl, e, hDA, hl, hpr, hs, nd, mem⟩ := hp
      obtain ⟨b, hb, rfl⟩ : ∃ b, bs[i]? = some b ∧ y = .ref b := by
        rw [List.getElem?_map] at hy
        cases q : bs[i]? with
        | none => rw [q] at hy; cases hy
        | some b =>
          rw [q] at hy
          exact ⟨b, rfl, (Option.some.inj hy).symm⟩
      have hil : i < rs.length := by rw [← hrs.1]; exact (List.getElem?_eq_some_iff.mp hb).1
      have hr : rs[i]? = some rs[i] := List.getElem?_eq_getElem hil
      generalize rs[i] = r at hr
      have hbr : PrAt H' b r := (hrs.2 i b r hb hr).ext e
      have htk : ∀ x, x ∈ rs.take (i + 1) ↔ x ∈ rs.take i ∨ x = r := fun x => by
        rw [List.take_add_one, hr, List.mem_append]
        simp
      refine ⟨_, rfl, _, rfl, D, _, rfl, DGet.t hDA.1 hbr.key, _, rfl, ?_⟩
      rw [valE_is]
      by_cases hin : r ∈ keysE L
      · rw [decide_eq_true hin]
        refine iteF ?_
        exact ⟨_, rfl, L, bl, e, hDA, hl, hpr, hs, nd, fun x => by
          rw [htk, ← mem x]
          exact ⟨.inl, fun h => h.elim id fun h => h ▸ hin⟩⟩
      · rw [decide_eq_false hin]
        refine iteT ?_
        have hLl : L.length ≤ rs.length := by
          rw [← keysE_len]
          exact Nat.le_trans (nodup_le nd fun x hx => (mem x).1 hx) (by rw [List.length_take]; omega)
        refine ⟨_, rfl, _, rfl, D, _, rfl, DPut.t hDA.1 hbr.key (by rw [kvE_len]; exact Nat.lt_of_le_of_lt (by omega : L.length ≤ 100) (by decide)), ?_⟩
        rw [putE_new (s := none) hin]
        refine ⟨_, rfl, .inl ⟨rfl, _, SqL.of (by rw [upd_ne Dl.symm]; exact hl)⟩, ?_⟩
        refine ⟨_, rfl, lf, _, _, rfl, rfl, by rw [upd_ne Dl.symm]; exact hl, by rw [List.length_map, hpr.1, keysE_len]; exact Nat.lt_of_le_of_lt (by omega : L.length ≤ 100) (by decide), ?_⟩
        have tt : Tups H' (upd (upd H' D (.dT (kvE (L ++ [(⟨r, none⟩, V.non)])))) lf (.lst (bl.map V.ref ++ [.ref b]))) := tups_two hDA.1 hl
        refine ⟨_, rfl, L ++ [(⟨r, none⟩, .non)], bl ++ [b], ext_two e hD hlf0, ⟨by rw [upd_ne Dl]; exact upd_same, fun z hz => ?_⟩, by rw [List.map_append]; exact upd_same, ?_, fun z hz => ?_, ?_, fun x => ?_⟩
        · rcases List.mem_append.mp hz with hz | hz
          · exact (hDA.2 z hz).keep tt
          · rw [List.mem_singleton.mp hz]
            rfl
        · rw [keysE_app]
          exact prs_snoc (hpr.keep tt) (tt _ _ hbr)
        · rcases List.mem_append.mp hz with hz | hz
          · exact hs z hz
          · rw [List.mem_singleton.mp hz]
        · rw [keysE_app]
          exact List.nodup_append.mpr ⟨nd, by simp [keysE], fun x hx y hy e => by
            rw [show keysE [((⟨r, none⟩, V.non) : EV)] = [r] from rfl, List.mem_singleton] at hy
            exact hin (by rw [← hy, ← e]; exact hx)⟩
        · rw [keysE_app, List.mem_append, mem x, htk]
          rw [show keysE [((⟨r, none⟩, V.non) : EV)] = [r] from rfl, List.mem_singleton]
    · obtain ⟨a4, rfl, L, bl, e, hDA, hl, hpr, hs, nd, mem⟩ := hp
      rw [List.length_map, hrs.1, List.take_length] at mem
      have wl0 : WL (· ∈ rs) n (keysE L) (keysE L) := ⟨nd, fun r hr => hok r ((mem r).1 hr), fun r hr => hr, fun r hr => .base ((mem r).1 hr), fun r hr => (mem r).2 hr, fun x hx y hy nx => absurd hx nx⟩
      have pv0 : Prov (L.map (·.1)) := fun i e p q w he hs' => by
        obtain ⟨z, hz, rfl⟩ := List.mem_map.mp (List.mem_of_getElem? he)
        rw [hs z hz] at hs'
        cases hs'
      have bs0 : ∀ z ∈ L, z.1.s = none → z.1.r ∈ rs := fun z hz _ => (mem _).1 (List.mem_map.mpr ⟨z, hz, rfl⟩)
      clear hs mem
      refine ⟨fun k σ' H' => ∃ a4 a5 a6 a7, σ' = [some (V.ref d), some (V.ref m), some (V.ref D), some (V.ref lf), a4, a5, a6, a7] ∧ ∃ (L : List EV) (bl : List Addr) (ls : List Rn), k = 2 * (49 - L.length) + ls.length ∧ k ≤ 98 ∧ Ext H H' ∧ DAt H' D L ∧ H' lf = some (.lst (bl.map V.ref)) ∧ PrsAt H' bl ls ∧ WL (· ∈ rs) n (keysE L) ls ∧ Prov (L.map (·.1)) ∧ ∀ z ∈ L, z.1.s = none → z.1.r ∈ rs, ⟨_, a4, _, _, _, rfl, L, bl, keysE L, rfl, by have := len49 hn wl0.nd wl0.ok; rw [keysE_len] at this ⊢; omega, e, hDA, hl, hpr, wl0, pv0, bs0⟩, ?_⟩
      clear wl0 pv0 bs0 hpr nd hl hDA e bl L H'
      rintro k σ' H' ⟨b4, b5, b6, b7, rfl, L, bl, ls, rfl, hk98, e, hDA, hl, hpr, wl, pv, bs0⟩
      refine ⟨_, rfl, by decide, fun q hq => ?_⟩
      have e3 := e.trans (Ext.upd (o := HO.lst ([] : List V)) hq)
      have hDA3 := hDA.ext (Ext.upd (o := HO.lst ([] : List V)) hq)
      have hl3 := Ext.upd (o := HO.lst ([] : List V)) hq _ _ hl
      have hpr3 := hpr.ext (Ext.upd (o := HO.lst ([] : List V)) hq)
      have hq3 : upd H' q (.lst ([] : List V)) q = some (.lst []) := upd_same
      generalize upd H' q (.lst ([] : List V)) = H3 at e3 hDA3 hl3 hpr3 hq3 ⊢
      clear hDA hl hpr e hq
      refine ⟨lf, q, _, rfl, rfl, SqL.of hl3, SqL.of hq3, _, rfl, ?_⟩
      match ls, bl, hpr3, hl3, wl, hk98 with
      | [], bl, hpr3, hl3, wl, _ =>
        have hb0 : bl = [] := List.eq_nil_of_length_eq_zero hpr3.1
        subst hb0
        refine iteF ?_
        refine ⟨_, rfl, ?_⟩
        refine hQ D L H3 e3 hD hDA3 ⟨fun r => ?_, ?_, ?_, pv, fun e he hs => ?_⟩
        · rw [keysE_ents]
          exact wl.done r
        · rw [keysE_ents]
          exact wl.nd
        · rw [keysE_ents]
          exact wl.ok
        · obtain ⟨z, hz, rfl⟩ := List.mem_map.mp he
          exact bs0 z hz hs
      | run :: ls, [], hpr3, hl3, wl, _ =>
        have := hpr3.1
        simp at this
      | run :: ls, b :: bl, hpr3, hl3, wl, hk98 =>
        refine iteT ?_
        have hrun : PrAt H3 b run := hpr3.2 0 b run rfl rfl
        have hpl : PrsAt H3 bl ls := ⟨by have := hpr3.1; simpa using this, fun i c r hc hr => hpr3.2 (i + 1) c r (by simpa using hc) (by simpa using hr)⟩
        have l49 := len49 hn wl.nd wl.ok
        have rin : run ∈ keysE L := wl.sub _ List.mem_cons_self
        refine ⟨fun σ' H' => ∃ k', k' < 2 * (49 - L.length) + (run :: ls).length ∧ ∃ a4 a5 a6 a7, σ' = [some (V.ref d), some (V.ref m), some (V.ref D), some (V.ref lf), a4, a5, a6, a7] ∧ ∃ (L : List EV) (bl : List Addr) (ls : List Rn), k' = 2 * (49 - L.length) + ls.length ∧ k' ≤ 98 ∧ Ext H H' ∧ DAt H' D L ∧ H' lf = some (.lst (bl.map V.ref)) ∧ PrsAt H' bl ls ∧ WL (· ∈ rs) n (keysE L) ls ∧ Prov (L.map (·.1)) ∧ ∀ z ∈ L, z.1.s = none → z.1.r ∈ rs, fun σ' H' h => h, ?_⟩
        refine ⟨_, rfl, .inl ⟨rfl, _, SqL.of hl3⟩, lf, _, 0, 0, .ref b, rfl, rfl, hl3, by decide, by decide, seq_nat (by simp), rfl, ?_⟩
        have e4 : Ext H (upd H3 lf (.lst (bl.map V.ref))) := fun c o hc => by
          rw [upd_ne (ne_of_none hc hlf0)]
          exact e3 _ _ hc
        have t4 : Tups H3 (upd H3 lf (.lst (bl.map V.ref))) := fun c xs hc => by
          rw [upd_ne (fun z => by rw [z, hl3] at hc; cases hc)]
          exact hc
        have hDA4 : DAt (upd H3 lf (.lst (bl.map V.ref))) D L := ⟨by rw [upd_ne Dl]; exact hDA3.1, fun z hz => (hDA3.2 z hz).keep t4⟩
        have hl4 : upd H3 lf (.lst (bl.map V.ref)) lf = some (.lst (bl.map V.ref)) := upd_same
        have hpl4 := hpl.keep t4
        have hrun4 : PrAt (upd H3 lf (.lst (bl.map V.ref))) b run := t4 _ _ hrun
        rw [show ((b :: bl).map V.ref).eraseIdx 0 = bl.map V.ref from rfl]
        generalize upd H3 lf (.lst (bl.map V.ref)) = H4 at e4 hDA4 hl4 hpl4 hrun4 ⊢
        refine ⟨_, rfl, D, kvE L, rfl, .inl hDA4.1, fun p cs hp ik => ?_⟩
        have hcs : PrsAt H4 cs (keysE L) := isKeys_prs ik
        have pD : p ≠ D := (ne_of_none hDA4.1 hp).symm
        have plf : p ≠ lf := (ne_of_none hl4 hp).symm
        have x5 := Ext.upd (o := HO.lst (cs.map V.ref)) hp
        refine ⟨p, rfl, ⟨_, SqL.of upd_same⟩, ?_⟩
        have hp5 : upd H4 p (.lst (cs.map V.ref)) p = some (.lst (cs.map V.ref)) := upd_same
        have e5 := e4.trans x5
        have hDA5 := hDA4.ext x5
        have hl5 := x5 _ _ hl4
        have hpl5 := hpl4.ext x5
        have hrun5 := hrun4.ext x5
        have hcs5 := hcs.ext x5
        generalize upd H4 p (.lst (cs.map V.ref)) = H5 at hp5 e5 hDA5 hl5 hpl5 hrun5 hcs5 ⊢
        clear x5 e4 hDA4 hl4 hpl4 hrun4 hcs ik hp H4
        refine for_list (xs := cs.map V.ref) (fun i (σ' : L2.St) H' => ∃ a5 a6 a7, σ' = [some (V.ref d), some (V.ref m), some (V.ref D), some (V.ref lf), some (V.ref b), a5, a6, a7] ∧ ∃ (LN : List EV) (bn : List Addr), Ext H H' ∧ Tups H5 H' ∧ DAt H' D (L ++ LN) ∧ H' lf = some (.lst ((bl ++ bn).map V.ref)) ∧ PrsAt H' bn (keysE LN) ∧ H' p = some (.lst (cs.map V.ref)) ∧
          WI (· ∈ rs) n (keysE L) ls run i (keysE LN) ∧ Prov ((L ++ LN).map (·.1)) ∧ ∀ z ∈ LN, z.1.s ≠ none) ?_ (fun i σ' H' _ hp => ?_) (fun i y σ' H' hy hp => ?_) (fun σ' H' hp => ?_)
        · exact ⟨_, _, _, rfl, [], [], e5, fun _ _ h => h, by simpa using hDA5, by simpa using hl5, ⟨rfl, by simp⟩, hp5, WI.start wl, by simpa using pv, by simp⟩
        · obtain ⟨a5, a6, a7, rfl, LN, bn, _, _, _, _, _, hp', _⟩ := hp
          exact SqL.of hp'
        · obtain ⟨a5, a6, a7, rfl, LN, bn, e6, t6, hDA6, hl6, hbn, hp6, wi, pv6, ns6⟩ := hp
          obtain ⟨c, hc, rfl⟩ : ∃ c, cs[i]? = some c ∧ y = .ref c := by
            rw [List.getElem?_map] at hy
            cases q : cs[i]? with
            | none => rw [q] at hy; cases hy
            | some b =>
              rw [q] at hy
              exact ⟨b, rfl, (Option.some.inj hy).symm⟩
          have hil : i < (keysE L).length := by rw [← hcs5.1]; exact (List.getElem?_eq_some_iff.mp hc).1
          have hy : (keysE L)[i]? = some (keysE L)[i] := List.getElem?_eq_getElem hil
          have yin : (keysE L)[i] ∈ keysE L := List.getElem_mem hil
          generalize (keysE L)[i] = y at hy yin
          have hcy : PrAt H' c y := t6 _ _ (hcs5.2 i c y hc hy)
          have hrn : PrAt H' b run := t6 _ _ hrun5
          refine ⟨_, rfl, _, rfl, b, c, run, y, rfl, hrn, hcy, fun H7 x7 => ?_⟩
          refine ⟨_, rfl, ?_⟩
          by_cases ho : ov run y = true
          · rw [ho]
            refine iteT ?_
            refine ⟨_, rfl, _, rfl, b, c, run, y, rfl, hrn.ext x7, hcy.ext x7, ho, fun t ms H8 x8 ht hms => ?_⟩
            refine ⟨t, _, rfl, SqT.of ht, ?_⟩
            have x78 := x7.trans x8
            have e8 := e6.trans x78
            have hDA8 := hDA6.ext x78
            have hl8 := x78 _ _ hl6
            have hbn8 := hbn.ext x78
            have hp8 := x78 _ _ hp6
            have hrn8 := hrn.ext x78
            have hcy8 := hcy.ext x78
            have t8 := t6.trans (Tups.of x78)
            have okm : ∀ r ∈ mks run y, OkR n r := fun r hr => mks_ok (wl.ok run rin) (wl.ok y yin) ho hr
            have clm : ∀ r ∈ mks run y, Cl (· ∈ rs) r := fun r hr => .step (wl.cl run rin) (wl.cl y yin) ho hr
            refine for_it (walk_enumT (xs := ms.map V.ref)) (fun j (σ' : L2.St) H' => ∃ a6 a7, σ' = [some (V.ref d), some (V.ref m), some (V.ref D), some (V.ref lf), some (V.ref b), some (V.ref c), a6, a7] ∧ ∃ (LM : List EV) (bm : List Addr), Ext H H' ∧ Tups H8 H' ∧ DAt H' D (L ++ LM) ∧ H' lf = some (.lst ((bl ++ bm).map V.ref)) ∧ PrsAt H' bm (keysE LM) ∧ H' p = some (.lst (cs.map V.ref)) ∧
              (∀ r ∈ keysE LN, r ∈ keysE LM) ∧ (keysE L ++ keysE LM).Nodup ∧ (∀ r ∈ keysE LM, OkR n r) ∧ (∀ r ∈ keysE LM, Cl (· ∈ rs) r) ∧ (∀ (i : Nat) (r : Rn), i < j → (mks run y)[i]? = some r → r ∈ keysE L ++ keysE LM) ∧ Prov ((L ++ LM).map (·.1)) ∧ ∀ z ∈ LM, z.1.s ≠ none) ?_ (fun j σ' H' hj hp => ?_) (fun j x σ' H' H'' hj hp hy' => ?_) (fun σ' H' hp => ?_)
            · exact ⟨_, _, rfl, LN, bn, e8, fun _ _ h => h, hDA8, hl8, hbn8, hp8, fun r h => h, wi.nd, wi.ok, wi.cl, fun i r h => absurd h (Nat.not_lt_zero _), pv6, ns6⟩
            · obtain ⟨b6, b7, rfl, LM, bm, _, t9, _⟩ := hp
              exact SqT.of (t9 _ _ ht)
            · obtain ⟨b6, b7, rfl, LM, bm, e9, t9, hDA9, hl9, hbm, hp9, hsub, nd9, ok9, cl9, md9, pv9, ns9⟩ := hp
              obtain ⟨T9, x1, x2, rfl, hT, rfl, h1, h2⟩ := hy'
              cases h1
              replace h2 : (ms.map V.ref)[j]? = some x2 := h2
              obtain ⟨f, hf, rfl⟩ : ∃ f, ms[j]? = some f ∧ x2 = .ref f := by
                rw [List.getElem?_map] at h2
                cases q : ms[j]? with
                | none => rw [q] at h2; cases h2
                | some b =>
                  rw [q] at h2
                  exact ⟨b, rfl, (Option.some.inj h2).symm⟩
              have hjl : j < (mks run y).length := by rw [← hms.1]; exact (List.getElem?_eq_some_iff.mp hf).1
              have hr : (mks run y)[j]? = some (mks run y)[j] := List.getElem?_eq_getElem hjl
              have rm : (mks run y)[j] ∈ mks run y := List.getElem_mem hjl
              generalize (mks run y)[j] = r at hr rm
              have xT := Ext.upd (o := HO.tup [.int ((j : Nat) : Int), .ref f]) hT
              refine ⟨T9, _, rfl, SqT.of upd_same, rfl, _, _, rfl, _, _, rfl, rfl, ?_⟩
              have e10 := e9.trans xT
              have t10 := t9.trans (Tups.of xT)
              have hDA10 := hDA9.ext xT
              have hl10 := xT _ _ hl9
              have hbm10 := hbm.ext xT
              have hp10 := xT _ _ hp9
              generalize upd H' T9 (HO.tup [.int ((j : Nat) : Int), .ref f]) = H10 at e10 t10 hDA10 hl10 hbm10 hp10 ⊢
              clear e9 t9 hDA9 hl9 hbm hp9 xT hT H'
              have hfr : PrAt H10 f r := t10 _ _ (hms.2 j f r hf hr)
              have hrn10 : PrAt H10 b run := t10 _ _ hrn8
              have hcy10 : PrAt H10 c y := t10 _ _ hcy8
              refine ⟨_, rfl, _, rfl, D, _, rfl, DGet.t hDA10.1 hfr.key, _, rfl, ?_⟩
              rw [valE_is, keysE_app]
              have mdn : ∀ (LM' : List EV), (∀ r ∈ keysE LM, r ∈ keysE LM') → r ∈ keysE L ++ keysE LM' → ∀ (i : Nat) (q : Rn), i < j + 1 → (mks run y)[i]? = some q → q ∈ keysE L ++ keysE LM' := fun LM' hs hrr i q hi hq => by
                by_cases ei : i = j
                · subst ei
                  rw [hr] at hq
                  cases hq
                  exact hrr
                · rcases List.mem_append.mp (md9 i q (by omega) hq) with h | h
                  · exact List.mem_append_left _ h
                  · exact List.mem_append_right _ (hs _ h)
              by_cases hin : r ∈ keysE L ++ keysE LM
              · rw [decide_eq_true hin]
                refine iteF ?_
                exact ⟨_, _, rfl, LM, bm, e10, t10, hDA10, hl10, hbm10, hp10, hsub, nd9, ok9, cl9, mdn LM (fun _ h => h) hin, pv9, ns9⟩
              · rw [decide_eq_false hin]
                refine iteT ?_
                have l98 : (keysE L ++ keysE LM).length ≤ 49 := len49 hn nd9 fun q hq => (List.mem_append.mp hq).elim (wl.ok q) (ok9 q)
                have lkv : (kvE (L ++ LM)).length ≤ 49 := by
                  rw [kvE_len, ← keysE_len, keysE_app]
                  exact l98
                refine ⟨_, rfl, _, rfl, _, rfl, (show (3 : Nat) ≤ sizeLine by decide), fun tt htt => ?_⟩
                have xt := Ext.upd (o := HO.tup [.ref b, .ref c, .int ((j : Nat) : Int)]) htt
                have htt1 : upd H10 tt (HO.tup [.ref b, .ref c, .int ((j : Nat) : Int)]) tt = some (HO.tup [.ref b, .ref c, .int ((j : Nat) : Int)]) := upd_same
                have e11 := e10.trans xt
                have t11 := t10.trans (Tups.of xt)
                have hDA11 := hDA10.ext xt
                have hl11 := xt _ _ hl10
                have hbm11 := hbm10.ext xt
                have hp11 := xt _ _ hp10
                have hfr11 := hfr.ext xt
                have hrn11 := hrn10.ext xt
                have hcy11 := hcy10.ext xt
                generalize upd H10 tt (HO.tup [.ref b, .ref c, .int ((j : Nat) : Int)]) = H11 at htt1 e11 t11 hDA11 hl11 hbm11 hp11 hfr11 hrn11 hcy11 ⊢
                refine ⟨_, rfl, _, rfl, D, _, rfl, DPut.t hDA11.1 hfr11.key (Nat.lt_of_le_of_lt lkv (by decide)), ?_⟩
                rw [putE_new (s := some (run, y, j)) (by rw [keysE_app]; exact hin), List.append_assoc]
                refine ⟨_, rfl, .inl ⟨rfl, _, SqL.of (by rw [upd_ne Dl.symm]; exact hl11)⟩, ?_⟩
                refine ⟨_, rfl, lf, _, _, rfl, rfl, by rw [upd_ne Dl.symm]; exact hl11, ?_, ?_⟩
                · have hb1 := hbm11.1
                  have hb2 : bl.length = ls.length := hpl5.1
                  have hb3 : ls.length ≤ 98 := by rw [List.length_cons] at hk98; omega
                  rw [keysE_len] at hb1
                  have hb4 : LM.length ≤ 49 := by rw [kvE_len, List.length_append] at lkv; omega
                  rw [List.length_map, List.length_append]
                  exact Nat.lt_of_le_of_lt (by omega : bl.length + bm.length ≤ 147) (by decide)
                have tt12 : Tups H11 (upd (upd H11 D (.dT (kvE (L ++ (LM ++ [(⟨r, some (run, y, j)⟩, V.ref tt)]))))) lf (.lst ((bl ++ bm).map V.ref ++ [.ref f]))) := tups_two hDA11.1 hl11
                refine ⟨_, _, rfl, LM ++ [(⟨r, some (run, y, j)⟩, .ref tt)], bm ++ [f], ext_two e11 hD hlf0, t11.trans tt12, ⟨by rw [upd_ne Dl]; exact upd_same, fun z hz => ?_⟩, ?_, ?_, ?_, ?_, ?_, ?_, ?_, ?_, ?_, ?_⟩
                · rw [← List.append_assoc] at hz
                  rcases List.mem_append.mp hz with hz | hz
                  · exact (hDA11.2 z hz).keep tt12
                  · rw [List.mem_singleton.mp hz]
                    exact ⟨tt, b, c, rfl, tt12 _ _ htt1, tt12 _ _ hrn11, tt12 _ _ hcy11⟩
                · rw [show (bl ++ (bm ++ [f])).map V.ref = (bl ++ bm).map V.ref ++ [V.ref f] from by simp]
                  exact upd_same
                · rw [keysE_app]
                  exact prs_snoc (hbm11.keep tt12) (tt12 _ _ hfr11)
                · rw [upd_ne plf, upd_ne pD]
                  exact hp11
                · intro q hq
                  rw [keysE_app]
                  exact List.mem_append_left _ (hsub q hq)
                · rw [keysE_app, ← List.append_assoc]
                  exact List.nodup_append.mpr ⟨nd9, by simp [keysE], fun x hx y' hy' e => by
                    rw [show keysE [((⟨r, some (run, y, j)⟩, V.ref tt) : EV)] = [r] from rfl, List.mem_singleton] at hy'
                    exact hin (by rw [← hy', ← e]; exact hx)⟩
                · intro q hq
                  rw [keysE_app] at hq
                  rcases List.mem_append.mp hq with hq | hq
                  · exact ok9 q hq
                  · rw [List.mem_singleton.mp hq]
                    exact okm r rm
                · intro q hq
                  rw [keysE_app] at hq
                  rcases List.mem_append.mp hq with hq | hq
                  · exact cl9 q hq
                  · rw [List.mem_singleton.mp hq]
                    exact clm r rm
                · refine mdn _ (fun q hq => by rw [keysE_app]; exact List.mem_append_left _ hq) ?_
                  rw [keysE_app]
                  exact List.mem_append_right _ (List.mem_append_right _ (List.mem_singleton.mpr rfl))
                · rw [← List.append_assoc, List.map_append]
                  refine prov_snoc pv9 fun p' q' w' hs' => ?_
                  have hs'' : some (run, y, j) = some (p', q', w') := hs'
                  cases hs''
                  rw [keysE_ents, keysE_app]
                  exact ⟨List.mem_append_left _ rin, List.mem_append_left _ yin, ho, hr⟩
                · intro z hz
                  rcases List.mem_append.mp hz with hz | hz
                  · exact ns9 z hz
                  · rw [List.mem_singleton.mp hz]
                    exact fun h => nomatch h
            · obtain ⟨b6, b7, rfl, LM, bm, e9, t9, hDA9, hl9, hbm, hp9, hsub, nd9, ok9, cl9, md9, pv9, ns9⟩ := hp
              refine ⟨_, _, _, rfl, LM, bm, e9, t8.trans t9, hDA9, hl9, hbm, hp9, wi.next hy hsub nd9 ok9 cl9 fun _ r hr => ?_, pv9, ns9⟩
              obtain ⟨i9, hi9⟩ := List.mem_iff_getElem?.mp hr
              refine md9 i9 r ?_ hi9
              rw [List.length_map, hms.1]
              exact (List.getElem?_eq_some_iff.mp hi9).1
          · rw [show ov run y = false from by simpa using ho]
            refine iteF ?_
            exact ⟨_, _, _, rfl, LN, bn, e6.trans x7, t6.trans (Tups.of x7), hDA6.ext x7, x7 _ _ hl6, hbn.ext x7, x7 _ _ hp6, wi.next hy (fun _ h => h) wi.nd wi.ok wi.cl fun h => absurd h ho, pv6, ns6⟩
        · obtain ⟨a5, a6, a7, rfl, LN, bn, e6, t6, hDA6, hl6, hbn, hp6, wi, pv6, ns6⟩ := hp
          rw [List.length_map, hcs5.1] at wi
          have wl2 := WI.fin wl wi
          rw [← keysE_app] at wl2
          have l49' := len49 hn wl2.nd wl2.ok
          rw [keysE_len, List.length_append] at l49'
          have hbl : (keysE LN).length = LN.length := keysE_len
          refine ⟨2 * (49 - (L ++ LN).length) + (ls ++ keysE LN).length, ?_, _, _, _, _, rfl, L ++ LN, bl ++ bn, ls ++ keysE LN, rfl, ?_, e6, hDA6, hl6, ?_, wl2, pv6, fun z hz hs => ?_⟩
          · rw [List.length_append, List.length_append, List.length_cons, hbl]
            omega
          · rw [List.length_append, List.length_append, hbl]
            rw [List.length_cons] at hk98
            omega
          · exact prs_app (hpl5.keep t6) hbn
          · rcases List.mem_append.mp hz with hz | hz
            · exact bs0 z hz hs
            · exact absurd hs (ns6 z hz)
end
end Kq
set_option maxHeartbeats 4000000
namespace Kq
open PySem PySem.Spec PyProof.Rows L2 Kp
open Evl (Ev EvL EvT EvA given)
/-! ### rows_to -/
theorem valE_at {L : List EV} {m : Nat} {z : EV} (nd : (keysE L).Nodup) (h : L[m]? = some z) : valV (kvE L) (kR z.1.r) = some z.2 := by
  obtain ⟨z', hz', e, ev⟩ := valE_some (L := L) (r := z.1.r) (List.mem_map.mpr ⟨z, List.mem_of_getElem? h, rfl⟩)
  obtain ⟨j, hj⟩ := List.mem_iff_getElem?.mp hz'
  have h1 : (keysE L)[j]? = some z.1.r := by
    unfold keysE
    rw [List.getElem?_map, hj]
    exact congrArg some e
  have h2 : (keysE L)[m]? = some z.1.r := by
    unfold keysE
    rw [List.getElem?_map, h]
    rfl
  have ej : j = m := (List.getElem?_inj (List.getElem?_eq_some_iff.mp h1).1 nd).mp (h1.trans h2.symm)
  rw [ej, h] at hj
  cases hj
  exact ev
/-- a row's tuple -/
def Row4 (H : Hp) (u : Addr) (x : Row) : Prop := ∃ b c d, H u = some (.tup [.ref b, .ref c, .int (x.w : Int), .ref d]) ∧ PrAt H b x.p ∧ PrAt H c x.q ∧ PrAt H d x.r
theorem Row4.keep {H H' : Hp} {u : Addr} {x : Row} (h : Row4 H u x) (t : Tups H H') : Row4 H' u x :=
  let ⟨b, c, d, h1, h2, h3, h4⟩ := h
  ⟨b, c, d, t _ _ h1, t _ _ h2, t _ _ h3, t _ _ h4⟩
def Rows4 (H : Hp) (us : List Addr) (xs : List Row) : Prop := us.length = xs.length ∧ ∀ (i : Nat) (u : Addr) (x : Row), us[i]? = some u → xs[i]? = some x → Row4 H u x
theorem Rows4.keep {H H' : Hp} {us : List Addr} {xs : List Row} (h : Rows4 H us xs) (t : Tups H H') : Rows4 H' us xs := ⟨h.1, fun i u x a b => (h.2 i u x a b).keep t⟩
theorem rows_snoc {H : Hp} {us : List Addr} {xs : List Row} {u : Addr} {x : Row} (h : Rows4 H us xs) (hu : Row4 H u x) : Rows4 H (us ++ [u]) (xs ++ [x]) := by
  refine ⟨by simp [h.1], fun i c q hc hq => ?_⟩
  by_cases hi : i < us.length
  · rw [List.getElem?_append_left hi] at hc
    rw [List.getElem?_append_left (by rw [← h.1]; exact hi)] at hq
    exact h.2 i c q hc hq
  · rw [List.getElem?_append_right (by omega)] at hc
    rw [List.getElem?_append_right (by rw [← h.1]; omega)] at hq
    rw [← h.1] at hq
    have e : i - us.length = 0 := by
      have := (List.getElem?_eq_some_iff.mp hc).1
      rw [List.length_singleton] at this
      omega
    rw [e] at hc hq
    cases hc
    cases hq
    exact hu
theorem rows_rev {H : Hp} {us : List Addr} {xs : List Row} (h : Rows4 H us xs) : Rows4 H us.reverse xs.reverse := by
  refine ⟨by simp [h.1], fun i u x hu hx => ?_⟩
  have l1 := (List.getElem?_eq_some_iff.mp hu).1
  rw [List.length_reverse] at l1
  rw [List.getElem?_reverse l1] at hu
  rw [List.getElem?_reverse (by rw [← h.1]; exact l1), ← h.1] at hx
  exact h.2 _ u x hu hx
theorem dgetT {H : Hp} {a b : Addr} {kvs : List (List Key × V)} {k : List Key} {v : V} (e : H a = some (.dT kvs)) (eb : H b = some (.tup (k.map kV))) (h : valV kvs k = some v) : DGet H a (.ref b) (some v) := h ▸ DGet.t e eb
def spRowsTo : Sp := fun vs H Q _ => ∃ (D b : Addr) (L : List EV) (run : Rn), vs = [.ref D, .ref b] ∧ DAt H D L ∧ PrAt H b run ∧ run ∈ keysE L ∧ L.length ≤ 49 ∧ (keysE L).Nodup ∧ Prov (L.map (·.1)) ∧
  ∀ (t : Addr) (us : List Addr) (xs : List Row) (H' : Hp), Ext H H' → H t = none → H' t = some (.lst (us.map V.ref)) → Rows4 H' us xs → xs.length ≤ 49 → (∀ th, (∀ e ∈ L.map (·.1), e.s = none → e.r ∈ th) → chain th xs ∧ (run ∈ th ∨ run ∈ xs.map (·.r))) → Q (.ref t) H'
section
variable {P : Program} {w : World} {K : PySem.W.Frag} {mg : Str → Option Value} {base : Heap} {tL tM tA : Tok} {ad : Ad}
theorem ok_rows_to (T : Tx K mg tL tM tA ad) : FnR P w K mg base (L2.CX P w) 1 ad.fRowsTo spRowsTo := by
  obtain ⟨fd, F⟩ := T.F_rows_to
  have B := T.B
  refine fnP F sc_rows_to (fun _ _ _ _ _ _ us hl => match us, hl with | [_, _], _ => rfl) (fun vs H Q E h => ?_) (fun cdv A outer s H vs Q E hr h => ?_)
  · obtain ⟨D, b, L, run, rfl, _⟩ := h
    rfl
  · refine ⟨_, PSs.nox (pss_cons (ps_set (i := 2) sc_rows_to.nd rfl (Or.inl rfl) (pe_disp1 hr.units (pv 1) pe_bl))
(pss_cons (ps_set (i := 3) sc_rows_to.nd rfl (Or.inl rfl) (pe_lst pa_nil))
(pss_cons (ps_for PassesOwn.never rfl (pi_listK (K := K) rfl (pe_revLK (K := K) rfl (pe_callTy (call_list_dT rfl) (by rfl) B.n_list (by decide +kernel) (pa_cons (pv 0) pa_nil)))) (pg_name (i := 4) sc_rows_to.nd rfl (Or.inl rfl))
(pss_one (ps_if (PW.pt (pw_and (pt_cmp (pc_din (hu_of hr) (pv 4) (pv 2))) (pw_and1 (pt_cmp (pc_notN (pe_dget (hu_of hr) (pv 0) (pv 4) (fun _ _ => rfl)))))))
(pss_cons (ps_asg (pe_dget (hu_of hr) (pv 0) (pv 4) (fun _ _ => rfl)) (pg_tupK (n := 3) (K := K) rfl rfl (pgs_cons (pg_name (i := 5) sc_rows_to.nd rfl (Or.inl rfl)) (pgs_cons (pg_name (i := 6) sc_rows_to.nd rfl (Or.inl rfl)) (pgs_cons (pg_name (i := 7) sc_rows_to.nd rfl (Or.inl rfl)) pgs_nil)))))
(pss_cons (ps_dput (hu_of hr) (pv 2) (pv 5) pe_bl rfl)
(pss_cons (ps_dput (hu_of hr) (pv 2) (pv 6) pe_bl rfl)
(pss_one (ps_expr (pe_bmK (K := K) rfl PySem.F.plainAttrs_list PySem.F.slot_list_append PySem.F.type_list_append mt_append (pv 3) (pa_cons (pe_tup (pa_cons (pv 5) (pa_cons (pv 6) (pa_cons (pv 7) (pa_cons (pv 4) pa_nil))))) pa_nil)))))))
pss_nil)))
(pss_one (ps_ret (pe_revLK (K := K) rfl (pv 3))))))), ?_⟩
    obtain ⟨D, b, L, run, rfl, hDA, hb, hin, h49, nd, pv, hQ⟩ := h
    intro wd hwd
    have x1 := Ext.upd (o := HO.dT []) hwd
    refine ⟨_, rfl, upd_same, b, kR run, rfl, x1 _ _ hb, ?_⟩
    rw [upd_upd]
    have x1 := Ext.upd (o := HO.dT [(kR run, V.bl true)]) hwd
    have ow : upd H wd (.dT [(kR run, V.bl true)]) wd = some (.dT [(kR run, V.bl true)]) := upd_same
    generalize upd H wd (.dT [(kR run, V.bl true)]) = H1 at x1 ow ⊢
    refine ⟨by decide, fun rw_ hrw => ?_⟩
    have x2 := Ext.upd (o := HO.lst ([] : List V)) hrw
    have orw : upd H1 rw_ (.lst ([] : List V)) rw_ = some (.lst []) := upd_same
    have hrw0 : H rw_ = none := ext_none x1 hrw
    have ow2 := x2 _ _ ow
    have wr : wd ≠ rw_ := ne_of_none ow hrw
    generalize upd H1 rw_ (.lst ([] : List V)) = H2 at x2 orw ow2 ⊢
    have e2 := x1.trans x2
    refine ⟨_, rfl, D, kvE L, rfl, .inl (e2 _ _ hDA.1), fun p cs hp ik => ?_⟩
    have x3 := Ext.upd (o := HO.lst (cs.map V.ref)) hp
    refine ⟨p, _, rfl, SqL.of upd_same, fun p' hp' => ?_⟩
    have x4 := Ext.upd (o := HO.lst (cs.map V.ref).reverse) hp'
    have hcs := (isKeys_prs ik).ext (x3.trans x4)
    refine ⟨p', rfl, ⟨_, SqL.of upd_same⟩, ?_⟩
    have op' : upd (upd H2 p (.lst (cs.map V.ref))) p' (.lst (cs.map V.ref).reverse) p' = some (.lst (cs.map V.ref).reverse) := upd_same
    have ow4 := x4 _ _ (x3 _ _ ow2)
    have orw4 := x4 _ _ (x3 _ _ orw)
    have e4 := e2.trans (x3.trans x4)
    have pw : p' ≠ wd := (ne_of_none (x3 _ _ ow2) hp').symm
    have prw : p' ≠ rw_ := (ne_of_none (x3 _ _ orw) hp').symm
    generalize upd (upd H2 p (.lst (cs.map V.ref))) p' (.lst (cs.map V.ref).reverse) = H4 at hcs op' ow4 orw4 e4 ⊢
    have hlen : cs.length = L.length := by rw [hcs.1, keysE_len]
    refine for_list (xs := (cs.map V.ref).reverse) (fun i (σ' : L2.St) H' => ∃ a4 a5 a6 a7, σ' = [some (V.ref D), some (V.ref b), some (V.ref wd), some (V.ref rw_), a4, a5, a6, a7] ∧ ∃ (kvs : List (List Key × V)) (W : List Rn) (us : List Addr) (xs : List Row), Ext H H' ∧ Tups H4 H' ∧ H' p' = some (.lst (cs.map V.ref).reverse) ∧
      H' wd = some (.dT kvs) ∧ kvs.length ≤ 1 + 2 * i ∧ (∀ r, (valV kvs (kR r)).isSome = decide (r ∈ W)) ∧ run ∈ W ∧ H' rw_ = some (.lst (us.map V.ref)) ∧ Rows4 H' us xs.reverse ∧ xs.length ≤ i ∧ Good (L.map (·.1)) (L.length - i) W xs) ?_ (fun i σ' H' _ hp => ?_) (fun i y σ' H' hy hp => ?_) (fun σ' H' hp => ?_)
    · refine ⟨_, _, _, _, rfl, [(kR run, V.bl true)], [run], [], [], e4, fun _ _ h => h, op', ow4, by simp, fun r => ?_, by simp, orw4, ⟨rfl, by simp⟩, by simp, ?_⟩
      · by_cases hr : run = r
        · subst hr
          rw [valV_pos rfl]
          simp
        · rw [valV_neg (fun z => hr (kR_inj z)), decide_eq_false (by simp [Ne.symm hr])]
          rfl
      · have := Good.start (L.map (·.1)) [run]
        rw [List.length_map] at this
        exact this
    · obtain ⟨a4, a5, a6, a7, rfl, kvs, W, us, xs, _, _, h, _⟩ := hp
      exact SqL.of h
    · obtain ⟨a4, a5, a6, a7, rfl, kvs, W, us, xs, e5, t5, hp5, hw5, hl5, hW, hrun, hr5, hus, hxl, gd⟩ := hp
      have hil : i < L.length := by
        have := (List.getElem?_eq_some_iff.mp hy).1
        rw [List.length_reverse, List.length_map, hlen] at this
        exact this
      obtain ⟨m, hm⟩ : ∃ m, L.length - i = m + 1 := ⟨L.length - i - 1, by omega⟩
      have hm2 : L.length - (i + 1) = m := by omega
      obtain ⟨c, hc, rfl⟩ : ∃ c, cs[m]? = some c ∧ y = .ref c := by
        rw [List.getElem?_reverse (by rw [List.length_map, hlen]; exact hil), List.length_map, hlen, show L.length - 1 - i = m from by omega, List.getElem?_map] at hy
        cases q : cs[m]? with
        | none => rw [q] at hy; cases hy
        | some b =>
          rw [q] at hy
          exact ⟨b, rfl, (Option.some.inj hy).symm⟩
      have hz : L[m]? = some L[m] := List.getElem?_eq_getElem (by omega)
      generalize L[m] = z at hz
      have hzk : (keysE L)[m]? = some z.1.r := by
        unfold keysE
        rw [List.getElem?_map, hz]
        rfl
      have hze : (L.map (·.1))[m]? = some z.1 := by
        rw [List.getElem?_map, hz]
        rfl
      have hcz : PrAt H' c z.1.r := t5 _ _ (hcs.2 m c _ hc hzk)
      have hD5 := hDA.ext e5
      have hv := valE_at nd hz
      have hva := hD5.2 z (List.mem_of_getElem? hz)
      rw [hm] at gd
      rw [hm2]
      refine ⟨_, rfl, _, rfl, wd, _, rfl, DGet.t hw5 hcz.key, _, rfl, ?_⟩
      rw [hW]
      by_cases hzW : z.1.r ∈ W
      · rw [decide_eq_true hzW]
        refine iteT ?_
        refine ⟨_, rfl, _, rfl, D, z.2, rfl, dgetT hD5.1 hcz.key hv, ?_⟩
        cases hs : z.1.s with
        | none =>
          rw [hs] at hva
          have hv0 : z.2 = .non := hva
          rw [hv0]
          refine ⟨_, rfl, ?_⟩
          refine iteF ?_
          exact ⟨_, _, _, _, rfl, kvs, W, us, xs, e5, t5, hp5, hw5, by omega, hW, hrun, hr5, hus, by omega, gd.skip hze (.inr hs)⟩
        | some s3 =>
          obtain ⟨pp, qq, ww⟩ := s3
          rw [hs] at hva
          obtain ⟨t, b1, b2, hv0, ht, hb1, hb2⟩ := hva
          replace ht : H' t = some (.tup [.ref b1, .ref b2, .int (ww : Int)]) := ht
          replace hb1 : PrAt H' b1 pp := hb1
          replace hb2 : PrAt H' b2 qq := hb2
          rw [hv0]
          refine ⟨_, rfl, ?_⟩
          refine iteT ?_
          rw [hv0] at hv
          refine ⟨_, rfl, _, rfl, D, .ref t, rfl, dgetT hD5.1 hcz.key hv, ?_⟩
          refine ⟨t, _, rfl, SqT.of ht, rfl, _, _, rfl, _, _, rfl, _, _, rfl, rfl, ?_⟩
          have lk1 := length_putK kvs (kR pp) (V.bl true)
          have lk2 := length_putK (putK kvs (kR pp) (V.bl true)) (kR qq) (V.bl true)
          have hD_wd : wd ≠ D := fun z => by
            have := hD5.1
            rw [← z, hw5] at this
            have q := hDA.1
            rw [← z, hwd] at q
            cases q
          refine ⟨_, rfl, _, rfl, wd, _, rfl, DPut.t hw5 hb1.key (Nat.lt_of_le_of_lt (by omega : kvs.length ≤ 100) (by decide)), ?_⟩
          have u1 : Tups H' (upd H' wd (.dT (putK kvs (kR pp) (V.bl true)))) := fun b' ys h => by
            rw [upd_ne (fun z => by rw [z, hw5] at h; cases h)]
            exact h
          have hb2' : PrAt _ b2 qq := u1 _ _ hb2
          refine ⟨_, rfl, _, rfl, wd, _, rfl, DPut.t (upd_same) hb2'.key (Nat.lt_of_le_of_lt (by omega : (putK kvs (kR pp) (V.bl true)).length ≤ 101) (by decide)), ?_⟩
          rw [upd_upd]
          have u2 : Tups H' (upd H' wd (.dT (putK (putK kvs (kR pp) (V.bl true)) (kR qq) (V.bl true)))) := fun b' ys h => by
            rw [upd_ne (fun z => by rw [z, hw5] at h; cases h)]
            exact h
          have e6 : Ext H (upd H' wd (.dT (putK (putK kvs (kR pp) (V.bl true)) (kR qq) (V.bl true)))) := fun b' o hb' => by
            rw [upd_ne (ne_of_none hb' hwd)]
            exact e5 _ _ hb'
          have hp6 : upd H' wd (.dT (putK (putK kvs (kR pp) (V.bl true)) (kR qq) (V.bl true))) p' = some (.lst (cs.map V.ref).reverse) := by rw [upd_ne pw]; exact hp5
          have hr6 : upd H' wd (.dT (putK (putK kvs (kR pp) (V.bl true)) (kR qq) (V.bl true))) rw_ = some (.lst (us.map V.ref)) := by rw [upd_ne wr.symm]; exact hr5
          have hw6 : upd H' wd (.dT (putK (putK kvs (kR pp) (V.bl true)) (kR qq) (V.bl true))) wd = some (.dT (putK (putK kvs (kR pp) (V.bl true)) (kR qq) (V.bl true))) := upd_same
          have t6 := t5.trans u2
          have hus6 := hus.keep u2
          have g1 : PrAt _ b1 pp := u2 _ _ hb1
          have g2 : PrAt _ b2 qq := u2 _ _ hb2
          have g3 : PrAt _ c z.1.r := u2 _ _ hcz
          generalize upd H' wd (.dT (putK (putK kvs (kR pp) (V.bl true)) (kR qq) (V.bl true))) = H6 at e6 hp6 hr6 hw6 t6 hus6 g1 g2 g3 ⊢
          refine ⟨_, rfl, .inl ⟨rfl, _, SqL.of hr6⟩, ?_⟩
          refine ⟨_, rfl, _, rfl, _, rfl, _, rfl, (show (4 : Nat) ≤ sizeLine by decide), fun r4 hr4 => ?_⟩
          have x7 := Ext.upd (o := HO.tup [.ref b1, .ref b2, .int ((ww : Nat) : Int), .ref c]) hr4
          have o7 : upd H6 r4 (HO.tup [.ref b1, .ref b2, .int ((ww : Nat) : Int), .ref c]) r4 = some (HO.tup [.ref b1, .ref b2, .int ((ww : Nat) : Int), .ref c]) := upd_same
          have e7 := e6.trans x7
          have hp7 := x7 _ _ hp6
          have hr7 := x7 _ _ hr6
          have hw7 := x7 _ _ hw6
          have t7 := t6.trans (Tups.of x7)
          have hus7 := hus6.keep (Tups.of x7)
          have g17 := g1.ext x7
          have g27 := g2.ext x7
          have g37 := g3.ext x7
          generalize upd H6 r4 (HO.tup [.ref b1, .ref b2, .int ((ww : Nat) : Int), .ref c]) = H7 at o7 e7 hp7 hr7 hw7 t7 hus7 g17 g27 g37 ⊢
          have lus := hus7.1
          rw [List.length_reverse] at lus
          refine ⟨rw_, _, _, rfl, rfl, hr7, by rw [List.length_map, lus]; exact Nat.lt_of_le_of_lt (by omega : xs.length ≤ 49) (by decide), ?_⟩
          have u8 : Tups H7 (upd H7 rw_ (.lst (us.map V.ref ++ [.ref r4]))) := fun b' ys h => by
            rw [upd_ne (fun z => by rw [z, hr7] at h; cases h)]
            exact h
          refine ⟨_, _, _, _, rfl, _, qq :: pp :: W, us ++ [r4], ⟨pp, qq, ww, z.1.r⟩ :: xs, ?_, t7.trans u8, by rw [upd_ne prw]; exact hp7, by rw [upd_ne wr]; exact hw7, by omega, fun r => ?_, by simp [hrun], by rw [List.map_append]; exact upd_same, ?_, by simp; omega, ?_⟩
          · intro b' o hb'
            rw [upd_ne (ne_of_none hb' hrw0)]
            exact e7 _ _ hb'
          · rw [valV_put, valV_put]
            by_cases h1 : r = qq
            · subst h1
              rw [if_pos rfl]
              simp
            · rw [if_neg (fun z => h1 (kR_inj z))]
              by_cases h2 : r = pp
              · subst h2
                rw [if_pos rfl]
                simp
              · rw [if_neg (fun z => h2 (kR_inj z)), hW]
                simp [h1, h2]
          · rw [List.reverse_cons]
            exact rows_snoc (hus7.keep u8) ⟨b1, b2, c, u8 _ _ o7, u8 _ _ g17, u8 _ _ g27, u8 _ _ g37⟩
          · exact gd.take pv hze hs fun x => by
              simp only [List.mem_cons]
              constructor
              · rintro (h | h | h)
                · exact .inr (.inr h)
                · exact .inr (.inl h)
                · exact .inl h
              · rintro (h | h | h)
                · exact .inr (.inr h)
                · exact .inr (.inl h)
                · exact .inl h
      · rw [decide_eq_false hzW]
        refine iteF ?_
        exact ⟨_, _, _, _, rfl, kvs, W, us, xs, e5, t5, hp5, hw5, by omega, hW, hrun, hr5, hus, by omega, gd.skip hze (.inl hzW)⟩
    · obtain ⟨a4, a5, a6, a7, rfl, kvs, W, us, xs, e5, t5, hp5, hw5, hl5, hW, hrun, hr5, hus, hxl, gd⟩ := hp
      rw [List.length_reverse, List.length_map, hlen, Nat.sub_self] at gd
      rw [List.length_reverse, List.length_map, hlen] at hxl
      refine ⟨_, rfl, rw_, _, rfl, SqL.of hr5, fun q hq => ?_⟩
      have x6 := Ext.upd (o := HO.lst (us.map V.ref).reverse) hq
      refine hQ q us.reverse xs _ (e5.trans x6) (ext_none e5 hq) (by rw [List.map_reverse]; exact upd_same) ?_ (by omega) fun th hb => ?_
      · have := rows_rev (hus.keep (Tups.of x6))
        rw [List.reverse_reverse] at this
        exact this
      · exact gd.fin hb hrun (by rw [keysE_ents]; exact hin)
end
end Kq
set_option maxHeartbeats 2000000
/-! t[lo:hi] where it is the whole tuple. -/
namespace Kp
open PySem PySem.Spec PyProof.Rows L2 HT
section
variable {prog : Program} {w : World} {A : Around} {E : Value → Shared → Prop} {s : Shared}
theorem getItem_tuple_all {t sl : Addr} {items : Array Value} {vl vu : Value} {lo hi : Option Int} {Q : Value → Shared → Prop} (ht : IsTup s.heap t items) (hs : s.heap.IsSliceOf sl vl vu .none) (pl : IsPart vl lo) (pu : IsPart vu hi)
    (h0 : sIx items.size 0 lo = 0) (h1 : sIx items.size items.size hi = items.size) (hQ : Q (.ref t) s) : wpAny (model prog w) A (getItem (.ref t) (.ref sl)) Q E s := by
  have hj : sIx items.size items.size hi ≤ items.size := sIx_le _ _ (Nat.le_refl _) hi
  obtain ⟨os, hos, hcs, hds⟩ := id hs
  have hTs : s.TypeIs (.ref sl) "slice" := ⟨os, hos, hcs⟩
  unfold getItem
  try with_reducible refine wpAny_holding ?_
  first | refine wpAny_bind (wpAny_pure ?_) | skip
  refine wpAny_bind (wpAny_sequenceKey ht.typeIs (by decide) ?_)
  refine wpAny_bind (wpAny_callSpecial?_slot (name := Str.ofString "__getitem__") ht.typeIs PyProof.Rows.slot_tuple_getitem
    (wpAny_call_entry PyProof.Rows.slot_tuple_getitem ht.typeIs entry_tuple_getitem ?_ (args_tuple_getitem _ _)))
  show wpAny _ _ (Builtin.Tuple.tupleItemsOf (.ref t) >>= _) _ _ s
  refine wpAny_bind (tupleItemsOf_ ht ?_)
  refine wpAny_bind (wpAny_typeOf hTs ?_)
  rw [if_pos (by decide)]
  refine wpAny_bind (sliceApplied_gen hs pl pu ?_)
  have hyes : ((((sIx items.size 0 lo : Nat) : Int) == 0 && (1 : Int) == 1 && (sIx items.size items.size hi - sIx items.size 0 lo) == items.size) = true) := by
    rw [h0, h1]
    simp
  show wpAny _ _ (if (((sIx items.size 0 lo : Nat) : Int) == 0 && (1 : Int) == 1 && (sIx items.size items.size hi - sIx items.size 0 lo) == items.size) = true then _ else _) _ _ s
  rw [if_pos hyes]
  refine wpAny_bind ?_
  unfold Builtin.Tuple.tupleIsExact
  refine wpAny_bind (wpAny_typeOf ht.typeIs (wpAny_pure ?_))
  rw [if_pos (by decide)]
  exact wpAny_bind (wpAny_rule (wpAny_pure ⟨_, rfl, wpAny_pure hQ⟩))
end
section
variable {X : Cx}
/-- t[lo:hi], the whole of it or a part -/
def rSlTA (K : PySem.W.Frag) : V → Option Int → Option Int → Hp → VK → Prop := fun x lo hi H Q => ∃ a xs, x = .ref a ∧ SqT K H a xs ∧
  ((HT.sIx xs.length 0 lo = 0 ∧ HT.sIx xs.length xs.length hi = xs.length) → Q (.ref a) H) ∧
  (¬ (HT.sIx xs.length 0 lo = 0 ∧ HT.sIx xs.length xs.length hi = xs.length) → ∀ p, H p = none → Q (.ref p) (upd H p (.tup (cutV xs lo hi))))
theorem sl_tupA : SlR X (rSlTA X.K) := by
  intro pins s σ H x v vl vu lo hi sl Q I rx hs pl pu h
  obtain ⟨a, xs, rfl, hx, q1, q2⟩ := h
  by_cases hw : HT.sIx xs.length 0 lo = 0 ∧ HT.sIx xs.length xs.length hi = xs.length
  · cases rx
    obtain ⟨its, r, ht, hz⟩ := I.tuple hx
    have hlen : its.toArray.size = xs.length := by rw [List.size_toArray]; exact r.length.symm
    refine ⟨"tuple", _, PyProof.Rows.slot_tuple_getitem.lookup, ht.typeIs, ?_⟩
    exact getItem_tuple_all ht hs pl pu (by rw [hlen]; exact hw.1) (by rw [hlen]; exact hw.2) ⟨.ref a, H, I, rfl, q1 hw⟩
  · exact sl_tup pins s σ H _ v vl vu lo hi sl Q I rx hs pl pu ⟨a, xs, rfl, hx, hw, q2 hw⟩
theorem sl_tupAK {K : PySem.W.Frag} (hK : X.K = K) : SlR X (rSlTA K) := hK ▸ sl_tupA
end
end Kp
set_option maxHeartbeats 4000000
namespace Kq
open PySem PySem.Spec PyProof.Rows L2 Kp
open Evl (Ev EvL EvT EvA given)
/-! ### steps, askers -/
def stF (f s w m : V) : List (Str × V) := [("first", f), ("second", s), ("way", w), ("made", m)]
def spSI (CS : Addr) : Sp := fun vs H Q _ => ∃ (x dx : Addr) (f s w m : V), vs = [.ref x, f, s, w, m] ∧ H x = some (.ins CS dx []) ∧ ∀ H', (∀ b o, b ≠ x → H b = some o → H' b = some o) → H' x = some (.ins CS dx (stF f s w m)) → Q .non H'
/-- an asker: its order's words, its answers -/
def TakAt (CG : Addr) (H : Hp) (t : Addr) (ws : List Str) (x : Rn × Bool) : Prop := ∃ g us, H t = some (.tup [.ref g, .bl x.2]) ∧ GrpAt CG H g us ∧ IsG us (seg ws x.1.1 x.1.2)
structure AskC (CG CO CA : Addr) (H : Hp) (a o tk : Addr) (ws : List Str) (As : List (Rn × Bool)) : Prop where
  at_ : ∃ dx, H a = some (.ins CA dx [("first", .ref o), ("taken", .ref tk), ("kept_from", .int 0)])
  ord : OrdAt CG CO H o ws
  taken : ∃ ts : List Addr, H tk = some (.lst (ts.map V.ref)) ∧ ts.length = As.length ∧ ∀ (i : Nat) (t : Addr) (x : Rn × Bool), ts[i]? = some t → As[i]? = some x → TakAt CG H t ws x
  ok : OkW ws
  few : ws.length ≤ 7
  oks : ∀ x ∈ As, OkR ws.length x.1
  lim : As.length ≤ 20
theorem TakAt.ext {CG : Addr} {H H' : Hp} {t : Addr} {ws : List Str} {x : Rn × Bool} (h : TakAt CG H t ws x) (e : Ext H H') : TakAt CG H' t ws x :=
  let ⟨g, us, a, b, c⟩ := h
  ⟨g, us, e _ _ a, b.ext e, c⟩
theorem AskC.ext {CG CO CA : Addr} {H H' : Hp} {a o tk : Addr} {ws : List Str} {As : List (Rn × Bool)} (h : AskC CG CO CA H a o tk ws As) (e : Ext H H') : AskC CG CO CA H' a o tk ws As := by
  obtain ⟨⟨dx, h1⟩, h2, ⟨ts, h3, h4, h5⟩, h6, h7, h8, h9⟩ := h
  exact ⟨⟨dx, e _ _ h1⟩, h2.ext e, ⟨ts, e _ _ h3, h4, fun i t x a b => (h5 i t x a b).ext e⟩, h6, h7, h8, h9⟩
def spNeedOrd (CG CO : Addr) : Sp := fun vs H Q _ => ∃ (o : Addr) (ws : List Str), vs = [.ref o] ∧ OrdAt CG CO H o ws ∧ ws.length ≤ 7 ∧ Q .non H
def spAI (CG CO CA : Addr) : Sp := fun vs H Q _ => ∃ (x dx o : Addr) (ws : List Str), vs = [.ref x, .ref o] ∧ H x = some (.ins CA dx []) ∧ OrdAt CG CO H o ws ∧ ws.length ≤ 7 ∧
  ∀ (tk : Addr) (H' : Hp), (∀ b u, b ≠ x → H b = some u → H' b = some u) → H' x = some (.ins CA dx [("first", .ref o), ("taken", .ref tk), ("kept_from", .int 0)]) → H' tk = some (.lst []) → tk ≠ x → H tk = none → Q .non H'
def spGroupOf (CG CO CA : Addr) : Sp := fun vs H Q _ => ∃ (a o tk b : Addr) (ws : List Str) (As : List (Rn × Bool)) (r : Rn), vs = [.ref a, .ref b] ∧ AskC CG CO CA H a o tk ws As ∧ PrAt H b r ∧ OkR ws.length r ∧
  ∀ (g : Addr) (us : List Str) (H' : Hp), Ext H H' → H g = none → GrpAt CG H' g us → IsG us (seg ws r.1 r.2) → Q (.ref g) H'
def sureB (n : Nat) (r : Rn) : Bool := decide (r.1 = r.2) || decide (r = (0, n - 1))
def spIsSure (CG CO CA : Addr) : Sp := fun vs H Q _ => ∃ (a o tk b : Addr) (ws : List Str) (As : List (Rn × Bool)) (r : Rn), vs = [.ref a, .ref b] ∧ AskC CG CO CA H a o tk ws As ∧ PrAt H b r ∧ OkR ws.length r ∧ ∀ H', Ext H H' → Q (.bl (sureB ws.length r)) H'
section
variable {P : Program} {w : World} {K : PySem.W.Frag} {mg : Str → Option Value} {base : Heap} {tL tM tA : Tok} {ad : Ad}
theorem sp_step_len : ∀ vs H Q E, spSI ad.CS vs H Q E → vs.length = ["self", "first", "second", "way", "made"].length := fun vs H Q E h => by
  obtain ⟨x, dx, f, s, w, m, rfl, _⟩ := h
  rfl
theorem body_step_init (T : Tx K mg tL tM tA ad) : BodyX P w K mg base "Step.__init__" s_Step_init ad.sI N_Step_init 0 (spSI ad.CS) := by
  intro cdv A outer s H vs Q E hr h
  refine ⟨_, PSs.nox (pss_cons (ps_fld (pv 0) (pv 1) rfl)
(pss_cons (ps_fld (pv 0) (pv 2) rfl)
(pss_cons (ps_fld (pv 0) (pv 3) rfl)
(pss_one (ps_fld (pv 0) (pv 4) rfl))))), ?_⟩
  obtain ⟨x, dx, f, sc, wy, m, rfl, hx, hQ⟩ := h
  refine ⟨_, rfl, _, rfl, x, ad.CS, dx, [], rfl, hx, T.S.cl, T.S_first, by decide, ?_⟩
  refine ⟨_, rfl, _, rfl, x, ad.CS, dx, _, rfl, upd_same, T.S.cl, T.S_second, (show (1 : Nat) < 1000 by decide), ?_⟩
  refine ⟨_, rfl, _, rfl, x, ad.CS, dx, _, rfl, upd_same, T.S.cl, T.S_way, (show (2 : Nat) < 1000 by decide), ?_⟩
  refine ⟨_, rfl, _, rfl, x, ad.CS, dx, _, rfl, upd_same, T.S.cl, T.S_made, (show (3 : Nat) < 1000 by decide), ?_⟩
  rw [upd_upd, upd_upd, upd_upd]
  exact hQ _ (fun b o nb hb => by rw [upd_ne nb]; exact hb) upd_same
theorem ok_step_init (T : Tx K mg tL tM tA ad) : FnR P w K mg base (L2.CX P w) 1 ad.sI (spSI ad.CS) := by
  obtain ⟨fd, F⟩ := T.F_Step_init
  exact fnP F sc_Step_init (fun _ _ _ _ _ _ us hl => match us, hl with | [_, _, _, _, _], _ => rfl) sp_step_len (body_step_init T)
/-- a step is made -/
theorem mk_step {H : Hp} {Q : VK} {E : XK} {f s w m : V} (k : ∀ (x dx : Addr) (H' : Hp), Ext H H' → H x = none → H' x = some (.ins ad.CS dx (stF f s w m)) → Q (.ref x) H') : mkSp ad.CS (spSI ad.CS) E [f, s, w, m] H Q := by
  intro x dx hx hdx ne
  refine ⟨x, dx, f, s, w, m, rfl, upd_same, fun H' kp hx' => ⟨rfl, k x dx H' (fun b o hb => ?_) hx hx'⟩⟩
  refine kp b o (ne_of_none hb hx) ?_
  rw [upd_ne (ne_of_none hb hx), upd_ne (ne_of_none hb hdx)]
  exact hb
theorem ok_need_order (T : Tx K mg tL tM tA ad) : FnR P w K mg base (L2.CX P w) 3 ad.fNeedOrd (spNeedOrd ad.CG ad.CO) := by
  obtain ⟨fd, F⟩ := T.F_need_order
  have B := T.B
  have G_Order_len := ok_order_len (P := P) (w := w) (base := base) T
  refine fnP F sc_need_order (fun _ _ _ _ _ _ us hl => match us, hl with | [_], _ => rfl) (fun vs H Q E h => ?_) (fun cdv A outer s H vs Q E hr h => ?_)
  · obtain ⟨o, ws, rfl, _⟩ := h
    rfl
  · refine ⟨_, PSs.nox (pss_cons (ps_if (pt_not (pt_val (pe_callB (call_isiKK (K := K) rfl) (by rfl) B.n_isinstance (by decide +kernel) (pa_cons (pv 0) (pa_cons (pe_glob (v := .ref _) (by rfl) T.O.g rfl) pa_nil)))))
(pss_one ps_never)
pss_nil)
(pss_one (ps_if (pt_cmpR op_gt (pe_callB (call_lenO (E := E0) T.O_dlen.at_ T.O_dlen.fn G_Order_len (hr.mono (by decide)) passL) (by rfl) B.n_len (by decide +kernel) (pa_cons (pv 0) pa_nil)) (pe_glob (v := .int 7) (by rfl) T.g_MOST_WORDS_asked ⟨_, rfl⟩) (nomark _))
(pss_one ps_never)
pss_nil))), ?_⟩
    obtain ⟨o, ws, rfl, oo, h7, hQ⟩ := h
    refine ⟨_, rfl, .ref o, .ref ad.CO, .ref ad.CO, .ref ad.CO, true, rfl, .own ad.CO, ty_ord T oo, T.O.isi, _, rfl, ?_⟩
    refine iteF ?_
    obtain ⟨dx, t, g, d, us, kvs, ha, _⟩ := id oo
    refine ⟨_, rfl, o, dx, _, rfl, ha, o, ws, rfl, oo, _, rfl, by omega, by omega, _, _, rfl, rfl, _, rfl, ?_⟩
    rw [decide_eq_false (by omega)]
    exact iteF hQ
theorem ok_asker_init (T : Tx K mg tL tM tA ad) : FnR P w K mg base (L2.CX P w) 4 ad.aI (spAI ad.CG ad.CO ad.CA) := by
  obtain ⟨fd, F⟩ := T.F_Asker_init
  have B := T.B
  have G_need_order := ok_need_order (P := P) (w := w) (base := base) T
  refine fnP F sc_Asker_init (fun _ _ _ _ _ _ us hl => match us, hl with | [_, _], _ => rfl) (fun vs H Q E h => ?_) (fun cdv A outer s H vs Q E hr h => ?_)
  · obtain ⟨x, dx, o, ws, rfl, _⟩ := h
    rfl
  · refine ⟨_, PSs.nox (pss_cons (ps_expr (pe_callR G_need_order (hr.mono (by decide)) T.k_need_order (by rfl) T.g_need_order passL (pa_cons (pv 1) pa_nil)))
(pss_cons (ps_fld (pv 0) (pv 1) rfl)
(pss_cons (ps_fld (pv 0) (pe_lst pa_nil) rfl)
(pss_one (ps_fld (pv 0) pe_int rfl))))), ?_⟩
    obtain ⟨x, dx, o, ws, rfl, hx, oo, h7, hQ⟩ := h
    refine ⟨_, rfl, o, ws, rfl, oo, h7, ?_⟩
    refine ⟨_, rfl, _, rfl, x, ad.CA, dx, [], rfl, hx, T.A.cl, T.A_first, by decide, ?_⟩
    refine ⟨by decide, fun tk htk => ?_⟩
    have xt : x ≠ tk := ne_of_none upd_same htk
    have o1 : upd (upd H x (.ins ad.CA dx [("first", .ref o)])) tk (.lst []) x = some (.ins ad.CA dx [("first", .ref o)]) := by rw [upd_ne xt]; exact upd_same
    refine ⟨_, rfl, x, ad.CA, dx, _, rfl, o1, T.A.cl, T.A_taken, (show (1 : Nat) < 1000 by decide), ?_⟩
    refine ⟨_, rfl, x, ad.CA, dx, _, rfl, upd_same, T.A.cl, T.A_kept_from, (show (2 : Nat) < 1000 by decide), ?_⟩
    rw [upd_upd]
    refine hQ tk _ (fun b u nb hb => ?_) upd_same (by rw [upd_ne xt.symm]; exact upd_same) xt.symm (by rw [upd_ne xt.symm] at htk; exact htk)
    have hb' : upd H x (.ins ad.CA dx [("first", .ref o)]) b = some u := by rw [upd_ne nb]; exact hb
    rw [upd_ne nb, upd_ne (ne_of_none hb' htk)]
    exact hb'
end
end Kq
set_option maxHeartbeats 4000000
namespace Kq
open PySem PySem.Spec PyProof.Rows L2 Kp
open Evl (Ev EvL EvT EvA given)
theorem sIx_nat (n d k : Nat) : HT.sIx n d (some (k : Int)) = min k n := by
  unfold HT.sIx
  simp
  omega
theorem cut_seg {ws : List Str} {lo hi : Nat} (h1 : lo ≤ hi) (h2 : hi < ws.length) : cutV (ws.map V.str) (some (lo : Int)) (some ((hi : Int) + 1)) = (seg ws lo hi).map V.str := by
  unfold cutV seg
  have e : ((hi : Int) + 1) = ((hi + 1 : Nat) : Int) := by omega
  rw [e, sIx_nat, sIx_nat, List.length_map, List.map_take, List.map_drop, Nat.min_eq_left (by omega), Nat.min_eq_left (by omega)]
theorem cut_whole {ws : List Str} {lo hi : Nat} (h1 : lo ≤ hi) (h2 : hi < ws.length) (h : HT.sIx (ws.map V.str).length 0 (some (lo : Int)) = 0 ∧ HT.sIx (ws.map V.str).length (ws.map V.str).length (some ((hi : Int) + 1)) = (ws.map V.str).length) : seg ws lo hi = ws := by
  have e : ((hi : Int) + 1) = ((hi + 1 : Nat) : Int) := by omega
  rw [e, sIx_nat, sIx_nat, List.length_map] at h
  unfold seg
  have e1 : lo = 0 := by omega
  have e2 : hi + 1 = ws.length := by omega
  rw [e1, e2]
  simp
theorem seg_wd {ws : List Str} {lo hi : Nat} (ok : OkW ws) : ∀ w ∈ seg ws lo hi, Wordy w := fun w h => ok.wd w (seg_sub h)
theorem seg_le {ws : List Str} {lo hi : Nat} : (seg ws lo hi).length ≤ ws.length := by
  unfold seg
  rw [List.length_take, List.length_drop]
  omega
theorem shaped_pr (a b : Int) : SeqAt.shaped (.tuple [.int a, .int b]) = true := shaped_tup fun d hd => by
  simp only [List.mem_cons, List.not_mem_nil, or_false] at hd
  rcases hd with rfl | rfl <;> exact ⟨rfl, Nat.zero_le _⟩
theorem eqv_pr (a b c d : Int) : PyData.eqv (.tuple [.int a, .int b]) (.tuple [.int c, .int d]) = (decide (a = c) && decide (b = d)) := by
  simp only [PyData.eqv, PyData.eqvAll, Bool.and_true]
  rfl
section
variable {P : Program} {w : World} {K : PySem.W.Frag} {mg : Str → Option Value} {base : Heap} {tL tM tA : Tok} {ad : Ad}
theorem ok_group_of_pair (T : Tx K mg tL tM tA ad) : FnR P w K mg base (L2.CX P w) 5 ad.a_group_of (spGroupOf ad.CG ad.CO ad.CA) := by
  obtain ⟨fd, F⟩ := T.F_Asker_group_of
  have B := T.B
  have G_Group_of := ok_group_of (P := P) (w := w) (base := base) T
  refine fnP F sc_Asker_group_of (fun _ _ _ _ _ _ us hl => match us, hl with | [_, _], _ => rfl) (fun vs H Q E h => ?_) (fun cdv A outer s H vs Q E hr h => ?_)
  · obtain ⟨a, o, tk, b, ws, As, r, rfl, _⟩ := h
    rfl
  · refine ⟨_, PSs.nox (pss_one (ps_ret (ClX.pe_cmeth (E := E0) (pe_glob (v := .ref _) (by rfl) T.G.g rfl) T.G_rd T.G_of G_Group_of (hr.mono (by decide)) passL (pa_cons (pe_callTy (call_list_ofK (K := K) rfl) (by rfl) B.n_list (by decide +kernel) (pa_cons (pe_slice (sl_tupAK (K := K) rfl) (pe_fldK (K := K) rfl (pe_fldK (K := K) rfl (pv 0))) (po_some (pe_ix (ix_tupK (K := K) rfl) (pv 1) pe_int (fun _ _ => rfl))) (po_some (pe_op op_add (pe_ix (ix_tupK (K := K) rfl) (pv 1) pe_int (fun _ _ => rfl)) pe_int))) pa_nil)) pa_nil)))), ?_⟩
    obtain ⟨a, o, tk, b, ws, As, r, rfl, ak, hb, hr0, hQ⟩ := h
    obtain ⟨dx, ha⟩ := ak.at_
    obtain ⟨dy, t, g, d, us, kvs, ho, ht, _⟩ := ak.ord
    obtain ⟨r1, r2⟩ := hr0
    have hlen := ak.ok.few
    refine ⟨rfl, _, rfl, a, ad.CA, dx, _, .ref o, rfl, ha, T.A.cl, T.A_first, rfl, o, ad.CO, dy, _, .ref t, rfl, ho, T.O.cl, T.O_row, rfl, ?_⟩
    refine ⟨_, rfl, b, _, 0, _, rfl, rfl, SqT.of hb, rfl, _, rfl, ?_⟩
    refine ⟨_, rfl, b, _, 1, _, rfl, rfl, SqT.of hb, rfl, _, _, rfl, rfl, _, rfl, ?_⟩
    refine ⟨t, _, rfl, SqT.of ht, fun hw => ?_, fun hw p hp => ?_⟩
    · have e := cut_whole r1 r2 hw
      refine ⟨t, _, rfl, .inr (SqT.of ht), fun l hl => ?_⟩
      have x := Ext.upd (o := HO.lst (ws.map V.str)) hl
      refine ⟨l, ws, rfl, .inl upd_same, ak.ok.wd, hlen, fun g us H' ig x2 hg gg => ?_⟩
      rw [← e] at ig
      exact hQ g us H' (x.trans x2) (ext_none x hg) gg ig
    · rw [cut_seg r1 r2]
      have x1 := Ext.upd (o := HO.tup ((seg ws r.1 r.2).map V.str)) hp
      refine ⟨p, _, rfl, .inr (SqT.of upd_same), fun l hl => ?_⟩
      have x := x1.trans (Ext.upd (o := HO.lst ((seg ws r.1 r.2).map V.str)) hl)
      refine ⟨l, _, rfl, .inl upd_same, seg_wd ak.ok, Nat.le_trans seg_le hlen, fun g us H' ig x2 hg gg => ?_⟩
      exact hQ g us H' (x.trans x2) (ext_none x hg) gg ig
theorem ok_is_sure (T : Tx K mg tL tM tA ad) : FnR P w K mg base (L2.CX P w) 1 ad.a_is_sure (spIsSure ad.CG ad.CO ad.CA) := by
  obtain ⟨fd, F⟩ := T.F_Asker_is_sure
  have B := T.B
  refine fnP F sc_Asker_is_sure (fun _ _ _ _ _ _ us hl => match us, hl with | [_, _], _ => rfl) (fun vs H Q E h => ?_) (fun cdv A outer s H vs Q E hr h => ?_)
  · obtain ⟨a, o, tk, b, ws, As, r, rfl, _⟩ := h
    rfl
  · refine ⟨_, PSs.nox (pss_one (ps_ret (pe_or (pe_cmpR op_eq (pe_ix (ix_tupK (K := K) rfl) (pv 1) pe_int (fun _ _ => rfl)) (pe_ix (ix_tupK (K := K) rfl) (pv 1) pe_int (fun _ _ => rfl)) (nomark _)) (pe_one (pe_cmpR (op_eqDK (K := K) rfl hr.units) (pv 1) (pe_tup (pa_cons pe_int (pa_cons (pe_op op_sub (pe_callB (call_lenK (K := K) rfl) (by rfl) B.n_len (by decide +kernel) (pa_cons (pe_fldK (K := K) rfl (pe_fldK (K := K) rfl (pv 0))) pa_nil)) pe_int) pa_nil))) (nomark _)))))), ?_⟩
    obtain ⟨a, o, tk, b, ws, As, r, rfl, ak, hb, hr0, hQ⟩ := h
    obtain ⟨dx, ha⟩ := ak.at_
    obtain ⟨dy, t, g, d, us, kvs, ho, ht, _⟩ := ak.ord
    unfold sureB at hQ
    refine ⟨_, rfl, b, _, 0, _, rfl, rfl, SqT.of hb, rfl, _, rfl, b, _, 1, _, rfl, rfl, SqT.of hb, rfl, rfl, ?_⟩
    have e1 : decide ((V.int ((r.1 : Nat) : Int)) = V.int ((r.2 : Nat) : Int)) = decide (r.1 = r.2) := by
      by_cases h : r.1 = r.2
      · rw [decide_eq_true h, h]
        simp
      · rw [decide_eq_false h]
        simp
        omega
    refine ⟨_, rfl, ?_⟩
    rw [e1]
    by_cases h : r.1 = r.2
    · rw [decide_eq_true h] at hQ ⊢
      exact iteT (hQ H Ext.rfl')
    · rw [decide_eq_false h] at hQ ⊢
      refine iteF ?_
      refine ⟨_, rfl, ?_⟩
      refine ⟨_, rfl, a, ad.CA, dx, _, .ref o, rfl, ha, T.A.cl, T.A_first, rfl, o, ad.CO, dy, _, .ref t, rfl, ho, T.O.cl, T.O_row, rfl, _, ws.length, rfl, .inr ⟨_, SqT.of ht, by simp⟩, _, _, rfl, rfl, (show (2 : Nat) ≤ sizeLine by decide), fun p hp => ?_⟩
      have x := Ext.upd (o := HO.tup [.int 0, .int ((ws.length : Nat) - 1 : Int)]) hp
      refine ⟨.tuple [.int r.1, .int r.2], .tuple [.int 0, .int ((ws.length : Nat) - 1)], Dp.tup (SqT.of (x _ _ hb)) (dp_ints [_, _]), Dp.tup (SqT.of upd_same) (dp_ints [_, _]), shaped_pr _ _, shaped_pr _ _, ?_⟩
      rw [eqv_pr]
      have e2 : (decide (((r.1 : Nat) : Int) = 0) && decide (((r.2 : Nat) : Int) = (ws.length : Nat) - 1)) = decide (r = (0, ws.length - 1)) := by
        rw [← Bool.decide_and]
        congr 1
        apply propext
        constructor
        · rintro ⟨h1, h2⟩
          exact Prod.ext (by show r.1 = 0; omega) (by show r.2 = ws.length - 1; omega)
        · intro h
          rw [h]
          have := hr0.2
          constructor
          · rfl
          · show ((ws.length - 1 : Nat) : Int) = _
            omega
      rw [e2]
      exact hQ _ x
end
end Kq
set_option maxHeartbeats 2000000
/-! A list comprehension over any walk, by an invariant. -/
namespace Kp
open PySem PySem.Spec PyProof.Rows L2
theorem lcw {J : It} {n : Nat} {G : Hp → Prop} {Y : Nat → Hp → V → Hp → Prop} (w : Walk J n G Y) {g : TG} {tt : TT} {te : TE} {vs : List Nat} {σ : L2.St} {H1 : Hp} {D : Addr} {Qd : Hp → Prop} (Pv : Nat → Hp → Prop) (h0 : Pv 0 (upd H1 D (.lst []))) (hG : ∀ i H, i ≤ n → Pv i H → G H)
    (hs : ∀ i x H H', i < n → Pv i H → Y i H x H' → g x (wipe σ vs) H' fun σ2 H2 => wipe σ2 vs = wipe σ vs ∧ tt σ2 H2 fun b H3 =>
      if b = true then te σ2 H3 fun y H4 => ∃ acc, H4 D = some (.lst acc) ∧ acc.length < sizeLine ∧ Pv (i + 1) (upd H4 D (.lst (acc ++ [y]))) else Pv (i + 1) H3) (hd : ∀ H, Pv n H → Qd H) :
    ∃ W : Nat → Nat → Hp → Prop, (∃ m, W 0 m (upd H1 D (.lst []))) ∧ ∀ i m H, W i m H →
      (J.stop i H ∧ Qd H) ∨ (J.go i H ∧ ∃ Nx : Hp → Prop, (∀ H', Nx H' → ∃ m', m' < m ∧ W (i + 1) m' H') ∧ ∀ x H', J.yld i H x H' → g x (wipe σ vs) H' fun σ2 H2 => wipe σ2 vs = wipe σ vs ∧ tt σ2 H2 fun b H3 =>
        if b = true then te σ2 H3 fun y H4 => ∃ acc, H4 D = some (.lst acc) ∧ acc.length < sizeLine ∧ Nx (upd H4 D (.lst (acc ++ [y]))) else Nx H3) := by
  refine ⟨fun i m H => m = n - i ∧ i ≤ n ∧ Pv i H, ⟨n, by simp, Nat.zero_le _, h0⟩, ?_⟩
  rintro i m H ⟨rfl, hi, p⟩
  have q := hG i H hi p
  by_cases hlt : i < n
  · refine .inr ⟨w.goes i H hlt q, Pv (i + 1), fun H' p' => ⟨n - (i + 1), by omega, rfl, hlt, p'⟩, fun x H' y => hs i x H H' hlt p (w.yields i H x H' hlt q y)⟩
  · have e : i = n := by omega
    subst e
    exact .inl ⟨w.stops H q, hd H p⟩
end Kp
set_option maxHeartbeats 4000000
namespace Kq
open PySem PySem.Spec PyProof.Rows L2 Kp
open Evl (Ev EvL EvT EvA given)
def spPairOf (CG CO CA : Addr) : Sp := fun vs H Q _ => ∃ (a o tk g : Addr) (ws us : List Str) (As : List (Rn × Bool)) (r : Rn), vs = [.ref a, .ref g] ∧ AskC CG CO CA H a o tk ws As ∧ GrpAt CG H g us ∧ IsG us (seg ws r.1 r.2) ∧ OkR ws.length r ∧
  ∀ (t : Addr) (H' : Hp), Ext H H' → PrAt H' t r → Q (.ref t) H'
def plcs (lo hi i : Nat) : List V := (List.range' lo (min i (hi + 1) - lo)).map fun j => V.int ((j : Nat) : Int)
theorem plcs_in {lo hi i : Nat} (h1 : lo ≤ i) (h2 : i ≤ hi) : plcs lo hi (i + 1) = plcs lo hi i ++ [V.int ((i : Nat) : Int)] := by
  unfold plcs
  have e : min (i + 1) (hi + 1) - lo = (min i (hi + 1) - lo) + 1 := by omega
  rw [e, List.range'_1_concat, List.map_append]
  have e2 : lo + (min i (hi + 1) - lo) = i := by omega
  rw [e2]
  rfl
theorem plcs_out {lo hi i : Nat} (h : ¬ (lo ≤ i ∧ i ≤ hi)) (hl : lo ≤ hi) : plcs lo hi (i + 1) = plcs lo hi i := by
  unfold plcs
  have e : min (i + 1) (hi + 1) - lo = min i (hi + 1) - lo := by omega
  rw [e]
section
variable {P : Program} {w : World} {K : PySem.W.Frag} {mg : Str → Option Value} {base : Heap} {tL tM tA : Tok} {ad : Ad}
theorem ok_pair_of (T : Tx K mg tL tM tA ad) : FnR P w K mg base (L2.CX P w) 3 ad.a_pair_of (spPairOf ad.CG ad.CO ad.CA) := by
  obtain ⟨fd, F⟩ := T.F_Asker_pair_of
  have B := T.B
  have G_Group_len := ok_group_len (P := P) (w := w) (base := base) T
  have G_Group_contains := ok_group_contains (P := P) (w := w) (base := base) T
  have G_Order_contains := ok_order_contains (P := P) (w := w) (base := base) T
  have G_Order_stands := ok_order_stands (P := P) (w := w) (base := base) T
  refine fnP F sc_Asker_pair_of (fun _ _ _ _ _ _ us hl => match us, hl with | [_, _], _ => rfl) (fun vs H Q E h => ?_) (fun cdv A outer s H vs Q E hr h => ?_)
  · obtain ⟨a, o, tk, g, ws, us, As, r, rfl, _⟩ := h
    rfl
  · refine ⟨_, PSs.nox (pss_cons (ps_if (pt_not (pt_val (pe_callB (call_isiKK (K := K) rfl) (by rfl) B.n_isinstance (by decide +kernel) (pa_cons (pv 1) (pa_cons (pe_glob (v := .ref _) (by rfl) T.G.g rfl) pa_nil)))))
(pss_one ps_never)
pss_nil)
(pss_cons (ps_if (pt_cmpR op_eq (pe_callB (call_lenO (E := E0) T.G_dlen.at_ T.G_dlen.fn G_Group_len (hr.mono (by decide)) passL) (by rfl) B.n_len (by decide +kernel) (pa_cons (pv 1) pa_nil)) pe_int (nomark _))
(pss_one ps_never)
pss_nil)
(pss_cons (ps_for PassesOwn.never rfl (pi_tupK (K := K) rfl (pe_fldK (K := K) rfl (pv 1))) (pg_name (i := 2) sc_Asker_pair_of.nd rfl (Or.inl rfl))
(pss_one (ps_if (pt_cmpR (op_notInO (E := E0) (C := ad.CO) T.O_dcontains.at_ T.O_dcontains.fn G_Order_contains (hr.mono (by decide)) passL) (pv 2) (pe_fldK (K := K) rfl (pv 0)) (by rfl))
(pss_one ps_never)
pss_nil)))
(pss_cons (ps_if (pt_not (pt_val (Kp.pe_methR (E := E0) (pe_fldK (K := K) rfl (pv 0)) T.O.cl T.m_stands G_Order_stands (hr.mono (by decide)) passL (pa_cons (pv 1) pa_nil))))
(pss_one ps_never)
pss_nil)
(pss_cons (ps_setLc (i := 3) (own := [("at", 4), ("word", 2)]) rfl sc_Asker_pair_of.nd rfl rfl (sw_true rfl rfl rfl (by decide +kernel)) (pi_enumT (K := K) rfl (by rfl) B.n_enumerate (pa_cons (pe_fldK (K := K) rfl (pe_fldK (K := K) rfl (pv 0))) pa_nil)) (blkOk_by (own := [("at", 4), ("word", 2)]) (N := N_Asker_pair_of) (sc := defScope s_Asker_pair_of) (by decide +kernel)) (fun _ _ _ _ _ => (pg_tupK (n := 2) (K := K) rfl rfl (pgs_cons (pg_name (i := 4) sc_Asker_pair_of.nd rfl (Or.inl rfl)) (pgs_cons (pg_name (i := 2) sc_Asker_pair_of.nd rfl (Or.inl rfl)) pgs_nil)))) (fun _ _ _ _ _ => (pts_one (pt_cmpR (op_inO (E := E0) (C := ad.CG) T.G_dcontains.at_ T.G_dcontains.fn G_Group_contains (hr.mono (by decide)) passL) (pv 2) (pv 1) (by rfl)))) (fun _ _ _ _ _ => by exact (pv 4)))
(pss_one (ps_ret (pe_tup (pa_cons (pe_ix (ix_listK (K := K) rfl) (pv 3) pe_int (fun _ _ => rfl)) (pa_cons (pe_ix (ix_listK (K := K) rfl) (pv 3) (pe_un un_neg pe_int) (fun _ _ => rfl)) pa_nil)))))))))), ?_⟩
    obtain ⟨a, o, tk, g, ws, us, As, r, rfl, ak, gg, ig, ⟨r1, r2⟩, hQ⟩ := h
    obtain ⟨dx, ha⟩ := ak.at_
    have oo := ak.ord
    obtain ⟨dy, t, g', d, us', kvs, ho, ht, _⟩ := id oo
    obtain ⟨dz, t', hg, ht'⟩ := id gg
    have l24 := ak.ok.few
    have lus : us.length = r.2 + 1 - r.1 := by rw [ig.lenNd (seg_nd ak.ok.nd), seg_len r1 r2]
    have hin : ∀ u ∈ us, u ∈ ws := fun u hu => seg_sub ((ig.mem u).mp hu)
    refine ⟨_, rfl, .ref g, .ref ad.CG, .ref ad.CG, .ref ad.CG, true, rfl, .own ad.CG, ty_grp T gg, T.G.isi, _, rfl, ?_⟩
    refine iteF ?_
    refine ⟨_, rfl, g, dz, _, rfl, hg, g, us, rfl, gg, _, rfl, by omega, by omega, rfl, _, rfl, ?_⟩
    rw [decide_eq_false (fun z => by have := V.int.inj z; omega)]
    refine iteF ?_
    refine ⟨_, rfl, g, ad.CG, dz, _, .ref t', rfl, hg, T.G.cl, T.G_row, rfl, t', rfl, ⟨_, SqT.of ht'⟩, ?_⟩
    refine for_tup (xs := us.map V.str) (fun i (σ' : L2.St) H' => ∃ a2, σ' = [some (V.ref a), some (V.ref g), a2, none, none] ∧ H' = H) ?_ (fun i σ' H' _ hp' => ?_) (fun i y σ' H' hy hp' => ?_) (fun σ' H' hp' => ?_)
    · exact ⟨_, rfl, rfl⟩
    · obtain ⟨a2, rfl, rfl⟩ := hp'
      exact SqT.of ht'
    · obtain ⟨a2, rfl, rfl⟩ := hp'
      obtain ⟨u, hu, rfl⟩ := str_at hy
      refine ⟨_, rfl, _, rfl, a, ad.CA, dx, _, .ref o, rfl, ha, T.A.cl, T.A_first, rfl, o, dy, _, rfl, ho, o, ws, u, rfl, oo, ?_⟩
      rw [decide_eq_true (hin u (List.mem_of_getElem? hu))]
      refine ⟨_, rfl, _, rfl, ?_⟩
      refine iteF ?_
      exact ⟨_, rfl, rfl⟩
    · obtain ⟨a2, rfl, rfl⟩ := hp'
      refine ⟨_, rfl, a, ad.CA, dx, _, .ref o, rfl, ha, T.A.cl, T.A_first, rfl, o, dy, _, rfl, ho, rfl, _, rfl, o, g, ws, us, r.1, r.2, rfl, oo, ak.ok, gg, ig, r1, r2, fun H1 x1 => ?_⟩
      refine ⟨_, rfl, ?_⟩
      refine iteF ?_
      have ha1 := x1 _ _ ha
      have ho1 := x1 _ _ ho
      have ht1 := x1 _ _ ht
      have gg1 := gg.ext x1
      have hg1 := x1 _ _ hg
      have mem : ∀ (i : Nat) (u : Str), ws[i]? = some u → (u ∈ us ↔ r.1 ≤ i ∧ i ≤ r.2) := fun i u hu => by
        rw [ig.mem, seg_mem]
        constructor
        · rintro ⟨j, j1, j2, hj⟩
          have e : i = j := (List.getElem?_inj (List.getElem?_eq_some_iff.mp hu).1 ak.ok.nd).mp (hu.trans hj.symm)
          omega
        · rintro ⟨i1, i2⟩
          exact ⟨i, i1, i2, hu⟩
      refine ⟨_, rfl, a, ad.CA, dx, _, .ref o, rfl, ha1, T.A.cl, T.A_first, rfl, o, ad.CO, dy, _, .ref t, rfl, ho1, T.O.cl, T.O_row, rfl, t, _, rfl, SqT.of ht1, fun D hD => ?_⟩
      refine lcw (walk_enumT (xs := ws.map V.str)) (fun i H2 => H2 D = some (.lst (plcs r.1 r.2 i)) ∧ Ext H1 H2) ?_ (fun i H2 _ hp => SqT.of (hp.2 _ _ ht1)) (fun i x H2 H3 hi hp hy => ?_) (fun H2 hp => ?_)
      · refine ⟨?_, Ext.upd hD⟩
        have e0 : plcs r.1 r.2 0 = [] := by
          unfold plcs
          simp
        rw [e0]
        exact upd_same
      · obtain ⟨h2, x2⟩ := hp
        obtain ⟨T9, x1', x2', rfl, hT, rfl, h1, h2'⟩ := hy
        cases h1
        obtain ⟨u, hu, rfl⟩ := str_at (show (ws.map V.str)[i]? = some x2' from h2')
        have xT := Ext.upd (o := HO.tup [.int ((i : Nat) : Int), .str u]) hT
        have x3 := x2.trans xT
        have hD3 := xT _ _ h2
        refine ⟨T9, _, rfl, SqT.of upd_same, rfl, _, _, rfl, _, _, rfl, rfl, rfl, ?_⟩
        refine ⟨_, rfl, _, rfl, g, dz, _, rfl, x3 _ _ hg1, g, us, u, rfl, gg1.ext x3, _, rfl, _, rfl, ?_⟩
        by_cases hui : u ∈ us
        · rw [decide_eq_true hui]
          refine iteT ?_
          have hb := (mem i u hu).1 hui
          refine ⟨_, rfl, _, hD3, ?_, ?_, fun b o' hb' => ?_⟩
          · unfold plcs
            rw [List.length_map, List.length_range']
            rw [List.length_map] at hi
            exact Nat.lt_of_le_of_lt (by omega : _ ≤ 24) (by decide)
          · rw [plcs_in hb.1 hb.2]
            exact upd_same
          · rw [upd_ne (ne_of_none hb' hD)]
            exact x3 _ _ hb'
        · rw [decide_eq_false hui]
          refine iteF ?_
          refine ⟨?_, x3⟩
          rw [plcs_out (fun h => hui ((mem i u hu).2 h)) r1]
          exact hD3
      · obtain ⟨h2, x2⟩ := hp
        rw [List.length_map] at h2
        have e : plcs r.1 r.2 ws.length = (List.range' r.1 (r.2 + 1 - r.1)).map fun j => V.int ((j : Nat) : Int) := by
          unfold plcs
          rw [show min ws.length (r.2 + 1) = r.2 + 1 from by omega]
        have e1 : ∃ xs, plcs r.1 r.2 ws.length = xs ++ [V.int ((r.2 : Nat) : Int)] := by
          rw [e, show r.2 + 1 - r.1 = (r.2 - r.1) + 1 from by omega, List.range'_1_concat, List.map_append, show r.1 + (r.2 - r.1) = r.2 from by omega]
          exact ⟨_, rfl⟩
        have e0 : (plcs r.1 r.2 ws.length)[0]? = some (V.int ((r.1 : Nat) : Int)) := by
          rw [e, show r.2 + 1 - r.1 = (r.2 - r.1) + 1 from by omega, List.range'_succ]
          rfl
        obtain ⟨xs, e1⟩ := e1
        refine ⟨_, rfl, D, _, 0, _, rfl, rfl, SqL.of h2, atI_nat e0, ?_⟩
        refine ⟨_, rfl, _, rfl, D, _, -1, .int ((r.2 : Nat) : Int), rfl, rfl, SqL.of h2, by rw [e1]; exact atI_last _ _, (show (2 : Nat) ≤ sizeLine by decide), fun q hq => ?_⟩
        exact hQ q _ (x1.trans (x2.trans (Ext.upd hq))) upd_same
end
end Kq
set_option maxHeartbeats 4000000
namespace Kq
open PySem PySem.Spec PyProof.Rows L2 Kp
open Evl (Ev EvL EvT EvA given)
def sel (As : List (Rn × Bool)) (b : Bool) : List Rn := (As.filter fun x => decide (x.2 = b)).map (·.1)
def spTold (CG CO CA : Addr) : Sp := fun vs H Q _ => ∃ (a o tk : Addr) (ws : List Str) (As : List (Rn × Bool)) (b : Bool), vs = [.ref a, .bl b] ∧ AskC CG CO CA H a o tk ws As ∧
  ∀ (f : Addr) (bs : List Addr) (H' : Hp), Ext H H' → H f = none → H' f = some (.lst (bs.map V.ref)) → PrsAt H' bs (sel As b) → Q (.ref f) H'
theorem sel_snoc {As : List (Rn × Bool)} {b : Bool} {i : Nat} {x : Rn × Bool} (h : As[i]? = some x) : sel (As.take (i + 1)) b = sel (As.take i) b ++ if x.2 = b then [x.1] else [] := by
  unfold sel
  rw [List.take_add_one, h]
  simp only [Option.toList_some, List.filter_append, List.map_append]
  congr 1
  by_cases e : x.2 = b
  · rw [if_pos e]
    simp [e]
  · rw [if_neg e]
    simp [e]
section
variable {P : Program} {w : World} {K : PySem.W.Frag} {mg : Str → Option Value} {base : Heap} {tL tM tA : Tok} {ad : Ad}
theorem ok_told_pairs (T : Tx K mg tL tM tA ad) : FnR P w K mg base (L2.CX P w) 1 ad.a_told_pairs (spTold ad.CG ad.CO ad.CA) := by
  obtain ⟨fd, F⟩ := T.F_Asker_told_pairs
  have B := T.B
  refine fnP F sc_Asker_told_pairs (fun _ _ _ _ _ _ us hl => match us, hl with | [_, _], _ => rfl) (fun vs H Q E h => ?_) (fun cdv A outer s H vs Q E hr h => ?_)
  · obtain ⟨a, o, tk, ws, As, b, rfl, _⟩ := h
    rfl
  · refine ⟨_, PSs.nox (pss_cons (ps_set (i := 2) sc_Asker_told_pairs.nd rfl (Or.inr rfl) (pe_dc (own := [("at", 7), ("word", 8)]) (tt := tYes) rfl sc_Asker_told_pairs.nd (pi_enumT (K := K) rfl (by rfl) B.n_enumerate (pa_cons (pe_fldK (K := K) rfl (pe_fldK (K := K) rfl (pv 0))) pa_nil)) (blkOk_by (own := [("at", 7), ("word", 8)]) (N := N_Asker_told_pairs) (sc := defScope s_Asker_told_pairs) (by decide +kernel)) (fun _ _ _ _ _ => (pg_tupK (n := 2) (K := K) rfl rfl (pgs_cons (pg_name (i := 7) sc_Asker_told_pairs.nd rfl (Or.inl rfl)) (pgs_cons (pg_name (i := 8) sc_Asker_told_pairs.nd rfl (Or.inl rfl)) pgs_nil)))) (fun _ _ _ _ _ => pts_nil) (fun _ _ _ _ _ => by exact (pv 8)) (fun _ _ _ _ _ => by exact (pv 7))))
(pss_cons (ps_set (i := 3) sc_Asker_told_pairs.nd rfl (Or.inl rfl) (pe_lst pa_nil))
(pss_cons (ps_for PassesOwn.never rfl (pi_listK (K := K) rfl (pe_fldK (K := K) rfl (pv 0))) (pg_tupK (n := 2) (K := K) rfl rfl (pgs_cons (pg_name (i := 4) sc_Asker_told_pairs.nd rfl (Or.inl rfl)) (pgs_cons (pg_name (i := 5) sc_Asker_told_pairs.nd rfl (Or.inl rfl)) pgs_nil)))
(pss_one (ps_if (pt_cmpR op_eq (pv 5) (pv 1) (nomark _))
(pss_cons (ps_setLc (i := 6) (own := [("word", 8)]) (g := gName 8) (tt := tYes) rfl sc_Asker_told_pairs.nd rfl rfl (sw_true rfl rfl rfl (by decide +kernel)) (pi_tupK (K := K) rfl (pe_fldK (K := K) rfl (pv 4))) (blkOk_by (own := [("word", 8)]) (N := N_Asker_told_pairs) (sc := defScope s_Asker_told_pairs) (by decide +kernel)) (fun _ _ _ _ _ => (pg_name (i := 8) sc_Asker_told_pairs.nd rfl (Or.inl rfl))) (fun _ _ _ _ _ => pts_nil) (fun _ _ _ _ _ => by exact (pe_dget (hu_of hr) (pv 2) (pv 8) (fun _ _ => rfl))))
(pss_one (ps_expr (pe_bmK (K := K) rfl PySem.F.plainAttrs_list PySem.F.slot_list_append PySem.F.type_list_append mt_append (pv 3) (pa_cons (pe_tup (pa_cons (pe_callB (cr_min rfl) (by rfl) B.n_min (by decide +kernel) (pa_cons (pv 6) pa_nil)) (pa_cons (pe_callB (cr_max rfl) (by rfl) B.n_max (by decide +kernel) (pa_cons (pv 6) pa_nil)) pa_nil))) pa_nil)))))
pss_nil)))
(pss_one (ps_ret (pv 3)))))), ?_⟩
    obtain ⟨a, o, tk, ws, As, b, rfl, ak, hQ⟩ := h
    obtain ⟨dx, ha⟩ := ak.at_
    obtain ⟨dy, t, g', d, us', kvs', ho, ht, _⟩ := ak.ord
    have l24 := ak.ok.few
    have ok := ak.ok
    refine ⟨_, rfl, a, ad.CA, dx, _, .ref o, rfl, ha, T.A.cl, T.A_first, rfl, o, ad.CO, dy, _, .ref t, rfl, ho, T.O.cl, T.O_row, rfl, t, _, rfl, SqT.of ht, fun D hD => ?_⟩
    refine dc_it (walk_enumT (xs := ws.map V.str)) (fun i H5 => ∃ kvs, H5 D = some (.dK kvs) ∧ kvs.length ≤ i ∧ Ext H H5 ∧ ∀ (j : Nat) (u : Str), j < i → ws[j]? = some u → valV kvs (.inr u) = some (.int (j : Nat))) ?_ ?_ (fun i y H5 H6 hi hp' hy => ?_) (fun H5 hp' => ?_)
    · exact ⟨[], upd_same, Nat.le_refl _, Ext.upd hD, fun j u h => absurd h (Nat.not_lt_zero _)⟩
    · exact fun i H5 _ hq => SqT.of (hq.choose_spec.2.2.1 _ _ ht)
    · obtain ⟨kvs, hd, hl, e, hpl⟩ := hp'
      obtain ⟨T9, x1, x2, rfl, hT, rfl, h1, h2⟩ := hy
      cases h1
      obtain ⟨u, hu, rfl⟩ := str_at (show (ws.map V.str)[i]? = some x2 from h2)
      have eT := e.trans (Ext.upd (o := HO.tup [.int ((i : Nat) : Int), .str u]) hT)
      have dT : D ≠ T9 := ne_of_none hd hT
      refine ⟨T9, _, rfl, SqT.of upd_same, rfl, ?_⟩
      refine ⟨_, _, rfl, _, _, rfl, rfl, rfl, ?_⟩
      refine ⟨_, rfl, _, rfl, kvs, .inr u, rfl, by rw [upd_ne dT]; exact hd, by have := hl; rw [List.length_map] at hi; exact Nat.lt_of_le_of_lt (Nat.le_trans hl (by omega)) (show 24 < sizeLine by decide), ?_⟩
      refine ⟨_, upd_same, ?_, fun b o hb => ?_, fun j v hj hv => ?_⟩
      · have := length_putK kvs (.inr u) (V.int ((i : Nat) : Int))
        omega
      · rw [upd_ne (ne_of_none hb hD)]
        exact eT _ _ hb
      · rw [valV_put]
        by_cases e1 : v = u
        · subst e1
          rw [if_pos rfl]
          have hjl := (List.getElem?_eq_some_iff.mp hv).1
          have ej : j = i := (List.getElem?_inj hjl ok.nd).mp (hv.trans hu.symm)
          rw [ej]
        · rw [if_neg (fun z => e1 (Sum.inr.inj z))]
          refine hpl j v ?_ hv
          rcases Nat.lt_or_ge j i with h | h
          · exact h
          · have ej : j = i := by omega
            rw [ej, hu] at hv
            exact absurd (Option.some.inj hv).symm e1
    · obtain ⟨kvs, hd, hl, e, hpl⟩ := hp'
      have hpl2 : Places kvs ws := fun j u hu => hpl j u (by rw [List.length_map]; exact (List.getElem?_eq_some_iff.mp hu).1) hu
      clear hpl
      refine ⟨by decide, fun f hf => ?_⟩
      have e2 := e.trans (Ext.upd (o := HO.lst ([] : List V)) hf)
      have hf1 : upd H5 f (.lst ([] : List V)) f = some (.lst []) := upd_same
      have hd1 := Ext.upd (o := HO.lst ([] : List V)) hf _ _ hd
      have hf0 : H f = none := ext_none e hf
      generalize upd H5 f (.lst ([] : List V)) = H6 at e2 hf1 hd1 ⊢
      obtain ⟨ts, htk0, lts, hts⟩ := ak.taken
      have htk := e2 _ _ htk0
      refine ⟨_, rfl, a, ad.CA, dx, _, .ref tk, rfl, e2 _ _ ha, T.A.cl, T.A_taken, rfl, tk, rfl, ⟨_, SqL.of htk⟩, ?_⟩
      have tf : tk ≠ f := fun z => by
        rw [z, hf0] at htk0
        cases htk0
      have Df : D ≠ f := ne_of_none hd hf
      refine for_list (xs := ts.map V.ref) (fun i (σ' : L2.St) H' => ∃ a4 a5 a6, σ' = [some (V.ref a), some (V.bl b), some (V.ref D), some (V.ref f), a4, a5, a6, none, none] ∧ ∃ bs : List Addr, Ext H H' ∧ H' D = some (.dK kvs) ∧ H' f = some (.lst (bs.map V.ref)) ∧ PrsAt H' bs (sel (As.take i) b) ∧ bs.length ≤ i) ?_ (fun i σ' H' _ hp => ?_) (fun i y σ' H' hy hp => ?_) (fun σ' H' hp => ?_)
      · exact ⟨_, _, _, rfl, [], e2, hd1, hf1, ⟨rfl, by simp⟩, Nat.le_refl _⟩
      · obtain ⟨a4, a5, a6, rfl, bs, e3, _⟩ := hp
        exact SqL.of (e3 _ _ htk0)
      · obtain ⟨a4, a5, a6, rfl, bs, e3, hd3, hf3, hbs, hbl⟩ := hp
        obtain ⟨tt, htt, rfl⟩ : ∃ c, ts[i]? = some c ∧ y = .ref c := by
          rw [List.getElem?_map] at hy
          cases q : ts[i]? with
          | none => rw [q] at hy; cases hy
          | some b =>
            rw [q] at hy
            exact ⟨b, rfl, (Option.some.inj hy).symm⟩
        have hil : i < As.length := by rw [← lts]; exact (List.getElem?_eq_some_iff.mp htt).1
        have hx : As[i]? = some As[i] := List.getElem?_eq_getElem hil
        have hxm : As[i] ∈ As := List.getElem_mem hil
        generalize As[i] = x at hx hxm
        obtain ⟨g, us, hg1, hg2, hg3⟩ := (hts i tt x htt hx).ext e3
        have okx := ak.oks x hxm
        have lim := ak.lim
        refine ⟨tt, _, rfl, SqT.of hg1, rfl, _, _, rfl, _, _, rfl, rfl, ?_⟩
        refine ⟨_, rfl, _, rfl, rfl, _, rfl, ?_⟩
        have eb : decide (V.bl x.2 = V.bl b) = decide (x.2 = b) := by
          by_cases e : x.2 = b
          · rw [e]
            simp
          · rw [decide_eq_false e, decide_eq_false (fun z => e (V.bl.inj z))]
        rw [eb]
        have hs := sel_snoc (b := b) hx
        by_cases e : x.2 = b
        · rw [decide_eq_true e]
          rw [if_pos e] at hs
          refine iteT ?_
          obtain ⟨dz, t', hgi, hgt⟩ := hg2
          have lus : us.length = x.1.2 + 1 - x.1.1 := by rw [hg3.lenNd (seg_nd ok.nd), seg_len okx.1 okx.2]
          have hin : ∀ u ∈ us, u ∈ ws := fun u hu => seg_sub ((hg3.mem u).mp hu)
          have okx1 := okx.1
          have okx2 := okx.2
          dsimp only [tNext, tSeq, tAsg]
          refine Kp.run_lcT (a := t') (xs := us.map V.str) (fun _ => true) (fun i => V.int (plc ws (us.getD i "") : Nat)) ?_ (SqT.of hgt) (by rw [List.length_map]; omega) (fun _ => rfl) (fun i x H9 e9 hx => Kp.et_yes) (fun i x H9 e9 hx _ => ?_) (fun D2 H2 hD2 e4 hD4 => ?_)
          · exact fun H1 e1 Q' q => ⟨_, rfl, g, ad.CG, dz, _, .ref t', rfl, e1 _ _ hgi, T.G.cl, T.G_row, rfl, q H1 (Evl.Ex.refl H1)⟩
          · obtain ⟨u, hu, rfl⟩ := str_at hx
            have eu : us.getD i "" = u := by rw [List.getD_eq_getElem?_getD, hu]; rfl
            rw [eu]
            have hp1 := hpl2 _ _ (plc_get (hin u (List.mem_of_getElem? hu)))
            exact fun H10 e10 Q' q' => ⟨_, rfl, _, rfl, D, _, rfl, dgetK (k := Sum.inr u) (e10 _ _ (e9 _ _ hd3)) hp1, q' H10 (Evl.Ex.refl H10)⟩
          have eg : given (us.map V.str).length (fun _ => true) (fun i => V.int (plc ws (us.getD i "") : Nat)) = (us.map fun u => ((plc ws u : Nat) : Int)).map V.int := by
            rw [Kp.given_map fun _ _ => rfl, List.length_map, List.map_map]
            exact Kp.range_map us _ _ fun i u hu => by rw [List.getD_eq_getElem?_getD, hu]; rfl
          rw [eg] at hD4
          have hpl3 : ∀ u ∈ us, x.1.1 ≤ plc ws u ∧ plc ws u ≤ x.1.2 := fun u hu => by
            obtain ⟨j, j1, j2, hj⟩ := seg_mem.mp ((hg3.mem u).mp hu)
            rw [plc_at ok.nd hj]
            exact ⟨j1, j2⟩
          have hat : ∀ j, x.1.1 ≤ j → j ≤ x.1.2 → ((j : Nat) : Int) ∈ us.map fun u => ((plc ws u : Nat) : Int) := fun j j1 j2 => by
            have hj : ws[j]? = some ws[j] := List.getElem?_eq_getElem (by omega)
            exact List.mem_map.mpr ⟨ws[j], (hg3.mem _).mpr (seg_mem.mpr ⟨j, j1, j2, hj⟩), by rw [plc_at ok.nd hj]⟩
          have hlp : (us.map fun u => ((plc ws u : Nat) : Int)).length = x.1.2 + 1 - x.1.1 := by rw [List.length_map, lus]
          have hbd : ∀ y ∈ us.map (fun u => ((plc ws u : Nat) : Int)), (x.1.1 : Int) ≤ y ∧ y ≤ x.1.2 := fun y hy => by
            obtain ⟨u, hu, rfl⟩ := List.mem_map.mp hy
            have := hpl3 u hu
            omega
          generalize (us.map fun u => ((plc ws u : Nat) : Int)) = ns at hD4 hat hlp hbd
          have hf4 := e4 _ _ hf3
          refine ⟨_, rfl, .inl ⟨rfl, _, SqL.of hf4⟩, ?_⟩
          refine ⟨_, rfl, D2, ns, rfl, SqL.of hD4, by omega, fun m' hm' hle' => ?_⟩
          have em' : m' = (x.1.1 : Int) := by
            have := hle' _ (hat x.1.1 (Nat.le_refl _) okx1)
            have := (hbd m' hm').1
            omega
          refine ⟨_, rfl, D2, ns, rfl, SqL.of hD4, by omega, fun m hm hle => ?_⟩
          have em : m = (x.1.2 : Int) := by
            have := hle _ (hat x.1.2 okx1 (Nat.le_refl _))
            have := (hbd m hm).2
            omega
          rw [em, em']
          refine ⟨(show (2 : Nat) ≤ sizeLine by decide), fun q hq => ?_⟩
          have x5 := Ext.upd (o := HO.tup [.int (x.1.1 : Int), .int (x.1.2 : Int)]) hq
          have e45 := Ext.trans e4 x5
          refine ⟨f, _, _, rfl, rfl, x5 _ _ hf4, by rw [List.length_map]; exact Nat.lt_of_le_of_lt (by omega : bs.length ≤ 20) (by decide), ?_⟩
          have u6 : Tups (upd H2 q (HO.tup [.int (x.1.1 : Int), .int (x.1.2 : Int)])) (upd (upd H2 q (HO.tup [.int (x.1.1 : Int), .int (x.1.2 : Int)])) f (.lst (bs.map V.ref ++ [.ref q]))) := fun b' ys h => by
            rw [upd_ne (fun z => by rw [z, x5 _ _ hf4] at h; cases h)]
            exact h
          refine ⟨_, _, _, rfl, bs ++ [q], fun b' o' hb' => ?_, ?_, by rw [List.map_append]; exact upd_same, ?_, by simp; omega⟩
          · rw [upd_ne (ne_of_none hb' hf0)]
            exact e45 _ _ (e3 _ _ hb')
          · rw [upd_ne Df]
            exact e45 _ _ hd3
          · rw [hs]
            exact prs_snoc (hbs.keep ((Tups.of e45).trans u6)) (u6 _ _ upd_same)
        · rw [decide_eq_false e]
          rw [if_neg e, List.append_nil] at hs
          refine iteF ?_
          exact ⟨_, _, _, rfl, bs, e3, hd3, hf3, by rw [hs]; exact hbs, by omega⟩
      · obtain ⟨a4, a5, a6, rfl, bs, e3, hd3, hf3, hbs, hbl⟩ := hp
        rw [List.length_map, lts, List.take_length] at hbs
        exact ⟨_, rfl, hQ f bs H' e3 hf0 hf3 hbs⟩
end
end Kq
set_option maxHeartbeats 4000000
namespace Kq
open PySem PySem.Spec PyProof.Rows L2 Kp
open Evl (Ev EvL EvT EvA given)
theorem chain_ok {n : Nat} : ∀ {xs : List Row} {th : List Rn}, chain th xs → (∀ r ∈ th, OkR n r) → ∀ x ∈ xs, OkR n x.p ∧ OkR n x.q ∧ OkR n x.r
  | [], _, _, _, x, h => by cases h
  | y :: ys, th, c, ht, x, h => by
    obtain ⟨hp, hq, ho, hm, hc⟩ := c
    have hr : OkR n y.r := mks_ok (ht _ hp) (ht _ hq) ho (List.mem_of_getElem? hm)
    rcases List.mem_cons.mp h with rfl | h
    · exact ⟨ht _ hp, ht _ hq, hr⟩
    · exact chain_ok hc (fun r h' => (List.mem_append.mp h').elim (ht r) fun h' => List.mem_singleton.mp h' ▸ hr) x h
/-- a step's object: its groups are those of the runs -/
def StpAt (CG CS : Addr) (H : Hp) (u : Addr) (ws : List Str) (x : Row) : Prop := ∃ dx g1 g2 g3 u1 u2 u3, H u = some (.ins CS dx (stF (.ref g1) (.ref g2) (.int (x.w : Int)) (.ref g3))) ∧ GrpAt CG H g1 u1 ∧ IsG u1 (seg ws x.p.1 x.p.2) ∧ GrpAt CG H g2 u2 ∧ IsG u2 (seg ws x.q.1 x.q.2) ∧ GrpAt CG H g3 u3 ∧ IsG u3 (seg ws x.r.1 x.r.2)
theorem StpAt.ext {CG CS : Addr} {H H' : Hp} {u : Addr} {ws : List Str} {x : Row} (h : StpAt CG CS H u ws x) (e : Ext H H') : StpAt CG CS H' u ws x :=
  let ⟨dx, g1, g2, g3, u1, u2, u3, a, b, c, d, f, g, i⟩ := h
  ⟨dx, g1, g2, g3, u1, u2, u3, e _ _ a, b.ext e, c, d.ext e, f, g.ext e, i⟩
def StpsAt (CG CS : Addr) (H : Hp) (us : List Addr) (ws : List Str) (xs : List Row) : Prop := us.length = xs.length ∧ ∀ (i : Nat) (u : Addr) (x : Row), us[i]? = some u → xs[i]? = some x → StpAt CG CS H u ws x
theorem StpsAt.ext {CG CS : Addr} {H H' : Hp} {us : List Addr} {ws : List Str} {xs : List Row} (h : StpsAt CG CS H us ws xs) (e : Ext H H') : StpsAt CG CS H' us ws xs := ⟨h.1, fun i u x a b => (h.2 i u x a b).ext e⟩
theorem stps_snoc {CG CS : Addr} {H : Hp} {us : List Addr} {ws : List Str} {xs : List Row} {u : Addr} {x : Row} (h : StpsAt CG CS H us ws xs) (hu : StpAt CG CS H u ws x) : StpsAt CG CS H (us ++ [u]) ws (xs ++ [x]) := by
  refine ⟨by simp [h.1], fun i c q hc hq => ?_⟩
  by_cases hi : i < us.length
  · rw [List.getElem?_append_left hi] at hc
    rw [List.getElem?_append_left (by rw [← h.1]; exact hi)] at hq
    exact h.2 i c q hc hq
  · rw [List.getElem?_append_right (by omega)] at hc
    rw [List.getElem?_append_right (by rw [← h.1]; omega)] at hq
    rw [← h.1] at hq
    have e : i - us.length = 0 := by
      have := (List.getElem?_eq_some_iff.mp hc).1
      rw [List.length_singleton] at this
      omega
    rw [e] at hc hq
    cases hc
    cases hq
    exact hu
def spStepsIn (CG CO CA CS : Addr) : Sp := fun vs H Q _ => ∃ (a o tk D b : Addr) (ws : List Str) (As : List (Rn × Bool)) (L : List EV) (run : Rn), vs = [.ref a, .ref D, .ref b] ∧ AskC CG CO CA H a o tk ws As ∧ DAt H D L ∧ PrAt H b run ∧ run ∈ keysE L ∧ (keysE L).Nodup ∧ (∀ r ∈ keysE L, OkR ws.length r) ∧ Prov (L.map (·.1)) ∧
  ∀ (t : Addr) (us : List Addr) (xs : List Row) (H' : Hp), Ext H H' → H' t = some (.tup (us.map V.ref)) → StpsAt CG CS H' us ws xs → xs.length ≤ 49 → (∀ x ∈ xs, OkR ws.length x.p ∧ OkR ws.length x.q ∧ OkR ws.length x.r) → (∀ th, (∀ e ∈ L.map (·.1), e.s = none → e.r ∈ th) → chain th xs ∧ (run ∈ th ∨ run ∈ xs.map (·.r))) → Q (.ref t) H'
section
variable {P : Program} {w : World} {K : PySem.W.Frag} {mg : Str → Option Value} {base : Heap} {tL tM tA : Tok} {ad : Ad}
theorem ok_steps_in (T : Tx K mg tL tM tA ad) : FnR P w K mg base (L2.CX P w) 6 ad.a_steps_in (spStepsIn ad.CG ad.CO ad.CA ad.CS) := by
  obtain ⟨fd, F⟩ := T.F_Asker_steps_in
  have B := T.B
  have G_Asker_group_of := ok_group_of_pair (P := P) (w := w) (base := base) T
  have G_Step_init := ok_step_init (P := P) (w := w) (base := base) T
  have G_rows_to := ok_rows_to (P := P) (w := w) (base := base) T
  refine fnP F sc_Asker_steps_in (fun _ _ _ _ _ _ us hl => match us, hl with | [_, _, _], _ => rfl) (fun vs H Q E h => ?_) (fun cdv A outer s H vs Q E hr h => ?_)
  · obtain ⟨a, o, tk, D, b, ws, As, L, run, rfl, _⟩ := h
    rfl
  · refine ⟨_, PSs.nox (pss_cons (ps_set (i := 3) sc_Asker_steps_in.nd rfl (Or.inl rfl) (pe_lst pa_nil))
(pss_cons (ps_for PassesOwn.never rfl (pi_listK (K := K) rfl (pe_callR G_rows_to (hr.mono (by decide)) T.k_rows_to (by rfl) T.g_rows_to passL (pa_cons (pv 1) (pa_cons (pv 2) pa_nil)))) (pg_tupK (n := 4) (K := K) rfl rfl (pgs_cons (pg_name (i := 4) sc_Asker_steps_in.nd rfl (Or.inl rfl)) (pgs_cons (pg_name (i := 5) sc_Asker_steps_in.nd rfl (Or.inl rfl)) (pgs_cons (pg_name (i := 6) sc_Asker_steps_in.nd rfl (Or.inl rfl)) (pgs_cons (pg_name (i := 7) sc_Asker_steps_in.nd rfl (Or.inl rfl)) pgs_nil)))))
(pss_one (ps_expr (pe_bmK (K := K) rfl PySem.F.plainAttrs_list PySem.F.slot_list_append PySem.F.type_list_append mt_append (pv 3) (pa_cons (Kp.pe_mkR (E := E0) T.S.mak G_Step_init (hr.mono (by decide)) (by rfl) T.S.g passL (pa_cons (Kp.pe_methR (E := E0) (pv 0) T.A.cl T.m_group_of G_Asker_group_of (hr.mono (by decide)) passL (pa_cons (pv 4) pa_nil)) (pa_cons (Kp.pe_methR (E := E0) (pv 0) T.A.cl T.m_group_of G_Asker_group_of (hr.mono (by decide)) passL (pa_cons (pv 5) pa_nil)) (pa_cons (pv 6) (pa_cons (Kp.pe_methR (E := E0) (pv 0) T.A.cl T.m_group_of G_Asker_group_of (hr.mono (by decide)) passL (pa_cons (pv 7) pa_nil)) pa_nil))))) pa_nil)))))
(pss_one (ps_ret (pe_callTy (call_tuple_ofK (K := K) rfl) (by rfl) B.n_tuple (by decide +kernel) (pa_cons (pv 3) pa_nil)))))), ?_⟩
    obtain ⟨a, o, tk, D, b, ws, As, L, run, rfl, ak, hDA, hb, hin, nd, okk, pv, hQ⟩ := h
    have l49 := len49 ak.few nd okk
    rw [keysE_len] at l49
    refine ⟨by decide, fun sl hsl => ?_⟩
    have x1 := Ext.upd (o := HO.lst ([] : List V)) hsl
    have osl : upd H sl (.lst ([] : List V)) sl = some (.lst []) := upd_same
    generalize upd H sl (.lst ([] : List V)) = H1 at x1 osl ⊢
    refine ⟨_, rfl, _, rfl, D, b, L, run, rfl, hDA.ext x1, hb.ext x1, hin, l49, nd, pv, fun t us xs H2 x2 ht0 ht hrows hxl hch => ?_⟩
    have okx : ∀ x ∈ xs, OkR ws.length x.p ∧ OkR ws.length x.q ∧ OkR ws.length x.r := chain_ok (hch (keysE L) fun e he _ => by rw [← keysE_ents]; exact List.mem_map.mpr ⟨e, he, rfl⟩).1 okk
    have e2 := x1.trans x2
    have osl2 := x2 _ _ osl
    refine ⟨t, rfl, ⟨_, SqL.of ht⟩, ?_⟩
    have tsl : t ≠ sl := (ne_of_none osl ht0).symm
    refine for_list (xs := us.map V.ref) (fun i (σ' : L2.St) H' => ∃ a4 a5 a6 a7, σ' = [some (V.ref a), some (V.ref D), some (V.ref b), some (V.ref sl), a4, a5, a6, a7] ∧ ∃ ss : List Addr, Ext H H' ∧ Tups H2 H' ∧ H' t = some (.lst (us.map V.ref)) ∧ H' sl = some (.lst (ss.map V.ref)) ∧ StpsAt ad.CG ad.CS H' ss ws (xs.take i)) ?_ (fun i σ' H' _ hp => ?_) (fun i y σ' H' hy hp => ?_) (fun σ' H' hp => ?_)
    · exact ⟨_, _, _, _, rfl, [], e2, fun _ _ h => h, ht, osl2, ⟨by simp, by simp⟩⟩
    · obtain ⟨a4, a5, a6, a7, rfl, ss, _, _, h, _⟩ := hp
      exact SqL.of h
    · obtain ⟨a4, a5, a6, a7, rfl, ss, e3, t3, ht3, hs3, hst⟩ := hp
      obtain ⟨u, hu, rfl⟩ : ∃ c, us[i]? = some c ∧ y = .ref c := by
        rw [List.getElem?_map] at hy
        cases q : us[i]? with
        | none => rw [q] at hy; cases hy
        | some b =>
          rw [q] at hy
          exact ⟨b, rfl, (Option.some.inj hy).symm⟩
      have hil : i < xs.length := by rw [← hrows.1]; exact (List.getElem?_eq_some_iff.mp hu).1
      have hx : xs[i]? = some xs[i] := List.getElem?_eq_getElem hil
      have hxm : xs[i] ∈ xs := List.getElem_mem hil
      generalize xs[i] = x at hx hxm
      obtain ⟨okp, okq, okr⟩ := okx x hxm
      obtain ⟨b1, b2, b3, h4, h5, h6, h7⟩ := (hrows.2 i u x hu hx).keep t3
      refine ⟨u, _, rfl, SqT.of h4, rfl, _, _, rfl, _, _, rfl, _, _, rfl, _, _, rfl, rfl, ?_⟩
      refine ⟨_, rfl, .inl ⟨rfl, _, SqL.of hs3⟩, ?_⟩
      have ak3 := ak.ext e3
      obtain ⟨dx, ha⟩ := ak.at_
      refine ⟨_, rfl, a, dx, _, rfl, e3 _ _ ha, rfl, _, rfl, a, o, tk, b1, ws, As, x.p, rfl, ak3, h5, okp, fun g1 u1 H4 x4 _ gg1 ig1 => ?_⟩
      refine ⟨_, rfl, a, dx, _, rfl, x4 _ _ (e3 _ _ ha), rfl, _, rfl, a, o, tk, b2, ws, As, x.q, rfl, ak3.ext x4, h6.ext x4, okq, fun g2 u2 H5 x5 _ gg2 ig2 => ?_⟩
      refine ⟨_, rfl, _, rfl, a, dx, _, rfl, x5 _ _ (x4 _ _ (e3 _ _ ha)), rfl, _, rfl, a, o, tk, b3, ws, As, x.r, rfl, (ak3.ext x4).ext x5, (h7.ext x4).ext x5, okr, fun g3 u3 H6 x6 _ gg3 ig3 => ?_⟩
      refine fun so dz hso0 hdz hne => ?_
      refine ⟨so, dz, .ref g1, .ref g2, .int (x.w : Int), .ref g3, rfl, upd_same, fun H7 kp hso => ⟨rfl, ?_⟩⟩
      have x7 : Ext H6 H7 := fun b o hb => by
        refine kp b o (ne_of_none hb hso0) ?_
        rw [upd_ne (ne_of_none hb hso0), upd_ne (ne_of_none hb hdz)]
        exact hb
      have x47 := x4.trans (x5.trans (x6.trans x7))
      have hs7 := x47 _ _ hs3
      have lss := hst.1
      rw [List.length_take] at lss
      refine ⟨sl, _, _, rfl, rfl, hs7, by rw [List.length_map]; exact Nat.lt_of_le_of_lt (by omega : ss.length ≤ 49) (by decide), ?_⟩
      have u8 : ∀ b o', H b = some o' → upd H7 sl (.lst (ss.map V.ref ++ [.ref so])) b = some o' := fun b o' hb' => by
        rw [upd_ne (ne_of_none hb' hsl)]
        exact x47 _ _ (e3 _ _ hb')
      have sso : so ≠ sl := fun z => by
        rw [z] at hso
        rw [hs7] at hso
        cases hso
      have nsl : ∀ {b : Addr} {o' : HO}, H7 b = some o' → (∀ zs, o' ≠ .lst zs) → upd H7 sl (.lst (ss.map V.ref ++ [.ref so])) b = some o' := fun {b o'} hb' n => by
        rw [upd_ne (fun z => by rw [z, hs7] at hb'; exact n _ (Option.some.inj hb').symm)]
        exact hb'
      have grp : ∀ {g : Addr} {us : List Str}, GrpAt ad.CG H7 g us → GrpAt ad.CG (upd H7 sl (.lst (ss.map V.ref ++ [.ref so]))) g us := fun ⟨d1, t1, q1, q2⟩ => ⟨d1, t1, nsl q1 (fun _ z => by cases z), nsl q2 (fun _ z => by cases z)⟩
      have stp : ∀ {u : Addr} {x : Row}, StpAt ad.CG ad.CS H7 u ws x → StpAt ad.CG ad.CS (upd H7 sl (.lst (ss.map V.ref ++ [.ref so]))) u ws x := fun ⟨d1, p1, p2, p3, v1, v2, v3, q1, q2, q3, q4, q5, q6, q7⟩ => ⟨d1, p1, p2, p3, v1, v2, v3, nsl q1 (fun _ z => by cases z), grp q2, q3, grp q4, q5, grp q6, q7⟩
      have hst7 := hst.ext x47
      have etk : xs.take (i + 1) = xs.take i ++ [x] := by
        rw [List.take_add_one, hx]
        rfl
      refine ⟨_, _, _, _, rfl, ss ++ [so], u8, fun b' ys hb' => ?_, ?_, by rw [List.map_append]; exact upd_same, ?_⟩
      · exact nsl (x47 _ _ (t3 _ _ hb')) (fun _ z => by cases z)
      · rw [upd_ne tsl]
        exact x47 _ _ ht3
      · rw [etk]
        refine stps_snoc ⟨hst7.1, fun j u' x' h1 h2 => stp (hst7.2 j u' x' h1 h2)⟩ ?_
        exact stp ⟨dz, g1, g2, g3, u1, u2, u3, hso, ((gg1.ext x5).ext x6).ext x7, ig1, (gg2.ext x6).ext x7, ig2, gg3.ext x7, ig3⟩
    · obtain ⟨a4, a5, a6, a7, rfl, ss, e3, t3, ht3, hs3, hst⟩ := hp
      rw [List.length_map, hrows.1, List.take_length] at hst
      refine ⟨_, rfl, sl, _, rfl, .inl ⟨SqL.of hs3, fun p hp => ?_⟩⟩
      have x4 := Ext.upd (o := HO.tup (ss.map V.ref)) hp
      exact hQ p ss xs _ (e3.trans x4) upd_same (hst.ext x4) hxl okx hch
end
end Kq
set_option maxHeartbeats 4000000
namespace Kq
open PySem PySem.Spec PyProof.Rows L2 Kp
open Evl (Ev EvL EvT EvA given)
/-! ### look_asked -/
/-- a row of a group: sorted words -/
structure RowOk (us : List Str) : Prop where
  so : sortedS us = true
  nd : us.Nodup
  wd : ∀ w ∈ us, Wordy w
  few : us.length ≤ 7
def MadV (CG : Addr) (H : Hp) (v : V) : Option (List Str) → Prop
  | none => v = .non
  | some us => ∃ g, v = .ref g ∧ GrpAt CG H g us
theorem MadV.ext {CG : Addr} {H H' : Hp} {v : V} {m : Option (List Str)} (h : MadV CG H v m) (e : Ext H H') : MadV CG H' v m := by
  cases m with
  | none => exact h
  | some us =>
    obtain ⟨g, h1, h2⟩ := h
    exact ⟨g, h1, h2.ext e⟩
/-- the ways that come: an int, or none -/
def WayOk (v : V) : Prop := (∃ i : Int, v = .int i) ∨ v = .non ∨ v = .bl true ∨ ∃ x : Str, v = .str x
def StepV (CG CS : Addr) (H : Hp) (u : Addr) (x : SV) : Prop := ∃ dx g1 g2 mv, H u = some (.ins CS dx (stF (.ref g1) (.ref g2) x.w mv)) ∧ GrpAt CG H g1 x.f ∧ GrpAt CG H g2 x.s ∧ MadV CG H mv x.m
theorem StepV.ext {CG CS : Addr} {H H' : Hp} {u : Addr} {x : SV} (h : StepV CG CS H u x) (e : Ext H H') : StepV CG CS H' u x :=
  let ⟨dx, g1, g2, mv, a, b, c, d⟩ := h
  ⟨dx, g1, g2, mv, e _ _ a, b.ext e, c.ext e, d.ext e⟩
structure SvOk (x : SV) : Prop where
  f : RowOk x.f
  s : RowOk x.s
  w : WayOk x.w
  m : ∀ us, x.m = some us → RowOk us
def spMadeBy (CG : Addr) : Sp := fun vs H Q _ => ∃ (a b : Addr) (k : Nat) (ws us : List Str), vs = [.ref a, .ref b, .int (k : Int)] ∧ k ≤ 3 ∧ GrpAt CG H a ws ∧ GrpAt CG H b us ∧ RowOk ws ∧ RowOk us ∧ ∀ (g : Addr) (H' : Hp), Ext H H' → GrpAt CG H' g (gs (setop k ws us)) → Q (.ref g) H'
def spIsRight (CG CS : Addr) : Sp := fun vs H Q _ => ∃ (u : Addr) (x : SV), vs = [.ref u] ∧ StepV CG CS H u x ∧ SvOk x ∧ ∀ H', Ext H H' → Q (.bl (stepOk x)) H'
section
variable {P : Program} {w : World} {K : PySem.W.Frag} {mg : Str → Option Value} {base : Heap} {tL tM tA : Tok} {ad : Ad}
theorem ok_made_by (T : Tx K mg tL tM tA ad) : FnR P w K mg base (L2.CX P w) 5 ad.fMadeBy (spMadeBy ad.CG) := by
  obtain ⟨fd, F⟩ := T.F_made_by
  have B := T.B
  have G_Group_and := ok_group_and (P := P) (w := w) (base := base) T
  have G_Group_or := ok_group_or (P := P) (w := w) (base := base) T
  have G_Group_sub := ok_group_sub (P := P) (w := w) (base := base) T
  refine fnP F sc_made_by (fun _ _ _ _ _ _ us hl => match us, hl with | [_, _, _], _ => rfl) (fun vs H Q E h => ?_) (fun cdv A outer s H vs Q E hr h => ?_)
  · obtain ⟨a, b, k, ws, us, rfl, _⟩ := h
    rfl
  · refine ⟨_, PSs.nox (pss_cons (ps_if (pt_cmpR op_eq (pv 2) pe_int (nomark _))
(pss_one (ps_ret (pe_op (op_bin (E := E0) T.G_dand.at_ T.G_dand.fn T.G.sf G_Group_and (hr.mono (by decide)) passL) (pv 0) (pv 1))))
pss_nil)
(pss_cons (ps_if (pt_cmpR op_eq (pv 2) pe_int (nomark _))
(pss_one (ps_ret (pe_op (op_bin (E := E0) T.G_dor.at_ T.G_dor.fn T.G.sf G_Group_or (hr.mono (by decide)) passL) (pv 0) (pv 1))))
pss_nil)
(pss_one (ps_ret (pe_ifExp (pt_cmpR op_eq (pv 2) pe_int (nomark _)) (pe_op (op_bin (E := E0) T.G_dsub.at_ T.G_dsub.fn T.G.sf G_Group_sub (hr.mono (by decide)) passL) (pv 0) (pv 1)) (pe_op (op_bin (E := E0) T.G_dsub.at_ T.G_dsub.fn T.G.sf G_Group_sub (hr.mono (by decide)) passL) (pv 1) (pv 0))))))), ?_⟩
    obtain ⟨a, b, k, ws, us, rfl, hk, ga, gb, ra, rb, hQ⟩ := h
    obtain ⟨dx, t, ha, ht⟩ := id ga
    obtain ⟨dy, t', hb, ht'⟩ := id gb
    have fa := ra.few
    have fb := rb.few
    match k, hk with
    | 0, _ =>
      refine ⟨_, rfl, rfl, _, rfl, iteT ?_⟩
      exact ⟨_, rfl, _, rfl, a, dx, _, b, dy, _, rfl, rfl, ha, hb, a, b, ws, us, rfl, ga, gb, ra.wd, by omega, fun g zs H' ig e gg => hQ g H' e (gs_eq ig ▸ gg)⟩
    | 1, _ =>
      refine ⟨_, rfl, rfl, _, rfl, iteF ?_⟩
      refine ⟨_, rfl, rfl, _, rfl, iteT ?_⟩
      exact ⟨_, rfl, _, rfl, a, dx, _, b, dy, _, rfl, rfl, ha, hb, a, b, ws, us, rfl, ga, gb, ra.wd, rb.wd, by omega, fun g zs H' ig e gg => hQ g H' e (gs_eq ig ▸ gg)⟩
    | 2, _ =>
      refine ⟨_, rfl, rfl, _, rfl, iteF ?_⟩
      refine ⟨_, rfl, rfl, _, rfl, iteF ?_⟩
      refine ⟨_, rfl, rfl, _, rfl, iteT ?_⟩
      exact ⟨_, rfl, _, rfl, a, dx, _, b, dy, _, rfl, rfl, ha, hb, a, b, ws, us, rfl, ga, gb, ra.wd, by omega, fun g zs H' ig e gg => hQ g H' e (gs_eq ig ▸ gg)⟩
    | 3, _ =>
      refine ⟨_, rfl, rfl, _, rfl, iteF ?_⟩
      refine ⟨_, rfl, rfl, _, rfl, iteF ?_⟩
      refine ⟨_, rfl, rfl, _, rfl, iteF ?_⟩
      exact ⟨_, rfl, _, rfl, b, dy, _, a, dx, _, rfl, rfl, hb, ha, b, a, us, ws, rfl, gb, ga, rb.wd, by omega, fun g zs H' ig e gg => hQ g H' e (gs_eq ig ▸ gg)⟩
theorem ok_is_right (T : Tx K mg tL tM tA ad) : FnR P w K mg base (L2.CX P w) 6 ad.fIsRight (spIsRight ad.CG ad.CS) := by
  obtain ⟨fd, F⟩ := T.F_is_right
  have B := T.B
  have G_Group_overlaps := ok_group_overlaps (P := P) (w := w) (base := base) T
  have G_Group_eq := ok_group_eq (P := P) (w := w) (base := base) T
  have G_made_by := ok_made_by (P := P) (w := w) (base := base) T
  refine fnP F sc_is_right (fun _ _ _ _ _ _ us hl => match us, hl with | [_], _ => rfl) (fun vs H Q E h => ?_) (fun cdv A outer s H vs Q E hr h => ?_)
  · obtain ⟨u, x, rfl, _⟩ := h
    rfl
  · refine ⟨_, PSs.nox (pss_cons (ps_par3 (i := 1) (j := 2) (l := 3) (by rfl) sc_is_right.nd rfl rfl rfl (by decide) (by decide) (by decide) rfl rfl rfl (pa_cons (pe_fldK (K := K) rfl (pv 0)) (pa_cons (pe_fldK (K := K) rfl (pv 0)) (pa_cons (pe_fldK (K := K) rfl (pv 0)) pa_nil))) (by rfl))
(pss_cons (ps_if (PW.pt (pw_or (pt_not (pt_val (pe_callB (call_isiKK (K := K) rfl) (by rfl) B.n_isinstance (by decide +kernel) (pa_cons (pv 1) (pa_cons (pe_glob (v := .ref _) (by rfl) T.G.g rfl) pa_nil))))) (pw_or (pt_not (pt_val (pe_callB (call_isiKK (K := K) rfl) (by rfl) B.n_isinstance (by decide +kernel) (pa_cons (pv 2) (pa_cons (pe_glob (v := .ref _) (by rfl) T.G.g rfl) pa_nil))))) (pw_or1 (pt_not (pt_val (pe_callB (call_isiKK (K := K) rfl) (by rfl) B.n_isinstance (by decide +kernel) (pa_cons (pe_fldK (K := K) rfl (pv 0)) (pa_cons (pe_glob (v := .ref _) (by rfl) T.G.g rfl) pa_nil)))))))))
(pss_one (ps_ret pe_bl))
pss_nil)
(pss_cons (ps_if (PW.pt (pw_or (pt_val (pe_callB (call_isiKK (K := K) rfl) (by rfl) B.n_isinstance (by decide +kernel) (pa_cons (pv 3) (pa_cons (pe_bltn (v := .ty "bool") (u := .type "bool") (by rfl) B.n_bool (by decide +kernel) rfl) pa_nil)))) (pw_or (pt_not (pt_val (pe_callB (call_isiKK (K := K) rfl) (by rfl) B.n_isinstance (by decide +kernel) (pa_cons (pv 3) (pa_cons (pe_bltn (v := .ty "int") (u := .type "int") (by rfl) B.n_int (by decide +kernel) rfl) pa_nil))))) (pw_or (pt_cmpR op_lt (pv 3) pe_int (nomark _)) (pw_or (pt_cmpR op_gt (pv 3) pe_int (nomark _)) (pw_or1 (pt_not (pt_val (Kp.pe_methR (E := E0) (pv 1) T.G.cl T.m_overlaps G_Group_overlaps (hr.mono (by decide)) passL (pa_cons (pv 2) pa_nil))))))))))
(pss_one (ps_ret pe_bl))
pss_nil)
(pss_one (ps_ret (pe_cmpR (op_eqO (E := E0) T.G_deq.at_ T.G_deq.fn G_Group_eq (hr.mono (by decide)) passL) (pe_callR G_made_by (hr.mono (by decide)) T.k_made_by (by rfl) T.g_made_by passL (pa_cons (pv 1) (pa_cons (pv 2) (pa_cons (pv 3) pa_nil)))) (pe_fldK (K := K) rfl (pv 0)) (nomark _))))))), ?_⟩
    obtain ⟨u, ⟨f, sc, wy, m⟩, rfl, ⟨dx, g1, g2, mv, hu, gf, gg, hm⟩, ok, hQ⟩ := h
    refine ⟨_, rfl, u, ad.CS, dx, _, .ref g1, rfl, hu, T.S.cl, T.S_first, rfl, ?_⟩
    refine ⟨_, rfl, u, ad.CS, dx, _, .ref g2, rfl, hu, T.S.cl, T.S_second, rfl, ?_⟩
    refine ⟨_, rfl, u, ad.CS, dx, _, wy, rfl, hu, T.S.cl, T.S_way, rfl, _, _, _, rfl, ?_⟩
    have hu1 := hu
    have gf1 := gf
    have gg1 := gg
    have hm1 := hm
    have hQ1 := hQ
    refine ⟨_, rfl, .ref g1, .ref ad.CG, .ref ad.CG, .ref ad.CG, true, rfl, .own ad.CG, ty_grp T gf1, T.G.isi, _, rfl, ?_⟩
    refine iteF ?_
    refine ⟨_, rfl, .ref g2, .ref ad.CG, .ref ad.CG, .ref ad.CG, true, rfl, .own ad.CG, ty_grp T gg1, T.G.isi, _, rfl, ?_⟩
    refine iteF ?_
    refine ⟨_, rfl, u, ad.CS, dx, _, mv, rfl, hu1, T.S.cl, T.S_made, rfl, ?_⟩
    cases m with
    | none =>
      have e : mv = .non := hm
      subst e
      refine ⟨.non, .ref ad.CG, .type "NoneType", .ref ad.CG, false, rfl, .own ad.CG, .base .non, T.isNG, _, rfl, ?_⟩
      refine iteT ?_
      have e0 : stepOk ⟨f, sc, wy, none⟩ = false := by
        unfold stepOk
        cases wy <;> rfl
      rw [e0] at hQ
      exact hQ H Ext.rfl'
    | some us =>
      obtain ⟨g3, rfl, g3g⟩ := hm
      have rf := ok.f
      have rs := ok.s
      refine ⟨.ref g3, .ref ad.CG, .ref ad.CG, .ref ad.CG, true, rfl, .own ad.CG, ty_grp T g3g, T.G.isi, _, rfl, ?_⟩
      refine iteF ?_
      obtain ⟨d1, t1, hg1, ht1⟩ := id gf
      obtain ⟨d3, t3, hg3, ht3⟩ := id g3g
      rcases ok.w with ⟨i, rfl⟩ | rfl | rfl | ⟨z, rfl⟩
      · refine ⟨_, rfl, .int i, _, .type "int", .type "bool", false, rfl, .ty "bool", .base (.int i), kit_ty (by decide +kernel), _, rfl, iteF ?_⟩
        refine ⟨_, rfl, .int i, _, .type "int", .type "int", true, rfl, .ty "int", .base (.int i), kit_ty (by decide +kernel), _, rfl, iteF ?_⟩
        refine ⟨_, rfl, _, _, rfl, rfl, _, rfl, ?_⟩
        have es : stepOk ⟨f, sc, .int i, some us⟩ = ((decide (0 ≤ i) && decide (i ≤ 3)) && (ovB f sc && decide (gs (setop i.toNat f sc) = us))) := rfl
        rw [es] at hQ
        by_cases h0 : i < 0
        · rw [decide_eq_true h0]
          refine iteT ?_
          rw [decide_eq_false (by omega)] at hQ
          exact hQ H Ext.rfl'
        rw [decide_eq_false h0]
        refine iteF ?_
        refine ⟨_, rfl, _, _, rfl, rfl, _, rfl, ?_⟩
        by_cases h3 : 3 < i
        · rw [decide_eq_true h3]
          refine iteT ?_
          rw [decide_eq_true (by omega), decide_eq_false (by omega)] at hQ
          exact hQ H Ext.rfl'
        rw [decide_eq_false h3]
        refine iteF ?_
        rw [decide_eq_true (by omega), decide_eq_true (by omega), Bool.true_and, Bool.true_and] at hQ
        refine ⟨_, rfl, g1, d1, _, rfl, hg1, rfl, _, rfl, g1, g2, f, sc, rfl, gf, gg, by have := rf.few; simp only at this; omega, by have := rs.few; simp only at this; omega, fun H2 x2 => ?_⟩
        refine ⟨_, rfl, ?_⟩
        by_cases ho : ovB f sc = true
        · rw [ho] at hQ ⊢
          refine iteF ?_
          rw [Bool.true_and] at hQ
          obtain ⟨n, rfl⟩ := Int.eq_ofNat_of_zero_le (by omega : 0 ≤ i)
          refine ⟨_, rfl, _, rfl, _, rfl, g1, g2, n, f, sc, rfl, by omega, gf.ext x2, gg.ext x2, rf, rs, fun g H3 x3 gr => ?_⟩
          obtain ⟨d4, t4, hg4, ht4⟩ := id gr
          have x23 := x2.trans x3
          have rm := ok.m us rfl
          refine ⟨_, rfl, u, ad.CS, dx, _, .ref g3, rfl, x23 _ _ hu, T.S.cl, T.S_made, rfl, ?_⟩
          refine ⟨g, d4, _, g3, d3, _, rfl, rfl, hg4, x23 _ _ hg3, g, g3, _, us, rfl, gr, g3g.ext x23, fun w hw => ?_, rm.wd, hQ H3 x23⟩
          rw [gs_mem] at hw
          have hk : w ∈ f ∨ w ∈ sc := by
            match n, hw with
            | 0, hw => exact .inl (List.mem_filter.mp hw).1
            | 1, hw => exact List.mem_append.mp hw
            | 2, hw => exact .inl (List.mem_filter.mp hw).1
            | n + 3, hw => exact .inr (List.mem_filter.mp hw).1
          exact hk.elim (rf.wd w) (rs.wd w)
        · have ho' : ovB f sc = false := by simpa using ho
          rw [ho'] at hQ ⊢
          refine iteT ?_
          exact hQ H2 x2
      · refine ⟨_, rfl, .non, _, .type "NoneType", .type "bool", false, rfl, .ty "bool", .base .non, kit_ty (by decide +kernel), _, rfl, iteF ?_⟩
        refine ⟨_, rfl, .non, _, .type "NoneType", .type "int", false, rfl, .ty "int", .base .non, kit_ty (by decide +kernel), _, rfl, iteT ?_⟩
        exact hQ H Ext.rfl'
      · refine ⟨_, rfl, .bl true, _, .type "bool", .type "bool", true, rfl, .ty "bool", .base (.bl true), kit_ty (by decide +kernel), _, rfl, iteT ?_⟩
        exact hQ H Ext.rfl'
      · refine ⟨_, rfl, .str z, _, .type "str", .type "bool", false, rfl, .ty "bool", .base (.str z), kit_ty (by decide +kernel), _, rfl, iteF ?_⟩
        refine ⟨_, rfl, .str z, _, .type "str", .type "int", false, rfl, .ty "int", .base (.str z), kit_ty (by decide +kernel), _, rfl, iteT ?_⟩
        exact hQ H Ext.rfl'
end
end Kq
set_option maxHeartbeats 4000000
namespace Kq
open PySem PySem.Spec PyProof.Rows L2 Kp
open Evl (Ev EvL EvT EvA given)
/-! ### chain_of -/
theorem sel_ok {n : Nat} {As : List (Rn × Bool)} {b : Bool} (h : ∀ x ∈ As, OkR n x.1) : ∀ r ∈ sel As b, OkR n r := fun r hr => by
  unfold sel at hr
  obtain ⟨x, hx, rfl⟩ := List.mem_map.mp hr
  exact h x (List.mem_filter.mp hx).1
theorem sel_len {As : List (Rn × Bool)} {b : Bool} : (sel As b).length ≤ As.length := by
  unfold sel
  rw [List.length_map]
  exact List.length_filter_le _ _
/-- a chain's answer: rows from what was answered yes -/
structure ChainTo (n : Nat) (th : List Rn) (run : Rn) (xs : List Row) : Prop where
  ch : chain th xs
  to : run ∈ th ∨ run ∈ xs.map (·.r)
  ok : ∀ x ∈ xs, OkR n x.p ∧ OkR n x.q ∧ OkR n x.r
  few : xs.length ≤ 49
def spChainOf (CG CO CA CS : Addr) : Sp := fun vs H Q _ => ∃ (a o tk g : Addr) (ws us : List Str) (As : List (Rn × Bool)) (r : Rn), vs = [.ref a, .ref g] ∧ AskC CG CO CA H a o tk ws As ∧ GrpAt CG H g us ∧ IsG us (seg ws r.1 r.2) ∧ OkR ws.length r ∧
  (sureB ws.length r = true → ∀ t H', Ext H H' → H' t = some (.tup []) → Q (.ref t) H') ∧
  (sureB ws.length r = false → ¬ Cl (· ∈ sel As true) r → ∀ H', Ext H H' → Q .non H') ∧
  (sureB ws.length r = false → Cl (· ∈ sel As true) r → ∀ (t : Addr) (us : List Addr) (xs : List Row) (H' : Hp), Ext H H' → H' t = some (.tup (us.map V.ref)) → StpsAt CG CS H' us ws xs → ChainTo ws.length (sel As true) r xs → Q (.ref t) H')
section
variable {P : Program} {w : World} {K : PySem.W.Frag} {mg : Str → Option Value} {base : Heap} {tL tM tA : Tok} {ad : Ad}
theorem ok_chain_of (T : Tx K mg tL tM tA ad) : FnR P w K mg base (L2.CX P w) 7 ad.a_chain_of (spChainOf ad.CG ad.CO ad.CA ad.CS) := by
  obtain ⟨fd, F⟩ := T.F_Asker_chain_of
  have B := T.B
  have G_Asker_pair_of := ok_pair_of (P := P) (w := w) (base := base) T
  have G_Asker_is_sure := ok_is_sure (P := P) (w := w) (base := base) T
  have G_Asker_told_pairs := ok_told_pairs (P := P) (w := w) (base := base) T
  have G_Asker_steps_in := ok_steps_in (P := P) (w := w) (base := base) T
  have G_closed_by := ok_closed_by (P := P) (w := w) (base := base) T
  refine fnP F sc_Asker_chain_of (fun _ _ _ _ _ _ us hl => match us, hl with | [_, _], _ => rfl) (fun vs H Q E h => ?_) (fun cdv A outer s H vs Q E hr h => ?_)
  · obtain ⟨a, o, tk, g, ws, us, As, r, rfl, _⟩ := h
    rfl
  · refine ⟨_, PSs.nox (pss_cons (ps_set (i := 2) sc_Asker_chain_of.nd rfl (Or.inl rfl) (Kp.pe_methR (E := E0) (pv 0) T.A.cl T.m_pair_of G_Asker_pair_of (hr.mono (by decide)) passL (pa_cons (pv 1) pa_nil)))
(pss_cons (ps_if (pt_val (Kp.pe_methR (E := E0) (pv 0) T.A.cl T.m_is_sure G_Asker_is_sure (hr.mono (by decide)) passL (pa_cons (pv 2) pa_nil)))
(pss_one (ps_ret (pe_tup pa_nil)))
pss_nil)
(pss_cons (ps_set (i := 3) sc_Asker_chain_of.nd rfl (Or.inl rfl) (pe_callR G_closed_by (hr.mono (by decide)) T.k_closed_by (by rfl) T.g_closed_by passL (pa_cons pe_dnewK (pa_cons (Kp.pe_methR (E := E0) (pv 0) T.A.cl T.m_told_pairs G_Asker_told_pairs (hr.mono (by decide)) passL (pa_cons pe_bl pa_nil)) pa_nil))))
(pss_one (ps_ret (pe_ifExp (pt_cmp (pc_din (hu_of hr) (pv 2) (pv 3))) (Kp.pe_methR (E := E0) (pv 0) T.A.cl T.m_steps_in G_Asker_steps_in (hr.mono (by decide)) passL (pa_cons (pv 3) (pa_cons (pv 2) pa_nil))) pe_non)))))), ?_⟩
    obtain ⟨a, o, tk, g, ws, us, As, r, rfl, ak, gg, ig, hr0, hS, hN, hY⟩ := h
    obtain ⟨dx, ha⟩ := ak.at_
    refine ⟨_, rfl, a, dx, _, rfl, ha, rfl, _, rfl, a, o, tk, g, ws, us, As, r, rfl, ak, gg, ig, hr0, fun t H1 x1 ht => ?_⟩
    refine ⟨_, rfl, a, dx, _, rfl, x1 _ _ ha, rfl, _, rfl, a, o, tk, t, ws, As, r, rfl, ak.ext x1, ht, hr0, fun H2 x2 => ?_⟩
    have x12 := x1.trans x2
    refine ⟨_, rfl, ?_⟩
    cases hsu : sureB ws.length r with
    | true =>
      refine iteT ?_
      refine ⟨by decide, fun p hp => ?_⟩
      exact hS hsu p _ (x12.trans (Ext.upd hp)) upd_same
    | false =>
      refine iteF ?_
      intro d hd
      have xd := Ext.upd (o := HO.dK []) hd
      have od : upd H2 d (.dK []) d = some (.dK []) := upd_same
      generalize upd H2 d (.dK []) = H3 at xd od ⊢
      have x13 := x12.trans xd
      refine ⟨_, rfl, a, dx, _, rfl, x13 _ _ ha, rfl, a, o, tk, ws, As, true, rfl, ak.ext x13, fun f bs H4 x4 _ hf hbs => ?_⟩
      have lim := ak.lim
      have sl := @sel_len As true
      have x14 := x13.trans x4
      refine ⟨d, f, bs, sel As true, ws.length, rfl, x4 _ _ od, SqL.of hf, hbs, ak.few, sel_ok ak.oks, by omega, fun D L H5 x5 _ hD cl => ?_⟩
      have x15 := x14.trans x5
      have ht5 := (ht.ext x2).ext (xd.trans (x4.trans x5))
      refine ⟨_, rfl, _, rfl, D, _, rfl, DGet.t hD.1 ht5.key, ?_⟩
      rw [valE_is]
      have hm := cl.mem r
      rw [keysE_ents] at hm
      by_cases hin : r ∈ keysE L
      · rw [decide_eq_true hin]
        refine ⟨_, rfl, iteT ?_⟩
        have nd := cl.nd
        have okk := cl.ok
        rw [keysE_ents] at nd okk
        refine ⟨_, rfl, a, dx, _, rfl, x15 _ _ ha, rfl, _, rfl, _, rfl, a, o, tk, D, t, ws, As, L, r, rfl, ak.ext x15, hD, ht5, hin, nd, okk, cl.pv, fun t' us' xs H6 x6 ht' hst hxl hok hch => ?_⟩
        obtain ⟨c1, c2⟩ := hch (sel As true) cl.bs
        exact hY hsu (hm.1 hin) t' us' xs H6 (x15.trans x6) ht' hst ⟨c1, c2, hok, hxl⟩
      · rw [decide_eq_false hin]
        refine ⟨_, rfl, iteF ?_⟩
        exact hN hsu (fun c => hin (hm.2 c)) H5 x15
end
end Kq
set_option maxHeartbeats 4000000
namespace Kq
open PySem PySem.Spec PyProof.Rows L2 Kp
open Evl (Ev EvL EvT EvA given)
/-! ### the law's pen -/
def spPenL (K : PySem.W.Frag) : Sp := fun vs H Q _ => ∃ (q : Addr) (cs : List Int), vs = [.ref q] ∧ SqL K H q (cs.map V.int) ∧ ∀ (p l : Addr) (cs' : List Int) (H' : Hp), Ext H H' → H p = none → Pen H' p l cs' 100000 → Q (.ref p) H'
theorem cut_ints (cs : List Int) : ∃ cs' : List Int, cutV (cs.map V.int) none (some 63) = cs'.map V.int ∧ cs'.length ≤ 63 := by
  refine ⟨cs.take (min 63 cs.length), ?_, by rw [List.length_take]; omega⟩
  unfold cutV
  rw [show (some (63 : Int)) = some (((63 : Nat) : Int)) from rfl, HT.sIx_none, HT.sIx_nat, List.drop_zero, Nat.sub_zero, List.map_take, List.length_map]
section
variable {P : Program} {w : World} {K : PySem.W.Frag} {mg : Str → Option Value} {base : Heap} {tL tM tA : Tok} {ad : Ad}
theorem ok_pen (T : Tx K mg tL tM tA ad) : FnR P w K mg base (L2.CX P w) 1 ad.fPen (spPenL K) := by
  obtain ⟨fd, F⟩ := T.F_l_pen
  have B := T.B
  refine fnP F sc_l_pen (fun _ _ _ _ _ _ us hl => match us, hl with | [_], _ => rfl) (fun vs H Q E h => ?_) (fun cdv A outer s H vs Q E hr h => ?_)
  · obtain ⟨q, cs, rfl, _⟩ := h
    rfl
  · refine ⟨_, PSs.nox (pss_one (ps_ret (pe_lst (pa_cons (pe_callTy (call_list_ofK (K := K) rfl) (by rfl) B.n_list (by decide +kernel) (pa_cons (pe_slice (sl_listK (K := K) rfl) (pv 0) po_none (po_some pe_int)) pa_nil)) (pa_cons pe_int (pa_cons pe_int pa_nil)))))), ?_⟩
    obtain ⟨q, cs, rfl, hq, hQ⟩ := h
    refine ⟨_, rfl, _, rfl, q, _, rfl, hq, fun p1 hp1 => ?_⟩
    generalize hh1 : upd H p1 _ = H1
    have e1 : Ext H H1 := hh1 ▸ Ext.upd hp1
    have o1 : H1 p1 = some (.lst (cutV (cs.map V.int) none (some 63))) := by
      rw [← hh1]
      exact upd_same
    refine ⟨p1, _, rfl, .inl (SqL.of o1), fun l hl => ?_⟩
    generalize hh2 : upd H1 l _ = H2
    have e2 : Ext H1 H2 := hh2 ▸ Ext.upd hl
    obtain ⟨cs', c1, c2⟩ := cut_ints cs
    have o2 : H2 l = some (.lst (cs'.map V.int)) := by
      rw [← hh2, c1]
      exact upd_same
    refine ⟨(show (3 : Nat) ≤ sizeLine by decide), fun p hp => ?_⟩
    have e3 := Ext.upd (o := HO.lst [V.ref l, V.int 0, V.int 0]) hp
    have e123 := (e1.trans e2).trans e3
    exact hQ p l cs' _ e123 (ext_none (e1.trans e2) hp) ⟨⟨0, 0, upd_same, by omega, by omega⟩, e3 _ _ o2, c2⟩
end
end Kq
set_option maxHeartbeats 4000000
namespace Kq
open PySem PySem.Spec PyProof.Rows L2 Kp
open Evl (Ev EvL EvT EvA given)
/-! ### the law's own closed lists -/
def kvL (F : List Rn) : List (List Key × V) := F.map fun r => (kR r, V.bl true)
theorem kvL_len {F : List Rn} : (kvL F).length = F.length := List.length_map _
theorem valL_is {r : Rn} : ∀ {F : List Rn}, (valV (kvL F) (kR r)).isSome = decide (r ∈ F)
  | [] => by simp [kvL, valV_nil]
  | z :: F => by
    show (valV ((kR z, V.bl true) :: kvL F) (kR r)).isSome = _
    by_cases e : z = r
    · rw [valV_pos (by rw [e])]
      simp [e]
    · rw [valV_neg (fun e' => e (kR_inj e')), valL_is]
      simp [Ne.symm e]
theorem putL_new {r : Rn} {F : List Rn} (h : r ∉ F) : putK (kvL F) (kR r) (.bl true) = kvL (F ++ [r]) := by
  have hv : valV (kvL F) (kR r) = none := by
    have := valL_is (r := r) (F := F)
    rw [decide_eq_false h] at this
    simpa using this
  rw [putK_new _ hv]
  unfold kvL
  rw [List.map_append]
  rfl
def LDt (H : Hp) (D : Addr) (F : List Rn) : Prop := H D = some (.dT (kvL F))
theorem isKeysL {H : Hp} : ∀ {F : List Rn} {cs : List Addr}, IsKeys H (kvL F) cs → PrsAt H cs F
  | [], _, h => by
    cases h
    exact ⟨rfl, fun i b r h => by simp at h⟩
  | z :: F, _, h => by
    cases h with
    | @cons _ c _ cs h1 h2 =>
      obtain ⟨l, f⟩ := isKeysL (F := F) h2
      refine ⟨by simp [l], fun i b r hb hr => ?_⟩
      cases i with
      | zero =>
        cases hb
        cases hr
        exact pr_of h1
      | succ i => exact f i b r (by simpa using hb) (by simpa using hr)
/-- a closed list of runs -/
structure ClosedF (n : Nat) (F : List Rn) : Prop where
  nd : F.Nodup
  ok : ∀ r ∈ F, OkR n r
  cl : ∀ x ∈ F, ∀ y ∈ F, ov x y = true → ∀ r ∈ mks x y, r ∈ F
/-- what is known: nothing (a list), or a closed list (a dict) -/
def KnownAt (H : Hp) (k : Addr) (F : List Rn) : Prop := (F = [] ∧ H k = some (.lst [])) ∨ LDt H k F
def spLClosed (K : PySem.W.Frag) : Sp := fun vs H Q _ => ∃ (k m : Addr) (bs : List Addr) (F0 rs : List Rn) (n : Nat), vs = [.ref k, .ref m] ∧ KnownAt H k F0 ∧ ClosedF n F0 ∧ SqL K H m (bs.map V.ref) ∧ k ≠ m ∧ PrsAt H bs rs ∧ n ≤ 7 ∧ (∀ r ∈ rs, OkR n r) ∧ rs.length ≤ 100 ∧
  ∀ (D : Addr) (F : List Rn) (H' : Hp), Ext H H' → H D = none → LDt H' D F → ClosedF n F → (∀ r, r ∈ F ↔ Cl (fun r => r ∈ F0 ∨ r ∈ rs) r) → Q (.ref D) H'
theorem walk_keysT {d : Addr} {o : Obj} {kvs : List (List Key × V)} : Walk (Itkt d o kvs) kvs.length (fun H => H d = some (.frz o (.dT kvs))) (fun i H x H' => H' = H ∧ ∃ (k : List Key) (v : V) (q : Addr), kvs[i]? = some (k, v) ∧ x = .ref q ∧ H q = some (.tup (k.map kV))) :=
  ⟨fun i _ hi q => ⟨q, hi⟩, fun _ q => ⟨q, Nat.le_refl _⟩, fun i H v H' _ q y => y⟩
section
variable {P : Program} {w : World} {K : PySem.W.Frag} {mg : Str → Option Value} {base : Heap} {tL tM tA : Tok} {ad : Ad}
theorem ok_l_closed (T : Tx K mg tL tM tA ad) : FnR P w K mg base (L2.CX P w) 2 ad.fClosed (spLClosed K) := by
  obtain ⟨fd, F⟩ := T.F_l_closed
  have B := T.B
  refine fnP F sc_l_closed (fun _ _ _ _ _ _ us hl => match us, hl with | [_, _], _ => rfl) (fun vs H Q E h => ?_) (fun cdv A outer s H vs Q E hr h => ?_)
  · obtain ⟨k, m, bs, F0, rs, n, rfl, _⟩ := h
    rfl
  · refine ⟨_, PSs.nox (Evl.pss_cut (ps_par (i := 2) (j := 3) (by rfl) sc_l_closed.nd rfl rfl (by decide) rfl rfl (pa_cons (pe_callTy (call_dictPT rfl hr.units) (by rfl) B.n_dict (by decide +kernel) (pa_cons (pe_orE (pe_lc (own := [("_law_pair", 4)]) (g := gName 4) (tt := tYes) rfl sc_l_closed.nd (pi_listK (K := K) rfl (pv 0)) (blkOk_by (own := [("_law_pair", 4)]) (N := N_l_closed) (sc := defScope s_l_closed) (by decide +kernel)) (fun _ _ _ _ _ => (pg_name (i := 4) sc_l_closed.nd rfl (Or.inl rfl))) (fun _ _ _ _ _ => pts_nil) (fun _ _ _ _ _ => by exact (pe_tup (pa_cons (pv 4) (pa_cons pe_bl pa_nil))))) (pe_lock (pe_lc (own := [("_law_pair", 4)]) (g := gName 4) (tt := tYes) rfl sc_l_closed.nd (pi_keys (pv 0)) (blkOk_by (own := [("_law_pair", 4)]) (N := N_l_closed) (sc := defScope s_l_closed) (by decide +kernel)) (fun _ _ _ _ _ => (pg_name (i := 4) sc_l_closed.nd rfl (Or.inl rfl))) (fun _ _ _ _ _ => pts_nil) (fun _ _ _ _ _ => by exact (pe_tup (pa_cons (pv 4) (pa_cons pe_bl pa_nil))))))) pa_nil)) (pa_cons (pe_lst pa_nil) pa_nil)) (by rfl))
(pss_cons (ps_for PassesOwn.never rfl (pi_listK (K := K) rfl (pv 1)) (pg_name (i := 4) sc_l_closed.nd rfl (Or.inl rfl))
(pss_one (ps_if (pt_cmp (pc_dnotin (hu_of hr) (pv 4) (pv 2)))
(pss_cons (ps_dput (hu_of hr) (pv 2) (pv 4) pe_bl rfl)
(pss_one (ps_expr (pe_bmK (K := K) rfl PySem.F.plainAttrs_list PySem.F.slot_list_append PySem.F.type_list_append mt_append (pv 3) (pa_cons (pv 4) pa_nil)))))
pss_nil)))
(pss_cons (ps_while PassesOwn.never (pt_cmpR (op_neEK (K := K) rfl hr.units) (pv 3) (pe_lst pa_nil) (nomark _))
(pss_cons (ps_set (i := 5) sc_l_closed.nd rfl (Or.inl rfl) (pe_bmK (K := K) rfl PySem.F.plainAttrs_list PySem.F.slot_list_pop PySem.F.type_list_pop mt_popAt (pv 3) (pa_cons pe_int pa_nil)))
(pss_one (ps_for PassesOwn.never rfl (pi_listK (K := K) rfl (pe_callTy (call_list_dT rfl) (by rfl) B.n_list (by decide +kernel) (pa_cons (pv 2) pa_nil))) (pg_name (i := 6) sc_l_closed.nd rfl (Or.inl rfl))
(Evl.pss_cut (ps_asg (pe_ifExp (pt_cmpR op_lt (pe_ix (ix_tupK (K := K) rfl) (pv 5) pe_int (fun _ _ => rfl)) (pe_ix (ix_tupK (K := K) rfl) (pv 6) pe_int (fun _ _ => rfl)) (nomark _)) (pe_tup (pa_cons (pv 5) (pa_cons (pv 6) pa_nil))) (pe_tup (pa_cons (pv 6) (pa_cons (pv 5) pa_nil)))) (pg_tupK (n := 2) (K := K) rfl rfl (pgs_cons (pg_name (i := 7) sc_l_closed.nd rfl (Or.inl rfl)) (pgs_cons (pg_name (i := 8) sc_l_closed.nd rfl (Or.inl rfl)) pgs_nil))))
(pss_one (ps_if (pt_chain3 op_lt op_le op_lt (pe_ix (ix_tupK (K := K) rfl) (pv 7) pe_int (fun _ _ => rfl)) (pe_ix (ix_tupK (K := K) rfl) (pv 8) pe_int (fun _ _ => rfl)) (pe_ix (ix_tupK (K := K) rfl) (pv 7) pe_int (fun _ _ => rfl)) (pe_ix (ix_tupK (K := K) rfl) (pv 8) pe_int (fun _ _ => rfl)))
(pss_one (ps_for PassesOwn.never rfl (pi_listK (K := K) rfl (pe_lst (pa_cons (pe_tup (pa_cons (pe_ix (ix_tupK (K := K) rfl) (pv 8) pe_int (fun _ _ => rfl)) (pa_cons (pe_ix (ix_tupK (K := K) rfl) (pv 7) pe_int (fun _ _ => rfl)) pa_nil))) (pa_cons (pe_tup (pa_cons (pe_ix (ix_tupK (K := K) rfl) (pv 7) pe_int (fun _ _ => rfl)) (pa_cons (pe_ix (ix_tupK (K := K) rfl) (pv 8) pe_int (fun _ _ => rfl)) pa_nil))) (pa_cons (pe_tup (pa_cons (pe_ix (ix_tupK (K := K) rfl) (pv 7) pe_int (fun _ _ => rfl)) (pa_cons (pe_op op_sub (pe_ix (ix_tupK (K := K) rfl) (pv 8) pe_int (fun _ _ => rfl)) pe_int) pa_nil))) (pa_cons (pe_tup (pa_cons (pe_op op_add (pe_ix (ix_tupK (K := K) rfl) (pv 7) pe_int (fun _ _ => rfl)) pe_int) (pa_cons (pe_ix (ix_tupK (K := K) rfl) (pv 8) pe_int (fun _ _ => rfl)) pa_nil))) pa_nil)))))) (pg_name (i := 9) sc_l_closed.nd rfl (Or.inl rfl))
(pss_one (ps_if (pt_cmp (pc_dnotin (hu_of hr) (pv 9) (pv 2)))
(pss_cons (ps_dput (hu_of hr) (pv 2) (pv 9) pe_bl rfl)
(pss_one (ps_expr (pe_bmK (K := K) rfl PySem.F.plainAttrs_list PySem.F.slot_list_append PySem.F.type_list_append mt_append (pv 3) (pa_cons (pv 9) pa_nil)))))
pss_nil))))
pss_nil)))))))
(pss_one (ps_ret (pv 2)))))), ?_⟩
    obtain ⟨k, m, bs, F0, rs, n, rfl, hk, hF0, hm, hkm, hrs, hn, hok, hlen, hQ⟩ := h
    refine ⟨fun σ' H1 => ∃ D lf, σ' = [some (V.ref k), some (V.ref m), some (V.ref D), some (V.ref lf), none, none, none, none, none, none] ∧ Ext H H1 ∧ H D = none ∧ H lf = none ∧ LDt H1 D F0 ∧ H1 lf = some (.lst []) ∧ D ≠ lf, ?_, ?_⟩
    · -- what is known becomes a dict
      have fin : ∀ (p D : Addr) (H2 : Hp) (L : List PairE), Ext H H2 → H2 p = some (.lst (L.map fun e => V.ref e.p)) → (∀ e ∈ L, SqT K H2 e.p [.ref e.b, e.v] ∧ H2 e.b = some (.tup (e.k.map kV))) → (L.map fun e => e.k).Nodup → (L.map fun e => (e.k, e.v)) = kvL F0 → H2 D = none → ∀ lf, (upd H2 D (.dT (L.map fun e => (e.k, e.v)))) lf = none → ∃ D' lf', [some (V.ref k), some (V.ref m), some (V.ref D), some (V.ref lf), none, none, none, none, none, none] = [some (V.ref k), some (V.ref m), some (V.ref D'), some (V.ref lf'), none, none, none, none, none, none] ∧ Ext H (upd (upd H2 D (.dT (L.map fun e => (e.k, e.v)))) lf (.lst [])) ∧ H D' = none ∧ H lf' = none ∧ LDt (upd (upd H2 D (.dT (L.map fun e => (e.k, e.v)))) lf (.lst [])) D' F0 ∧ (upd (upd H2 D (.dT (L.map fun e => (e.k, e.v)))) lf (.lst [])) lf' = some (.lst []) ∧ D' ≠ lf' := by
        intro p D H2 L e hp hL nd hkv hD lf hlf
        have x1 := e.trans (Ext.upd (o := HO.dT (L.map fun e => (e.k, e.v))) hD)
        have Dl : D ≠ lf := ne_of_none upd_same hlf
        refine ⟨D, lf, rfl, x1.trans (Ext.upd hlf), ext_none e hD, ext_none x1 hlf, ?_, upd_same, Dl⟩
        show (upd (upd H2 D (.dT (L.map fun e => (e.k, e.v)))) lf (.lst [])) D = _
        rw [upd_ne Dl, upd_same, hkv]
      rcases hk with ⟨rfl, hk⟩ | hk
      · refine .inl ⟨_, rfl, k, rfl, ⟨_, SqL.of hk⟩, fun D2 hD2 => ?_⟩
        refine lc_list (K := K) (a := k) (xs := []) (fun i H' => Ext H H' ∧ H' D2 = some (.lst [])) ⟨Ext.upd hD2, upd_same⟩ (fun i H' _ hp => SqL.of (hp.1 _ _ hk)) (fun i x H' hx => by simp at hx) (fun H' hp => ?_)
        refine ⟨D2, [], rfl, SqL.of hp.2, by simp, by simp, fun D hD => ?_⟩
        refine ⟨by decide, fun lf hlf => ⟨_, _, rfl, ?_⟩⟩
        exact fin D2 D H' [] hp.1 hp.2 (by simp) (by simp) rfl hD lf hlf
      · refine .inr ⟨k, .dT (kvL F0), hk, True.intro, fun od => ?_⟩
        have hkk : upd H k (.frz od (.dT (kvL F0))) k = some (.frz od (.dT (kvL F0))) := upd_same
        have hkn : ∀ b o, b ≠ k → H b = some o → upd H k (.frz od (.dT (kvL F0))) b = some o := fun b o nb hb => by rw [upd_ne nb]; exact hb
        generalize upd H k (.frz od (.dT (kvL F0))) = Hk at hkk hkn ⊢
        refine ⟨_, rfl, k, od, rfl, .inr ⟨kvL F0, hkk, fun D2 hD2 => ?_⟩⟩
        refine lcw (walk_keysT (kvs := kvL F0)) (fun i H' => ∃ L : List PairE, L.map (fun e => (e.k, e.v)) = kvL (F0.take i) ∧ L.length = i ∧ H' D2 = some (.lst (L.map fun e => V.ref e.p)) ∧ (∀ e ∈ L, H' e.p = some (.tup [.ref e.b, e.v]) ∧ H' e.b = some (.tup (e.k.map kV))) ∧ Ext Hk H') ⟨[], rfl, rfl, upd_same, by simp, Ext.upd hD2⟩ (fun i H' _ hp => by obtain ⟨_, _, _, _, _, e⟩ := hp; exact e _ _ hkk) (fun i x H' H'' hi hp hy => ?_) (fun H' hp => ?_)
        · obtain ⟨L, hL, hl, hD, hE, e⟩ := hp
          obtain ⟨rfl, kk, v, q, hkv, rfl, hq⟩ := hy
          have hil : i < F0.length := by rw [kvL_len] at hi; exact hi
          have hr : F0[i]? = some F0[i] := List.getElem?_eq_getElem hil
          generalize F0[i] = r at hr
          have ekv : (kvL F0)[i]? = some (kR r, V.bl true) := by
            unfold kvL
            rw [List.getElem?_map, hr]
            rfl
          rw [ekv] at hkv
          cases hkv
          have l49 := len49 hn hF0.nd hF0.ok
          refine ⟨rfl, ?_⟩
          refine yes ?_
          refine iteT ?_
          refine ⟨_, rfl, (show (2 : Nat) ≤ sizeLine by decide), fun p hp => ?_⟩
          have x1 := Ext.upd (o := HO.tup [.ref q, V.bl true]) hp
          have op : upd H'' p (HO.tup [.ref q, V.bl true]) p = some (.tup [.ref q, .bl true]) := upd_same
          have hD1 := x1 _ _ hD
          refine ⟨_, hD1, by rw [List.length_map, hl]; exact Nat.lt_of_le_of_lt (by omega : i ≤ 49) (by decide), L ++ [⟨p, q, kR r, .bl true⟩], ?_, by simp [hl], ?_, fun e' he' => ?_, fun b o hb => ?_⟩
          · rw [List.map_append, hL, List.take_add_one, hr]
            unfold kvL
            simp
          · rw [List.map_append]
            exact upd_same
          · have ne : ∀ {b : Addr} {zs : List V}, upd H'' p (HO.tup [.ref q, V.bl true]) b = some (.tup zs) → upd (upd H'' p (HO.tup [.ref q, V.bl true])) D2 (.lst (L.map (fun e => V.ref e.p) ++ [.ref p])) b = some (.tup zs) := fun {b zs} h => by
              rw [upd_ne (fun z => by rw [z, hD1] at h; cases h)]
              exact h
            rcases List.mem_append.mp he' with h | h
            · exact ⟨ne (x1 _ _ (hE e' h).1), ne (x1 _ _ (hE e' h).2)⟩
            · rw [List.mem_singleton.mp h]
              exact ⟨ne op, ne (x1 _ _ hq)⟩
          · rw [upd_ne (ne_of_none hb hD2)]
            exact x1 _ _ (e _ _ hb)
        · obtain ⟨L, hL, hl, hD, hE, e⟩ := hp
          rw [kvL_len, List.take_length] at hL
          have kD : D2 ≠ k := (ne_of_none hkk hD2).symm
          have hk' := e _ _ hkk
          refine ⟨hk', ?_⟩
          have ne : ∀ {b : Addr} {zs : List V}, H' b = some (.tup zs) → upd H' k (.dT (kvL F0)) b = some (.tup zs) := fun {b zs} h => by
            rw [upd_ne (fun z => by rw [z, hk'] at h; cases h)]
            exact h
          have nd : (L.map fun e => e.k).Nodup := by
            have e1 : (L.map fun e => e.k) = F0.map kR := by
              have := congrArg (List.map Prod.fst) hL
              rw [List.map_map] at this
              unfold kvL at this
              rw [List.map_map] at this
              exact this
            rw [e1]
            unfold List.Nodup
            rw [List.pairwise_map]
            exact hF0.nd.imp fun h z => h (kR_inj z)
          have e2 : Ext H (upd H' k (.dT (kvL F0))) := fun b o hb => by
            by_cases ek : b = k
            · subst ek
              rw [upd_same]
              exact hk.symm.trans hb
            · rw [upd_ne ek]
              exact e _ _ (hkn b o ek hb)
          refine ⟨D2, L, rfl, SqL.of (by rw [upd_ne kD]; exact hD), fun e' he' => ⟨SqT.of (ne (hE e' he').1), ne (hE e' he').2⟩, nd, fun D hD' => ?_⟩
          refine ⟨by decide, fun lf hlf => ⟨_, _, rfl, ?_⟩⟩
          exact fin D2 D _ L e2 (by rw [upd_ne kD]; exact hD) (fun e' he' => ⟨SqT.of (ne (hE e' he').1), ne (hE e' he').2⟩) nd hL hD' lf hlf
    · rintro σ' H1 ⟨D, lf, rfl, e2, hD, hlf0, oD, ol, Dl⟩
      refine ⟨_, rfl, m, rfl, ⟨_, hm.ext e2⟩, ?_⟩
      refine for_list (xs := bs.map V.ref) (fun i (σ' : L2.St) H' => ∃ a4, σ' = [some (V.ref k), some (V.ref m), some (V.ref D), some (V.ref lf), a4, none, none, none, none, none] ∧ ∃ (N : List Rn) (bl : List Addr), Ext H H' ∧ LDt H' D (F0 ++ N) ∧ H' lf = some (.lst (bl.map V.ref)) ∧ PrsAt H' bl N ∧ (F0 ++ N).Nodup ∧ ∀ r, r ∈ F0 ++ N ↔ r ∈ F0 ∨ r ∈ rs.take i) ?_ (fun i σ' H' _ hp => ?_) (fun i y σ' H' hy hp => ?_) (fun σ' H' hp => ?_)
      · exact ⟨_, rfl, [], [], e2, by rw [List.append_nil]; exact oD, ol, ⟨rfl, by simp⟩, by rw [List.append_nil]; exact hF0.nd, by simp⟩
      · obtain ⟨a4, rfl, N, bl, e, _⟩ := hp
        exact hm.ext e
      · obtain ⟨a4, rfl, N, bl, e, hDA, hl, hpr, nd, mem⟩ := hp
        obtain ⟨b, hb, rfl⟩ : ∃ b, bs[i]? = some b ∧ y = .ref b := by
          rw [List.getElem?_map] at hy
          cases q : bs[i]? with
          | none => rw [q] at hy; cases hy
          | some b =>
            rw [q] at hy
            exact ⟨b, rfl, (Option.some.inj hy).symm⟩
        have hil : i < rs.length := by rw [← hrs.1]; exact (List.getElem?_eq_some_iff.mp hb).1
        have hr : rs[i]? = some rs[i] := List.getElem?_eq_getElem hil
        generalize rs[i] = r at hr
        have hbr : PrAt H' b r := (hrs.2 i b r hb hr).ext e
        have htk : ∀ x, x ∈ rs.take (i + 1) ↔ x ∈ rs.take i ∨ x = r := fun x => by
          rw [List.take_add_one, hr, List.mem_append]
          simp
        refine ⟨_, rfl, _, rfl, D, _, rfl, DGet.t hDA hbr.key, _, rfl, ?_⟩
        rw [valL_is]
        by_cases hin : r ∈ F0 ++ N
        · rw [decide_eq_true hin]
          refine iteF ?_
          exact ⟨_, rfl, N, bl, e, hDA, hl, hpr, nd, fun x => by
            rw [htk, mem x]
            constructor
            · rintro (h | h)
              · exact .inl h
              · exact .inr (.inl h)
            · rintro (h | h | h)
              · exact .inl h
              · exact .inr h
              · exact (mem x).1 (h ▸ hin)⟩
        · rw [decide_eq_false hin]
          refine iteT ?_
          have okN : ∀ q ∈ F0 ++ N, OkR n q := fun q hq => ((mem q).1 hq).elim (hF0.ok q) fun h => hok q (List.mem_of_mem_take h)
          have l49 := len49 hn nd okN
          have lN : N.length ≤ 49 := by rw [List.length_append] at l49; omega
          refine ⟨_, rfl, _, rfl, D, _, rfl, DPut.t hDA hbr.key (by rw [kvL_len]; exact Nat.lt_of_le_of_lt l49 (by decide)), ?_⟩
          rw [putL_new hin]
          refine ⟨_, rfl, .inl ⟨rfl, _, SqL.of (by rw [upd_ne Dl.symm]; exact hl)⟩, ?_⟩
          refine ⟨_, rfl, lf, _, _, rfl, rfl, by rw [upd_ne Dl.symm]; exact hl, by rw [List.length_map, hpr.1]; exact Nat.lt_of_le_of_lt lN (by decide), ?_⟩
          have tt : Tups H' (upd (upd H' D (.dT (kvL (F0 ++ N ++ [r])))) lf (.lst (bl.map V.ref ++ [.ref b]))) := tups_two hDA hl
          refine ⟨_, rfl, N ++ [r], bl ++ [b], ext_two e hD hlf0, by show upd (upd H' D _) lf _ D = _; rw [upd_ne Dl, upd_same, List.append_assoc], by rw [List.map_append]; exact upd_same, prs_snoc (hpr.keep tt) (tt _ _ hbr), ?_, fun x => ?_⟩
          · rw [← List.append_assoc]
            exact List.nodup_append.mpr ⟨nd, by simp, fun x hx y hy e => by
              rw [List.mem_singleton] at hy
              exact hin (by rw [← hy, ← e]; exact hx)⟩
          · rw [← List.append_assoc, List.mem_append, mem x, htk, List.mem_singleton]
            exact or_assoc
      · obtain ⟨a4, rfl, N, bl, e, hDA, hl, hpr, nd, mem⟩ := hp
        rw [List.length_map, hrs.1, List.take_length] at mem
        have wl0 : WL (fun r => r ∈ F0 ∨ r ∈ rs) n (F0 ++ N) N := ⟨nd, fun r hr => ((mem r).1 hr).elim (hF0.ok r) (hok r), fun r hr => List.mem_append_right _ hr, fun r hr => .base ((mem r).1 hr), fun r hr => (mem r).2 hr, fun x hx y hy nx ny o r hr => by
          have hx' := (List.mem_append.mp hx).resolve_right nx
          have hy' := (List.mem_append.mp hy).resolve_right ny
          exact List.mem_append_left _ (hF0.cl x hx' y hy' o r hr)⟩
        have l49 := len49 hn wl0.nd wl0.ok
        refine ⟨fun kk σ' H' => ∃ a4 a5 a6 a7 a8 a9, σ' = [some (V.ref k), some (V.ref m), some (V.ref D), some (V.ref lf), a4, a5, a6, a7, a8, a9] ∧ ∃ (F : List Rn) (bl : List Addr) (ls : List Rn), kk = 2 * (49 - F.length) + ls.length ∧ kk ≤ 98 ∧ Ext H H' ∧ LDt H' D F ∧ H' lf = some (.lst (bl.map V.ref)) ∧ PrsAt H' bl ls ∧ WL (fun r => r ∈ F0 ∨ r ∈ rs) n F ls, ⟨_, a4, _, _, _, _, _, rfl, F0 ++ N, bl, N, rfl, by rw [List.length_append] at l49 ⊢; omega, e, hDA, hl, hpr, wl0⟩, ?_⟩
        clear wl0 l49 hpr nd mem hl hDA e bl N H'
        rintro kk σ' H' ⟨b4, b5, b6, b7, b8, b9, rfl, F, bl, ls, rfl, hk98, e, hDA, hl, hpr, wl⟩
        refine ⟨_, rfl, by decide, fun q hq => ?_⟩
        have xq := Ext.upd (o := HO.lst ([] : List V)) hq
        have e3 := e.trans xq
        have hDA3 := xq _ _ hDA
        have hl3 := xq _ _ hl
        have hpr3 := hpr.ext xq
        have hq3 : upd H' q (.lst ([] : List V)) q = some (.lst []) := upd_same
        generalize upd H' q (.lst ([] : List V)) = H3 at e3 hDA3 hl3 hpr3 hq3 ⊢
        refine ⟨lf, q, _, rfl, rfl, SqL.of hl3, SqL.of hq3, _, rfl, ?_⟩
        match ls, bl, hpr3, hl3, wl, hk98 with
        | [], bl, hpr3, hl3, wl, _ =>
          have hb0 : bl = [] := List.eq_nil_of_length_eq_zero hpr3.1
          subst hb0
          refine iteF ?_
          refine ⟨_, rfl, ?_⟩
          exact hQ D F H3 e3 hD hDA3 ⟨wl.nd, wl.ok, fun x hx y hy o r hr => wl.closed x hx y hy (by simp) (by simp) o r hr⟩ fun r => wl.done r
        | run :: ls, [], hpr3, hl3, wl, _ =>
          have := hpr3.1
          simp at this
        | run :: ls, b :: bl, hpr3, hl3, wl, hk98 =>
          refine iteT ?_
          have hrun : PrAt H3 b run := hpr3.2 0 b run rfl rfl
          have hpl : PrsAt H3 bl ls := ⟨by have := hpr3.1; simpa using this, fun i c r hc hr => hpr3.2 (i + 1) c r (by simpa using hc) (by simpa using hr)⟩
          have l49 := len49 hn wl.nd wl.ok
          have rin : run ∈ F := wl.sub _ List.mem_cons_self
          refine ⟨fun σ' H' => ∃ k', k' < 2 * (49 - F.length) + (run :: ls).length ∧ ∃ a4 a5 a6 a7 a8 a9, σ' = [some (V.ref k), some (V.ref m), some (V.ref D), some (V.ref lf), a4, a5, a6, a7, a8, a9] ∧ ∃ (F : List Rn) (bl : List Addr) (ls : List Rn), k' = 2 * (49 - F.length) + ls.length ∧ k' ≤ 98 ∧ Ext H H' ∧ LDt H' D F ∧ H' lf = some (.lst (bl.map V.ref)) ∧ PrsAt H' bl ls ∧ WL (fun r => r ∈ F0 ∨ r ∈ rs) n F ls, fun σ' H' h => h, ?_⟩
          refine ⟨_, rfl, .inl ⟨rfl, _, SqL.of hl3⟩, lf, _, 0, 0, .ref b, rfl, rfl, hl3, by decide, by decide, seq_nat (by simp), rfl, ?_⟩
          have e4 : Ext H (upd H3 lf (.lst (bl.map V.ref))) := fun c o hc => by
            rw [upd_ne (ne_of_none hc hlf0)]
            exact e3 _ _ hc
          have t4 : Tups H3 (upd H3 lf (.lst (bl.map V.ref))) := fun c xs hc => by
            rw [upd_ne (fun z => by rw [z, hl3] at hc; cases hc)]
            exact hc
          have hDA4 : LDt (upd H3 lf (.lst (bl.map V.ref))) D F := by
            show upd H3 lf _ D = _
            rw [upd_ne Dl]
            exact hDA3
          have hl4 : upd H3 lf (.lst (bl.map V.ref)) lf = some (.lst (bl.map V.ref)) := upd_same
          have hpl4 := hpl.keep t4
          have hrun4 : PrAt (upd H3 lf (.lst (bl.map V.ref))) b run := t4 _ _ hrun
          rw [show ((b :: bl).map V.ref).eraseIdx 0 = bl.map V.ref from rfl]
          generalize upd H3 lf (.lst (bl.map V.ref)) = H4 at e4 hDA4 hl4 hpl4 hrun4 ⊢
          refine ⟨_, rfl, D, kvL F, rfl, .inl hDA4, fun p cs hp ik => ?_⟩
          have hcs : PrsAt H4 cs F := isKeysL ik
          have pD : p ≠ D := (ne_of_none hDA4 hp).symm
          have plf : p ≠ lf := (ne_of_none hl4 hp).symm
          have x5 := Ext.upd (o := HO.lst (cs.map V.ref)) hp
          refine ⟨p, rfl, ⟨_, SqL.of upd_same⟩, ?_⟩
          have hp5 : upd H4 p (.lst (cs.map V.ref)) p = some (.lst (cs.map V.ref)) := upd_same
          have e5 := e4.trans x5
          have hDA5 := x5 _ _ hDA4
          have hl5 := x5 _ _ hl4
          have hpl5 := hpl4.ext x5
          have hrun5 := hrun4.ext x5
          have hcs5 := hcs.ext x5
          generalize upd H4 p (.lst (cs.map V.ref)) = H5 at hp5 e5 hDA5 hl5 hpl5 hrun5 hcs5 ⊢
          refine for_list (xs := cs.map V.ref) (fun i (σ' : L2.St) H' => ∃ a4 a6 a7 a8 a9, σ' = [some (V.ref k), some (V.ref m), some (V.ref D), some (V.ref lf), a4, some (V.ref b), a6, a7, a8, a9] ∧ ∃ (N : List Rn) (bn : List Addr), Ext H H' ∧ Tups H5 H' ∧ LDt H' D (F ++ N) ∧ H' lf = some (.lst ((bl ++ bn).map V.ref)) ∧ PrsAt H' bn N ∧ H' p = some (.lst (cs.map V.ref)) ∧ WI (fun r => r ∈ F0 ∨ r ∈ rs) n F ls run i N) ?_ (fun i σ' H' _ hp => ?_) (fun i y σ' H' hy hp => ?_) (fun σ' H' hp => ?_)
          · exact ⟨_, _, _, _, _, rfl, [], [], e5, fun _ _ h => h, by rw [List.append_nil]; exact hDA5, by simpa using hl5, ⟨rfl, by simp⟩, hp5, WI.start wl⟩
          · obtain ⟨a4, a6, a7, a8, a9, rfl, N, bn, _, _, _, _, _, hp', _⟩ := hp
            exact SqL.of hp'
          · obtain ⟨a4, a6, a7, a8, a9, rfl, N, bn, e6, t6, hDA6, hl6, hbn, hp6, wi⟩ := hp
            obtain ⟨c, hc, rfl⟩ : ∃ c, cs[i]? = some c ∧ y = .ref c := by
              rw [List.getElem?_map] at hy
              cases q : cs[i]? with
              | none => rw [q] at hy; cases hy
              | some b =>
                rw [q] at hy
                exact ⟨b, rfl, (Option.some.inj hy).symm⟩
            have hil : i < F.length := by rw [← hcs5.1]; exact (List.getElem?_eq_some_iff.mp hc).1
            have hy : F[i]? = some F[i] := List.getElem?_eq_getElem hil
            have yin : F[i] ∈ F := List.getElem_mem hil
            generalize F[i] = y at hy yin
            have hcy : PrAt H' c y := t6 _ _ (hcs5.2 i c y hc hy)
            have hrn : PrAt H' b run := t6 _ _ hrun5
            refine ⟨fun σ' H7 => ∃ lo hi p1 q1, σ' = [some (V.ref k), some (V.ref m), some (V.ref D), some (V.ref lf), a4, some (V.ref b), some (V.ref c), some (V.ref lo), some (V.ref hi), a9] ∧ Ext H' H7 ∧ PrAt H7 lo p1 ∧ PrAt H7 hi q1 ∧ ov run y = ovl p1 q1 ∧ lmk run y = mkl p1 q1, ?_, ?_⟩
            · refine ⟨_, rfl, b, _, 0, _, rfl, rfl, SqT.of hrn, rfl, _, rfl, c, _, 0, _, rfl, rfl, SqT.of hcy, rfl, _, _, rfl, rfl, _, rfl, ?_⟩
              have e1 : decide ((run.1 : Int) < (y.1 : Int)) = decide (run.1 < y.1) := by simp
              rw [e1]
              by_cases h1 : run.1 < y.1
              · rw [decide_eq_true h1]
                refine iteT ?_
                refine ⟨_, rfl, _, rfl, (show (2 : Nat) ≤ sizeLine by decide), fun t ht => ?_⟩
                have x := Ext.upd (o := HO.tup [V.ref b, V.ref c]) ht
                exact ⟨t, _, rfl, SqT.of upd_same, rfl, _, _, rfl, _, _, rfl, rfl, b, c, run, y, rfl, x, hrn.ext x, hcy.ext x, by unfold ov; rw [if_pos h1], by unfold lmk; rw [if_pos h1]⟩
              · rw [decide_eq_false h1]
                refine iteF ?_
                refine ⟨_, rfl, _, rfl, (show (2 : Nat) ≤ sizeLine by decide), fun t ht => ?_⟩
                have x := Ext.upd (o := HO.tup [V.ref c, V.ref b]) ht
                exact ⟨t, _, rfl, SqT.of upd_same, rfl, _, _, rfl, _, _, rfl, rfl, c, b, y, run, rfl, x, hcy.ext x, hrn.ext x, by unfold ov; rw [if_neg h1], by unfold lmk; rw [if_neg h1]⟩
            · rintro σ' H7 ⟨lo, hi, p1, q1, rfl, x7, hlo, hhi, eov, emk⟩
              have no : ov run y = false → WI (fun r => r ∈ F0 ∨ r ∈ rs) n F ls run (i + 1) N := fun h => wi.next hy (fun _ h => h) wi.nd wi.ok wi.cl fun h' => by rw [h] at h'; cases h'
              refine ⟨_, rfl, lo, _, 0, _, rfl, rfl, SqT.of hlo, rfl, _, rfl, hi, _, 0, _, rfl, rfl, SqT.of hhi, rfl, _, _, rfl, rfl, _, rfl, ?_⟩
              have e1 : decide ((p1.1 : Int) < (q1.1 : Int)) = decide (p1.1 < q1.1) := by simp
              have e2' : decide ((q1.1 : Int) ≤ (p1.2 : Int)) = decide (q1.1 ≤ p1.2) := by simp
              have e3' : decide ((p1.2 : Int) < (q1.2 : Int)) = decide (p1.2 < q1.2) := by simp
              rw [e1]
              by_cases h1 : p1.1 < q1.1
              · rw [decide_eq_true h1]
                refine iteT ?_
                refine ⟨_, rfl, lo, _, 1, _, rfl, rfl, SqT.of hlo, rfl, _, _, rfl, rfl, _, rfl, ?_⟩
                rw [e2']
                by_cases h2 : q1.1 ≤ p1.2
                · rw [decide_eq_true h2]
                  refine iteT ?_
                  refine ⟨_, rfl, hi, _, 1, _, rfl, rfl, SqT.of hhi, rfl, _, _, rfl, rfl, _, rfl, ?_⟩
                  rw [e3']
                  by_cases h3 : p1.2 < q1.2
                  · rw [decide_eq_true h3]
                    refine iteT ?_
                    have ho : ov run y = true := by
                      rw [eov]
                      unfold ovl
                      simp [h1, h2, h3]
                    refine ⟨_, rfl, hi, _, 0, _, rfl, rfl, SqT.of hhi, rfl, _, rfl, lo, _, 1, _, rfl, rfl, SqT.of hlo, rfl, (show (2 : Nat) ≤ sizeLine by decide), fun t0 ht0 => ?_⟩
                    generalize hG0 : upd H7 t0 _ = G0
                    have y0 : Ext H7 G0 := hG0 ▸ Ext.upd ht0
                    have z0 : G0 t0 = some (.tup [.int ((q1.1 : Nat) : Int), .int ((p1.2 : Nat) : Int)]) := by rw [← hG0]; exact upd_same
                    have hlo1 := hlo.ext y0
                    have hhi1 := hhi.ext y0
                    refine ⟨_, rfl, lo, _, 0, _, rfl, rfl, SqT.of hlo1, rfl, _, rfl, hi, _, 1, _, rfl, rfl, SqT.of hhi1, rfl, (show (2 : Nat) ≤ sizeLine by decide), fun t1 ht1 => ?_⟩
                    generalize hG1 : upd G0 t1 _ = G1
                    have y1 : Ext G0 G1 := hG1 ▸ Ext.upd ht1
                    have z1 : G1 t1 = some (.tup [.int ((p1.1 : Nat) : Int), .int ((q1.2 : Nat) : Int)]) := by rw [← hG1]; exact upd_same
                    have hlo2 := hlo1.ext y1
                    have hhi2 := hhi1.ext y1
                    refine ⟨_, rfl, lo, _, 0, _, rfl, rfl, SqT.of hlo2, rfl, _, rfl, hi, _, 0, _, rfl, rfl, SqT.of hhi2, rfl, _, _, rfl, rfl, (show (2 : Nat) ≤ sizeLine by decide), fun t2 ht2 => ?_⟩
                    generalize hG2 : upd G1 t2 _ = G2
                    have y2 : Ext G1 G2 := hG2 ▸ Ext.upd ht2
                    have z2 : G2 t2 = some (.tup [.int ((p1.1 : Nat) : Int), .int (((q1.1 : Nat) : Int) - 1)]) := by rw [← hG2]; exact upd_same
                    have hlo3 := hlo2.ext y2
                    have hhi3 := hhi2.ext y2
                    refine ⟨_, rfl, lo, _, 1, _, rfl, rfl, SqT.of hlo3, rfl, _, _, rfl, rfl, _, rfl, hi, _, 1, _, rfl, rfl, SqT.of hhi3, rfl, (show (2 : Nat) ≤ sizeLine by decide), fun t3 ht3 => ?_⟩
                    generalize hG3 : upd G2 t3 _ = G3
                    have y3 : Ext G2 G3 := hG3 ▸ Ext.upd ht3
                    have z3 : G3 t3 = some (.tup [.int (((p1.2 : Nat) : Int) + 1), .int ((q1.2 : Nat) : Int)]) := by rw [← hG3]; exact upd_same
                    have hlo4 := hlo3.ext y3
                    have hhi4 := hhi3.ext y3
                    refine ⟨(show (4 : Nat) ≤ sizeLine by decide), fun l hl => ?_⟩
                    generalize hG4 : upd G3 l _ = H8
                    have y4 : Ext G3 H8 := hG4 ▸ Ext.upd hl
                    have ol8 : H8 l = some (.lst ([t0, t1, t2, t3].map V.ref)) := by rw [← hG4]; exact upd_same
                    have g0 := y4 _ _ (y3 _ _ (y2 _ _ (y1 _ _ z0)))
                    have g1 := y4 _ _ (y3 _ _ (y2 _ _ z1))
                    have g2 := y4 _ _ (y3 _ _ z2)
                    have g3 := y4 _ _ z3
                    have x8 := x7.trans (y0.trans (y1.trans (y2.trans (y3.trans y4))))
                    refine ⟨l, rfl, ⟨_, SqL.of ol8⟩, ?_⟩
                    have hms : PrsAt H8 [t0, t1, t2, t3] (mkl p1 q1) := ⟨rfl, fun i b' r hi' hr' => by
                      match i, hi', hr' with
                      | 0, hi', hr' =>
                        cases hi'
                        cases hr'
                        exact g0
                      | 1, hi', hr' =>
                        cases hi'
                        cases hr'
                        exact g1
                      | 2, hi', hr' =>
                        cases hi'
                        cases hr'
                        have ez : ((q1.1 : Nat) : Int) - 1 = ((q1.1 - 1 : Nat) : Int) := by omega
                        exact Eq.trans g2 (congrArg (fun z => some (HO.tup [V.int ((p1.1 : Nat) : Int), V.int z])) ez)
                      | 3, hi', hr' =>
                        cases hi'
                        cases hr'
                        exact g3⟩
                    have plr : p ≠ l := ne_of_none (y3 _ _ (y2 _ _ (y1 _ _ (y0 _ _ (x7 _ _ hp6))))) hl
                    have lD : l ≠ D := (ne_of_none (y3 _ _ (y2 _ _ (y1 _ _ (y0 _ _ (x7 _ _ hDA6))))) hl).symm
                    have llf : l ≠ lf := (ne_of_none (y3 _ _ (y2 _ _ (y1 _ _ (y0 _ _ (x7 _ _ hl6))))) hl).symm
                    have okm : ∀ r ∈ mkl p1 q1, OkR n r := fun r hr => mks_ok (wl.ok run rin) (wl.ok y yin) ho ((lmk_mem _ _ _).1 (emk ▸ hr))
                    have clm : ∀ r ∈ mkl p1 q1, Cl (fun r => r ∈ F0 ∨ r ∈ rs) r := fun r hr => .step (wl.cl run rin) (wl.cl y yin) ho ((lmk_mem _ _ _).1 (emk ▸ hr))
                    refine for_list (xs := [t0, t1, t2, t3].map V.ref) (fun j (σ' : L2.St) H' => ∃ a9, σ' = [some (V.ref k), some (V.ref m), some (V.ref D), some (V.ref lf), a4, some (V.ref b), some (V.ref c), some (V.ref lo), some (V.ref hi), a9] ∧ ∃ (M : List Rn) (bm : List Addr), Ext H H' ∧ Tups H8 H' ∧ LDt H' D (F ++ M) ∧ H' lf = some (.lst ((bl ++ bm).map V.ref)) ∧ PrsAt H' bm M ∧ H' p = some (.lst (cs.map V.ref)) ∧ H' l = some (.lst ([t0, t1, t2, t3].map V.ref)) ∧
                      (∀ r ∈ N, r ∈ M) ∧ (F ++ M).Nodup ∧ (∀ r ∈ M, OkR n r) ∧ (∀ r ∈ M, Cl (fun r => r ∈ F0 ∨ r ∈ rs) r) ∧ ∀ (i : Nat) (r : Rn), i < j → (mkl p1 q1)[i]? = some r → r ∈ F ++ M) ?_ (fun j σ' H' _ hp => ?_) (fun j y' σ' H' hy' hp => ?_) (fun σ' H' hp => ?_)
                    · exact ⟨_, rfl, N, bn, e6.trans x8, fun _ _ h => h, x8 _ _ hDA6, x8 _ _ hl6, hbn.ext x8, x8 _ _ hp6, ol8, fun r h => h, wi.nd, wi.ok, wi.cl, fun i r h => absurd h (Nat.not_lt_zero _)⟩
                    · obtain ⟨a9', rfl, M, bm, _, _, _, _, _, _, h, _⟩ := hp
                      exact SqL.of h
                    · obtain ⟨a9', rfl, M, bm, e9, t9, hDA9, hl9, hbm, hp9, hl9', hsub, nd9, ok9, cl9, md9⟩ := hp
                      obtain ⟨f, hf, rfl⟩ : ∃ f, [t0, t1, t2, t3][j]? = some f ∧ y' = .ref f := by
                        rw [List.getElem?_map] at hy'
                        cases q : [t0, t1, t2, t3][j]? with
                        | none => rw [q] at hy'; cases hy'
                        | some b =>
                          rw [q] at hy'
                          exact ⟨b, rfl, (Option.some.inj hy').symm⟩
                      have hjl : j < (mkl p1 q1).length := by rw [← hms.1]; exact (List.getElem?_eq_some_iff.mp hf).1
                      have hr : (mkl p1 q1)[j]? = some (mkl p1 q1)[j] := List.getElem?_eq_getElem hjl
                      have rm : (mkl p1 q1)[j] ∈ mkl p1 q1 := List.getElem_mem hjl
                      generalize (mkl p1 q1)[j] = r at hr rm
                      have hfr : PrAt H' f r := t9 _ _ (hms.2 j f r hf hr)
                      refine ⟨_, rfl, _, rfl, D, _, rfl, DGet.t hDA9 hfr.key, _, rfl, ?_⟩
                      rw [valL_is]
                      have mdn : ∀ (M' : List Rn), (∀ r ∈ M, r ∈ M') → r ∈ F ++ M' → ∀ (i : Nat) (q : Rn), i < j + 1 → (mkl p1 q1)[i]? = some q → q ∈ F ++ M' := fun M' hs hrr i q hi hq => by
                        by_cases ei : i = j
                        · subst ei
                          rw [hr] at hq
                          cases hq
                          exact hrr
                        · rcases List.mem_append.mp (md9 i q (by omega) hq) with h | h
                          · exact List.mem_append_left _ h
                          · exact List.mem_append_right _ (hs _ h)
                      by_cases hin : r ∈ F ++ M
                      · rw [decide_eq_true hin]
                        refine iteF ?_
                        exact ⟨_, rfl, M, bm, e9, t9, hDA9, hl9, hbm, hp9, hl9', hsub, nd9, ok9, cl9, mdn M (fun _ h => h) hin⟩
                      · rw [decide_eq_false hin]
                        refine iteT ?_
                        have l98 : (F ++ M).length ≤ 49 := len49 hn nd9 fun q hq => (List.mem_append.mp hq).elim (wl.ok q) (ok9 q)
                        refine ⟨_, rfl, _, rfl, D, _, rfl, DPut.t hDA9 hfr.key (by rw [kvL_len]; exact Nat.lt_of_le_of_lt l98 (by decide)), ?_⟩
                        rw [putL_new hin, List.append_assoc]
                        refine ⟨_, rfl, .inl ⟨rfl, _, SqL.of (by rw [upd_ne Dl.symm]; exact hl9)⟩, ?_⟩
                        refine ⟨_, rfl, lf, _, _, rfl, rfl, by rw [upd_ne Dl.symm]; exact hl9, ?_, ?_⟩
                        · have hb1 := hbm.1
                          have hb2 : bl.length = ls.length := hpl5.1
                          rw [List.length_cons] at hk98
                          rw [List.length_append] at l98
                          rw [List.length_map, List.length_append]
                          exact Nat.lt_of_le_of_lt (by omega : bl.length + bm.length ≤ 147) (by decide)
                        have tt12 : Tups H' (upd (upd H' D (.dT (kvL (F ++ (M ++ [r]))))) lf (.lst ((bl ++ bm).map V.ref ++ [.ref f]))) := tups_two hDA9 hl9
                        refine ⟨_, rfl, M ++ [r], bm ++ [f], ext_two e9 hD hlf0, t9.trans tt12, ?_, ?_, prs_snoc (hbm.keep tt12) (tt12 _ _ hfr), ?_, ?_, ?_, ?_, ?_, ?_, ?_⟩
                        · show upd (upd H' D _) lf _ D = _
                          rw [upd_ne Dl, upd_same]
                        · rw [show (bl ++ (bm ++ [f])).map V.ref = (bl ++ bm).map V.ref ++ [V.ref f] from by simp]
                          exact upd_same
                        · rw [upd_ne plf, upd_ne pD]
                          exact hp9
                        · rw [upd_ne llf, upd_ne lD]
                          exact hl9'
                        · exact fun q hq => List.mem_append_left _ (hsub q hq)
                        · rw [← List.append_assoc]
                          exact List.nodup_append.mpr ⟨nd9, by simp, fun x hx y' hy' e => by
                            rw [List.mem_singleton] at hy'
                            exact hin (by rw [← hy', ← e]; exact hx)⟩
                        · intro q hq
                          rcases List.mem_append.mp hq with hq | hq
                          · exact ok9 q hq
                          · rw [List.mem_singleton.mp hq]
                            exact okm r rm
                        · intro q hq
                          rcases List.mem_append.mp hq with hq | hq
                          · exact cl9 q hq
                          · rw [List.mem_singleton.mp hq]
                            exact clm r rm
                        · exact mdn _ (fun q hq => List.mem_append_left _ hq) (List.mem_append_right _ (List.mem_append_right _ (List.mem_singleton.mpr rfl)))
                    · obtain ⟨a9', rfl, M, bm, e9, t9, hDA9, hl9, hbm, hp9, hl9', hsub, nd9, ok9, cl9, md9⟩ := hp
                      refine ⟨_, _, _, _, _, rfl, M, bm, e9, (t6.trans (Tups.of x8)).trans t9, hDA9, hl9, hbm, hp9, wi.next hy hsub nd9 ok9 cl9 fun _ r hr => ?_⟩
                      rw [← lmk_mem, emk] at hr
                      obtain ⟨i9, hi9⟩ := List.mem_iff_getElem?.mp hr
                      exact md9 i9 r (by have := (List.getElem?_eq_some_iff.mp hi9).1; exact this) hi9
                  · rw [decide_eq_false h3]
                    refine iteF ?_
                    exact ⟨_, _, _, _, _, rfl, N, bn, e6.trans x7, t6.trans (Tups.of x7), x7 _ _ hDA6, x7 _ _ hl6, hbn.ext x7, x7 _ _ hp6, no (by rw [eov]; unfold ovl; simp [h3])⟩
                · rw [decide_eq_false h2]
                  refine iteF ?_
                  refine ⟨_, rfl, ?_⟩
                  refine iteF ?_
                  exact ⟨_, _, _, _, _, rfl, N, bn, e6.trans x7, t6.trans (Tups.of x7), x7 _ _ hDA6, x7 _ _ hl6, hbn.ext x7, x7 _ _ hp6, no (by rw [eov]; unfold ovl; simp [h2])⟩
              · rw [decide_eq_false h1]
                refine iteF ?_
                refine ⟨_, rfl, ?_⟩
                refine iteF ?_
                exact ⟨_, _, _, _, _, rfl, N, bn, e6.trans x7, t6.trans (Tups.of x7), x7 _ _ hDA6, x7 _ _ hl6, hbn.ext x7, x7 _ _ hp6, no (by rw [eov]; unfold ovl; simp [h1])⟩
          · obtain ⟨a4, a6, a7, a8, a9, rfl, N, bn, e6, t6, hDA6, hl6, hbn, hp6, wi⟩ := hp
            rw [List.length_map, hcs5.1] at wi
            have wl2 := WI.fin wl wi
            have l49' := len49 hn wl2.nd wl2.ok
            rw [List.length_append] at l49'
            refine ⟨2 * (49 - (F ++ N).length) + (ls ++ N).length, ?_, _, _, _, _, _, _, rfl, F ++ N, bl ++ bn, ls ++ N, rfl, ?_, e6, hDA6, hl6, prs_app (hpl5.keep t6) hbn, wl2⟩
            · rw [List.length_append, List.length_append, List.length_cons]
              omega
            · rw [List.length_append, List.length_append]
              rw [List.length_cons] at hk98
              omega
end
end Kq
set_option maxHeartbeats 4000000
namespace Kq
open PySem PySem.Spec PyProof.Rows L2 Kp
open Evl (Ev EvL EvT EvA given)
theorem cr_sortedSK {X : Cx} {K : PySem.W.Frag} (hK : X.K = K) : CallR X (.builtin "sorted") (rSortedS K) := hK ▸ cr_sortedS
/-! ### the law's sets made of two -/
def lrow : Nat → List Str → List Str → List Str
  | 0, f, s => f.filter fun x => decide (x ∈ s)
  | 1, f, s => f ++ s.filter fun x => !decide (x ∈ f)
  | 2, f, s => f.filter fun x => !decide (x ∈ s)
  | _, f, s => s.filter fun x => !decide (x ∈ f)
theorem lrow_mem {i : Nat} {f s : List Str} {k : Str} : k ∈ lrow i f s ↔ k ∈ setop i f s := by
  match i with
  | 0 => exact Iff.rfl
  | 1 =>
    show k ∈ f ++ s.filter (fun x => !decide (x ∈ f)) ↔ k ∈ f ++ s
    rw [List.mem_append, List.mem_append, List.mem_filter]
    constructor
    · rintro (h | h)
      · exact .inl h
      · exact .inr h.1
    · rintro (h | h)
      · exact .inl h
      · by_cases hf : k ∈ f
        · exact .inl hf
        · exact .inr ⟨h, by simp [hf]⟩
  | 2 => exact Iff.rfl
  | n + 3 => exact Iff.rfl
theorem lrow_nd {i : Nat} {f s : List Str} (nf : f.Nodup) (ns : s.Nodup) : (lrow i f s).Nodup := by
  match i with
  | 0 => exact List.filter_sublist.nodup nf
  | 1 => exact List.nodup_append.mpr ⟨nf, List.filter_sublist.nodup ns, fun a ha b hb e => by
      have := (List.mem_filter.mp hb).2
      rw [← e] at this
      simp [ha] at this⟩
  | 2 => exact List.filter_sublist.nodup nf
  | n + 3 => exact List.filter_sublist.nodup ns
def spLMade : Sp := fun vs H Q _ => ∃ (a b : Addr) (f s : List Str), vs = [.ref a, .ref b] ∧ H a = some (.tup (f.map V.str)) ∧ H b = some (.tup (s.map V.str)) ∧ f.Nodup ∧ s.Nodup ∧ f.length ≤ 7 ∧ s.length ≤ 7 ∧
  ∀ (l : Addr) (ps : List Addr) (H' : Hp), Ext H H' → H' l = some (.lst (ps.map V.ref)) → ps.length = 4 → (∀ (k : Nat) (p : Addr), ps[k]? = some p → H' p = some (.tup ((gs (setop k f s)).map V.str))) → Q (.ref l) H'
section
variable {P : Program} {w : World} {K : PySem.W.Frag} {mg : Str → Option Value} {base : Heap} {tL tM tA : Tok} {ad : Ad}
theorem ok_l_made (T : Tx K mg tL tM tA ad) : FnR P w K mg base (L2.CX P w) 1 ad.fMade spLMade := by
  obtain ⟨fd, F⟩ := T.F_l_made
  have B := T.B
  refine fnP F sc_l_made (fun _ _ _ _ _ _ us hl => match us, hl with | [_, _], _ => rfl) (fun vs H Q E h => ?_) (fun cdv A outer s H vs Q E hr h => ?_)
  · obtain ⟨a, b, f, s, rfl, _⟩ := h
    rfl
  · refine ⟨_, PSs.nox (pss_cons (ps_set (i := 2) sc_l_made.nd rfl (Or.inl rfl) (pe_lst (pa_cons (pe_lc (own := [("_law_word", 4)]) (g := gName 4) rfl sc_l_made.nd (pi_tupK (K := K) rfl (pv 0)) (blkOk_by (own := [("_law_word", 4)]) (N := N_l_made) (sc := defScope s_l_made) (by decide +kernel)) (fun _ _ _ _ _ => (pg_name (i := 4) sc_l_made.nd rfl (Or.inl rfl))) (fun _ _ _ _ _ => (pts_one (pt_cmpR (op_notIn_seqK (K := K) rfl) (pv 4) (pv 1) (by rfl)))) (fun _ _ _ _ _ => by exact (pv 4))) (pa_cons (pe_lc (own := [("_law_word", 4)]) (g := gName 4) rfl sc_l_made.nd (pi_tupK (K := K) rfl (pv 1)) (blkOk_by (own := [("_law_word", 4)]) (N := N_l_made) (sc := defScope s_l_made) (by decide +kernel)) (fun _ _ _ _ _ => (pg_name (i := 4) sc_l_made.nd rfl (Or.inl rfl))) (fun _ _ _ _ _ => (pts_one (pt_cmpR (op_notIn_seqK (K := K) rfl) (pv 4) (pv 0) (by rfl)))) (fun _ _ _ _ _ => by exact (pv 4))) pa_nil))))
(pss_cons (ps_set (i := 3) sc_l_made.nd rfl (Or.inl rfl) (pe_lst (pa_cons (pe_lc (own := [("_law_word", 4)]) (g := gName 4) rfl sc_l_made.nd (pi_tupK (K := K) rfl (pv 0)) (blkOk_by (own := [("_law_word", 4)]) (N := N_l_made) (sc := defScope s_l_made) (by decide +kernel)) (fun _ _ _ _ _ => (pg_name (i := 4) sc_l_made.nd rfl (Or.inl rfl))) (fun _ _ _ _ _ => (pts_one (pt_cmpR (op_in_seqK (K := K) rfl) (pv 4) (pv 1) (by rfl)))) (fun _ _ _ _ _ => by exact (pv 4))) (pa_cons (pe_op op_cat (pe_callTy (call_list_ofK (K := K) rfl) (by rfl) B.n_list (by decide +kernel) (pa_cons (pv 0) pa_nil)) (pe_ix (ix_listK (K := K) rfl) (pv 2) pe_int (fun _ _ => rfl))) (pa_cons (pe_ix (ix_listK (K := K) rfl) (pv 2) pe_int (fun _ _ => rfl)) (pa_cons (pe_ix (ix_listK (K := K) rfl) (pv 2) pe_int (fun _ _ => rfl)) pa_nil))))))
(pss_one (ps_ret (pe_lc (own := [("_law_row", 5)]) (g := gName 5) (tt := tYes) rfl sc_l_made.nd (pi_listK (K := K) rfl (pv 3)) (blkOk_by (own := [("_law_row", 5)]) (N := N_l_made) (sc := defScope s_l_made) (by decide +kernel)) (fun _ _ _ _ _ => (pg_name (i := 5) sc_l_made.nd rfl (Or.inl rfl))) (fun _ _ _ _ _ => pts_nil) (fun _ _ _ _ _ => by exact (pe_callTy (call_tuple_ofK (K := K) rfl) (by rfl) B.n_tuple (by decide +kernel) (pa_cons (pe_callB (cr_sortedSK (K := K) rfl) (by rfl) B.n_sorted (by decide +kernel) (pa_cons (pv 5) pa_nil)) pa_nil)))))))), ?_⟩
    obtain ⟨a, b, f, s', rfl, ha, hb, nf, ns, lf, ls, hQ⟩ := h
    dsimp only [tSeq, tAsg, tLst, tCons, tNil]
    refine Kp.run_lcT (a := a) (xs := f.map V.str) (fun i => !decide (f.getD i "" ∈ s')) (fun i => V.str (f.getD i "")) ?_ (SqT.of ha) (by rw [List.length_map]; omega) (fun _ => rfl) (fun i x H9 e9 hx => ?_) (fun i x H9 e9 hx _ => ?_) (fun D2 H2 hD2 eH2 oD2 => ?_)
    · exact Evl.ev_var rfl
    · obtain ⟨u, hu, rfl⟩ := str_at hx
      have eu : f.getD i "" = u := by rw [List.getD_eq_getElem?_getD, hu]; rfl
      rw [eu, ← Kp.inV_strs]
      exact fun H10 e10 Q' q' => ⟨_, rfl, _, rfl, b, _, rfl, .inr (SqT.of (e10 _ _ (e9 _ _ hb))), rfl, Kp.flat_strs s', _, rfl, q' H10 (Evl.Ex.refl H10)⟩
    · obtain ⟨u, hu, rfl⟩ := str_at hx
      have eu : f.getD i "" = u := by rw [List.getD_eq_getElem?_getD, hu]; rfl
      rw [eu]
      exact Evl.ev_var rfl
    have gD2 : given (f.map V.str).length (fun i => !decide (f.getD i "" ∈ s')) (fun i => V.str (f.getD i "")) = (f.filter fun u => !decide (u ∈ s')).map V.str := by
      rw [List.length_map]
      exact Kp.given_filter f _ _ _ _ (fun i x hx => by rw [List.getD_eq_getElem?_getD, hx]; rfl) (fun i x hx => by rw [List.getD_eq_getElem?_getD, hx]; rfl)
    rw [gD2] at oD2
    have ha2 := eH2 _ _ ha
    have hb2 := eH2 _ _ hb
    refine Kp.run_lcT (a := b) (xs := s'.map V.str) (fun i => !decide (s'.getD i "" ∈ f)) (fun i => V.str (s'.getD i "")) ?_ (SqT.of hb2) (by rw [List.length_map]; omega) (fun _ => rfl) (fun i x H9 e9 hx => ?_) (fun i x H9 e9 hx _ => ?_) (fun D3 H3 hD3 eH3 oD3 => ?_)
    · exact Evl.ev_var rfl
    · obtain ⟨u, hu, rfl⟩ := str_at hx
      have eu : s'.getD i "" = u := by rw [List.getD_eq_getElem?_getD, hu]; rfl
      rw [eu, ← Kp.inV_strs]
      exact fun H10 e10 Q' q' => ⟨_, rfl, _, rfl, a, _, rfl, .inr (SqT.of (e10 _ _ (e9 _ _ ha2))), rfl, Kp.flat_strs f, _, rfl, q' H10 (Evl.Ex.refl H10)⟩
    · obtain ⟨u, hu, rfl⟩ := str_at hx
      have eu : s'.getD i "" = u := by rw [List.getD_eq_getElem?_getD, hu]; rfl
      rw [eu]
      exact Evl.ev_var rfl
    have gD3 : given (s'.map V.str).length (fun i => !decide (s'.getD i "" ∈ f)) (fun i => V.str (s'.getD i "")) = (s'.filter fun u => !decide (u ∈ f)).map V.str := by
      rw [List.length_map]
      exact Kp.given_filter s' _ _ _ _ (fun i x hx => by rw [List.getD_eq_getElem?_getD, hx]; rfl) (fun i x hx => by rw [List.getD_eq_getElem?_getD, hx]; rfl)
    rw [gD3] at oD3
    have x13 : Ext H H3 := Ext.trans eH2 eH3
    have oD2' := eH3 _ _ oD2
    refine ⟨(show (2 : Nat) ≤ sizeLine by decide), fun R hR => ?_⟩
    have x4 := Ext.upd (o := HO.lst [V.ref D2, V.ref D3]) hR
    have oR : upd H3 R (HO.lst [V.ref D2, V.ref D3]) R = some (.lst [.ref D2, .ref D3]) := upd_same
    have x14 := x13.trans x4
    have oD24 := x4 _ _ oD2'
    have oD34 := x4 _ _ oD3
    generalize upd H3 R (HO.lst [V.ref D2, V.ref D3]) = H4 at oR x14 oD24 oD34 ⊢
    have ha4 := x14 _ _ ha
    have hb4 := x14 _ _ hb
    dsimp only [gName, tSeq, tAsg, tLst, tCons, tNil]
    refine Kp.run_lcT (a := a) (xs := f.map V.str) (fun i => decide (f.getD i "" ∈ s')) (fun i => V.str (f.getD i "")) ?_ (SqT.of ha4) (by rw [List.length_map]; omega) (fun _ => rfl) (fun i x H9 e9 hx => ?_) (fun i x H9 e9 hx _ => ?_) (fun D5 H5 hD5 eH5 oD5 => ?_)
    · exact Evl.ev_var rfl
    · obtain ⟨u, hu, rfl⟩ := str_at hx
      have eu : f.getD i "" = u := by rw [List.getD_eq_getElem?_getD, hu]; rfl
      rw [eu, ← Kp.inV_strs]
      exact fun H10 e10 Q' q' => ⟨_, rfl, _, rfl, b, _, rfl, .inr (SqT.of (e10 _ _ (e9 _ _ hb4))), rfl, Kp.flat_strs s', _, rfl, q' H10 (Evl.Ex.refl H10)⟩
    · obtain ⟨u, hu, rfl⟩ := str_at hx
      have eu : f.getD i "" = u := by rw [List.getD_eq_getElem?_getD, hu]; rfl
      rw [eu]
      exact Evl.ev_var rfl
    have gD5 : given (f.map V.str).length (fun i => decide (f.getD i "" ∈ s')) (fun i => V.str (f.getD i "")) = (f.filter fun u => decide (u ∈ s')).map V.str := by
      rw [List.length_map]
      exact Kp.given_filter f _ _ _ _ (fun i x hx => by rw [List.getD_eq_getElem?_getD, hx]; rfl) (fun i x hx => by rw [List.getD_eq_getElem?_getD, hx]; rfl)
    rw [gD5] at oD5
    have x15 : Ext H H5 := Ext.trans x14 eH5
    have ha5 := x15 _ _ ha
    have oR5 := eH5 _ _ oR
    have oD25 := eH5 _ _ oD24
    have oD35 := eH5 _ _ oD34
    refine ⟨_, rfl, a, _, rfl, .inr (SqT.of ha5), fun l1 hl1 => ?_⟩
    have x6 := Ext.upd (o := HO.lst (f.map V.str)) hl1
    have ol1 : upd H5 l1 (HO.lst (f.map V.str)) l1 = some (.lst (f.map V.str)) := upd_same
    have x16 := x15.trans x6
    have oR6 := x6 _ _ oR5
    have oD26 := x6 _ _ oD25
    have oD36 := x6 _ _ oD35
    have oD56 := x6 _ _ oD5
    generalize upd H5 l1 (HO.lst (f.map V.str)) = H6 at x16 ol1 oR6 oD26 oD36 oD56 ⊢
    have lf3 : (s'.filter fun u => !decide (u ∈ f)).length ≤ s'.length := List.length_filter_le _ _
    have lf2 : (f.filter fun u => !decide (u ∈ s')).length ≤ f.length := List.length_filter_le _ _
    have lf0 : (f.filter fun u => decide (u ∈ s')).length ≤ f.length := List.length_filter_le _ _
    refine ⟨_, rfl, R, _, 1, _, rfl, rfl, SqL.of oR6, rfl, l1, D3, _, _, rfl, rfl, ol1, oD36, by rw [List.length_map, List.length_map]; exact Nat.le_trans (by omega : _ ≤ 14) (by decide), fun c hc => ?_⟩
    rw [← List.map_append]
    have x7 := Ext.upd (o := HO.lst ((f ++ s'.filter fun u => !decide (u ∈ f)).map V.str)) hc
    have oc : upd H6 c (HO.lst ((f ++ s'.filter fun u => !decide (u ∈ f)).map V.str)) c = some (.lst ((f ++ s'.filter fun u => !decide (u ∈ f)).map V.str)) := upd_same
    have x17 := x16.trans x7
    have oR7 := x7 _ _ oR6
    have oD27 := x7 _ _ oD26
    have oD37 := x7 _ _ oD36
    have oD57 := x7 _ _ oD56
    generalize upd H6 c (HO.lst ((f ++ s'.filter fun u => !decide (u ∈ f)).map V.str)) = H7 at x17 oc oR7 oD27 oD37 oD57 ⊢
    refine ⟨_, rfl, R, _, 0, _, rfl, rfl, SqL.of oR7, rfl, _, rfl, R, _, 1, _, rfl, rfl, SqL.of oR7, rfl, (show (4 : Nat) ≤ sizeLine by decide), fun W hW => ?_⟩
    have x8 := Ext.upd (o := HO.lst [V.ref D5, V.ref c, V.ref D2, V.ref D3]) hW
    have oW : upd H7 W (HO.lst [V.ref D5, V.ref c, V.ref D2, V.ref D3]) W = some (.lst [V.ref D5, V.ref c, V.ref D2, V.ref D3]) := upd_same
    have x18 := x17.trans x8
    have hrow : ∀ (i : Nat) (x : V), [V.ref D5, V.ref c, V.ref D2, V.ref D3][i]? = some x → ∃ r, x = .ref r ∧ upd H7 W (HO.lst [V.ref D5, V.ref c, V.ref D2, V.ref D3]) r = some (.lst ((lrow i f s').map V.str)) := fun i x h => by
      match i, h with
      | 0, h => exact ⟨D5, (Option.some.inj h).symm, x8 _ _ oD57⟩
      | 1, h => exact ⟨c, (Option.some.inj h).symm, x8 _ _ oc⟩
      | 2, h => exact ⟨D2, (Option.some.inj h).symm, x8 _ _ oD27⟩
      | 3, h => exact ⟨D3, (Option.some.inj h).symm, x8 _ _ oD37⟩
    generalize upd H7 W (HO.lst [V.ref D5, V.ref c, V.ref D2, V.ref D3]) = H8 at x18 oW hrow ⊢
    refine ⟨_, rfl, W, rfl, ⟨_, SqL.of oW⟩, fun Z hZ => ?_⟩
    refine lc_list (K := K) (a := W) (xs := [V.ref D5, V.ref c, V.ref D2, V.ref D3]) (fun i H' => ∃ ps : List Addr, H' Z = some (.lst (ps.map V.ref)) ∧ ps.length = i ∧ Ext H8 H' ∧ ∀ (k : Nat) (p : Addr), ps[k]? = some p → H' p = some (.tup ((gs (setop k f s')).map V.str))) ⟨[], upd_same, rfl, Ext.upd hZ, by simp⟩ (fun i H' _ hp => by obtain ⟨_, _, _, e, _⟩ := hp; exact SqL.of (e _ _ oW)) (fun i x H' hx hp => ?_) (fun H' hp => ?_)
    · obtain ⟨ps, hz, hl, e, hps⟩ := hp
      obtain ⟨r, rfl, hr'⟩ := hrow i x hx
      refine ⟨rfl, ?_⟩
      refine yes ?_
      refine iteT ?_
      have li : i < 4 := (List.getElem?_eq_some_iff.mp hx).1
      have llr : (lrow i f s').length ≤ 14 := by
        match i with
        | 0 => show (f.filter fun u => decide (u ∈ s')).length ≤ 14; omega
        | 1 => show (f ++ s'.filter fun u => !decide (u ∈ f)).length ≤ 14; rw [List.length_append]; omega
        | 2 => show (f.filter fun u => !decide (u ∈ s')).length ≤ 14; omega
        | n + 3 => show (s'.filter fun u => !decide (u ∈ f)).length ≤ 14; omega
      refine ⟨_, rfl, r, _, rfl, SqL.of (e _ _ hr'), by omega, fun ys p pm so hp => ?_⟩
      have xa := Ext.upd (o := HO.lst (ys.map V.str)) hp
      refine ⟨p, _, rfl, .inl ⟨SqL.of upd_same, fun q hq => ?_⟩⟩
      have xb := Ext.upd (o := HO.tup (ys.map V.str)) hq
      have oq : upd (upd H' p (HO.lst (ys.map V.str))) q (HO.tup (ys.map V.str)) q = some (.tup (ys.map V.str)) := upd_same
      have xab := xa.trans xb
      have eys : ys = gs (setop i f s') := by
        have ig : IsG ys (lrow i f s') := ⟨so, pm.nodup_iff.mpr (lrow_nd nf ns), fun k => pm.mem_iff⟩
        rw [gs_eq ig]
        exact gs_congr fun k => lrow_mem
      replace oq := oq.trans (congrArg (fun z : List Str => some (HO.tup (z.map V.str))) eys)
      have hz1 := xab _ _ hz
      refine ⟨_, hz1, by rw [List.length_map, hl]; exact Nat.lt_of_lt_of_le li (by decide), ps ++ [q], by rw [List.map_append]; exact upd_same, by simp [hl], fun b' o' hb' => ?_, fun k p' hk => ?_⟩
      · rw [upd_ne (ne_of_none hb' hZ)]
        exact xab _ _ (e _ _ hb')
      · have ne : ∀ {b : Addr} {zs : List V}, upd (upd H' p (HO.lst (ys.map V.str))) q (HO.tup (ys.map V.str)) b = some (.tup zs) → upd (upd (upd H' p (HO.lst (ys.map V.str))) q (HO.tup (ys.map V.str))) Z (.lst (ps.map V.ref ++ [.ref q])) b = some (.tup zs) := fun {b zs} h => by
          rw [upd_ne (fun z => by rw [z, hz1] at h; cases h)]
          exact h
        by_cases hkl : k < i
        · rw [List.getElem?_append_left (by omega)] at hk
          exact ne (xab _ _ (hps k p' hk))
        · have hle := (List.getElem?_eq_some_iff.mp hk).1
          rw [List.length_append, List.length_singleton] at hle
          have ek : k = i := by omega
          subst ek
          rw [List.getElem?_append_right (by omega), hl, Nat.sub_self] at hk
          cases hk
          exact ne oq
    · obtain ⟨ps, hz, hl, e, hps⟩ := hp
      exact hQ Z ps H' (x18.trans e) hz hl hps
end
end Kq
set_option maxHeartbeats 4000000
namespace Kq
open PySem PySem.Spec PyProof.Rows L2 Kp
open Evl (Ev EvL EvT EvA given)
/-! ### steps of numbers compared -/
def spSEq (CS : Addr) : Sp := fun vs H Q _ => ∃ (a b dx dy : Addr) (i1 i2 i3 i4 j1 j2 j3 j4 : Int), vs = [.ref a, .ref b] ∧ H a = some (.ins CS dx (stF (.int i1) (.int i2) (.int i3) (.int i4))) ∧ H b = some (.ins CS dy (stF (.int j1) (.int j2) (.int j3) (.int j4))) ∧
  Q (.bl (decide (i1 = j1) && (decide (i2 = j2) && (decide (i3 = j3) && decide (i4 = j4))))) H
section
variable {P : Program} {w : World} {K : PySem.W.Frag} {mg : Str → Option Value} {base : Heap} {tL tM tA : Tok} {ad : Ad}
theorem dec_int (i j : Int) : decide (V.int i = V.int j) = decide (i = j) := by
  by_cases h : i = j
  · rw [h]
    simp
  · rw [decide_eq_false h, decide_eq_false (fun z => h (V.int.inj z))]
theorem ok_step_eq (T : Tx K mg tL tM tA ad) : FnR P w K mg base (L2.CX P w) 1 ad.s_eq (spSEq ad.CS) := by
  obtain ⟨fd, F⟩ := T.F_Step_eq
  have B := T.B
  refine fnP F sc_Step_eq (fun _ _ _ _ _ _ us hl => match us, hl with | [_, _], _ => rfl) (fun vs H Q E h => ?_) (fun cdv A outer s H vs Q E hr h => ?_)
  · obtain ⟨a, b, dx, dy, i1, i2, i3, i4, j1, j2, j3, j4, rfl, _⟩ := h
    rfl
  · refine ⟨_, PSs.nox (pss_cons (ps_if (PW.pt (pw_or (pt_not (pt_val (pe_callB (call_isiKK (K := K) rfl) (by rfl) B.n_isinstance (by decide +kernel) (pa_cons (pv 1) (pa_cons (pe_glob (v := .ref _) (by rfl) T.S.g rfl) pa_nil))))) (pw_or (pt_cmpR op_ne (pe_fldK (K := K) rfl (pv 0)) (pe_fldK (K := K) rfl (pv 1)) (nomark _)) (pw_or1 (pt_cmpR op_ne (pe_fldK (K := K) rfl (pv 0)) (pe_fldK (K := K) rfl (pv 1)) (nomark _))))))
(pss_one (ps_ret pe_bl))
pss_nil)
(pss_one (ps_ret (pe_and (pe_cmpR op_eq (pe_fldK (K := K) rfl (pv 0)) (pe_fldK (K := K) rfl (pv 1)) (nomark _)) (pe_one (pe_cmpR op_eq (pe_fldK (K := K) rfl (pv 0)) (pe_fldK (K := K) rfl (pv 1)) (nomark _))))))), ?_⟩
    obtain ⟨a, b, dx, dy, i1, i2, i3, i4, j1, j2, j3, j4, rfl, ha, hb, hQ⟩ := h
    refine ⟨_, rfl, .ref b, .ref ad.CS, .ref ad.CS, .ref ad.CS, true, rfl, .own ad.CS, .base (.ins hb T.S.cl T.S.ca T.S.cn T.S.ct T.S.cm), T.S.isi, _, rfl, ?_⟩
    refine iteF ?_
    refine ⟨_, rfl, a, ad.CS, dx, _, _, rfl, ha, T.S.cl, T.S_first, rfl, _, rfl, b, ad.CS, dy, _, _, rfl, hb, T.S.cl, T.S_first, rfl, rfl, _, rfl, ?_⟩
    rw [dec_int]
    by_cases h1 : i1 = j1
    · rw [decide_eq_true h1] at hQ ⊢
      refine iteF ?_
      refine ⟨_, rfl, a, ad.CS, dx, _, _, rfl, ha, T.S.cl, T.S_second, rfl, _, rfl, b, ad.CS, dy, _, _, rfl, hb, T.S.cl, T.S_second, rfl, rfl, _, rfl, ?_⟩
      rw [dec_int]
      by_cases h2 : i2 = j2
      · rw [decide_eq_true h2] at hQ ⊢
        refine iteF ?_
        refine ⟨_, rfl, a, ad.CS, dx, _, _, rfl, ha, T.S.cl, T.S_way, rfl, _, rfl, b, ad.CS, dy, _, _, rfl, hb, T.S.cl, T.S_way, rfl, rfl, _, rfl, ?_⟩
        rw [dec_int]
        by_cases h3 : i3 = j3
        · rw [decide_eq_true h3] at hQ ⊢
          refine iteT ?_
          refine ⟨_, rfl, a, ad.CS, dx, _, _, rfl, ha, T.S.cl, T.S_made, rfl, _, rfl, b, ad.CS, dy, _, _, rfl, hb, T.S.cl, T.S_made, rfl, rfl, ?_⟩
          rw [dec_int]
          exact hQ
        · rw [decide_eq_false h3] at hQ ⊢
          exact iteF hQ
      · rw [decide_eq_false h2] at hQ ⊢
        exact iteT hQ
    · rw [decide_eq_false h1] at hQ ⊢
      exact iteT hQ
end
end Kq
set_option maxHeartbeats 4000000
namespace Kq
open PySem PySem.Spec PyProof.Rows L2 Kp
open Evl (Ev EvL EvT EvA given)
/-! ### the law's look at a chain -/
/-- what is no tuple of steps -/
def ChO (H : Hp) (v : V) : Prop := (∃ a xs, v = .ref a ∧ H a = some (.lst xs)) ∨ v = .non ∨ (∃ i, v = .int i) ∨ (∃ z, v = .str z) ∨ ∃ a, v = .ref a ∧ H a = some (.tup [.non])
def SvsAt (CG CS : Addr) (H : Hp) (us : List Addr) (xs : List SV) : Prop := us.length = xs.length ∧ ∀ (i : Nat) (u : Addr) (x : SV), us[i]? = some u → xs[i]? = some x → StepV CG CS H u x
theorem SvsAt.ext {CG CS : Addr} {H H' : Hp} {us : List Addr} {xs : List SV} (h : SvsAt CG CS H us xs) (e : Ext H H') : SvsAt CG CS H' us xs := ⟨h.1, fun i u x a b => (h.2 i u x a b).ext e⟩
def Tup4 (H : Hp) (t : Addr) (x : SV) : Prop := ∃ a b c us, x.m = some us ∧ H t = some (.tup [.ref a, .ref b, x.w, .ref c]) ∧ H a = some (.tup (x.f.map V.str)) ∧ H b = some (.tup (x.s.map V.str)) ∧ H c = some (.tup (us.map V.str))
def spLSteps (CG CS : Addr) : Sp := fun vs H Q _ => ∃ v, vs = [v] ∧ ((ChO H v ∧ ∀ H', Ext H H' → Q .non H') ∨ ∃ (a : Addr) (us : List Addr) (xs : List SV), v = .ref a ∧ H a = some (.tup (us.map V.ref)) ∧ SvsAt CG CS H us xs ∧ xs.length ≤ 100 ∧
  ((∃ x ∈ xs, x.m = none) → ∀ H', Ext H H' → Q .non H') ∧
  ((∀ x ∈ xs, ∃ us, x.m = some us) → ∀ (l : Addr) (ts : List Addr) (H' : Hp), Ext H H' → H' l = some (.lst (ts.map V.ref)) → ts.length = xs.length → (∀ (i : Nat) (t : Addr) (x : SV), ts[i]? = some t → xs[i]? = some x → Tup4 H' t x) → Q (.ref l) H'))
section
variable {P : Program} {w : World} {K : PySem.W.Frag} {mg : Str → Option Value} {base : Heap} {tL tM tA : Tok} {ad : Ad}
theorem ok_l_steps (T : Tx K mg tL tM tA ad) : FnR P w K mg base (L2.CX P w) 1 ad.fSteps (spLSteps ad.CG ad.CS) := by
  obtain ⟨fd, F⟩ := T.F_l_steps
  have B := T.B
  refine fnP F sc_l_steps (fun _ _ _ _ _ _ us hl => match us, hl with | [_], _ => rfl) (fun vs H Q E h => ?_) (fun cdv A outer s H vs Q E hr h => ?_)
  · obtain ⟨v, rfl, _⟩ := h
    rfl
  · refine ⟨_, PSs.nox (pss_cons (ps_if (PW.pt (pw_or (pt_not (pt_val (pe_callB (call_isiKK (K := K) rfl) (by rfl) B.n_isinstance (by decide +kernel) (pa_cons (pv 0) (pa_cons (pe_bltn (v := .ty "tuple") (u := .type "tuple") (by rfl) B.n_tuple (by decide +kernel) rfl) pa_nil))))) (pw_or1 (pt_cmpR (op_neEK (K := K) rfl hr.units) (pe_lc (own := [("_law_step", 1)]) (g := gName 1) rfl sc_l_steps.nd (pi_tupK (K := K) rfl (pv 0)) (blkOk_by (own := [("_law_step", 1)]) (N := N_l_steps) (sc := defScope s_l_steps) (by decide +kernel)) (fun _ _ _ _ _ => (pg_name (i := 1) sc_l_steps.nd rfl (Or.inl rfl))) (fun _ _ _ _ _ => (pts_one (pt_not (pt_val (pe_callB (call_isiKK (K := K) rfl) (by rfl) B.n_isinstance (by decide +kernel) (pa_cons (pv 1) (pa_cons (pe_glob (v := .ref _) (by rfl) T.S.g rfl) pa_nil))))))) (fun _ _ _ _ _ => by exact (pv 1))) (pe_lst pa_nil) (nomark _)))))
(pss_one (ps_ret pe_non))
pss_nil)
(pss_cons (ps_for PassesOwn.never rfl (pi_tupK (K := K) rfl (pv 0)) (pg_name (i := 1) sc_l_steps.nd rfl (Or.inl rfl))
(pss_one (ps_if (pt_cmpR (op_neEK (K := K) rfl hr.units) (pe_lc (own := [("_law_one", 2)]) (g := gName 2) rfl sc_l_steps.nd (pi_tupK (K := K) rfl (pe_tup (pa_cons (pe_fldK (K := K) rfl (pv 1)) (pa_cons (pe_fldK (K := K) rfl (pv 1)) (pa_cons (pe_fldK (K := K) rfl (pv 1)) pa_nil))))) (blkOk_by (own := [("_law_one", 2)]) (N := N_l_steps) (sc := defScope s_l_steps) (by decide +kernel)) (fun _ _ _ _ _ => (pg_name (i := 2) sc_l_steps.nd rfl (Or.inl rfl))) (fun _ _ _ _ _ => (pts_one (pt_not (pt_val (pe_callB (call_isiKK (K := K) rfl) (by rfl) B.n_isinstance (by decide +kernel) (pa_cons (pv 2) (pa_cons (pe_glob (v := .ref _) (by rfl) T.G.g rfl) pa_nil))))))) (fun _ _ _ _ _ => by exact (pv 2))) (pe_lst pa_nil) (nomark _))
(pss_one (ps_ret pe_non))
pss_nil)))
(pss_one (ps_ret (pe_lc (own := [("_law_step", 1)]) (g := gName 1) (tt := tYes) rfl sc_l_steps.nd (pi_tupK (K := K) rfl (pv 0)) (blkOk_by (own := [("_law_step", 1)]) (N := N_l_steps) (sc := defScope s_l_steps) (by decide +kernel)) (fun _ _ _ _ _ => (pg_name (i := 1) sc_l_steps.nd rfl (Or.inl rfl))) (fun _ _ _ _ _ => pts_nil) (fun _ _ _ _ _ => by exact (pe_tup (pa_cons (pe_fldK (K := K) rfl (pe_fldK (K := K) rfl (pv 1))) (pa_cons (pe_fldK (K := K) rfl (pe_fldK (K := K) rfl (pv 1))) (pa_cons (pe_fldK (K := K) rfl (pv 1)) (pa_cons (pe_fldK (K := K) rfl (pe_fldK (K := K) rfl (pv 1))) pa_nil))))))))))), ?_⟩
    obtain ⟨v, rfl, h⟩ := h
    rcases h with ⟨ho, hQ⟩ | ⟨a, us, xs, rfl, ha, hsv, hlen, hN, hY⟩
    · rcases ho with ⟨a, ys, rfl, ha⟩ | rfl | ⟨i, rfl⟩ | ⟨z, rfl⟩ | ⟨a, rfl, ha⟩
      · refine ⟨_, rfl, .ref a, _, .type "list", .type "tuple", false, rfl, .ty "tuple", .base (.lst ha), kit_ty (by decide +kernel), _, rfl, iteT ?_⟩
        exact hQ H Ext.rfl'
      · refine ⟨_, rfl, .non, _, .type "NoneType", .type "tuple", false, rfl, .ty "tuple", .base .non, kit_ty (by decide +kernel), _, rfl, iteT ?_⟩
        exact hQ H Ext.rfl'
      · refine ⟨_, rfl, .int i, _, .type "int", .type "tuple", false, rfl, .ty "tuple", .base (.int i), kit_ty (by decide +kernel), _, rfl, iteT ?_⟩
        exact hQ H Ext.rfl'
      · refine ⟨_, rfl, .str z, _, .type "str", .type "tuple", false, rfl, .ty "tuple", .base (.str z), kit_ty (by decide +kernel), _, rfl, iteT ?_⟩
        exact hQ H Ext.rfl'
      · refine ⟨_, rfl, .ref a, _, .type "tuple", .type "tuple", true, rfl, .ty "tuple", .base (.tup ha), kit_ty (by decide +kernel), _, rfl, iteF ?_⟩
        dsimp only [tTest, tOp]
        refine Kp.run_lcT (a := a) (xs := [V.non]) (fun _ => true) (fun _ => V.non) (Evl.ev_var rfl) (SqT.of ha) (by decide) (fun _ => rfl) (fun i x H9 e9 hx => ?_) (fun i x H9 e9 hx _ => ?_) (fun D H2 hD e2 hD2 => ?_)
        · have ex : x = .non := by
            match i, hx with
            | 0, hx => exact (Option.some.inj hx).symm
          subst ex
          exact fun H10 e10 Q' q' => ⟨_, rfl, .non, .ref ad.CS, .type "NoneType", .ref ad.CS, false, rfl, .own ad.CS, .base .non, T.isNS, _, rfl, q' H10 (Evl.Ex.refl H10)⟩
        · have ex : x = .non := by
            match i, hx with
            | 0, hx => exact (Option.some.inj hx).symm
          subst ex
          exact Evl.ev_var rfl
        refine ⟨by decide, fun q hq => ?_⟩
        refine ⟨D, q, _, rfl, rfl, SqL.of (Ext.upd hq _ _ hD2), SqL.of upd_same, _, rfl, ?_⟩
        refine iteT ?_
        exact hQ _ (Ext.trans e2 (Ext.upd hq))
    · refine ⟨_, rfl, .ref a, _, .type "tuple", .type "tuple", true, rfl, .ty "tuple", .base (.tup ha), kit_ty (by decide +kernel), _, rfl, iteF ?_⟩
      have lu := hsv.1
      dsimp only [tTest, tOp]
      refine Kp.run_lcT (a := a) (xs := us.map V.ref) (fun _ => false) (fun _ => V.non) (Evl.ev_var rfl) (SqT.of ha) (by rw [List.length_map, lu]; omega) (fun _ => rfl) (fun i x H9 e9 hx => ?_) (fun i x H9 e9 hx hf => by cases hf) (fun D H2 hD e2 hD2 => ?_)
      · obtain ⟨u, hu, rfl⟩ : ∃ u, us[i]? = some u ∧ x = .ref u := by
          rw [List.getElem?_map] at hx
          cases q : us[i]? with
          | none => rw [q] at hx; cases hx
          | some b =>
            rw [q] at hx
            exact ⟨b, rfl, (Option.some.inj hx).symm⟩
        have hil : i < xs.length := by rw [← lu]; exact (List.getElem?_eq_some_iff.mp hu).1
        have hx9 : xs[i]? = some xs[i] := List.getElem?_eq_getElem hil
        obtain ⟨dx, g1, g2, mv, hs, _⟩ := (hsv.2 i u _ hu hx9).ext e9
        exact fun H10 e10 Q' q' => ⟨_, rfl, .ref u, .ref ad.CS, .ref ad.CS, .ref ad.CS, true, rfl, .own ad.CS, .base (.ins (e10 _ _ hs) T.S.cl T.S.ca T.S.cn T.S.ct T.S.cm), T.S.isi, _, rfl, q' H10 (Evl.Ex.refl H10)⟩
      have eg : given (us.map V.ref).length (fun _ => false) (fun _ => V.non) = [] := by
        unfold given
        simp
      rw [eg] at hD2
      refine ⟨by decide, fun q hq => ?_⟩
      have x2 := Ext.upd (o := HO.lst ([] : List V)) hq
      refine ⟨D, q, _, rfl, rfl, SqL.of (x2 _ _ hD2), SqL.of upd_same, _, rfl, ?_⟩
      refine iteF ?_
      have x12 : Ext H (upd H2 q (.lst ([] : List V))) := Ext.trans e2 x2
      generalize upd H2 q (.lst ([] : List V)) = H3 at x12 ⊢
      refine ⟨_, rfl, a, rfl, ⟨_, SqT.of (x12 _ _ ha)⟩, ?_⟩
      refine for_tup (xs := us.map V.ref) (fun i (σ' : L2.St) H' => ∃ a1, σ' = [some (V.ref a), a1, none] ∧ Ext H H' ∧ ∀ (j : Nat) (x : SV), j < i → xs[j]? = some x → ∃ us, x.m = some us) ?_ (fun i σ' H' _ hp => ?_) (fun i y σ' H' hy hp => ?_) (fun σ' H' hp => ?_)
      · exact ⟨_, rfl, x12, fun j x h => absurd h (Nat.not_lt_zero _)⟩
      · obtain ⟨a1, rfl, e, _⟩ := hp
        exact SqT.of (e _ _ ha)
      · obtain ⟨a1, rfl, e, hall⟩ := hp
        obtain ⟨u, hu, rfl⟩ : ∃ u, us[i]? = some u ∧ y = .ref u := by
          rw [List.getElem?_map] at hy
          cases q : us[i]? with
          | none => rw [q] at hy; cases hy
          | some b =>
            rw [q] at hy
            exact ⟨b, rfl, (Option.some.inj hy).symm⟩
        have hil : i < xs.length := by rw [← lu]; exact (List.getElem?_eq_some_iff.mp hu).1
        have hx9 : xs[i]? = some xs[i] := List.getElem?_eq_getElem hil
        have hxm : xs[i] ∈ xs := List.mem_of_getElem? hx9
        have hst := (hsv.2 i u _ hu hx9).ext e
        generalize xs[i] = x at hx9 hxm hst
        obtain ⟨dx, g1, g2, mv, hs, gf, gg, hm⟩ := hst
        refine ⟨_, rfl, u, ad.CS, dx, _, .ref g1, rfl, hs, T.S.cl, T.S_first, rfl, ?_⟩
        refine ⟨_, rfl, u, ad.CS, dx, _, .ref g2, rfl, hs, T.S.cl, T.S_second, rfl, ?_⟩
        refine ⟨_, rfl, u, ad.CS, dx, _, mv, rfl, hs, T.S.cl, T.S_made, rfl, ?_⟩
        refine ⟨(show (3 : Nat) ≤ sizeLine by decide), fun t ht => ?_⟩
        have x4 := Ext.upd (o := HO.tup [.ref g1, .ref g2, mv]) ht
        have ot : upd H' t (HO.tup [.ref g1, .ref g2, mv]) t = some (.tup [.ref g1, .ref g2, mv]) := upd_same
        have e4 := e.trans x4
        have gf4 := gf.ext x4
        have gg4 := gg.ext x4
        have hm4 := hm.ext x4
        generalize upd H' t (HO.tup [.ref g1, .ref g2, mv]) = H4 at x4 ot e4 gf4 gg4 hm4 ⊢
        refine ⟨t, rfl, ⟨_, SqT.of ot⟩, fun D2 hD2 => ?_⟩
        refine lc_tup (K := K) (a := t) (xs := [.ref g1, .ref g2, mv]) (fun j H5 => H5 D2 = some (.lst (if j = 3 ∧ x.m = none then [V.non] else [])) ∧ Ext H4 H5) ⟨upd_same, Ext.upd hD2⟩ (fun j H5 _ hp => SqT.of (hp.2 _ _ ot)) (fun j z H5 hz hp => ?_) (fun H5 hp => ?_)
        · obtain ⟨h1, h2⟩ := hp
          refine ⟨rfl, ?_⟩
          match j, hz with
          | 0, hz =>
            cases (Option.some.inj hz)
            refine ⟨_, rfl, .ref g1, .ref ad.CG, .ref ad.CG, .ref ad.CG, true, rfl, .own ad.CG, ty_grp T (gf4.ext h2), T.G.isi, _, rfl, iteF ?_⟩
            exact ⟨by rw [if_neg (fun z => by cases z.1)] at h1 ⊢; exact h1, h2⟩
          | 1, hz =>
            cases (Option.some.inj hz)
            refine ⟨_, rfl, .ref g2, .ref ad.CG, .ref ad.CG, .ref ad.CG, true, rfl, .own ad.CG, ty_grp T (gg4.ext h2), T.G.isi, _, rfl, iteF ?_⟩
            exact ⟨by rw [if_neg (fun z => by cases z.1)] at h1 ⊢; exact h1, h2⟩
          | 2, hz =>
            cases (Option.some.inj hz)
            rw [if_neg (fun z => by cases z.1)] at h1
            cases hmm : x.m with
            | none =>
              rw [hmm] at hm4
              have e9 : mv = .non := hm4
              subst e9
              refine ⟨_, rfl, .non, .ref ad.CG, .type "NoneType", .ref ad.CG, false, rfl, .own ad.CG, .base .non, T.isNG, _, rfl, iteT ?_⟩
              refine ⟨_, rfl, [], h1, (show (0 : Nat) < sizeLine by decide), ?_, fun b o hb => ?_⟩
              · rw [if_pos ⟨rfl, rfl⟩]
                exact upd_same
              · rw [upd_ne (ne_of_none hb hD2)]
                exact h2 _ _ hb
            | some us' =>
              rw [hmm] at hm4
              obtain ⟨g3, e9, g3g⟩ := hm4
              subst e9
              refine ⟨_, rfl, .ref g3, .ref ad.CG, .ref ad.CG, .ref ad.CG, true, rfl, .own ad.CG, ty_grp T (g3g.ext h2), T.G.isi, _, rfl, iteF ?_⟩
              exact ⟨by rw [if_neg (fun z => by cases z.2)]; exact h1, h2⟩
        · obtain ⟨h1, h2⟩ := hp
          refine ⟨by decide, fun q hq => ?_⟩
          have x6 := Ext.upd (o := HO.lst ([] : List V)) hq
          refine ⟨D2, q, _, rfl, rfl, SqL.of (x6 _ _ h1), SqL.of upd_same, _, rfl, ?_⟩
          have e6 := (e4.trans h2).trans x6
          cases hmm : x.m with
          | none =>
            rw [if_pos ⟨rfl, rfl⟩]
            refine iteT ?_
            exact hN ⟨x, hxm, hmm⟩ _ e6
          | some us' =>
            rw [if_neg (fun z => by cases z.2)]
            refine iteF ?_
            refine ⟨_, rfl, e6, fun j x' hj hx' => ?_⟩
            by_cases ej : j = i
            · subst ej
              rw [hx9] at hx'
              cases hx'
              exact ⟨us', hmm⟩
            · exact hall j x' (by omega) hx'
      · obtain ⟨a1, rfl, e, hall⟩ := hp
        have hall' : ∀ x ∈ xs, ∃ us, x.m = some us := fun x hx => by
          obtain ⟨j, hj⟩ := List.mem_iff_getElem?.mp hx
          exact hall j x (by rw [List.length_map, lu]; exact (List.getElem?_eq_some_iff.mp hj).1) hj
        have hY' := hY hall'
        refine ⟨_, rfl, a, rfl, ⟨_, SqT.of (e _ _ ha)⟩, fun Z hZ => ?_⟩
        refine lc_tup (K := K) (a := a) (xs := us.map V.ref) (fun i H5 => ∃ ts : List Addr, H5 Z = some (.lst (ts.map V.ref)) ∧ ts.length = i ∧ Ext H' H5 ∧ ∀ (j : Nat) (t : Addr) (x : SV), ts[j]? = some t → xs[j]? = some x → Tup4 H5 t x) ⟨[], upd_same, rfl, Ext.upd hZ, by simp⟩ (fun i H5 _ hp => by obtain ⟨_, _, _, e', _⟩ := hp; exact SqT.of (e' _ _ (e _ _ ha))) (fun i y H5 hy hp => ?_) (fun H5 hp => ?_)
        · obtain ⟨ts, hz, hl, e', hts⟩ := hp
          obtain ⟨u, hu, rfl⟩ : ∃ u, us[i]? = some u ∧ y = .ref u := by
            rw [List.getElem?_map] at hy
            cases q : us[i]? with
            | none => rw [q] at hy; cases hy
            | some b =>
              rw [q] at hy
              exact ⟨b, rfl, (Option.some.inj hy).symm⟩
          have hil : i < xs.length := by rw [← lu]; exact (List.getElem?_eq_some_iff.mp hu).1
          have hx9 : xs[i]? = some xs[i] := List.getElem?_eq_getElem hil
          have hxm : xs[i] ∈ xs := List.mem_of_getElem? hx9
          have hst := (hsv.2 i u _ hu hx9).ext (e.trans e')
          generalize xs[i] = x at hx9 hxm hst
          obtain ⟨dx, g1, g2, mv, hs, ⟨d1, t1, gf1, gf2⟩, ⟨d2, t2, gg1, gg2⟩, hm⟩ := hst
          obtain ⟨us', hmm⟩ := hall' x hxm
          rw [hmm] at hm
          obtain ⟨g3, e9, ⟨d3, t3, g31, g32⟩⟩ := hm
          subst e9
          refine ⟨rfl, ?_⟩
          refine yes ?_
          refine iteT ?_
          refine ⟨_, rfl, u, ad.CS, dx, _, .ref g1, rfl, hs, T.S.cl, T.S_first, rfl, g1, ad.CG, d1, _, .ref t1, rfl, gf1, T.G.cl, T.G_row, rfl, ?_⟩
          refine ⟨_, rfl, u, ad.CS, dx, _, .ref g2, rfl, hs, T.S.cl, T.S_second, rfl, g2, ad.CG, d2, _, .ref t2, rfl, gg1, T.G.cl, T.G_row, rfl, ?_⟩
          refine ⟨_, rfl, u, ad.CS, dx, _, x.w, rfl, hs, T.S.cl, T.S_way, rfl, ?_⟩
          refine ⟨_, rfl, u, ad.CS, dx, _, .ref g3, rfl, hs, T.S.cl, T.S_made, rfl, g3, ad.CG, d3, _, .ref t3, rfl, g31, T.G.cl, T.G_row, rfl, ?_⟩
          refine ⟨(show (4 : Nat) ≤ sizeLine by decide), fun q hq => ?_⟩
          have x6 := Ext.upd (o := HO.tup [.ref t1, .ref t2, x.w, .ref t3]) hq
          have oq : upd H5 q (HO.tup [.ref t1, .ref t2, x.w, .ref t3]) q = some (.tup [.ref t1, .ref t2, x.w, .ref t3]) := upd_same
          have hz1 := x6 _ _ hz
          refine ⟨_, hz1, by rw [List.length_map, hl]; exact Nat.lt_of_le_of_lt (by omega : i ≤ 100) (by decide), ts ++ [q], by rw [List.map_append]; exact upd_same, by simp [hl], fun b o hb => ?_, fun j t' x' ht' hx' => ?_⟩
          · rw [upd_ne (ne_of_none hb hZ)]
            exact x6 _ _ (e' _ _ hb)
          · have ne : ∀ {b : Addr} {zs : List V}, upd H5 q (HO.tup [.ref t1, .ref t2, x.w, .ref t3]) b = some (.tup zs) → upd (upd H5 q (HO.tup [.ref t1, .ref t2, x.w, .ref t3])) Z (.lst (ts.map V.ref ++ [.ref q])) b = some (.tup zs) := fun {b zs} h => by
              rw [upd_ne (fun z => by rw [z, hz1] at h; cases h)]
              exact h
            by_cases hj : j < i
            · rw [List.getElem?_append_left (by omega)] at ht'
              obtain ⟨a', b', c', us9, q1, q2, q3, q4, q5⟩ := hts j t' x' ht' hx'
              exact ⟨a', b', c', us9, q1, ne (x6 _ _ q2), ne (x6 _ _ q3), ne (x6 _ _ q4), ne (x6 _ _ q5)⟩
            · have hle := (List.getElem?_eq_some_iff.mp ht').1
              rw [List.length_append, List.length_singleton] at hle
              have ej : j = i := by omega
              subst ej
              rw [List.getElem?_append_right (by omega), hl, Nat.sub_self] at ht'
              cases ht'
              rw [hx9] at hx'
              cases hx'
              exact ⟨t1, t2, t3, us', hmm, ne oq, ne (x6 _ _ gf2), ne (x6 _ _ gg2), ne (x6 _ _ g32)⟩
        · obtain ⟨ts, hz, hl, e', hts⟩ := hp
          rw [List.length_map, lu] at hl
          exact hY' Z ts H5 (e.trans e') hz hl hts
end
end Kq
set_option maxHeartbeats 4000000
namespace Kq
open PySem PySem.Spec PyProof.Rows L2 Kp
open Evl (Ev EvL EvT EvA given)
/-! ### rows of words in lists -/
def RowsT (H : Hp) (ps : List Addr) (rows : List (List Str)) : Prop := ps.length = rows.length ∧ ∀ (i : Nat) (p : Addr) (r : List Str), ps[i]? = some p → rows[i]? = some r → H p = some (.tup (r.map V.str))
theorem RowsT.ext {H H' : Hp} {ps : List Addr} {rows : List (List Str)} (h : RowsT H ps rows) (e : Ext H H') : RowsT H' ps rows := ⟨h.1, fun i p r a b => e _ _ (h.2 i p r a b)⟩
theorem RowsT.keep {H H' : Hp} {ps : List Addr} {rows : List (List Str)} (h : RowsT H ps rows) (e : Tups H H') : RowsT H' ps rows := ⟨h.1, fun i p r a b => e _ _ (h.2 i p r a b)⟩
def rowD (r : List Str) : PyData := .tuple (r.map PyData.str)
theorem rowsT_dp {K : PySem.W.Frag} {H : Hp} : ∀ {ps : List Addr} {rows : List (List Str)}, RowsT H ps rows → DpAll K H (ps.map V.ref) (rows.map rowD)
  | [], [], _ => .nil
  | [], _ :: _, h => by have := h.1; simp at this
  | _ :: _, [], h => by have := h.1; simp at this
  | p :: ps, r :: rows, h => .cons (Dp.tup (SqT.of (h.2 0 p r rfl rfl)) (dp_strs r)) (rowsT_dp ⟨by have := h.1; simpa using this, fun i q t a b => h.2 (i + 1) q t (by simpa using a) (by simpa using b)⟩)
theorem rows_any (rows : List (List Str)) (r : List Str) : ((rows.map rowD).any fun z => PyData.eqv z (rowD r)) = decide (r ∈ rows) := by
  rw [List.any_map]
  induction rows with
  | nil => simp
  | cons x xs ih =>
    rw [List.any_cons, ih]
    show (PyData.eqv (.tuple (x.map PyData.str)) (.tuple (r.map PyData.str)) || _) = _
    rw [eqv_strsT]
    by_cases h : x = r
    · rw [h]
      simp
    · rw [decide_eq_false h, Bool.false_or]
      simp [Ne.symm h]
theorem rows_shaped {rows : List (List Str)} (h : ∀ r ∈ rows, ∀ w ∈ r, Wordy w) : SeqAt.shaped (.list (rows.map rowD)) = true := shaped_lst fun d hd => by
  obtain ⟨r, hr, rfl⟩ := List.mem_map.mp hd
  have hs : ∀ d ∈ r.map PyData.str, d.canLay0 = true ∧ d.depth ≤ 0 := fun d hd => by
    obtain ⟨c, hc, rfl⟩ := List.mem_map.mp hd
    exact ⟨letS_ok (h r hr c hc).1, Nat.zero_le _⟩
  refine ⟨lay_all fun d hd => (hs d hd).1, ?_⟩
  show PyData.depthAll (r.map PyData.str) + 1 ≤ 60
  have := depth_all fun d hd => (hs d hd).2
  omega
theorem row_shaped {r : List Str} (h : ∀ w ∈ r, Wordy w) : SeqAt.shaped (rowD r) = true := shaped_strsT fun c hc => letS_ok (h c hc).1
/-! ### the law's look at steps -/
/-- a step as the law's row of four -/
def rowsLeft (known : List (List Str)) : List SV → List (List Str)
  | [] => known
  | x :: r => rowsLeft (known ++ [x.m.getD []]) r
def spIsChain : Sp := fun vs H Q _ => ∃ (k p l : Addr) (kp ts : List Addr) (known : List (List Str)) (some_ : List Str) (xs : List SV), vs = [.ref k, .ref p, .ref l] ∧ H k = some (.lst (kp.map V.ref)) ∧ RowsT H kp known ∧ (∀ r ∈ known, RowOk r) ∧ H p = some (.tup (some_.map V.str)) ∧ RowOk some_ ∧
  H l = some (.lst (ts.map V.ref)) ∧ ts.length = xs.length ∧ (∀ (i : Nat) (t : Addr) (x : SV), ts[i]? = some t → xs[i]? = some x → Tup4 H t x) ∧ (∀ x ∈ xs, SvOk x) ∧ known.length ≤ 100 ∧ xs.length ≤ 100 ∧ ∀ H', Ext H H' → Q (.bl (chainB some_ known xs)) H'
end Kq
/-! Two sets overlap: told by numbers, told by what is made of them. -/
namespace Kq
open PySem PySem.Spec PyProof.Rows L2 Kp
theorem gs_nil {ws : List Str} : gs ws = [] ↔ ws = [] := by
  constructor
  · intro h
    cases ws with
    | nil => rfl
    | cons w r =>
      have : w ∈ gs (w :: r) := gs_mem.mpr List.mem_cons_self
      rw [h] at this
      cases this
  · rintro rfl
    cases h : gs [] with
    | nil => rfl
    | cons w r =>
      have : w ∈ gs ([] : List Str) := by rw [h]; exact List.mem_cons_self
      rw [gs_mem] at this
      cases this
theorem len_split (p : Str → Bool) : ∀ l : List Str, l.length = (l.filter p).length + (l.filter fun x => !p x).length
  | [] => rfl
  | x :: l => by
    have ih := len_split p l
    rw [List.filter_cons, List.filter_cons]
    cases h : p x
    · simp [ih]
      omega
    · simp [ih]
      omega
theorem meet_len {f s : List Str} (nf : f.Nodup) (ns : s.Nodup) : (f.filter fun x => decide (x ∈ s)).length = (s.filter fun x => decide (x ∈ f)).length := by
  refine Nat.le_antisymm (nodup_le (List.filter_sublist.nodup nf) fun x hx => ?_) (nodup_le (List.filter_sublist.nodup ns) fun x hx => ?_)
  · obtain ⟨h1, h2⟩ := List.mem_filter.mp hx
    exact List.mem_filter.mpr ⟨of_decide_eq_true h2, decide_eq_true h1⟩
  · obtain ⟨h1, h2⟩ := List.mem_filter.mp hx
    exact List.mem_filter.mpr ⟨of_decide_eq_true h2, decide_eq_true h1⟩
theorem ov_rows {f s : List Str} (nf : f.Nodup) (ns : s.Nodup) : ovB f s = !decide (([] : List Str) ∈ [gs (setop 0 f s), gs (setop 2 f s), gs (setop 3 f s)]) := by
  have l1 := len_split (fun x => decide (x ∈ s)) f
  have l2 := len_split (fun x => decide (x ∈ f)) s
  have l3 := meet_len nf ns
  have e0 : ([] = gs (setop 0 f s)) ↔ (f.filter fun x => decide (x ∈ s)).length = 0 := by
    rw [eq_comm, gs_nil, List.length_eq_zero_iff]
    exact Iff.rfl
  have e2 : ([] = gs (setop 2 f s)) ↔ (f.filter fun x => !decide (x ∈ s)).length = 0 := by
    rw [eq_comm, gs_nil, List.length_eq_zero_iff]
    exact Iff.rfl
  have e3 : ([] = gs (setop 3 f s)) ↔ (s.filter fun x => !decide (x ∈ f)).length = 0 := by
    rw [eq_comm, gs_nil, List.length_eq_zero_iff]
    exact Iff.rfl
  unfold ovB
  rw [← Bool.decide_and, ← decide_not]
  congr 1
  apply propext
  simp only [List.mem_cons, List.not_mem_nil, or_false, e0, e2, e3]
  omega
end Kq
set_option maxHeartbeats 4000000
namespace Kq
open PySem PySem.Spec PyProof.Rows L2 Kp
open Evl (Ev EvL EvT EvA given)
theorem nb1 {d : Bool} (h : false = !d) : d = true := by cases d <;> simp_all
theorem nb2 {d : Bool} (h : true = !d) : d = false := by cases d <;> simp_all
theorem u65 {k : Nat} {A : Around} (r : Room k A) : A.units + 65 < cLine := by have := r.un; omega
theorem op_inDK {X : Cx} {K : PySem.W.Frag} (hK : X.K = K) (hu : X.A.units + 65 < cLine) : OpR X (compareOp .In) (rInD K) := hK ▸ op_inD hu
theorem op_notInDK {X : Cx} {K : PySem.W.Frag} (hK : X.K = K) (hu : X.A.units + 65 < cLine) : OpR X (compareOp .NotIn) (rNotInD K) := hK ▸ op_notInD hu
section
variable {P : Program} {w : World} {K : PySem.W.Frag} {mg : Str → Option Value} {base : Heap} {tL tM tA : Tok} {ad : Ad}
theorem ok_is_chain (T : Tx K mg tL tM tA ad) : FnR P w K mg base (L2.CX P w) 2 ad.fIsChain spIsChain := by
  obtain ⟨fd, F⟩ := T.F_l_is_chain
  have B := T.B
  have G_l_made := ok_l_made (P := P) (w := w) (base := base) T
  refine fnP F sc_l_is_chain (fun _ _ _ _ _ _ us hl => match us, hl with | [_, _, _], _ => rfl) (fun vs H Q E h => ?_) (fun cdv A outer s H vs Q E hr h => ?_)
  · obtain ⟨k, p, l, kp, ts, known, some_, xs, rfl, _⟩ := h
    rfl
  · refine ⟨_, PSs.nox (pss_cons (ps_set (i := 3) sc_l_is_chain.nd rfl (Or.inl rfl) (pe_callTy (call_list_ofK (K := K) rfl) (by rfl) B.n_list (by decide +kernel) (pa_cons (pv 0) pa_nil)))
(pss_cons (ps_for PassesOwn.never rfl (pi_listK (K := K) rfl (pv 2)) (pg_tupK (n := 4) (K := K) rfl rfl (pgs_cons (pg_name (i := 4) sc_l_is_chain.nd rfl (Or.inl rfl)) (pgs_cons (pg_name (i := 5) sc_l_is_chain.nd rfl (Or.inl rfl)) (pgs_cons (pg_name (i := 6) sc_l_is_chain.nd rfl (Or.inl rfl)) (pgs_cons (pg_name (i := 7) sc_l_is_chain.nd rfl (Or.inl rfl)) pgs_nil)))))
(pss_cons (ps_set (i := 8) sc_l_is_chain.nd rfl (Or.inl rfl) (pe_callR G_l_made (hr.mono (by decide)) T.k_l_made (by rfl) T.g_l_made passL (pa_cons (pv 4) (pa_cons (pv 5) pa_nil))))
(pss_cons (ps_if (PW.pt (pw_or (pt_cmpR (op_notInDK (K := K) rfl (u65 hr)) (pv 4) (pv 3) (by rfl)) (pw_or (pt_cmpR (op_notInDK (K := K) rfl (u65 hr)) (pv 5) (pv 3) (by rfl)) (pw_or1 (pt_cmpR (op_inDK (K := K) rfl (u65 hr)) (pe_tup pa_nil) (pe_lst (pa_cons (pe_ix (ix_listK (K := K) rfl) (pv 8) pe_int (fun _ _ => rfl)) (pa_cons (pe_ix (ix_listK (K := K) rfl) (pv 8) pe_int (fun _ _ => rfl)) (pa_cons (pe_ix (ix_listK (K := K) rfl) (pv 8) pe_int (fun _ _ => rfl)) pa_nil)))) (by rfl))))))
(pss_one (ps_ret pe_bl))
pss_nil)
(pss_cons (ps_if (PW.pt (pw_or (pt_val (pe_callB (call_isiKK (K := K) rfl) (by rfl) B.n_isinstance (by decide +kernel) (pa_cons (pv 6) (pa_cons (pe_bltn (v := .ty "bool") (u := .type "bool") (by rfl) B.n_bool (by decide +kernel) rfl) pa_nil)))) (pw_or (pt_not (pt_val (pe_callB (call_isiKK (K := K) rfl) (by rfl) B.n_isinstance (by decide +kernel) (pa_cons (pv 6) (pa_cons (pe_bltn (v := .ty "int") (u := .type "int") (by rfl) B.n_int (by decide +kernel) rfl) pa_nil))))) (pw_or1 (pt_not (pt_chain op_le op_le pe_int (pv 6) pe_int))))))
(pss_one (ps_ret pe_bl))
pss_nil)
(pss_cons (ps_if (pt_cmpR (op_neDK (K := K) rfl hr.units) (pe_ix (ix_listK (K := K) rfl) (pv 8) (pv 6) (fun _ _ => rfl)) (pv 7) (nomark _))
(pss_one (ps_ret pe_bl))
pss_nil)
(pss_one (ps_expr (pe_bmK (K := K) rfl PySem.F.plainAttrs_list PySem.F.slot_list_append PySem.F.type_list_append mt_append (pv 3) (pa_cons (pv 7) pa_nil)))))))))
(pss_one (ps_ret (pe_cmpR (op_inDK (K := K) rfl (u65 hr)) (pv 1) (pv 3) (by rfl)))))), ?_⟩
    obtain ⟨k, p, l, kp, ts, known, some_, xs, rfl, hk, hkp, rk, hp, rs, hl, lt, h4, ok, kl, xl, hQ⟩ := h
    refine ⟨_, rfl, k, _, rfl, .inl (SqL.of hk), fun th hth => ?_⟩
    have x1 := Ext.upd (o := HO.lst (kp.map V.ref)) hth
    have oth : upd H th (.lst (kp.map V.ref)) th = some (.lst (kp.map V.ref)) := upd_same
    generalize upd H th (.lst (kp.map V.ref)) = H1 at x1 oth ⊢
    refine ⟨_, rfl, l, rfl, ⟨_, SqL.of (x1 _ _ hl)⟩, ?_⟩
    refine for_list (xs := ts.map V.ref) (fun i (σ' : L2.St) H' => ∃ a4 a5 a6 a7 a8, σ' = [some (V.ref k), some (V.ref p), some (V.ref l), some (V.ref th), a4, a5, a6, a7, a8] ∧ ∃ (kq : List Addr) (now : List (List Str)), Ext H H' ∧ H' th = some (.lst (kq.map V.ref)) ∧ RowsT H' kq now ∧ (∀ r ∈ now, RowOk r) ∧ now.length ≤ 100 + i ∧ chainB some_ known xs = chainB some_ now (xs.drop i)) ?_ (fun i σ' H' _ hp' => ?_) (fun i y σ' H' hy hp' => ?_) (fun σ' H' hp' => ?_)
    · exact ⟨_, _, _, _, _, rfl, kp, known, x1, oth, hkp.ext x1, rk, by omega, by rw [List.drop_zero]⟩
    · obtain ⟨a4, a5, a6, a7, a8, rfl, kq, now, e, _⟩ := hp'
      exact SqL.of (e _ _ hl)
    · obtain ⟨a4, a5, a6, a7, a8, rfl, kq, now, e, hth', hkq, rn, nl, ech⟩ := hp'
      obtain ⟨t, ht, rfl⟩ : ∃ u, ts[i]? = some u ∧ y = .ref u := by
        rw [List.getElem?_map] at hy
        cases q : ts[i]? with
        | none => rw [q] at hy; cases hy
        | some b =>
          rw [q] at hy
          exact ⟨b, rfl, (Option.some.inj hy).symm⟩
      have hil : i < xs.length := by rw [← lt]; exact (List.getElem?_eq_some_iff.mp ht).1
      have hx : xs[i]? = some xs[i] := List.getElem?_eq_getElem hil
      have hxm : xs[i] ∈ xs := List.getElem_mem hil
      have hdr : xs.drop i = xs[i] :: xs.drop (i + 1) := List.drop_eq_getElem_cons hil
      generalize xs[i] = x at hx hxm hdr
      obtain ⟨a, b, c, us, hm, ht4, ha, hb, hc⟩ := h4 i t x ht hx
      obtain ⟨⟨rf1, rf2, rf3, rf4⟩, ⟨rg1, rg2, rg3, rg4⟩, wy, rm⟩ := ok x hxm
      rw [hdr] at ech
      refine ⟨t, _, rfl, SqT.of (e _ _ ht4), rfl, _, _, rfl, _, _, rfl, _, _, rfl, _, _, rfl, rfl, ?_⟩
      refine ⟨_, rfl, _, rfl, a, b, x.f, x.s, rfl, e _ _ ha, e _ _ hb, rf2, rg2, rf4, rg4, fun S ps H2 x2 hS hps hrow => ?_⟩
      have e2 := e.trans x2
      have hth2 := x2 _ _ hth'
      have hkq2 := hkq.ext x2
      have wnow : ∀ r ∈ now, ∀ w ∈ r, Wordy w := fun r hr => (rn r hr).wd
      have ech' : chainB some_ known xs = ((decide (x.f ∈ now) && (decide (x.s ∈ now) && stepOk x)) && chainB some_ (now ++ [us]) (xs.drop (i + 1))) := by
        rw [ech]
        show ((decide (x.f ∈ now) && (decide (x.s ∈ now) && stepOk x)) && chainB some_ (now ++ [x.m.getD []]) (xs.drop (i + 1))) = _
        rw [hm]
        rfl
      rw [ech'] at hQ
      refine ⟨_, rfl, _, rfl, _, _, Dp.tup (SqT.of (e2 _ _ ha)) (dp_strs x.f), Dp.lst (SqL.of hth2) (rowsT_dp hkq2), row_shaped rf3, rows_shaped wnow, _, rfl, ?_⟩
      rw [show ((now.map rowD).any fun z => PyData.eqv z (.tuple (x.f.map PyData.str))) = decide (x.f ∈ now) from rows_any now x.f]
      by_cases h1 : x.f ∈ now
      rotate_left
      · rw [decide_eq_false h1] at hQ ⊢
        exact iteT (hQ H2 e2)
      rw [decide_eq_true h1] at hQ ⊢
      refine iteF ?_
      refine ⟨_, rfl, _, rfl, _, _, Dp.tup (SqT.of (e2 _ _ hb)) (dp_strs x.s), Dp.lst (SqL.of hth2) (rowsT_dp hkq2), row_shaped rg3, rows_shaped wnow, _, rfl, ?_⟩
      rw [show ((now.map rowD).any fun z => PyData.eqv z (.tuple (x.s.map PyData.str))) = decide (x.s ∈ now) from rows_any now x.s]
      by_cases h2 : x.s ∈ now
      rotate_left
      · rw [decide_eq_false h2] at hQ ⊢
        exact iteT (hQ H2 e2)
      rw [decide_eq_true h2] at hQ ⊢
      refine iteF ?_
      rw [Bool.true_and, Bool.true_and] at hQ
      refine ⟨(show (0 : Nat) ≤ sizeLine by decide), fun z hz => ?_⟩
      have x3 := Ext.upd (o := HO.tup ([] : List V)) hz
      have oz : upd H2 z (HO.tup ([] : List V)) z = some (.tup []) := upd_same
      generalize upd H2 z (HO.tup ([] : List V)) = H3 at x3 oz ⊢
      match ps, hps, hS, hrow with
      | [p0, p1, p2, p3], _, hS, hrow =>
        refine ⟨_, rfl, S, _, 0, _, rfl, rfl, SqL.of (x3 _ _ hS), rfl, ?_⟩
        refine ⟨_, rfl, S, _, 2, _, rfl, rfl, SqL.of (x3 _ _ hS), rfl, ?_⟩
        refine ⟨_, rfl, S, _, 3, _, rfl, rfl, SqL.of (x3 _ _ hS), rfl, (show (3 : Nat) ≤ sizeLine by decide), fun q hq => ?_⟩
        have x4 := Ext.upd (o := HO.lst [V.ref p0, V.ref p2, V.ref p3]) hq
        have oq : upd H3 q (HO.lst [V.ref p0, V.ref p2, V.ref p3]) q = some (.lst [V.ref p0, V.ref p2, V.ref p3]) := upd_same
        generalize upd H3 q (HO.lst [V.ref p0, V.ref p2, V.ref p3]) = H4 at x4 oq ⊢
        have x34 := x3.trans x4
        have e4 := e2.trans x34
        have r3 : RowsT H4 [p0, p2, p3] [gs (setop 0 x.f x.s), gs (setop 2 x.f x.s), gs (setop 3 x.f x.s)] := ⟨rfl, fun i p r h1 h2 => by
          match i, h1, h2 with
          | 0, h1, h2 =>
            cases h1
            cases h2
            exact x34 _ _ (hrow 0 _ rfl)
          | 1, h1, h2 =>
            cases h1
            cases h2
            exact x34 _ _ (hrow 2 _ rfl)
          | 2, h1, h2 =>
            cases h1
            cases h2
            exact x34 _ _ (hrow 3 _ rfl)⟩
        have wset : ∀ (k : Nat), ∀ w ∈ gs (setop k x.f x.s), Wordy w := fun k w hw => by
          rw [gs_mem] at hw
          have hk : w ∈ x.f ∨ w ∈ x.s := by
            match k, hw with
            | 0, hw => exact .inl (List.mem_filter.mp hw).1
            | 1, hw => exact List.mem_append.mp hw
            | 2, hw => exact .inl (List.mem_filter.mp hw).1
            | n + 3, hw => exact .inr (List.mem_filter.mp hw).1
          exact hk.elim (rf3 w) (rg3 w)
        refine ⟨_, _, Dp.tup (SqT.of (x4 _ _ oz)) (dp_strs []), Dp.lst (SqL.of oq) (rowsT_dp r3), row_shaped (r := []) (fun w h => by cases h), rows_shaped fun r hr => by
          simp only [List.mem_cons, List.not_mem_nil, or_false] at hr
          rcases hr with rfl | rfl | rfl
          · exact wset 0
          · exact wset 2
          · exact wset 3, _, rfl, ?_⟩
        rw [show (([gs (setop 0 x.f x.s), gs (setop 2 x.f x.s), gs (setop 3 x.f x.s)].map rowD).any fun z => PyData.eqv z (.tuple (([] : List Str).map PyData.str))) = decide (([] : List Str) ∈ [gs (setop 0 x.f x.s), gs (setop 2 x.f x.s), gs (setop 3 x.f x.s)]) from rows_any _ []]
        have hov := ov_rows rf2 rg2
        have sno : ovB x.f x.s = false → stepOk x = false := fun h => by
          unfold stepOk
          split
          · rw [h]
            simp
          · rfl
        by_cases ho : ovB x.f x.s = true
        rotate_left
        · have ho' : ovB x.f x.s = false := by simpa using ho
          rw [ho'] at hov
          rw [show decide (([] : List Str) ∈ [gs (setop 0 x.f x.s), gs (setop 2 x.f x.s), gs (setop 3 x.f x.s)]) = true from nb1 hov]
          rw [sno ho'] at hQ
          exact iteT (hQ H4 e4)
        rw [ho] at hov
        rw [show decide (([] : List Str) ∈ [gs (setop 0 x.f x.s), gs (setop 2 x.f x.s), gs (setop 3 x.f x.s)]) = false from nb2 hov]
        refine iteF ?_
        obtain ⟨xf, xs_, xw, xm⟩ := x
        have hm' : xm = some us := hm
        subst hm'
        rcases wy with ⟨j, hw⟩ | hw | hw | ⟨zz, hw⟩
        · have hw' : xw = .int j := hw
          subst hw'
          have es : stepOk ⟨xf, xs_, .int j, some us⟩ = ((decide (0 ≤ j) && decide (j ≤ 3)) && (ovB xf xs_ && decide (gs (setop j.toNat xf xs_) = us))) := rfl
          rw [es, show ovB xf xs_ = true from ho, Bool.true_and] at hQ
          refine ⟨_, rfl, .int j, _, .type "int", .type "bool", false, rfl, .ty "bool", .base (.int j), kit_ty (by decide +kernel), _, rfl, iteF ?_⟩
          refine ⟨_, rfl, .int j, _, .type "int", .type "int", true, rfl, .ty "int", .base (.int j), kit_ty (by decide +kernel), _, rfl, iteF ?_⟩
          refine ⟨_, rfl, _, _, rfl, rfl, _, rfl, ?_⟩
          by_cases g0 : 0 ≤ j
          rotate_left
          · rw [decide_eq_false g0] at hQ ⊢
            refine iteF ?_
            refine ⟨_, rfl, iteT ?_⟩
            exact hQ H4 e4
          rw [decide_eq_true g0] at hQ ⊢
          refine iteT ?_
          refine ⟨_, _, rfl, rfl, _, rfl, ?_⟩
          by_cases g3 : j ≤ 3
          rotate_left
          · rw [decide_eq_false g3] at hQ ⊢
            refine iteT ?_
            exact hQ H4 e4
          rw [decide_eq_true g3] at hQ ⊢
          refine iteF ?_
          rw [Bool.true_and, Bool.true_and] at hQ
          obtain ⟨n, rfl⟩ := Int.eq_ofNat_of_zero_le g0
          have hn : n < 4 := by omega
          obtain ⟨pn, hpn⟩ : ∃ pn, [p0, p1, p2, p3][n]? = some pn := ⟨[p0, p1, p2, p3][n], List.getElem?_eq_getElem hn⟩
          have hpn' := x34 _ _ (hrow n pn hpn)
          refine ⟨_, rfl, _, rfl, S, _, _, _, rfl, rfl, SqL.of (x34 _ _ hS), atI_nat (by rw [List.getElem?_map, hpn]; rfl), ?_⟩
          refine ⟨_, rfl, _, _, Dp.tup (SqT.of hpn') (dp_strs _), Dp.tup (SqT.of (e4 _ _ hc)) (dp_strs us), row_shaped (wset n), row_shaped (rm us rfl).wd, _, rfl, ?_⟩
          rw [eqv_strsT]
          by_cases hg : gs (setop n xf xs_) = us
          rotate_left
          · have hg' : decide (gs (setop n xf xs_) = us) = false := decide_eq_false hg
            rw [show decide (gs (setop ((n : Nat) : Int).toNat xf xs_) = us) = false from hg'] at hQ
            rw [show decide (gs (setop n (SV.mk xf xs_ (V.int (n : Int)) (some us)).f (SV.mk xf xs_ (V.int (n : Int)) (some us)).s) = us) = false from hg']
            refine iteT ?_
            exact hQ H4 e4
          rw [show decide (gs (setop n (SV.mk xf xs_ (V.int (n : Int)) (some us)).f (SV.mk xf xs_ (V.int (n : Int)) (some us)).s) = us) = true from decide_eq_true hg]
          refine iteF ?_
          have hth4 := x34 _ _ hth2
          refine ⟨_, rfl, .inl ⟨rfl, _, SqL.of hth4⟩, ?_⟩
          have lkq := hkq.1
          refine ⟨_, rfl, th, _, _, rfl, rfl, hth4, by rw [List.length_map, lkq]; exact Nat.lt_of_le_of_lt (by omega : now.length ≤ 200) (by decide), ?_⟩
          have u5 : Tups H4 (upd H4 th (.lst (kq.map V.ref ++ [.ref c]))) := fun b' ys h => by
            rw [upd_ne (fun z => by rw [z, hth4] at h; cases h)]
            exact h
          refine ⟨_, _, _, _, _, rfl, kq ++ [c], now ++ [us], fun b' o' hb' => ?_, by rw [List.map_append]; exact upd_same, ?_, fun r hr => ?_, by simp; omega, ?_⟩
          · rw [upd_ne (ne_of_none hb' hth)]
            exact e4 _ _ hb'
          · refine ⟨by simp [lkq], fun j p' r hp' hr' => ?_⟩
            by_cases hj : j < kq.length
            · rw [List.getElem?_append_left hj] at hp'
              rw [List.getElem?_append_left (by rw [← lkq]; exact hj)] at hr'
              exact u5 _ _ (x34 _ _ (hkq2.2 j p' r hp' hr'))
            · have hle := (List.getElem?_eq_some_iff.mp hp').1
              rw [List.length_append, List.length_singleton] at hle
              have ej : j = kq.length := by omega
              subst ej
              rw [List.getElem?_append_right (Nat.le_refl _), Nat.sub_self] at hp'
              rw [List.getElem?_append_right (by omega), ← lkq, Nat.sub_self] at hr'
              cases hp'
              cases hr'
              exact u5 _ _ (e4 _ _ hc)
          · rcases List.mem_append.mp hr with h | h
            · exact rn r h
            · rw [List.mem_singleton.mp h]
              exact rm us rfl
          · rw [ech', decide_eq_true h1, decide_eq_true h2, es, show ovB xf xs_ = true from ho, decide_eq_true g0, decide_eq_true g3, show decide (gs (setop ((n : Nat) : Int).toNat xf xs_) = us) = true from decide_eq_true hg]
            rfl
        · have hw' : xw = .non := hw
          subst hw'
          refine ⟨_, rfl, .non, _, .type "NoneType", .type "bool", false, rfl, .ty "bool", .base .non, kit_ty (by decide +kernel), _, rfl, iteF ?_⟩
          refine ⟨_, rfl, .non, _, .type "NoneType", .type "int", false, rfl, .ty "int", .base .non, kit_ty (by decide +kernel), _, rfl, iteT ?_⟩
          exact hQ H4 e4
        · have hw' : xw = .bl true := hw
          subst hw'
          refine ⟨_, rfl, .bl true, _, .type "bool", .type "bool", true, rfl, .ty "bool", .base (.bl true), kit_ty (by decide +kernel), _, rfl, iteT ?_⟩
          exact hQ H4 e4
        · have hw' : xw = .str zz := hw
          subst hw'
          refine ⟨_, rfl, .str zz, _, .type "str", .type "bool", false, rfl, .ty "bool", .base (.str zz), kit_ty (by decide +kernel), _, rfl, iteF ?_⟩
          refine ⟨_, rfl, .str zz, _, .type "str", .type "int", false, rfl, .ty "int", .base (.str zz), kit_ty (by decide +kernel), _, rfl, iteT ?_⟩
          exact hQ H4 e4
    · obtain ⟨a4, a5, a6, a7, a8, rfl, kq, now, e, hth', hkq, rn, nl, ech⟩ := hp'
      rw [List.length_map, lt, List.drop_length] at ech
      refine ⟨_, rfl, _, rfl, _, _, Dp.tup (SqT.of (e _ _ hp)) (dp_strs some_), Dp.lst (SqL.of hth') (rowsT_dp hkq), row_shaped rs.wd, rows_shaped fun r hr => (rn r hr).wd, ?_⟩
      have e1 : ((now.map rowD).any fun z => PyData.eqv z (.tuple (some_.map PyData.str))) = decide (some_ ∈ now) := rows_any now some_
      rw [e1]
      rw [ech] at hQ
      exact hQ H' e
end
end Kq
set_option maxHeartbeats 4000000
/-! Runs of places and their sets of words. -/
namespace Kq
open PySem PySem.Spec PyProof.Rows L2 Kp
/-- the set of a run -/
noncomputable def wset (ws : List Str) (r : Rn) : List Str := gs (seg ws r.1 r.2)
theorem in_seg {ws : List Str} (nd : ws.Nodup) {u : Str} {j : Nat} (hj : ws[j]? = some u) {r : Rn} : u ∈ seg ws r.1 r.2 ↔ r.1 ≤ j ∧ j ≤ r.2 := by
  rw [seg_mem]
  constructor
  · rintro ⟨i, h1, h2, hi⟩
    have e : j = i := (List.getElem?_inj (List.getElem?_eq_some_iff.mp hj).1 nd).mp (hj.trans hi.symm)
    omega
  · rintro ⟨h1, h2⟩
    exact ⟨j, h1, h2, hj⟩
theorem in_wset {ws : List Str} (nd : ws.Nodup) {u : Str} {j : Nat} (hj : ws[j]? = some u) {r : Rn} : u ∈ wset ws r ↔ r.1 ≤ j ∧ j ≤ r.2 := by
  unfold wset
  rw [gs_mem]
  exact in_seg nd hj
theorem wset_sub {ws : List Str} {u : Str} {r : Rn} (h : u ∈ wset ws r) : u ∈ ws := by
  unfold wset at h
  rw [gs_mem] at h
  exact seg_sub h
theorem setop_mem {k : Nat} {f s : List Str} {u : Str} : u ∈ setop k f s ↔ (k = 0 ∧ u ∈ f ∧ u ∈ s) ∨ (k = 1 ∧ (u ∈ f ∨ u ∈ s)) ∨ (k = 2 ∧ u ∈ f ∧ u ∉ s) ∨ (3 ≤ k ∧ u ∈ s ∧ u ∉ f) := by
  match k with
  | 0 => simp [setop, List.mem_filter]
  | 1 => simp [setop]
  | 2 => simp [setop, List.mem_filter]
  | n + 3 => simp [setop, List.mem_filter]
theorem ov_facts {p q : Rn} (h : ov p q = true) : (p.1 < q.1 ∧ q.1 ≤ p.2 ∧ p.2 < q.2) ∨ (q.1 < p.1 ∧ p.1 ≤ q.2 ∧ q.2 < p.2) := by
  unfold ov ovl at h
  by_cases h1 : p.1 < q.1
  · rw [if_pos h1] at h
    simp only [Bool.and_eq_true, decide_eq_true_eq] at h
    exact .inl h
  · rw [if_neg h1] at h
    simp only [Bool.and_eq_true, decide_eq_true_eq] at h
    exact .inr h
theorem mks_at {p q r : Rn} {k : Nat} (hr : (mks p q)[k]? = some r) : (p.1 < q.1 ∧ ((k = 0 ∧ r = (q.1, p.2)) ∨ (k = 1 ∧ r = (p.1, q.2)) ∨ (k = 2 ∧ r = (p.1, q.1 - 1)) ∨ (k = 3 ∧ r = (p.2 + 1, q.2)))) ∨
    (¬ p.1 < q.1 ∧ ((k = 0 ∧ r = (p.1, q.2)) ∨ (k = 1 ∧ r = (q.1, p.2)) ∨ (k = 2 ∧ r = (q.2 + 1, p.2)) ∨ (k = 3 ∧ r = (q.1, p.1 - 1)))) := by
  unfold mks at hr
  by_cases h1 : p.1 < q.1
  · rw [if_pos h1] at hr
    refine .inl ⟨h1, ?_⟩
    match k, hr with
    | 0, hr => cases hr; exact .inl ⟨rfl, rfl⟩
    | 1, hr => cases hr; exact .inr (.inl ⟨rfl, rfl⟩)
    | 2, hr => cases hr; exact .inr (.inr (.inl ⟨rfl, rfl⟩))
    | 3, hr => cases hr; exact .inr (.inr (.inr ⟨rfl, rfl⟩))
  · rw [if_neg h1] at hr
    refine .inr ⟨h1, ?_⟩
    match k, hr with
    | 0, hr => cases hr; exact .inl ⟨rfl, rfl⟩
    | 1, hr => cases hr; exact .inr (.inl ⟨rfl, rfl⟩)
    | 2, hr => cases hr; exact .inr (.inr (.inl ⟨rfl, rfl⟩))
    | 3, hr => cases hr; exact .inr (.inr (.inr ⟨rfl, rfl⟩))
theorem set_made {ws : List Str} {n k : Nat} {p q r : Rn} (nd : ws.Nodup) (hp : OkR n p) (hq : OkR n q) (ho : ov p q = true) (hr : (mks p q)[k]? = some r) : gs (setop k (wset ws p) (wset ws q)) = wset ws r := by
  unfold OkR at hp hq
  have hof := ov_facts ho
  refine gs_congr fun u => ?_
  by_cases hu : u ∈ ws
  · obtain ⟨j, hj⟩ := List.mem_iff_getElem?.mp hu
    rw [setop_mem, in_wset nd hj, in_wset nd hj, in_seg nd hj]
    rcases mks_at hr with ⟨h1, h | h | h | h⟩ | ⟨h1, h | h | h | h⟩ <;> (obtain ⟨rfl, rfl⟩ := h; have a0 := hof; dsimp only; clear hof; rcases a0 with a0 | a0 <;> (first | omega | (exfalso; omega) | (simp; omega)))
  · constructor
    · intro h
      rw [setop_mem] at h
      rcases h with h | h | h | h
      · exact absurd (wset_sub h.2.1) hu
      · exact absurd (h.2.elim wset_sub wset_sub) hu
      · exact absurd (wset_sub h.2.1) hu
      · exact absurd (wset_sub h.2.1) hu
    · intro h
      exact absurd (seg_sub h) hu
end Kq
set_option maxHeartbeats 4000000
/-! A chain of runs is a chain of sets. -/
namespace Kq
open PySem PySem.Spec PyProof.Rows L2 Kp
theorem wset_nd {ws : List Str} {r : Rn} : (wset ws r).Nodup := (gs_is _).nd
theorem wset_ne {ws : List Str} {n : Nat} {r : Rn} (nd : ws.Nodup) (hn : n = ws.length) (h : OkR n r) : wset ws r ≠ [] := fun e => by
  unfold OkR at h
  have hj : ws[r.1]? = some ws[r.1] := List.getElem?_eq_getElem (by omega)
  have := (in_wset nd hj (r := r)).2 ⟨Nat.le_refl _, h.1⟩
  rw [e] at this
  cases this
theorem mks_len (p q : Rn) : (mks p q).length = 4 := by
  unfold mks
  split <;> rfl
theorem ov_sets {ws : List Str} {p q : Rn} (nd : ws.Nodup) (hp : OkR ws.length p) (hq : OkR ws.length q) (ho : ov p q = true) : ovB (wset ws p) (wset ws q) = true := by
  rw [ov_rows wset_nd wset_nd]
  have at_ : ∀ k, k < 4 → gs (setop k (wset ws p) (wset ws q)) ≠ [] := fun k hk => by
    have hr : (mks p q)[k]? = some ((mks p q)[k]'(by rw [mks_len]; exact hk)) := List.getElem?_eq_getElem _
    rw [set_made nd hp hq ho hr]
    exact wset_ne nd rfl (mks_ok hp hq ho (List.mem_of_getElem? hr))
  rw [decide_eq_false]
  · rfl
  · simp only [List.mem_cons, List.not_mem_nil, or_false]
    rintro (h | h | h)
    · exact at_ 0 (by decide) h.symm
    · exact at_ 2 (by decide) h.symm
    · exact at_ 3 (by decide) h.symm
/-- a row as a step of sets -/
noncomputable def svOf (ws : List Str) (x : Row) : SV := ⟨wset ws x.p, wset ws x.q, .int (x.w : Int), some (wset ws x.r)⟩
theorem step_row {ws : List Str} {x : Row} (nd : ws.Nodup) (hp : OkR ws.length x.p) (hq : OkR ws.length x.q) (ho : ov x.p x.q = true) (hm : (mks x.p x.q)[x.w]? = some x.r) : stepOk (svOf ws x) = true := by
  have hw : x.w < 4 := by
    have := (List.getElem?_eq_some_iff.mp hm).1
    rw [mks_len] at this
    exact this
  show ((decide (0 ≤ (x.w : Int)) && decide ((x.w : Int) ≤ 3)) && (ovB (wset ws x.p) (wset ws x.q) && decide (gs (setop ((x.w : Nat) : Int).toNat (wset ws x.p) (wset ws x.q)) = wset ws x.r))) = true
  rw [ov_sets nd hp hq ho, show ((x.w : Nat) : Int).toNat = x.w from rfl, set_made nd hp hq ho hm, decide_eq_true (by omega), decide_eq_true (by omega)]
  simp
theorem chain_sets {ws : List Str} (nd : ws.Nodup) (some_ : List Str) : ∀ (xs : List Row) (th : List Rn), chain th xs → (∀ r ∈ th, OkR ws.length r) → chainB some_ (th.map (wset ws)) (xs.map (svOf ws)) = decide (some_ ∈ th.map (wset ws) ++ xs.map fun x => wset ws x.r)
  | [], th, _, _ => by
    show decide (some_ ∈ th.map (wset ws)) = _
    simp
  | x :: xs, th, c, ht => by
    obtain ⟨hp, hq, ho, hm, hc⟩ := c
    have okr : OkR ws.length x.r := mks_ok (ht _ hp) (ht _ hq) ho (List.mem_of_getElem? hm)
    have ih := chain_sets nd some_ xs (th ++ [x.r]) hc fun r h => (List.mem_append.mp h).elim (ht r) fun h => List.mem_singleton.mp h ▸ okr
    show ((decide (wset ws x.p ∈ th.map (wset ws)) && (decide (wset ws x.q ∈ th.map (wset ws)) && stepOk (svOf ws x))) && chainB some_ (th.map (wset ws) ++ [wset ws x.r]) (xs.map (svOf ws))) = _
    rw [decide_eq_true (List.mem_map.mpr ⟨_, hp, rfl⟩), decide_eq_true (List.mem_map.mpr ⟨_, hq, rfl⟩), step_row nd (ht _ hp) (ht _ hq) ho hm]
    rw [List.map_append] at ih
    simp only [Bool.true_and]
    rw [show th.map (wset ws) ++ [wset ws x.r] = th.map (wset ws) ++ [x.r].map (wset ws) from rfl, ih]
    congr 1
    simp
end Kq
set_option maxHeartbeats 400000
/-! sorted(e, key=lambda row: (len(row), row)), e a list of tuples of texts. -/
namespace Kp
open PySem PySem.Spec PyProof.Rows L2 LamX
open PySem.W (EachIs KeyPure)
/-- the key of a row -/
def rowKey (p : Addr × List Str) : PyData := .tuple [.int (p.2.length : Nat), .tuple (p.2.map .str)]
/-- set order -/
def rowLe (p q : Addr × List Str) : Bool := PySem.W.dataLe false rowKey p q
theorem reads_strs {h : Heap} : ∀ {r : List Str} {its : List Value}, Vals (r.map V.str) its → ReadsAll h its (r.map .str) []
  | [], _, .nil => .nil
  | x :: r, _, .cons hx t => by
    obtain ⟨tk, rfl⟩ := hx
    exact .cons (.str x tk) (reads_strs t)
theorem alike_strs : ∀ r r' : List Str, PySem.W.alikeAll (r.map PyData.str) (r'.map PyData.str) = true
  | [], _ => by simp [PySem.W.alikeAll]
  | _ :: _, [] => by simp [PySem.W.alikeAll]
  | x :: r, y :: r' => by
    have := alike_strs r r'
    simp [PySem.W.alikeAll, PySem.W.alike, this]
theorem rowKey_alike (p q : Addr × List Str) : PySem.W.alike (rowKey p) (rowKey q) = true := by
  have := alike_strs p.2 q.2
  simp [rowKey, PySem.W.alike, PySem.W.alikeAll, this]
theorem depth_strs : ∀ r : List Str, PyData.depthAll (r.map PyData.str) = 0
  | [] => by simp [PyData.depthAll]
  | x :: r => by
    have := depth_strs r
    simp [PyData.depthAll, PyData.depth, this]
theorem rowKey_depth (p : Addr × List Str) : (rowKey p).depth = 2 := by
  have := depth_strs p.2
  simp [rowKey, PyData.depth, PyData.depthAll, this]
section
variable {prog : Program} {w : World} {A : Around} {s : Shared}
/-- the key of a row: all that stood stands -/
theorem key_turn {f c' : Addr} {q a : Str} {params : Arguments} {scope : Scope} {cl : List (Str × Addr)} {pm ctv : Value} {mg mb : Str → Option Value} {x : Addr × List Str} {its : List Value} {p1 p2 p3 p4 p5 : Pos} {cx}
    (hroom : A.depth < recursionLimit) (hf : s.heap.get? f = some (PySem.W.kla_obj "<lambda>" q params (.Tuple [.Call (.Name "len" p1) [.Name a p2] [] p3, .Name a p4] cx p5) scope cl pm c' ctv))
    (hco : scope.isCoroutine = false) (hgen : scope.isGenerator = false) (hk : scope.kind = .function) (hcell : ∀ y ∈ scope.names, y.2 ≠ .cell) (hcd : s.heap.CodeRec (.ref c') q)
    (hbind : ∀ v, bindArgs (PySem.W.kla_fn "<lambda>" q params (.Tuple [.Call (.Name "len" p1) [.Name a p2] [] p3, .Name a p4] cx p5) scope cl pm (.ref c') ctv) ⟨[v], []⟩ = pure [(a, v)])
    (hloc : scope.names.lookup a = some .local) (hlen : scope.names.lookup ("len" : Str) = some .globalImplicit) (lim : s.heap.NoLimit) (hg : s.heap.Ns mainGlobals mg) (hmg : mg "len" = none) (hb : s.heap.Ns builtinsNs mb)
    (hmb : mb "len" = some (.builtin "len")) (ht : IsTup s.heap x.1 its.toArray) (hr : Vals (x.2.map V.str) its) (hz : its.length ≤ sizeLine) (hda : (a == ("__debug__" : Str)) = false) :
    wpAny (model prog w) A (call (.ref f) [.ref x.1]) (KeyPure (rowKey x) s) (fun _ _ => False) s := by
  refine wpAny_call (PySem.W.kla_callFunE hroom hf rfl hco hgen rfl hcd ?_)
  rw [hbind]
  refine wpAny_pure (wpAny_newFunctionEnv hcell (fun y hy => ?_) (fun h₁ hns hsb => ⟨lim.fresh _ hsb, ?_⟩) hk)
  · have e : y = (a, Value.ref x.1) := by simpa using hy
    rw [e]
    exact hloc
  show codeAny _ _ (.expr _ (PySem.W.envX q scope s.heap.objs.size f (.ref c') cl)) _ _
  have kp : ∀ b o, s.heap.get? b = some o → h₁.get? b = some o := fun b o e => hsb.extBut b o (Nat.ne_of_lt (Heap.lt_size e)) (Heap.get?_push_of_some _ e)
  refine PySem.W.kla_codeExpr ?_
  have hv : ([(a, Value.ref x.1)] : List (Str × Value)).reverse.lookup a = some (.ref x.1) := by simp
  have l63 := line63
  refine wpAny_Tuple_spliced ?_
  show wpAny _ _ (spliced ((false, eval (.Call (.Name "len" p1) [.Name a p2] [] p3) (PySem.W.envX q scope s.heap.objs.size f (.ref c') cl)) :: backTo p5 (starEach [.Name a p4] (PySem.W.envX q scope s.heap.objs.size f (.ref c') cl)))) _ _ _
  refine Calls.spliced_cons ?_
  refine wpAny_Call_Name_kw (Calls.Name_function_global hk hlen (Calls.loadGlobal_builtin (hg.keeps kp) hmg (hb.keeps kp) hmb ?_) (by decide))
  refine PyProof.Rows.callWith_builtin1 ?_
  show wpAny _ _ (spliced ((false, eval (.Name a p2) (PySem.W.envX q scope s.heap.objs.size f (.ref c') cl)) :: backTo p3 (starEach [] (PySem.W.envX q scope s.heap.objs.size f (.ref c') cl)))) _ _ _
  refine Calls.spliced_cons (wpAny_Name (wpAny_loadName_local hk hloc hns hv ?_) hda)
  refine Calls.spliced_nil ?_
  have ht1 := ht.keeps kp
  refine len_tuple ht1 (by simp only [List.size_toArray]; omega) ?_
  show wpAny _ _ (spliced ((false, eval (.Name a p4) (PySem.W.envX q scope s.heap.objs.size f (.ref c') cl)) :: backTo p5 (starEach [] (PySem.W.envX q scope s.heap.objs.size f (.ref c') cl)))) _ _ _
  refine Calls.spliced_cons (wpAny_Name (wpAny_loadName_local hk hloc hns hv ?_) hda)
  refine Calls.spliced_nil ⟨(show (2 : Nat) ≤ sizeLine by rw [sizeLine_eq]; decide), ?_⟩
  have hl := hr.length
  rw [List.length_map] at hl
  obtain ⟨o, ho, hc, n, hd⟩ := ht1
  refine ⟨_, _, rfl, fun b u e => Heap.get?_push_of_some _ (kp b u e), ?_⟩
  refine Reads.tuple (as := []) (Heap.get?_push_size _ rfl) rfl rfl ?_
  refine ReadsAll.cons (as := []) (bs := []) ?_ (ReadsAll.cons (as := []) (bs := []) ?_ .nil)
  · rw [show ((x.2.length : Nat) : Int) = ((its.toArray.size : Nat) : Int) by rw [hl, List.size_toArray]]
    exact .int _ _
  · exact Reads.tuple (Heap.get?_push_of_some _ ho) hc hd (reads_strs hr)
end
/-- the lambda's names: its one parameter, len -/
def keyScope (scope : Scope) (a : Str) : Bool :=
  decide (scope.kind = .function) && !scope.isCoroutine && !scope.isGenerator && (scope.names.all fun y => !decide (y.2 = .cell) && !decide (y.2 = .free)) && decide (scope.names.lookup a = some .local) && decide (scope.names.lookup ("len" : Str) = some .globalImplicit) && !(a == ("__debug__" : Str))
structure KeyScope (scope : Scope) (a : Str) : Prop where
  kind : scope.kind = .function
  co : scope.isCoroutine = false
  gen : scope.isGenerator = false
  cell : ∀ y ∈ scope.names, y.2 ≠ .cell
  free : ∀ y ∈ scope.names, y.2 ≠ .free
  loc : scope.names.lookup a = some .local
  len : scope.names.lookup ("len" : Str) = some .globalImplicit
  da : (a == ("__debug__" : Str)) = false
theorem KeyScope.of {scope : Scope} {a : Str} (h : keyScope scope a = true) : KeyScope scope a := by
  unfold keyScope at h
  simp only [Bool.and_eq_true, Bool.not_eq_true', decide_eq_true_eq, decide_eq_false_iff_not, List.all_eq_true] at h
  obtain ⟨⟨⟨⟨⟨⟨hk, hco⟩, hgen⟩, hown⟩, hloc⟩, hlen⟩, hda⟩ := h
  exact ⟨hk, hco, hgen, fun y hy => (hown y hy).1, fun y hy => (hown y hy).2, hloc, hlen, hda⟩
/-- the list l of rows -/
structure RowsL (K : PySem.W.Frag) (H : Hp) (l : Addr) (ps : List (Addr × List Str)) : Prop where
  at_ : SqL K H l (ps.map fun p => V.ref p.1)
  few : ps.length ≤ 1000
  row : ∀ p ∈ ps, H p.1 = some (.tup (p.2.map V.str))
def slK (K : PySem.W.Frag) (T : List (Addr × Str)) (Q : VK) : V → Hp → Prop := fun v H1 => ∃ (l : Addr) (ps : List (Addr × List Str)), v = .ref l ∧ RowsL K H1 l ps ∧ Tabs T H1 ∧
  ∀ (d : Addr) (H2 : Hp), ExtN H1 H2 → Tabs T H2 → H2 d = none → Q (.ref d) (upd H2 d (.lst ((ps.mergeSort rowLe).map fun p => V.ref p.1)))
def slA (K : PySem.W.Frag) (T : List (Addr × Str)) (Q : VK) : List V → Hp → Prop
  | [v], H => slK K T Q v H
  | _, _ => False
def tSortLen (K : PySem.W.Frag) (T : List (Addr × Str)) (te : TE) : TE := fun σ H Q => te σ H (slK K T Q)
theorem vals_refs : ∀ {as : List Addr} {us : List Value}, Vals (as.map V.ref) us → us = as.map Value.ref
  | [], _, .nil => rfl
  | _ :: _, _, .cons h t => by
    cases h
    rw [vals_refs t]
    rfl
theorem refs_vals : ∀ as : List Addr, Vals (as.map V.ref) (as.map Value.ref)
  | [] => .nil
  | _ :: as => .cons rfl (refs_vals as)
theorem each_refs {R : Value → Addr × List Str → Prop} (hR : ∀ v p, R v p → v = .ref p.1) : ∀ {out : List Value} {ps : List (Addr × List Str)}, EachIs R out ps → out = (ps.map (·.1)).map Value.ref
  | _, _, .nil => rfl
  | _, _, .cons h t => by
    rw [hR _ _ h, each_refs hR t]
    rfl
theorem each_of {R : Value → Addr × List Str → Prop} : ∀ {ps : List (Addr × List Str)}, (∀ p ∈ ps, R (.ref p.1) p) → EachIs R ((ps.map (·.1)).map Value.ref) ps
  | [], _ => .nil
  | p :: ps, h => .cons (h p List.mem_cons_self) (each_of fun q hq => h q (List.mem_cons_of_mem _ hq))
section
variable {X : Cx} {K : PySem.W.Frag}
/-- sorted of rows, the lambda made -/
theorem sort_rows {pins : List (Addr × Obj)} {σ : L2.St} {H2 : Hp} {s2 : Shared} {Q : VK} {a q : Str} {l f c' : Addr} {ps : List (Addr × List Str)} {params : Arguments} {scope : Scope} {cl : List (Str × Addr)} {pm ctv : Value} {p1 p2 p3 p4 p5 : Pos} {cx}
    (I2 : Inv X pins σ H2 s2) (hml : X.mg "len" = none) (hr : Room 2 X.A) (hsc : KeyScope scope a)
    (hbind : ∀ v : Value, bindArgs (PySem.W.kla_fn "<lambda>" q params (.Tuple [.Call (.Name "len" p1) [.Name a p2] [] p3, .Name a p4] cx p5) scope cl pm (.ref c') ctv) ⟨[v], []⟩ = pure [(a, v)])
    (hf : s2.heap.get? f = some (PySem.W.kla_obj "<lambda>" q params (.Tuple [.Call (.Name "len" p1) [.Name a p2] [] p3, .Name a p4] cx p5) scope cl pm c' ctv)) (hc : H2 c' = some (CodeO c' q)) (hl : RowsL X.K H2 l ps)
    (hQ : ∀ d, H2 d = none → Q (.ref d) (upd H2 d (.lst ((ps.mergeSort rowLe).map fun p => V.ref p.1)))) :
    wpAny (model X.prog X.w) X.A (call (.builtin "sorted") [.ref l] [(Str.ofString "key", .ref f)]) (EP X pins σ Q) X.xe s2 := by
  obtain ⟨its, r2, pl, hz⟩ := I2.list hl.at_
  rw [show (ps.map fun p => V.ref p.1) = (ps.map (·.1)).map V.ref by rw [List.map_map]; rfl] at r2
  obtain rfl := vals_refs r2
  obtain ⟨⟨oc, cvs, tq, hoc, hdc, hvc⟩, _, _⟩ := I2.hok c' _ hc
  obtain ⟨mb, hmb1, hmb2⟩ := I2.mod.blt
  have hun := hr.un
  have hdp := hr.depth
  have hrow : ∀ p ∈ ps, ∃ its : List Value, IsTup s2.heap p.1 its.toArray ∧ Vals (p.2.map V.str) its ∧ its.length ≤ sizeLine := fun p hp => by
    obtain ⟨itsr, rr, pr, zr⟩ := I2.tuple (SqT.of (hl.row p hp))
    exact ⟨itsr, pr, rr, by rw [← rr.length]; exact zr⟩
  have hfew : ps.length ≤ sizeLine := Nat.le_trans hl.few (by rw [sizeLine_eq]; decide)
  refine PySem.W.sorted_key_data (b := false) rowKey (vs := (ps.map (·.1)).map Value.ref) (bs := ps) (R := fun v p => v = .ref p.1) pl.isList (each_of fun p hp => rfl) (PySem.W.AllAlike.of fun p q => rowKey_alike p q) (PySem.W.Sortable.tuples fun p => ⟨_, _, rfl⟩) hfew
    (fun p hp => ?_) (ksk_s1 _ _) (fun _ => ksk_l1 _ _) (fun _ => ksk_t1 _ _) (fun v p hR hp h tk kp => ?_) fun out cc h' tk kp hfr2 hD hlen2 eo => ?_
  · rw [rowKey_depth]
    omega
  · subst hR
    obtain ⟨itsr, pr, rr, zr⟩ := hrow p hp
    exact key_turn (A := X.A.in1.in1) (s := { s2 with heap := h, toks := tk }) hdp (kp _ _ hf) hsc.co hsc.gen hsc.kind hsc.cell ⟨c', oc, cvs, tq, rfl, kp _ _ hoc, hdc, hvc⟩ hbind hsc.loc hsc.len (I2.nolimit.keeps kp) ((I2.mod.glob.keeps I2.bk).keeps kp) hml ((hmb1.keeps I2.bk).keeps kp) ((hmb2 "len" (by decide)).trans (by decide +kernel)) (pr.keeps kp) rr zr hsc.da
  · have eout := each_refs (fun v p (h : v = .ref p.1) => h) eo
    have hn : H2 (s2.heap.objs.size + 1) = none := I2.hok.fresh (Nat.le_succ _)
    refine ⟨.ref (s2.heap.objs.size + 1), _, I2.laid (a := s2.heap.objs.size + 1) (o := .lst ((ps.mergeSort rowLe).map fun p => V.ref p.1)) kp (Nat.le_succ _) ⟨?_, out, cc, ?_, hD⟩, rfl, hQ _ hn⟩
    · rw [List.length_map, List.length_mergeSort]
      exact hfew
    · rw [eout, show ((ps.mergeSort rowLe).map fun p => V.ref p.1) = ((ps.mergeSort rowLe).map (·.1)).map V.ref by rw [List.map_map]; rfl]
      exact refs_vals _
/-- sorted(e, key=lambda a: (len(a), a)) -/
theorem pe_sortLen {T : List (Addr × Str)} {c P : Addr} {e : Expr} {te : TE} {a : Str} {params : Arguments} {scope : Scope} {p pos kp lpos p1 p2 p3 p4 p5 : Pos} {cx} (hK : X.K = K)
    (hg : Gl X "sorted") (hm : X.mg "sorted" = none) (hml : X.mg "len" = none) (ha : PE X e te) (TB : TabB X.base X.mg c P) (hcode : X.env.code = .ref c) (hmT : (P, X.env.qual ++ "<lambda>") ∈ T)
    (hu : ∀ p ∈ T, p.1 = P → p.2 = X.env.qual ++ "<lambda>") (hr : Room 2 X.A) (hsc : keyScope scope a = true) (hdef : defaultsOf params X.env = ([], []))
    (hbind : ∀ (v : Value) (q : Str) (cl : List (Str × Addr)) (pm cv ctv : Value), bindArgs (PySem.W.kla_fn "<lambda>" q params (.Tuple [.Call (.Name "len" p1) [.Name a p2] [] p3, .Name a p4] cx p5) scope cl pm cv ctv) ⟨[v], []⟩ = pure [(a, v)])
    (he : starEach [e] X.env = (false, eval e X.env) :: starEach [] X.env := by rfl) :
    PE X (.Call (.Name "sorted" p) [e] [⟨some "key", .Lambda params (.Tuple [.Call (.Name "len" p1) [.Name a p2] [] p3, .Name a p4] cx p5) scope lpos, kp⟩] pos) (tSortLen K T te) := by
  refine ⟨fun pins s σ H Q I h => ?_⟩
  subst hK
  have sc := KeyScope.of hsc
  refine wpAny_Call_Name_kw (ld_blt I hg hm boot_sorted ?_)
  have ha1 := (pa_cons ha pa_nil he).run pos pins s σ H (slA X.K T Q) I h
  refine PyProof.Rows.callWith_kw (thn ha1 fun us s1 hus => ?_) (by rw [he]; rfl) (by rw [he]; rfl)
  obtain ⟨vs, H1, I1, r1, q1⟩ := hus
  obtain ⟨v, rfl, q1⟩ : ∃ v, vs = [v] ∧ slK X.K T Q v H1 := by
    match vs, q1 with
    | [v], q1 => exact ⟨v, rfl, q1⟩
  obtain ⟨u, rfl, rv⟩ := vals1 r1
  obtain ⟨l, ps, ev, hl, T1, q⟩ := q1
  subst ev
  cases (show u = Value.ref l from rv)
  refine PyProof.Rows.kws_cons (lam_make2 I1 TB hcode hmT hu T1 hdef (fun y hy z => absurd z (sc.free y hy)) fun f c' pm ctv H2 s2 I2 eN T2 hf hfn hfr hc => ?_)
  refine PyProof.Rows.kws_nil ?_
  have hl2 : RowsL X.K H2 l ps := by
    refine ⟨?_, hl.few, fun p hp => eN _ _ (hl.row p hp) (fun _ y => nomatch y)⟩
    rcases hl.at_ with z | z
    · rcases z with z | ⟨o, z⟩
      · exact .inl (.inl (eN _ _ z (fun _ y => nomatch y)))
      · exact .inl (.inr ⟨o, eN _ _ z (fun _ y => nomatch y)⟩)
    · exact .inr z
  exact sort_rows I2 hml hr sc (fun v => hbind v _ _ _ _ _) hf hc hl2 fun d hd => q d H2 eN T2 hd
end
end Kp
set_option maxHeartbeats 1000000
namespace Kq
open PySem PySem.Spec PyProof.Rows L2 Kp
open Evl (Ev EvL EvT EvA given)
open LamX (ExtN Tabs TabB)
/-! ### a def that makes lambdas -/
structure FunC (K : PySem.W.Frag) (x qual : Str) (st : Stmt) (f : Addr) (fd : FuncData) (c : Addr) : Prop where
  fu : Fun K x qual st f fd
  code : fd.code = .ref c
section
variable {P : Program} {w : World} {K : PySem.W.Frag} {mg : Str → Option Value} {base : Heap} {x qual : Str} {st : Stmt} {f c : Addr} {fd : FuncData} {N ps : List Str} {k : Nat} {sp : Sp}
theorem fnPC (F : FunC K x qual st f fd c) (S : FnScope N ps (defScope st)) (hb : BindN x qual st ps) (len : ∀ vs H Q E, sp vs H Q E → vs.length = ps.length)
    (hbody : ∀ (A : Around) (outer : List Env) (s : Shared) (H : Hp) (vs : List V) (Q : VK) (E : XK), Room k (A.deeper (envOfC qual (defScope st) s.heap.objs.size f (.ref c))) → sp vs H Q E →
      ∃ t, PSs (cxOf (L2.CX P w) P w K mg base N qual (defScope st) f (.ref c) A outer s H E) (defBody st) t ∧ t { nx := fun _ H' => Q .non H', rt := Q } (start N vs) H) :
    FnR P w K mg base (L2.CX P w) (k + 1) f sp := by
  have hb0 := F.fu.binds hb
  obtain ⟨oc, od, kV, doc, pm, an, cdv, ct, osl, rfl, lk, hcd⟩ := F.fu.ex
  obtain rfl : cdv = .ref c := F.code
  exact ((fn_of lk hcd S len fun A outer s H vs Q E hr hsp => hbody A outer s H vs Q E hr hsp).raw hb0 .nil).imp fun vs H Q E h => by rw [List.append_nil]; exact h
end
/-! ### what stands across the making of a lambda -/
theorem GrpAt.extN {CG : Addr} {H H' : Hp} {g : Addr} {ws : List Str} (h : GrpAt CG H g ws) (e : ExtN H H') : GrpAt CG H' g ws :=
  let ⟨dx, t, a, b⟩ := h
  ⟨dx, t, e _ _ a (fun _ z => by cases z), e _ _ b (fun _ z => by cases z)⟩
theorem OrdAt.extN {CG CO : Addr} {H H' : Hp} {o : Addr} {ws : List Str} (h : OrdAt CG CO H o ws) (e : ExtN H H') : OrdAt CG CO H' o ws := by
  obtain ⟨dx, t, g, d, us, kvs, a, b, c, i, k, q⟩ := h
  exact ⟨dx, t, g, d, us, kvs, e _ _ a (fun _ z => by cases z), e _ _ b (fun _ z => by cases z), c.extN e, i, e _ _ k (fun _ z => by cases z), q⟩
theorem TakAt.extN {CG : Addr} {H H' : Hp} {t : Addr} {ws : List Str} {x : Rn × Bool} (h : TakAt CG H t ws x) (e : ExtN H H') : TakAt CG H' t ws x :=
  let ⟨g, us, a, b, c⟩ := h
  ⟨g, us, e _ _ a (fun _ z => by cases z), b.extN e, c⟩
theorem AskC.extN {CG CO CA : Addr} {H H' : Hp} {a o tk : Addr} {ws : List Str} {As : List (Rn × Bool)} (h : AskC CG CO CA H a o tk ws As) (e : ExtN H H') : AskC CG CO CA H' a o tk ws As := by
  obtain ⟨⟨dx, h1⟩, h2, ⟨ts, h3, h4, h5⟩, h6, h7, h8, h9⟩ := h
  exact ⟨⟨dx, e _ _ h1 (fun _ z => by cases z)⟩, h2.extN e, ⟨ts, e _ _ h3 (fun _ z => by cases z), h4, fun i t x a b => (h5 i t x a b).extN e⟩, h6, h7, h8, h9⟩
/-! ### clash_in -/
/-- the facts of defs that make lambdas -/
structure TxL (K : PySem.W.Frag) (mg : Str → Option Value) (base : Heap) (ad : Ad) (T : List (Addr × Str)) (cC PC : Addr) : Prop where
  F : ∃ fd, FunC K "clash_in" "Asker.clash_in" s_Asker_clash_in ad.a_clash_in fd cC
  B : TabB base mg cC PC
  m : (PC, ("Asker.clash_in" : Str) ++ ".<locals>." ++ "<lambda>") ∈ T
  u : ∀ p ∈ T, p.1 = PC → p.2 = ("Asker.clash_in" : Str) ++ ".<locals>." ++ "<lambda>"
def spClash (CG CO CA : Addr) (TT : List (Addr × Str)) : Sp := fun vs H Q _ => ∃ (a o tk D : Addr) (ws : List Str) (As : List (Rn × Bool)) (L : List EV), vs = [.ref a, .ref D] ∧ AskC CG CO CA H a o tk ws As ∧ DAt H D L ∧ Tabs TT H ∧
  ((∀ r ∈ sel As false, r ∉ keysE L) → ∀ H', Ext H H' → Q .non H') ∧
  (∀ (t : Addr) (us : List Str) (r : Rn) (H' : Hp), ExtN H H' → Tabs TT H' → H' t = some (.tup (us.map V.str)) → r ∈ sel As false → r ∈ keysE L → IsG us (seg ws r.1 r.2) → (∀ r' ∈ sel As false, r' ∈ keysE L → rowLe (t, us) (t, gs (seg ws r'.1 r'.2)) = true) → Q (.ref t) H')
section
variable {P : Program} {w : World} {K : PySem.W.Frag} {mg : Str → Option Value} {base : Heap} {tL tM tA : Tok} {ad : Ad} {TT : List (Addr × Str)} {cC PC : Addr}
theorem ok_clash_in (T : Tx K mg tL tM tA ad) (TL : TxL K mg base ad TT cC PC) : FnR P w K mg base (L2.CX P w) 7 ad.a_clash_in (spClash ad.CG ad.CO ad.CA TT) := by
  obtain ⟨fd, F⟩ := TL.F
  have B := T.B
  have TB := TL.B
  have hT := TL.m
  have hu := TL.u
  have G_Asker_told_pairs := ok_told_pairs (P := P) (w := w) (base := base) T
  have G_Asker_group_of := ok_group_of_pair (P := P) (w := w) (base := base) T
  refine fnPC F sc_Asker_clash_in (fun _ _ _ _ _ _ us hl => match us, hl with | [_, _], _ => rfl) (fun vs H Q E h => ?_) (fun A outer s H vs Q E hr h => ?_)
  · obtain ⟨a, o, tk, D, ws, As, L, rfl, _⟩ := h
    rfl
  · refine ⟨_, PSs.nox (pss_cons (ps_setLc (i := 2) (own := [("pair", 3)]) (g := gName 3) rfl sc_Asker_clash_in.nd rfl rfl (sw_true rfl rfl rfl (by decide +kernel)) (pi_listK (K := K) rfl (Kp.pe_methR (E := E0) (pv 0) T.A.cl T.m_told_pairs G_Asker_told_pairs (hr.mono (by decide)) passL (pa_cons pe_bl pa_nil))) (blkOk_by (own := [("pair", 3)]) (N := N_Asker_clash_in) (sc := defScope s_Asker_clash_in) (by decide +kernel)) (fun _ _ _ _ _ => (pg_name (i := 3) sc_Asker_clash_in.nd rfl (Or.inl rfl))) (fun _ _ _ _ _ => (pts_one (pt_cmp (pc_din (hu_of hr) (pv 3) (pv 1))))) (fun _ _ _ _ _ => by exact (pe_fldK (K := K) rfl (Kp.pe_methR (E := E0) (pv 0) T.A.cl T.m_group_of G_Asker_group_of (hr.mono (by decide)) passL (pa_cons (pv 3) pa_nil)))))
(pss_one (ps_ret (pe_ifExp (pt_cmpR (op_eqEK (K := K) rfl hr.units) (pv 2) (pe_lst pa_nil) (nomark _)) pe_non (pe_ix (ix_listK (K := K) rfl) (pe_sortLen (K := K) (T := TT) rfl (by rfl) B.n_sorted B.n_len (pv 2) TB rfl (by exact hT) (by exact hu) (hr.mono (by decide)) (by decide +kernel) rfl (fun _ _ _ _ _ _ => rfl)) pe_int (fun _ _ => rfl)))))), ?_⟩
    obtain ⟨a, o, tk, D, ws, As, L, rfl, ak, hD, hTT, hN, hY⟩ := h
    obtain ⟨dx, ha⟩ := ak.at_
    have lim := ak.lim
    refine ⟨_, rfl, a, dx, _, rfl, ha, rfl, a, o, tk, ws, As, false, rfl, ak, fun f bs H1 x1 hf0 hf hbs => ?_⟩
    have sl := @sel_len As false
    have hbl : bs.length = (sel As false).length := hbs.1
    refine ⟨_, rfl, ⟨_, SqL.of hf⟩, fun D2 hD2 => ?_⟩
    have nD2 : ∀ b u, H b = some u → b ≠ D2 := fun b u hb => ne_of_none (x1 _ _ hb) hD2
    refine lcw (walk_list (xs := bs.map V.ref)) (fun i H' => ∃ ps : List (Addr × List Str), H' D2 = some (.lst (ps.map fun p => V.ref p.1)) ∧ ps.length ≤ i ∧ (∀ p ∈ ps, ∃ r, r ∈ sel As false ∧ r ∈ keysE L ∧ H' p.1 = some (.tup (p.2.map V.str)) ∧ IsG p.2 (seg ws r.1 r.2)) ∧ (∀ r ∈ (sel As false).take i, r ∈ keysE L → ∃ p ∈ ps, IsG p.2 (seg ws r.1 r.2)) ∧ Ext H1 H') ?_ (fun i H' _ hp => SqL.of (hp.choose_spec.2.2.2.2 _ _ hf)) (fun i x H' H'' hi hp hy => ?_) (fun H' hp => ?_)
    · exact ⟨[], upd_same, Nat.le_refl _, by simp, by simp, Ext.upd hD2⟩
    · obtain ⟨ps, hps, hpl, hp1, hp2, e⟩ := hp
      obtain ⟨rfl, hx⟩ := hy
      rw [List.length_map, hbl] at hi
      obtain ⟨b, hb, rfl⟩ : ∃ b, bs[i]? = some b ∧ x = .ref b := by
        rw [List.getElem?_map] at hx
        cases q : bs[i]? with
        | none => rw [q] at hx; cases hx
        | some b =>
          rw [q] at hx
          exact ⟨b, rfl, (Option.some.inj hx).symm⟩
      have hr : (sel As false)[i]? = some (sel As false)[i] := List.getElem?_eq_getElem hi
      have hrm : (sel As false)[i] ∈ sel As false := List.getElem_mem hi
      have htk : ∀ r, r ∈ (sel As false).take (i + 1) → r ∈ (sel As false).take i ∨ r = (sel As false)[i] := fun r h => by
        rw [List.take_add_one, hr] at h
        rcases List.mem_append.mp h with h | h
        · exact .inl h
        · exact .inr (by simpa using h)
      generalize (sel As false)[i] = r at hr hrm htk
      have x2 := x1.trans e
      have hbr : PrAt H'' b r := (hbs.2 i b r hb hr).ext e
      refine ⟨rfl, ?_⟩
      refine ⟨_, rfl, _, rfl, D, _, rfl, DGet.t (x2 _ _ hD.1) hbr.key, _, rfl, ?_⟩
      rw [valE_is]
      by_cases hin : r ∈ keysE L
      · rw [decide_eq_true hin]
        refine iteT ?_
        refine ⟨_, rfl, a, dx, _, rfl, x2 _ _ ha, rfl, _, rfl, a, o, tk, b, ws, As, r, rfl, ak.ext x2, hbr, sel_ok ak.oks r hrm, fun g us H4 x4 hg gg ig => ?_⟩
        obtain ⟨dz, t', hg1, ht'⟩ := gg
        refine ⟨g, ad.CG, dz, _, .ref t', rfl, hg1, T.G.cl, T.G_row, rfl, ?_⟩
        have h4 := x4 _ _ hps
        have nn : ∀ {b : Addr} {zs : List V} {ys}, H4 b = some (.tup zs) → upd H4 D2 ys b = some (.tup zs) := fun {b zs ys} hb => by
          rw [upd_ne (fun z => by rw [z, h4] at hb; cases hb)]
          exact hb
        refine ⟨_, h4, by rw [List.length_map]; exact Nat.lt_of_le_of_lt (by omega : ps.length ≤ 20) (by decide), ps ++ [(t', us)], ?_, by simp; omega, fun p hp => ?_, fun r' hr' hk' => ?_, fun b' u hb' => ?_⟩
        · rw [upd_same, List.map_append]
          rfl
        · rcases List.mem_append.mp hp with hp | hp
          · obtain ⟨r', h1, h2, h3, h5⟩ := hp1 p hp
            exact ⟨r', h1, h2, nn (x4 _ _ h3), h5⟩
          · rw [List.mem_singleton.mp hp]
            exact ⟨r, hrm, hin, nn ht', ig⟩
        · rcases htk r' hr' with h | rfl
          · obtain ⟨p, h1, h2⟩ := hp2 r' h hk'
            exact ⟨p, List.mem_append_left _ h1, h2⟩
          · exact ⟨_, List.mem_append_right _ List.mem_cons_self, ig⟩
        · rw [upd_ne (ne_of_none hb' hD2)]
          exact x4 _ _ (e _ _ hb')
      · rw [decide_eq_false hin]
        refine iteF ?_
        refine ⟨ps, hps, by omega, hp1, fun r' hr' hk' => ?_, e⟩
        rcases htk r' hr' with h | rfl
        · exact hp2 r' h hk'
        · exact absurd hk' hin
    · obtain ⟨ps, hps, hpl, hp1, hp2, e⟩ := hp
      rw [List.length_map, hbl] at hpl hp2
      rw [List.take_length] at hp2
      have x2 := x1.trans e
      refine ⟨_, rfl, by decide, fun q hq => ?_⟩
      have x3 := Ext.upd (o := HO.lst ([] : List V)) hq
      refine ⟨D2, q, _, rfl, rfl, SqL.of (x3 _ _ hps), SqL.of upd_same, _, rfl, ?_⟩
      cases ps with
      | nil =>
        refine iteT ?_
        refine hN (fun r hr hk => ?_) _ (x2.trans x3)
        obtain ⟨p, hp, _⟩ := hp2 r hr hk
        cases hp
      | cons p0 ps0 =>
        refine iteF ?_
        have hps3 := x3 _ _ hps
        have x03 := x2.trans x3
        have hp13 : ∀ p ∈ p0 :: ps0, ∃ r, r ∈ sel As false ∧ r ∈ keysE L ∧ upd H' q (HO.lst ([] : List V)) p.1 = some (.tup (p.2.map V.str)) ∧ IsG p.2 (seg ws r.1 r.2) := fun p hp => by
          obtain ⟨r, h1, h2, h3, h5⟩ := hp1 p hp
          exact ⟨r, h1, h2, x3 _ _ h3, h5⟩
        generalize p0 :: ps0 = ps, (show p0 :: ps0 ≠ [] from fun z => nomatch z) = hne at hps3 hp13 hp2 hpl
        refine ⟨_, rfl, D2, ps, rfl, ⟨SqL.of hps3, by omega, fun p hp => ?_⟩, hTT.ext x03, fun d H5 e5 T5 hd => ?_⟩
        · obtain ⟨r, _, _, h3, _⟩ := hp13 p hp
          exact h3
        · have hso := PySem.W.sort_pairwise (PySem.W.sortLe_total (PyProof.Rows.listOrd PyProof.Rows.itemOrd) false fun p : Addr × List Str => PySem.W.keyToks (rowKey p)) ps
          have hpm := List.mergeSort_perm ps rowLe
          have hso2 : (ps.mergeSort rowLe).Pairwise (fun a b => rowLe a b = true) := hso
          clear hso
          have hlen := List.length_mergeSort (le := rowLe) ps
          generalize ps.mergeSort rowLe = zs at hso2 hpm hlen
          cases zs with
          | nil => exact absurd (List.length_eq_zero_iff.mp hlen.symm) hne
          | cons z zs =>
            refine ⟨d, _, 0, .ref z.1, rfl, rfl, SqL.of upd_same, atI_nat (j := 0) rfl, ?_⟩
            have hz : z ∈ ps := hpm.mem_iff.mp List.mem_cons_self
            obtain ⟨r, h1, h2, h3, h5⟩ := hp13 z hz
            have eN : ExtN H (upd H5 d (.lst ((z :: zs).map fun p => V.ref p.1))) := ((ExtN.of x03).trans e5).trans (ExtN.of (Ext.upd hd))
            refine hY z.1 z.2 r _ eN (T5.ext (Ext.upd hd)) ?_ h1 h2 h5 fun r' hr' hk' => ?_
            · exact Ext.upd hd _ _ (e5 _ _ h3 (fun _ y => nomatch y))
            · obtain ⟨p', hp', ip'⟩ := hp2 r' hr' hk'
              have e1 := gs_eq ip'
              have h6 : rowLe z p' = true := by
                rcases List.mem_cons.mp (hpm.mem_iff.mpr hp') with rfl | h
                · exact (PySem.W.sortLe_total (PyProof.Rows.listOrd PyProof.Rows.itemOrd) false fun p : Addr × List Str => PySem.W.keyToks (rowKey p)).refl _
                · exact List.rel_of_pairwise_cons hso2 h
              rw [← e1]
              exact h6
end
end Kq
set_option maxHeartbeats 1000000
namespace Kq
open PySem PySem.Spec PyProof.Rows L2 Kp
open Evl (Ev EvL EvT EvA given)
open LamX (ExtN Tabs TabB)
/-! ### bar_of -/
theorem PrAt.extN {H H' : Hp} {b : Addr} {r : Rn} (h : PrAt H b r) (e : ExtN H H') : PrAt H' b r := e _ _ h (fun _ z => by cases z)
theorem VAt.extN {H H' : Hp} {v : V} {s : Option (Rn × Rn × Nat)} (h : VAt H v s) (e : ExtN H H') : VAt H' v s := h.keep fun b xs hb => e _ _ hb (fun _ z => by cases z)
theorem DAt.extN {H H' : Hp} {D : Addr} {L : List EV} (h : DAt H D L) (e : ExtN H H') : DAt H' D L := ⟨e _ _ h.1 (fun _ z => by cases z), fun z hz => (h.2 z hz).extN e⟩
def spBarOf (CG CO CA CS : Addr) (TT : List (Addr × Str)) : Sp := fun vs H Q _ => ∃ (a o tk g : Addr) (ws us : List Str) (As : List (Rn × Bool)) (r : Rn), vs = [.ref a, .ref g] ∧ AskC CG CO CA H a o tk ws As ∧ GrpAt CG H g us ∧ IsG us (seg ws r.1 r.2) ∧ OkR ws.length r ∧ Tabs TT H ∧
  ((∀ q ∈ sel As false, ¬ Cl (· ∈ sel As true ++ [r]) q) → ∀ H', Ext H H' → Q .non H') ∧
  (∀ (t go st : Addr) (us' : List Str) (ts : List Addr) (xs : List Row) (q : Rn) (H' : Hp), ExtN H H' → Tabs TT H' → q ∈ sel As false → Cl (· ∈ sel As true ++ [r]) q → H' t = some (.tup [.ref go, .ref st]) → GrpAt CG H' go us' → IsG us' (seg ws q.1 q.2) →
    H' st = some (.tup (ts.map V.ref)) → StpsAt CG CS H' ts ws xs → ChainTo ws.length (sel As true ++ [r]) q xs → Q (.ref t) H')
section
variable {P : Program} {w : World} {K : PySem.W.Frag} {mg : Str → Option Value} {base : Heap} {tL tM tA : Tok} {ad : Ad} {TT : List (Addr × Str)} {cC PC : Addr}
theorem sp_bar_len : ∀ vs H Q E, spBarOf ad.CG ad.CO ad.CA ad.CS TT vs H Q E → vs.length = ["self", "run"].length := fun vs H Q E h => by
  obtain ⟨a, o, tk, g, ws, us, As, r, rfl, _⟩ := h
  rfl
theorem body_bar_of (T : Tx K mg tL tM tA ad) (TL : TxL K mg base ad TT cC PC) : BodyX P w K mg base "Asker.bar_of" s_Asker_bar_of ad.a_bar_of N_Asker_bar_of 7 (spBarOf ad.CG ad.CO ad.CA ad.CS TT) := by
  have B := T.B
  have G_Asker_pair_of := ok_pair_of (P := P) (w := w) (base := base) T
  have G_Asker_told_pairs := ok_told_pairs (P := P) (w := w) (base := base) T
  have G_Asker_clash_in := ok_clash_in (P := P) (w := w) (base := base) T TL
  have G_Asker_steps_in := ok_steps_in (P := P) (w := w) (base := base) T
  have G_closed_by := ok_closed_by (P := P) (w := w) (base := base) T
  have G_Group_of := ok_group_of (P := P) (w := w) (base := base) T
  intro cdv A outer s H vs Q E hr h
  refine ⟨_, PSs.nox (pss_cons (ps_set (i := 2) sc_Asker_bar_of.nd rfl (Or.inl rfl) (Kp.pe_methR (E := E0) (pv 0) T.A.cl T.m_pair_of G_Asker_pair_of (hr.mono (by decide)) passL (pa_cons (pv 1) pa_nil)))
(pss_cons (ps_set (i := 3) sc_Asker_bar_of.nd rfl (Or.inl rfl) (pe_callR G_closed_by (hr.mono (by decide)) T.k_closed_by (by rfl) T.g_closed_by passL (pa_cons pe_dnewK (pa_cons (pe_lst (StX.pa_star (Kp.pe_methR (E := E0) (pv 0) T.A.cl T.m_told_pairs G_Asker_told_pairs (hr.mono (by decide)) passL (pa_cons pe_bl pa_nil)) (pa_cons (pv 2) pa_nil))) pa_nil))))
(pss_cons (ps_set (i := 4) sc_Asker_bar_of.nd rfl (Or.inl rfl) (Kp.pe_methR (E := E0) (pv 0) T.A.cl T.m_clash_in G_Asker_clash_in (hr.mono (by decide)) passL (pa_cons (pv 3) pa_nil)))
(pss_cons (ps_if (pt_cmp (pc_isN (pv 4)))
(pss_one (ps_ret pe_non))
pss_nil)
(pss_cons (ps_set (i := 5) sc_Asker_bar_of.nd rfl (Or.inl rfl) (ClX.pe_cmeth (E := E0) (pe_glob (v := .ref _) (by rfl) T.G.g rfl) T.G_rd T.G_of G_Group_of (hr.mono (by decide)) passL (pa_cons (pe_callTy (call_list_ofK (K := K) rfl) (by rfl) B.n_list (by decide +kernel) (pa_cons (pv 4) pa_nil)) pa_nil)))
(pss_one (ps_ret (pe_tup (pa_cons (pv 5) (pa_cons (Kp.pe_methR (E := E0) (pv 0) T.A.cl T.m_steps_in G_Asker_steps_in (hr.mono (by decide)) passL (pa_cons (pv 3) (pa_cons (Kp.pe_methR (E := E0) (pv 0) T.A.cl T.m_pair_of G_Asker_pair_of (hr.mono (by decide)) passL (pa_cons (pv 5) pa_nil)) pa_nil))) pa_nil)))))))))), ?_⟩
  obtain ⟨a, o, tk, g, ws, us, As, r, rfl, ak, gg, ig, hr0, hTT, hN, hY⟩ := h
  obtain ⟨dx, ha⟩ := ak.at_
  refine ⟨_, rfl, a, dx, _, rfl, ha, rfl, _, rfl, a, o, tk, g, ws, us, As, r, rfl, ak, gg, ig, hr0, fun t H1 x1 ht => ?_⟩
  refine fun d hd => ?_
  have xd := Ext.upd (o := HO.dK []) hd
  have od : upd H1 d (.dK []) d = some (.dK []) := upd_same
  generalize upd H1 d (.dK []) = H2 at xd od ⊢
  have x12 := x1.trans xd
  refine ⟨_, rfl, a, dx, _, rfl, x12 _ _ ha, rfl, a, o, tk, ws, As, true, rfl, ak.ext x12, fun f bs H3 x3 _ hf hbs => ?_⟩
  have lim := ak.lim
  have sl := @sel_len As true
  have l20 : bs.length ≤ 20 := by rw [hbs.1]; omega
  refine ⟨f, _, rfl, .inr (SqL.of hf), _, rfl, by simp; exact Nat.le_trans (by omega : bs.length + 1 ≤ 21) (by decide), fun m hm => ?_⟩
  have x4 := Ext.upd (o := HO.lst (bs.map V.ref ++ [.ref t])) hm
  have om : upd H3 m (.lst (bs.map V.ref ++ [.ref t])) m = some (.lst ((bs ++ [t]).map V.ref)) := by rw [upd_same, List.map_append]; rfl
  generalize upd H3 m (.lst (bs.map V.ref ++ [.ref t])) = H4 at x4 om ⊢
  have x14 := x12.trans (x3.trans x4)
  have ht4 := ht.ext (xd.trans (x3.trans x4))
  have okS : ∀ q ∈ sel As true ++ [r], OkR ws.length q := fun q hq => by
    rcases List.mem_append.mp hq with h | h
    · exact sel_ok ak.oks q h
    · rw [List.mem_singleton.mp h]
      exact hr0
  refine ⟨d, m, bs ++ [t], sel As true ++ [r], ws.length, rfl, (x3.trans x4) _ _ od, SqL.of om, prs_snoc (hbs.ext x4) ht4, ak.few, okS, by simp; omega, fun D L H5 x5 _ hD cl => ?_⟩
  have x15 := x14.trans x5
  have nd := cl.nd
  have okk := cl.ok
  have hm1 := cl.mem
  rw [keysE_ents] at nd okk hm1
  refine ⟨_, rfl, a, dx, _, rfl, x15 _ _ ha, rfl, _, rfl, a, o, tk, D, ws, As, L, rfl, ak.ext x15, hD, hTT.ext x15, fun hno H6 x6 => ?_, fun t' us' q H6 e6 T6 ht' hq hk iq hle => ?_⟩
  · refine ⟨_, rfl, _, rfl, ?_⟩
    refine iteT ?_
    exact hN (fun q hq c => hno q hq ((hm1 q).2 c)) H6 (x15.trans x6)
  · have e16 : ExtN H H6 := (ExtN.of x15).trans e6
    have ak6 := ak.extN e16
    have okq := sel_ok ak.oks q hq
    have lus : us'.length ≤ 7 := by
      have := iq.len
      have := seg_le (ws := ws) (lo := q.1) (hi := q.2)
      have := ak.few
      omega
    refine ⟨_, rfl, _, rfl, ?_⟩
    refine iteF ?_
    refine ⟨rfl, _, rfl, t', _, rfl, .inr (SqT.of ht'), fun l hl => ?_⟩
    have x7 := Ext.upd (o := HO.lst (us'.map V.str)) hl
    have ol : upd H6 l (.lst (us'.map V.str)) l = some (.lst (us'.map V.str)) := upd_same
    generalize upd H6 l (.lst (us'.map V.str)) = H7 at x7 ol ⊢
    have wdy : ∀ w ∈ us', Wordy w := fun w hw => seg_wd ak.ok w ((iq.mem w).1 hw)
    refine ⟨l, us', rfl, .inl ol, wdy, by omega, fun go us2 H8 ig2 x8 hgo ggo => ?_⟩
    have iq2 : IsG us2 (seg ws q.1 q.2) := ⟨ig2.so, ig2.nd, fun k => (ig2.mem k).trans (iq.mem k)⟩
    have x68 := x7.trans x8
    have ak8 := ak6.ext x68
    have e18 := e16.trans (ExtN.of x68)
    obtain ⟨dx8, ha8⟩ := ak8.at_
    refine ⟨_, rfl, _, rfl, a, dx8, _, rfl, ha8, rfl, _, rfl, _, rfl, a, dx8, _, rfl, ha8, rfl, _, rfl, a, o, tk, go, ws, us2, As, q, rfl, ak8, ggo, iq2, okq, fun tq H9 x9 htq => ?_⟩
    have hD9 := ((hD.extN e6).ext x68).ext x9
    refine ⟨a, o, tk, D, tq, ws, As, L, q, rfl, ak8.ext x9, hD9, htq, hk, nd, okk, cl.pv, fun st ts xs H10 x10 hst hsts hxl hok hch => ?_⟩
    refine ⟨(show (2 : Nat) ≤ sizeLine by rw [sizeLine_eq]; decide), fun p hp => ?_⟩
    have x11 := Ext.upd (o := HO.tup [V.ref go, V.ref st]) hp
    have x810 := x9.trans x10
    obtain ⟨c1, c2⟩ := hch (sel As true ++ [r]) cl.bs
    exact hY p go st us2 ts xs q _ (e18.trans (ExtN.of (x810.trans x11))) (((T6.ext x68).ext x810).ext x11) hq ((hm1 q).1 hk) upd_same ((ggo.ext x810).ext x11) iq2 (x11 _ _ hst) (hsts.ext x11) ⟨c1, c2, hok, hxl⟩
end
end Kq
set_option maxHeartbeats 1000000
namespace Kq
open PySem PySem.Spec PyProof.Rows L2 Kp
open Evl (Ev EvL EvT EvA given)
open LamX (ExtN Tabs TabB)
/-! ### answer -/
/-- all but the lists stay -/
def ExtL (H H' : Hp) : Prop := ∀ b u, H b = some u → (∀ zs, u ≠ .lst zs) → H' b = some u
theorem ExtL.of {H H' : Hp} (e : Ext H H') : ExtL H H' := fun b u h _ => e b u h
theorem ExtL.trans {H H1 H2 : Hp} (a : ExtL H H1) (b : ExtL H1 H2) : ExtL H H2 := fun c u h n => b c u (a c u h n) n
theorem ExtL.upd {H : Hp} {f : Addr} {xs : List V} {o : HO} (h : H f = some (.lst xs)) : ExtL H (upd H f o) := fun b u hb n => by
  rw [upd_ne (fun z => n xs (by rw [z, h] at hb; exact (Option.some.inj hb).symm))]
  exact hb
theorem GrpAt.extL {CG : Addr} {H H' : Hp} {g : Addr} {ws : List Str} (h : GrpAt CG H g ws) (e : ExtL H H') : GrpAt CG H' g ws :=
  let ⟨dx, t, a, b⟩ := h
  ⟨dx, t, e _ _ a (fun _ z => by cases z), e _ _ b (fun _ z => by cases z)⟩
theorem OrdAt.extL {CG CO : Addr} {H H' : Hp} {o : Addr} {ws : List Str} (h : OrdAt CG CO H o ws) (e : ExtL H H') : OrdAt CG CO H' o ws := by
  obtain ⟨dx, t, g, d, us, kvs, a, b, c, i, k, q⟩ := h
  exact ⟨dx, t, g, d, us, kvs, e _ _ a (fun _ z => by cases z), e _ _ b (fun _ z => by cases z), c.extL e, i, e _ _ k (fun _ z => by cases z), q⟩
theorem TakAt.extL {CG : Addr} {H H' : Hp} {t : Addr} {ws : List Str} {x : Rn × Bool} (h : TakAt CG H t ws x) (e : ExtL H H') : TakAt CG H' t ws x :=
  let ⟨g, us, a, b, c⟩ := h
  ⟨g, us, e _ _ a (fun _ z => by cases z), b.extL e, c⟩
def spAnswer (CG CO CA : Addr) (TT : List (Addr × Str)) : Sp := fun vs H Q _ => ∃ (a o tk g : Addr) (ws us : List Str) (As : List (Rn × Bool)) (r : Rn) (b : Bool), vs = [.ref a, .ref g, .bl b] ∧ AskC CG CO CA H a o tk ws As ∧ GrpAt CG H g us ∧ IsG us (seg ws r.1 r.2) ∧ OkR ws.length r ∧ Tabs TT H ∧ As.length < 20 ∧
  (b = true → ∀ q ∈ sel As false, ¬ Cl (· ∈ sel As true ++ [r]) q) ∧
  (b = false → sureB ws.length r = false ∧ ¬ Cl (· ∈ sel As true) r ∧ ∀ q ∈ sel As false, ¬ Cl (· ∈ sel As true) q) ∧
  ∀ H', (∀ c u, c ≠ tk → H c = some u → H' c = some u) → AskC CG CO CA H' a o tk ws (As ++ [(r, b)]) → Q .non H'
section
variable {P : Program} {w : World} {K : PySem.W.Frag} {mg : Str → Option Value} {base : Heap} {tL tM tA : Tok} {ad : Ad} {TT : List (Addr × Str)} {cC PC : Addr}
theorem ok_answer (T : Tx K mg tL tM tA ad) (TL : TxL K mg base ad TT cC PC) : FnR P w K mg base (L2.CX P w) 8 ad.a_answer (spAnswer ad.CG ad.CO ad.CA TT) := by
  obtain ⟨fd, F⟩ := T.F_Asker_answer
  have B := T.B
  have G_Asker_pair_of := ok_pair_of (P := P) (w := w) (base := base) T
  have G_Asker_is_sure := ok_is_sure (P := P) (w := w) (base := base) T
  have G_Asker_told_pairs := ok_told_pairs (P := P) (w := w) (base := base) T
  have G_Asker_clash_in := ok_clash_in (P := P) (w := w) (base := base) T TL
  have G_Asker_steps_in := ok_steps_in (P := P) (w := w) (base := base) T
  have G_closed_by := ok_closed_by (P := P) (w := w) (base := base) T
  have G_Group_of := ok_group_of (P := P) (w := w) (base := base) T
  refine fnP F sc_Asker_answer (fun _ _ _ _ _ _ us hl => match us, hl with | [_, _, _], _ => rfl) (fun vs H Q E h => ?_) (fun cdv A outer s H vs Q E hr h => ?_)
  · obtain ⟨a, o, tk, g, ws, us, As, r, b, rfl, _⟩ := h
    rfl
  · refine ⟨_, PSs.nox (pss_cons (ps_set (i := 3) sc_Asker_answer.nd rfl (Or.inl rfl) (Kp.pe_methR (E := E0) (pv 0) T.A.cl T.m_pair_of G_Asker_pair_of (hr.mono (by decide)) passL (pa_cons (pv 1) pa_nil)))
(pss_cons (ps_if (pt_not (pt_val (pe_callB (call_isiKK (K := K) rfl) (by rfl) B.n_isinstance (by decide +kernel) (pa_cons (pv 2) (pa_cons (pe_bltn (v := .ty "bool") (u := .type "bool") (by rfl) B.n_bool (by decide +kernel) rfl) pa_nil)))))
(pss_one ps_never)
pss_nil)
(Evl.pss_cut (ps_if (PW.pt (pw_and (pt_not (pt_val (pv 2))) (pw_and1 (pt_val (Kp.pe_methR (E := E0) (pv 0) T.A.cl T.m_is_sure G_Asker_is_sure (hr.mono (by decide)) passL (pa_cons (pv 3) pa_nil))))))
(pss_one ps_never)
pss_nil)
(Evl.pss_cut (ps_set (i := 4) sc_Asker_answer.nd rfl (Or.inl rfl) (pe_callR G_closed_by (hr.mono (by decide)) T.k_closed_by (by rfl) T.g_closed_by passL (pa_cons pe_dnewK (pa_cons (pe_lst (StX.pa_star (Kp.pe_methR (E := E0) (pv 0) T.A.cl T.m_told_pairs G_Asker_told_pairs (hr.mono (by decide)) passL (pa_cons pe_bl pa_nil)) (StX.pa_star (pe_ifExp (pt_val (pv 2)) (pe_lst (pa_cons (pv 3) pa_nil)) (pe_lst pa_nil)) pa_nil))) pa_nil))))
(Evl.pss_cut (ps_if (PW.pt (pw_and (pt_not (pt_val (pv 2))) (pw_and1 (pt_cmp (pc_din (hu_of hr) (pv 3) (pv 4))))))
(pss_one ps_never)
pss_nil)
(pss_cons (ps_set (i := 5) sc_Asker_answer.nd rfl (Or.inl rfl) (Kp.pe_methR (E := E0) (pv 0) T.A.cl T.m_clash_in G_Asker_clash_in (hr.mono (by decide)) passL (pa_cons (pv 4) pa_nil)))
(pss_cons (ps_if (pt_cmp (pc_notN (pv 5)))
(pss_cons (ps_set (i := 6) sc_Asker_answer.nd rfl (Or.inl rfl) (ClX.pe_cmeth (E := E0) (pe_glob (v := .ref _) (by rfl) T.G.g rfl) T.G_rd T.G_of G_Group_of (hr.mono (by decide)) passL (pa_cons (pe_callTy (call_list_ofK (K := K) rfl) (by rfl) B.n_list (by decide +kernel) (pa_cons (pv 5) pa_nil)) pa_nil)))
(pss_one ps_never))
pss_nil)
(pss_one (ps_expr (pe_bmK (K := K) rfl PySem.F.plainAttrs_list PySem.F.slot_list_append PySem.F.type_list_append mt_append (pe_fldK (K := K) rfl (pv 0)) (pa_cons (pe_tup (pa_cons (pv 1) (pa_cons (pv 2) pa_nil))) pa_nil))))))))))), ?_⟩
    obtain ⟨a, o, tk, g, ws, us, As, r, b, rfl, ak, gg, ig, hr0, hTT, l20, hT, hF, hQ⟩ := h
    obtain ⟨dx, ha⟩ := ak.at_
    refine ⟨_, rfl, a, dx, _, rfl, ha, rfl, _, rfl, a, o, tk, g, ws, us, As, r, rfl, ak, gg, ig, hr0, fun t H1 x1 ht => ?_⟩
    refine ⟨_, rfl, .bl b, _, .type "bool", .type "bool", true, rfl, .ty "bool", .base (.bl b), kit_ty (by decide +kernel), _, rfl, iteF ?_⟩
    refine ⟨fun σ' H' => σ' = [some (V.ref a), some (V.ref g), some (V.bl b), some (V.ref t), none, none, none] ∧ Ext H1 H', ?_, ?_⟩
    · refine ⟨_, rfl, _, rfl, ?_⟩
      cases b with
      | true => exact iteF ⟨rfl, Ext.rfl'⟩
      | false =>
        refine iteT ?_
        refine ⟨_, rfl, a, dx, _, rfl, x1 _ _ ha, rfl, _, rfl, a, o, tk, t, ws, As, r, rfl, ak.ext x1, ht, hr0, fun H2 x2 => ?_⟩
        refine ⟨_, rfl, ?_⟩
        rw [(hF rfl).1]
        exact iteF ⟨rfl, x2⟩
    · rintro σ' H2 ⟨rfl, x2⟩
      have lim := ak.lim
      have sl := @sel_len As true
      have ht2 := ht.ext x2
      refine ⟨fun σ' H' => ∃ D L, σ' = [some (V.ref a), some (V.ref g), some (V.bl b), some (V.ref t), some (V.ref D), none, none] ∧ Ext H2 H' ∧ DAt H' D L ∧ ClosedE (sel As true ++ if b = true then [r] else []) ws.length (L.map (·.1)), ?_, ?_⟩
      · refine fun d hd => ?_
        have xd := Ext.upd (o := HO.dK []) hd
        have od : upd H2 d (.dK []) d = some (.dK []) := upd_same
        generalize upd H2 d (.dK []) = H3 at xd od ⊢
        have x13 := x1.trans (x2.trans xd)
        have okS : ∀ q ∈ sel As true ++ (if b = true then [r] else []), OkR ws.length q := fun q hq => by
          rcases List.mem_append.mp hq with h | h
          · exact sel_ok ak.oks q h
          · cases b with
            | true => rw [List.mem_singleton.mp h]; exact hr0
            | false => cases h
        have lenS : (sel As true ++ if b = true then [r] else []).length ≤ 100 := by
          rw [List.length_append]
          have : (if b = true then [r] else []).length ≤ 1 := by cases b <;> simp
          omega
        refine ⟨_, rfl, a, dx, _, rfl, x13 _ _ ha, rfl, a, o, tk, ws, As, true, rfl, ak.ext x13, fun f bs H4 x4 _ hf hbs => ?_⟩
        have lbs := hbs.1
        have ht4 := ht2.ext (xd.trans x4)
        refine ⟨f, _, rfl, .inr (SqL.of hf), ?_⟩
        refine ⟨_, rfl, _, rfl, ?_⟩
        cases b with
        | true =>
          refine iteT ?_
          refine ⟨_, rfl, (show (1 : Nat) ≤ sizeLine by rw [sizeLine_eq]; decide), fun m1 hm1 => ?_⟩
          have y1 := Ext.upd (o := HO.lst [V.ref t]) hm1
          refine ⟨m1, _, rfl, .inr (SqL.of upd_same), ?_⟩
          refine ⟨by simp; exact Nat.le_trans (by omega : bs.length + 1 ≤ 21) (by decide), fun m hm => ?_⟩
          have y2 := y1.trans (Ext.upd (o := HO.lst (bs.map V.ref ++ [V.ref t])) hm)
          exact ⟨d, m, bs ++ [t], sel As true ++ [r], ws.length, rfl, (x4.trans y2) _ _ od, SqL.of (by rw [List.map_append]; exact upd_same), prs_snoc (hbs.ext y2) (ht4.ext y2), ak.few, okS, lenS, fun D L H5 x5 _ hD cl => ⟨D, L, rfl, (xd.trans (x4.trans y2)).trans x5, hD, cl⟩⟩
        | false =>
          refine iteF ?_
          refine ⟨by decide, fun m1 hm1 => ?_⟩
          have y1 := Ext.upd (o := HO.lst ([] : List V)) hm1
          refine ⟨m1, _, rfl, .inr (SqL.of upd_same), ?_⟩
          refine ⟨by simp; exact Nat.le_trans (by omega : bs.length ≤ 21) (by decide), fun m hm => ?_⟩
          have y2 := y1.trans (Ext.upd (o := HO.lst (bs.map V.ref ++ [])) hm)
          exact ⟨d, m, bs, sel As true ++ [], ws.length, rfl, (x4.trans y2) _ _ od, SqL.of (by rw [upd_same]; simp), (List.append_nil (sel As true)).symm ▸ hbs.ext y2, ak.few, okS, lenS, fun D L H5 x5 _ hD cl => ⟨D, L, rfl, (xd.trans (x4.trans y2)).trans x5, hD, cl⟩⟩
      · rintro σ' H3 ⟨D, L, rfl, x3, hD, cl⟩
        refine ⟨fun σ' H' => σ' = [some (V.ref a), some (V.ref g), some (V.bl b), some (V.ref t), some (V.ref D), none, none] ∧ Ext H3 H', ?_, ?_⟩
        · have hm1 := cl.mem
          rw [keysE_ents] at hm1
          refine ⟨_, rfl, _, rfl, ?_⟩
          cases b with
          | true => exact iteF ⟨rfl, Ext.rfl'⟩
          | false =>
            refine iteT ?_
            refine ⟨_, rfl, _, rfl, D, _, rfl, DGet.t hD.1 (ht2.ext x3).key, _, rfl, ?_⟩
            rw [valE_is, decide_eq_false (fun h => (hF rfl).2.1 (by simpa using (hm1 r).1 h))]
            exact iteF ⟨rfl, Ext.rfl'⟩
        · rintro σ' H4 ⟨rfl, x4⟩
          have hm1 := cl.mem
          rw [keysE_ents] at hm1
          have x14 := x1.trans (x2.trans (x3.trans x4))
          have none' : ∀ q ∈ sel As false, q ∉ keysE L := fun q hq hk => by
            have c := (hm1 q).1 hk
            cases b with
            | true => exact hT rfl q hq c
            | false => exact (hF rfl).2.2 q hq (by simpa using c)
          refine ⟨_, rfl, a, dx, _, rfl, x14 _ _ ha, rfl, _, rfl, a, o, tk, D, ws, As, L, rfl, ak.ext x14, hD.ext x4, hTT.ext x14, fun hno H5 x5 => ?_, fun t' us' q H6 e6 T6 ht' hq hk iq hle => absurd hk (none' q hq)⟩
          refine ⟨_, rfl, _, rfl, iteF ?_⟩
          have x15 := x14.trans x5
          have ak5 := ak.ext x15
          obtain ⟨ts, htk, lts, hts⟩ := ak5.taken
          obtain ⟨dx5, ha5⟩ := ak5.at_
          refine ⟨_, rfl, a, ad.CA, dx5, _, .ref tk, rfl, ha5, T.A.cl, T.A_taken, rfl, ?_⟩
          refine ⟨.inl ⟨rfl, _, SqL.of htk⟩, ?_⟩
          refine ⟨_, rfl, _, rfl, (show (2 : Nat) ≤ sizeLine by rw [sizeLine_eq]; decide), fun q hq => ?_⟩
          have x6 := Ext.upd (o := HO.tup [V.ref g, V.bl b]) hq
          have oq : upd H5 q (HO.tup [V.ref g, V.bl b]) q = some (.tup [.ref g, .bl b]) := upd_same
          generalize upd H5 q (HO.tup [V.ref g, V.bl b]) = H6 at x6 oq ⊢
          have htk6 := x6 _ _ htk
          refine ⟨tk, _, _, rfl, rfl, htk6, by rw [List.length_map, lts]; exact Nat.lt_of_le_of_lt (by omega : As.length ≤ 20) (by decide), ?_⟩
          have eL : ExtL H6 (upd H6 tk (.lst (ts.map V.ref ++ [.ref q]))) := ExtL.upd htk6
          have e5 : ExtL H5 (upd H6 tk (.lst (ts.map V.ref ++ [.ref q]))) := (ExtL.of x6).trans eL
          refine hQ _ (fun c u n hc => ?_) ⟨⟨dx5, e5 _ _ ha5 (fun _ z => by cases z)⟩, ak5.ord.extL e5, ⟨ts ++ [q], by rw [upd_same, List.map_append]; rfl, by simp [lts], fun i t' x h1 h2 => ?_⟩, ak.ok, ak.few, fun x hx => ?_, by simp; omega⟩
          · rw [upd_ne n]
            exact x6 _ _ (x15 _ _ hc)
          · rcases Nat.lt_or_ge i ts.length with hi | hi
            · rw [List.getElem?_append_left hi] at h1
              rw [List.getElem?_append_left (by rw [← lts]; exact hi)] at h2
              exact (hts i t' x h1 h2).extL e5
            · rw [List.getElem?_append_right hi] at h1
              rw [List.getElem?_append_right (by rw [← lts]; exact hi), ← lts] at h2
              have hz : i - ts.length = 0 := by
                have := (List.getElem?_eq_some_iff.mp h1).1
                simp at this
                omega
              rw [hz] at h1 h2
              cases h1
              cases h2
              exact ⟨g, us, eL _ _ oq (fun _ z => by cases z), (gg.ext (x15.trans x6)).extL eL, ig⟩
          · rcases List.mem_append.mp hx with h | h
            · exact ak.oks x h
            · rw [List.mem_singleton.mp h]
              exact hr0
end
end Kq
set_option maxHeartbeats 600000
/-! {one.f: True for one in e}: a dict comprehension whose keys are the tuples of own instances. -/
namespace Kp
open PySem PySem.Spec PyProof.Rows L2
/-- an instance, its tuple, the key -/
abbrev GRow := Addr × Addr × List Key
def keysOf (gs : List GRow) : List (List Key × V) := gs.foldl (fun kvs g => putK kvs g.2.2 (.bl true)) []
theorem keysOf_snoc (gs : List GRow) (g : GRow) : keysOf (gs ++ [g]) = putK (keysOf gs) g.2.2 (.bl true) := by
  unfold keysOf
  rw [List.foldl_append]
  rfl
theorem keysOf_len : ∀ n (gs : List GRow), gs.length = n → (keysOf gs).length ≤ n
  | 0, gs, h => by
    rw [List.length_eq_zero_iff.mp h]
    exact Nat.le_refl _
  | n + 1, gs, h => by
    have hne : gs ≠ [] := fun z => by rw [z] at h; cases h
    rw [← List.dropLast_concat_getLast hne, keysOf_snoc]
    have h1 := keysOf_len n gs.dropLast (by rw [List.length_dropLast, h]; rfl)
    have h2 := length_putK (keysOf gs.dropLast) (gs.getLast hne).2.2 (.bl true)
    omega
structure GRows (K : PySem.W.Frag) (C : Addr) (f : Str) (H : Hp) (gs : List GRow) : Prop where
  cl : Cls K C
  no : NoAttr K C f
  few : gs.length ≤ 1000
  at_ : ∀ g ∈ gs, ∃ dx fs, H g.1 = some (.ins C dx fs) ∧ fs.lookup f = some (.ref g.2.1) ∧ H g.2.1 = some (.tup (g.2.2.map kV))
def tDcRow (K : PySem.W.Frag) (C : Addr) (f : Str) (te : TE) : TE := fun σ H Q => te σ H fun v H1 => ∃ (a : Addr) (gs : List GRow), v = .ref a ∧ (SqL K H1 a (gs.map fun g => V.ref g.1) ∨ SqT K H1 a (gs.map fun g => V.ref g.1)) ∧ GRows K C f H1 gs ∧
  ∀ D, H1 D = none → Q (.ref D) (upd H1 D (.dT (keysOf gs)))
def dcScope (scope : Scope) (y : Str) : Bool :=
  decide (scope.kind = .function) && (scope.names.all fun z => !decide (z.2 = .cell) && !decide (z.2 = .free) && (!decide (z.2 = .local) || decide (scope.names.lookup z.1 = some .local))) && decide (scope.names.lookup y = some .local) && !(y == ("__debug__" : Str))
section
variable {X : Cx} {K : PySem.W.Frag} {C0 : Addr} {f y : Str} {e : Expr} {te : TE} {scope : Scope} {pos p1 p2 p3 p4 : Pos} {j : Nat}
theorem dc_row_goes {pins : List (Addr × Obj)} {σ : L2.St} {H1 : Hp} {s2 : Shared} {gs : List GRow} {J src : Addr} {St : Nat → Heap → Prop} {cl : List (Str × Addr)} (hK : X.K = K) (hu : X.A.units + 64 < cLine)
    (hk : scope.kind = .function) (hl : scope.names.lookup y = some .local) (hy : (y == ("__debug__" : Str)) = false) (hb : ∀ env, attributeBase (.Name y p1) f env (eval (.Name y p1) env) = eval (.Name y p1) env)
    (I : Inv X pins σ H1 s2) (R : GRows K C0 f H1 gs) (W : Goes X.prog X.w X.A (.Name y p2) J [J, src] [J] gs.length (fun i v _ => (((gs.map (·.1)).map Value.ref).toArray)[i]? = some v) St) (st0 : St 0 s2.heap) (hJ : FpOk X pins H1 J) (hJs : J < s2.heap.objs.size) (hs : src < s2.heap.objs.size)
    {use : Option (Value → Sem Unit)} {Qf : Value → Shared → Prop}
    (q : ∀ (D C : Addr) (s' : Shared) (m : Str → Option Value), H1 D = none → Inv X pins σ (upd H1 D (.dT (keysOf gs))) s' → s'.heap.Ns C m → FpOk X pins (upd H1 D (.dT (keysOf gs))) C → compEnds (model X.prog X.w) X.A X.xe use Qf (.ref D) (compEnvC scope cl C X.env) (.ok .next) s') :
    DcGoes X.prog X.w X.A X.xe X.env scope cl (.Name y p2) [] (.Attribute (.Name y p1) f p3) (.Constant (.bool true) j p4) use Qf (.ref J) s2 := by
  subst hK
  refine ⟨J, [J, src], [J], gs.length, _, St, rfl, W, st0, fun D C s3 hB hD0 => ?_⟩
  obtain ⟨⟨h3, tk3, rfl⟩, old, nD, nC, hDC, hnm⟩ := hB
  have hDn : H1 D = none := I.hok.fresh nD
  have hCn : H1 C = none := I.hok.fresh nC
  have JD : J ≠ D := Nat.ne_of_lt (Nat.lt_of_lt_of_le hJs nD)
  have JC : J ≠ C := Nat.ne_of_lt (Nat.lt_of_lt_of_le hJs nC)
  have sD : src ≠ D := Nat.ne_of_lt (Nat.lt_of_lt_of_le hs nD)
  have sC : src ≠ C := Nat.ne_of_lt (Nat.lt_of_lt_of_le hs nC)
  have fC : FpOk X pins H1 C := I.fpOk nC hCn
  have kinds : (compEnvC scope cl C X.env).kindOf y = some .local := lookup_relabel_local hl
  have hp : ((compEnvC scope cl C X.env).scope.kind == .class || ((compEnvC scope cl C X.env).scope.kind == .module && (compEnvC scope cl C X.env).locals != (compEnvC scope cl C X.env).globals)) = false := by
    show (scope.kind == .class || (scope.kind == .module && _)) = false
    rw [hk]
    rfl
  have no : ∀ {kvs : List (List Key × V)} {b : Addr}, b ≠ D → H1 b = none → upd H1 D (.dT kvs) b = none := fun {kvs b} h n => by
    rw [upd_ne h]
    exact n
  refine ⟨fun i s' => Inv X pins σ (upd H1 D (.dT (keysOf (gs.take i)))) s' ∧ ∃ m, s'.heap.Ns C m, ⟨?_, _, hnm⟩, ?_, ?_, ?_⟩
  · have hsys := I.big
    refine I.laid (o := .dT (keysOf (gs.take 0))) old nD ?_
    have e0 : keysOf (gs.take 0) = [] := by rw [List.take_zero]; rfl
    rw [e0]
    refine ⟨by decide, ?_, [], .nil, _, _, _, hD0, ⟨rfl, rfl, rfl⟩, rfl, by simp, List.nodup_nil⟩
    simpa using Nat.ne_of_gt (Nat.lt_of_lt_of_le hsys nD)
  · rintro i s1 h' tk ⟨I1, m, hm⟩ hk' _
    refine ⟨I1.turned (fun b o hb e => hk' b o (by simpa using hb) e) (no JD hJ.1) hJ.2.1 hJ.2.2.2.1 hJ.2.2.2.2.1 hJ.2.2.2.2.2, m, ?_⟩
    exact hm.at' fun o e => hk' _ o (by simpa using JC.symm) e
  · rintro i v s1 hi hv st ⟨I1, m, hm⟩
    have hgi : gs[i]? = some gs[i] := List.getElem?_eq_getElem hi
    have hgm : gs[i] ∈ gs := List.getElem_mem hi
    generalize gs[i] = g at hgi hgm
    obtain ⟨dx, fs, hg1, hg2, hg3⟩ := R.at_ g hgm
    have ev : v = .ref g.1 := by
      rw [List.getElem?_toArray, List.getElem?_map, List.getElem?_map, hgi] at hv
      exact (Option.some.inj hv).symm
    subst ev
    have up : ∀ {b : Addr} {o : HO}, H1 b = some o → upd H1 D (.dT (keysOf (gs.take i))) b = some o := fun {b o} h => by
      rw [upd_ne (ne_of_none h hDn)]
      exact h
    refine wpAny_assign_Name (wpAny_storeName_local kinds hm (fun h4 n4 sb4 => ?_) hp)
    have I4 : Inv X pins σ (upd H1 D (.dT (keysOf (gs.take i)))) { s1 with heap := h4 } := I1.turned (t' := s1.toks) (fun b o hb e => (sb4.2 b hb).trans e) (no hDC.symm hCn) fC.2.1 fC.2.2.2.1 fC.2.2.2.2.1 fC.2.2.2.2.2
    have st4 := W.frame _ _ h4 st fun b hb o e => (sb4.2 b (by
      rcases List.mem_cons.mp hb with rfl | hb
      · exact JC
      · rw [List.mem_singleton.mp hb]
        exact sC)).trans e
    refine wpAny_tests_nil ?_
    show wpAny _ _ _ _ _ _
    refine attr_of (hb _) (wpAny_Name (wpAny_loadName_local hk kinds n4 (v := .ref g.1) (by simp) ?_) hy)
    obtain ⟨mA, O, r, _, _, _⟩ := ins_get I4.hok (up hg1)
    obtain ⟨u, hu', ru⟩ := RelO.some_of (v := .ref g.2.1) (o := mA f) (by rw [← hg2]; exact r f)
    refine get_map I4.kIn O (R.cl.get f) R.cl.hd R.no hu' (handed_of ru) ?_
    cases (show u = Value.ref g.2.1 from ru)
    refine Constant_bool ?_
    obtain ⟨z, hd, xs, rel, dd⟩ := dt_of I4.hok (show upd H1 D (.dT (keysOf (gs.take i))) D = some _ from upd_same)
    have hz : xs.length ≤ sizeLine := by
      rw [← Paired.length rel]
      exact z
    have few := R.few
    have hlk : (keysOf (gs.take i)).length ≤ 1000 := Nat.le_trans (keysOf_len _ _ rfl) (by rw [List.length_take]; omega)
    have hl2 : (putK (keysOf (gs.take i)) g.2.2 (.bl true)).length ≤ sizeLine := by
      have := length_putK (keysOf (gs.take i)) g.2.2 (.bl true)
      rw [sizeLine_eq]
      omega
    refine wpAny_dictSet_heap (hsz := hz) (knd := tupleKind (mixKind X.prog X.w)) (by show X.A.units < cLine; omega) (key_of I4.hok (up hg3)) dd fun h6 dd' hs6 => ?_
    have he : ∃ q, h6.get? D = some q := let ⟨q, _, _, hq, _⟩ := dd'; ⟨q, hq⟩
    refine ⟨⟨?_, _, n4.at' fun o e => (hs6.2 C hDC.symm).trans e⟩, W.frame _ _ h6 st4 fun b hb o e => (hs6.2 b ?_).trans e⟩
    · rw [List.take_add_one, hgi]
      show Inv X pins σ (upd H1 D (.dT (keysOf (gs.take i ++ [g])))) _
      rw [keysOf_snoc, ← upd_upd (H := H1) (a := D) (o := .dT (keysOf (gs.take i)))]
      refine d_write (I4.tok _) (by rw [upd_same]; exact True.intro) hs6 he (dt_at hl2 hd ((rel.put g.2.2 (up hg3) (show L2.RelV (.bl true) (.bool true) from rfl)).keeps fun c ys ec => ?_) dd')
      rw [upd_ne (ne_of ec upd_same (fun z => nomatch z))]
      exact ec
    · rcases List.mem_cons.mp hb with rfl | hb
      · exact JD
      · rw [List.mem_singleton.mp hb]
        exact sD
  · rintro s1 ⟨I1, m, hm⟩
    rw [List.take_length] at I1
    exact q D C s1 m hDn I1 hm ⟨no hDC.symm hCn, fC.2⟩
/-- the iterator over a list or a tuple of instances stands -/
theorem dc_row_iter {pins : List (Addr × Obj)} {σ : L2.St} {H1 : Hp} {s1 : Shared} {gs : List GRow} {a : Addr} {cl : List (Str × Addr)} {use : Option (Value → Sem Unit)} {Qf : Value → Shared → Prop} (hK : X.K = K) (hc : X.calm = true) (hu : X.A.units + 64 < cLine)
    (hk : scope.kind = .function) (hl : scope.names.lookup y = some .local) (hy : (y == ("__debug__" : Str)) = false) (hb : ∀ env, attributeBase (.Name y p1) f env (eval (.Name y p1) env) = eval (.Name y p1) env)
    (I1 : Inv X pins σ H1 s1) (R : GRows K C0 f H1 gs) (hl1 : SqL K H1 a (gs.map fun g => V.ref g.1) ∨ SqT K H1 a (gs.map fun g => V.ref g.1))
    (q : ∀ (D C : Addr) (s' : Shared) (m : Str → Option Value), H1 D = none → Inv X pins σ (upd H1 D (.dT (keysOf gs))) s' → s'.heap.Ns C m → FpOk X pins (upd H1 D (.dT (keysOf gs))) C → compEnds (model X.prog X.w) X.A X.xe use Qf (.ref D) (compEnvC scope cl C X.env) (.ok .next) s') :
    wpAny (model X.prog X.w) X.A (pyIter (.ref a)) (DcGoes X.prog X.w X.A X.xe X.env scope cl (.Name y p2) [] (.Attribute (.Name y p1) f p3) (.Constant (.bool true) j p4) use Qf) X.xe s1 := by
  have hlen : ((((gs.map (·.1)).map Value.ref).toArray).size) = gs.length := by simp
  have hm : (gs.map fun g => V.ref g.1) = (gs.map (·.1)).map V.ref := by
    rw [List.map_map]
    rfl
  have hh : X.A.handled = none := I1.ok.hd hc
  rcases hl1 with hl1 | hl1
  · subst hK
    rw [hm] at hl1
    obtain ⟨its, r2, pl, hz⟩ := I1.list hl1
    obtain rfl := vals_refs r2
    have hlt : a < s1.heap.objs.size := by
      obtain ⟨o, n, e, _⟩ := pl
      exact Heap.lt_size e
    refine wpAny_pyIter_list pl.isList ?_
    have I2 : Inv X pins σ H1 { s1 with heap := s1.heap.push { cls := .type "list_iterator", data := .fields #[.ref a, .int 0 0] } } := I1.kept (t' := s1.toks) fun b o e => Heap.get?_push_of_some _ e
    have W := PySem.Goes.list (prog := X.prog) (w := X.w) (A := X.A) (target := .Name y p2) hh s1.heap.objs.size a (Nat.ne_of_lt hlt) ((gs.map (·.1)).map Value.ref).toArray
    rw [hlen] at W
    exact dc_row_goes rfl hu hk hl hy hb I2 R W ⟨⟨_, Heap.get?_push_size _ rfl, rfl, rfl⟩, pl.isList.push _⟩ (I1.fpOk (Nat.le_refl _) (I1.hok.fresh (Nat.le_refl _))) (by show _ < (s1.heap.push _).objs.size; rw [Heap.size_push]; exact Nat.lt_succ_self _) (by show _ < (s1.heap.push _).objs.size; rw [Heap.size_push]; exact Nat.lt_succ_of_lt hlt) q
  · subst hK
    rw [hm] at hl1
    obtain ⟨its, r2, pl, hz⟩ := I1.tuple hl1
    obtain rfl := vals_refs r2
    have hlt : a < s1.heap.objs.size := pl.lt
    have pt : s1.heap.IsTuple a ((gs.map (·.1)).map Value.ref).toArray := by
      obtain ⟨o, ho, hcls, n, hd⟩ := pl
      exact ⟨o, ho, hcls, n, hd⟩
    refine wpAny_pyIter_tuple pt ?_
    have I2 : Inv X pins σ H1 { s1 with heap := s1.heap.push { cls := .type "tuple_iterator", data := .fields #[.ref a, .int 0 0] } } := I1.kept (t' := s1.toks) fun b o e => Heap.get?_push_of_some _ e
    have W := PySem.Goes.tuple (prog := X.prog) (w := X.w) (A := X.A) (target := .Name y p2) hh s1.heap.objs.size a (Nat.ne_of_lt hlt) ((gs.map (·.1)).map Value.ref).toArray
    rw [hlen] at W
    exact dc_row_goes rfl hu hk hl hy hb I2 R W ⟨⟨_, Heap.get?_push_size _ rfl, rfl, rfl⟩, pt.at fun o e => Heap.get?_push_of_some _ e⟩ (I1.fpOk (Nat.le_refl _) (I1.hok.fresh (Nat.le_refl _))) (by show _ < (s1.heap.push _).objs.size; rw [Heap.size_push]; exact Nat.lt_succ_self _) (by show _ < (s1.heap.push _).objs.size; rw [Heap.size_push]; exact Nat.lt_succ_of_lt hlt) q
structure DcScope (scope : Scope) (y : Str) : Prop where
  kind : scope.kind = .function
  cell : ∀ z ∈ scope.names, z.2 ≠ .cell
  free : ∀ z ∈ scope.names, z.2 ≠ .free
  own : ∀ z ∈ scope.names, z.2 = .local → scope.names.lookup z.1 = some .local
  loc : scope.names.lookup y = some .local
  db : (y == ("__debug__" : Str)) = false
theorem DcScope.of {scope : Scope} {y : Str} (h : dcScope scope y = true) : DcScope scope y := by
  unfold dcScope at h
  simp only [Bool.and_eq_true, Bool.or_eq_true, Bool.not_eq_true', decide_eq_true_eq, decide_eq_false_iff_not, List.all_eq_true] at h
  obtain ⟨⟨⟨hk, hn⟩, hl⟩, hy⟩ := h
  exact ⟨hk, fun z hz => (hn z hz).1.1, fun z hz => (hn z hz).1.2, fun z hz ez => (hn z hz).2.resolve_left fun q => q ez, hl, hy⟩
/-- {y.f: True for y in e} -/
theorem pe_dcRow (hK : X.K = K) (hc : X.calm = true) (hu : X.A.units + 64 < cLine) (he : PE X e te) (hsc : dcScope scope y = true) (hb : ∀ env, attributeBase (.Name y p1) f env (eval (.Name y p1) env) = eval (.Name y p1) env := by intro _; rfl) (hs : ∀ x, foldedSetIterable e X.env x = pure x := by intro _; rfl) :
    PE X (.DictComp (.Attribute (.Name y p1) f p3) (.Constant (.bool true) j p4) [⟨.Name y p2, e, [], 0⟩] scope pos) (tDcRow K C0 f te) := by
  refine ⟨fun pins s σ H Q I h => ?_⟩
  have sc := DcScope.of hsc
  refine DictComp_goes (closure_ok fun z hz ez => absurd ez (sc.free z hz)) sc.cell sc.kind sc.own (thn (he.run pins s σ H _ I h) fun u s1 ⟨v, H1, I1, rv, a, gs, ev, hl1, R, q⟩ => ?_) hs
  subst ev
  cases (show u = Value.ref a from rv)
  refine dc_row_iter hK hc hu sc.kind sc.loc sc.db hb I1 R hl1 fun D C s' m hD I' hn fC => ⟨m, hn, fun h' sb => ?_⟩
  exact ⟨.ref D, _, I'.turned (t' := s'.toks) (fun b o hb e => (sb.2 b hb).trans e) fC.1 fC.2.1 fC.2.2.2.1 fC.2.2.2.2.1 fC.2.2.2.2.2, rfl, q D hD⟩
/-- d = {y.f: True for y in e} on one line -/
theorem ps_setDcRow {i : Nat} {d : Str} {pd spos : Pos} (hK : X.K = K) (hc : X.calm = true) (hN : X.N.Nodup) (hi : X.N[i]? = some d) (hdl : X.env.scope.names.lookup d = some .local) (hu : X.A.units + 64 < cLine) (he : PE X e te) (hsc : dcScope scope y = true)
    (hsw : swapsWith (.DictComp (.Attribute (.Name y p1) f p3) (.Constant (.bool true) j p4) [⟨.Name y p2, e, [], 0⟩] scope pos) (some (.Name d pd)) spos.line X.env = pure true)
    (hb : ∀ env, attributeBase (.Name y p1) f env (eval (.Name y p1) env) = eval (.Name y p1) env := by intro _; rfl) (hs : ∀ x, foldedSetIterable e X.env x = pure x := by intro _; rfl) :
    PS X (.Assign [.Name d pd] (.DictComp (.Attribute (.Name y p1) f p3) (.Constant (.bool true) j p4) [⟨.Name y p2, e, [], 0⟩] scope pos) spos) (tAsg (tDcRow K C0 f te) (gName i)) := by
  refine ⟨fun pins s σ H D I h => ?_⟩
  have sc := DcScope.of hsc
  have h2 : te σ H fun v H1 => ∃ (a : Addr) (gs : List GRow), v = .ref a ∧ (SqL K H1 a (gs.map fun g => V.ref g.1) ∨ SqT K H1 a (gs.map fun g => V.ref g.1)) ∧ GRows K C0 f H1 gs ∧ ∀ D', H1 D' = none → gName i (.ref D') σ (upd H1 D' (.dT (keysOf gs))) D.nx := h
  rw [exec_Assign_Name_used _ _ _ _ hsw]
  refine wpAny_bind (wpAny_standAt (wpAny_bind (wpAny_bind (thn (Q := fun _ s' => SP X pins D .next s') (comprehension_at (use := some (assign (.Name d pd) X.env)) rfl hs (closure_ok fun z hz ez => absurd ez (sc.free z hz)) sc.kind sc.own ?_) fun _ s' hq => wpAny_pure (wpAny_pure hq)))))
  refine thn (he.run pins s σ H _ I h2) fun u s1 ⟨v, H1, I1, rv, a, gs, ev, hl1, R, q⟩ => ?_
  subst ev
  cases (show u = Value.ref a from rv)
  refine thn (dc_row_iter (use := some (assign (.Name d pd) X.env)) (Qf := fun _ s' => SP X pins D .next s') hK hc hu sc.kind sc.loc sc.db hb I1 R hl1 fun D' C s' m hD I' hn fC => ?_) fun it s2 h2 => compBlock_dict sc.cell sc.kind h2
  refine wpAny_assign_Name (store_ok2 (v := V.ref D') I' hN hi (.inl hdl) rfl (fun s3 I3 ⟨b, sb, hab⟩ => ?_) (.inr hdl))
  have hbC : C ≠ b := by
    rcases hab with z | z
    · exact z ▸ fC.2.1
    · exact fun w => fC.2.2.2.2.1 d b z w.symm
  refine ⟨m, hn.sameBut sb hbC, fun h' sb' => ⟨_, _, I3.turned (t' := s3.toks) (fun c o hc' ec => (sb'.2 c hc').trans ec) fC.1 fC.2.1 fC.2.2.2.1 fC.2.2.2.2.1 fC.2.2.2.2.2, q D' hD⟩⟩
theorem swD_true {kx vx : Expr} {gs : List Comprehension} {pd : Pos} {d : Str} {l : Nat} {env : Env} (h1 : env.scope.kind = .function) (h2 : env.scope.names.lookup d = some .local) (h3 : (pd.line == pos.line) = true) (h4 : (scope.names.any fun z => z.1 == d && (z.2 == .local || z.2 == .cell)) = false) :
    swapsWith (.DictComp kx vx gs scope pos) (some (.Name d pd)) l env = pure true := by
  have b1 : (env.blockKind == ScopeKind.function) = true := by
    unfold Env.blockKind
    rw [h1]
    rfl
  have b2 : (env.kindOf d == some NameKind.local) = true := by
    unfold Env.kindOf
    rw [h2]
    rfl
  show (pure (env.blockKind == ScopeKind.function && env.kindOf d == some NameKind.local && pd.line == pos.line && !(scope.names.any fun z => z.1 == d && (z.2 == .local || z.2 == .cell))) : Sem Bool) = pure true
  rw [b1, b2, h3, h4]
  rfl
end
end Kp
set_option maxHeartbeats 2000000
/-! l.count(x), a list of texts; all and sorted over a general K. -/
namespace Kp
open PySem PySem.Spec PyProof.Rows L2
theorem countIn_strs (u : Str) : ∀ ws : List Str, countIn (.str u) (ws.map PyData.str) = ((ws.count u : Nat) : Int)
  | [] => rfl
  | a :: ws => by
    have ih := countIn_strs u ws
    rw [List.map_cons, countIn, List.count_cons]
    simp only [same]
    by_cases h : a = u
    · subst h
      simp only [beq_self_eq_true, if_true]
      rw [ih]
      omega
    · have h1 : (a == u) = false := by simpa using h
      have h2 : (u == a) = false := by simpa using fun z => h z.symm
      simp only [h1, h2, Bool.false_eq_true, if_false]
      rw [ih]
      omega
section
variable {X : Cx} {K : PySem.W.Frag}
def rCountS (K : PySem.W.Frag) : V → List V → Hp → VK → Prop := fun x vs H Q => ∃ (l : Addr) (ws : List Str) (u : Str), x = .ref l ∧ vs = [.str u] ∧ SqL K H l (ws.map V.str) ∧ Q (.int (ws.count u)) H
theorem mt_countS (hK : X.K = K) : MtM X "list.count" (rCountS K) := by
  subst hK
  intro pins s σ H x vs v us Q I rx rv h
  obtain ⟨l, ws, u, rfl, rfl, hl, q⟩ := h
  cases rx
  obtain ⟨y, rfl, ru⟩ := rv.one
  obtain ⟨t, rfl⟩ := ru
  obtain ⟨its, r, pl, _⟩ := I.list hl
  refine count_list_strs pl.isList (Vals.strs r) ?_
  rw [countIn_strs]
  exact ⟨.int _, H, I.tok _, ⟨_, rfl⟩, q⟩
theorem cr_allK (hK : X.K = K) (hc : X.calm = true) : CallR X (.builtin "all") (rAll K) := hK ▸ cr_all hc
theorem cr_sortedSK (hK : X.K = K) : CallR X (.builtin "sorted") (rSortedS K) := hK ▸ cr_sortedS
end
end Kp
set_option maxHeartbeats 1000000
namespace Kq
open PySem PySem.Spec PyProof.Rows L2 Kp
open Evl (Ev EvL EvT EvA given)
/-! ### shows_chain -/
def GrpsAt (CG : Addr) (H : Hp) (gs : List Addr) (zs : List (List Str)) : Prop := gs.length = zs.length ∧ ∀ (i : Nat) (g : Addr) (z : List Str), gs[i]? = some g → zs[i]? = some z → GrpAt CG H g z
theorem GrpsAt.ext {CG : Addr} {H H' : Hp} {gs : List Addr} {zs : List (List Str)} (h : GrpsAt CG H gs zs) (e : Ext H H') : GrpsAt CG H' gs zs := ⟨h.1, fun i g z a b => (h.2 i g z a b).ext e⟩
/-- the words of a set, as a key -/
def kS (z : List Str) : List Key := z.map Sum.inr
theorem kS_inj : ∀ {a b : List Str}, kS a = kS b → a = b
  | [], [], _ => rfl
  | [], _ :: _, h => by cases h
  | _ :: _, [], h => by cases h
  | x :: a, y :: b, h => by
    injection h with h1 h2
    rw [Sum.inr.inj h1, kS_inj h2]
theorem kS_tup (z : List Str) : (kS z).map kV = z.map V.str := by
  unfold kS
  rw [List.map_map]
  rfl
theorem grows_of {CG : Addr} {H : Hp} : ∀ {gs : List Addr} {zs : List (List Str)}, GrpsAt CG H gs zs → ∃ rs : List GRow, rs.map (·.1) = gs ∧ rs.map (·.2.2) = zs.map kS ∧ ∀ g ∈ rs, ∃ dx fs, H g.1 = some (.ins CG dx fs) ∧ fs.lookup ("row" : Str) = some (.ref g.2.1) ∧ H g.2.1 = some (.tup (g.2.2.map kV))
  | [], [], _ => ⟨[], rfl, rfl, by simp⟩
  | [], _ :: _, h => by cases h.1
  | _ :: _, [], h => by cases h.1
  | g :: gs, z :: zs, h => by
    obtain ⟨rs, h1, h2, h3⟩ := grows_of (gs := gs) (zs := zs) ⟨by simpa using h.1, fun i g' z' a b => h.2 (i + 1) g' z' (by simpa using a) (by simpa using b)⟩
    obtain ⟨dx, t, h4, h5⟩ := h.2 0 g z rfl rfl
    refine ⟨(g, t, kS z) :: rs, by simp [h1], by simp [h2], fun g' hg' => ?_⟩
    rcases List.mem_cons.mp hg' with rfl | hg'
    · exact ⟨dx, _, h4, rfl, by rw [kS_tup]; exact h5⟩
    · exact h3 g' hg'
/-- what the dict knows -/
def Knows (kvs : List (List Key × V)) (zs : List (List Str)) : Prop := ∀ us : List Str, (valV kvs (kS us)).isSome = decide (us ∈ zs)
theorem Knows.put {kvs : List (List Key × V)} {zs : List (List Str)} {us : List Str} {v : V} (h : Knows kvs zs) : Knows (putK kvs (kS us) v) (zs ++ [us]) := fun vs => by
  rw [valV_put]
  by_cases e : kS vs = kS us
  · rw [if_pos e, kS_inj e]
    simp
  · rw [if_neg e, h vs]
    have : vs ≠ us := fun z => e (by rw [z])
    congr 1
    apply propext
    simp [this]
theorem knows_of : ∀ (n : Nat) {rs : List GRow} {zs : List (List Str)}, rs.length = n → rs.map (·.2.2) = zs.map kS → Knows (keysOf rs) zs
  | 0, rs, zs, hn, h => by
    have e := List.length_eq_zero_iff.mp hn
    subst e
    have e2 : zs = [] := by simpa using h.symm
    subst e2
    intro us
    rfl
  | n + 1, rs, zs, hn, h => by
    have hne : rs ≠ [] := fun z => by rw [z] at hn; cases hn
    have hne2 : zs ≠ [] := fun z => by rw [z] at h; exact hne (by simpa using h)
    have e1 := List.dropLast_concat_getLast hne
    have e2 := List.dropLast_concat_getLast hne2
    rw [← e1, ← e2, List.map_append, List.map_append] at h
    obtain ⟨h1, h2⟩ := List.append_inj' h rfl
    rw [← e1, keysOf_snoc, ← e2]
    have h3 : (rs.getLast hne).2.2 = kS (zs.getLast hne2) := by simpa using h2
    rw [h3]
    exact (knows_of n (by rw [List.length_dropLast, hn]; rfl) h1).put
def spShows (CG CS : Addr) (K : PySem.W.Frag) : Sp := fun vs H Q _ => ∃ (s g : Addr) (v : V) (gs : List Addr) (zs : List (List Str)) (some_ : List Str), vs = [.ref s, .ref g, v] ∧ (SqL K H s (gs.map V.ref) ∨ SqT K H s (gs.map V.ref)) ∧ GrpsAt CG H gs zs ∧ zs.length ≤ 100 ∧ GrpAt CG H g some_ ∧
  ((ChO H v ∧ ∀ H', Ext H H' → Q (.bl false) H') ∨ ∃ (a : Addr) (us : List Addr) (xs : List SV), v = .ref a ∧ H a = some (.tup (us.map V.ref)) ∧ SvsAt CG CS H us xs ∧ xs.length ≤ 100 ∧ (∀ x ∈ xs, SvOk x) ∧ ∀ H', Ext H H' → Q (.bl (chainB some_ zs xs)) H')
section
variable {P : Program} {w : World} {K : PySem.W.Frag} {mg : Str → Option Value} {base : Heap} {tL tM tA : Tok} {ad : Ad}
theorem sp_shows_len : ∀ vs H Q E, spShows ad.CG ad.CS K vs H Q E → vs.length = ["sets", "run", "chain"].length := fun vs H Q E h => by
  obtain ⟨s, g, v, gs, zs, some_, rfl, _⟩ := h
  rfl
theorem body_shows (T : Tx K mg tL tM tA ad) : BodyX P w K mg base "shows_chain" s_shows_chain ad.fShows N_shows_chain 6 (spShows ad.CG ad.CS K) := by
  have B := T.B
  have G_is_right := ok_is_right (P := P) (w := w) (base := base) T
  intro cdv A outer s H vs Q E hr h
  refine ⟨_, PSs.nox (pss_cons (ps_if (PW.pt (pw_or (pt_not (pt_val (pe_callB (call_isiKK (K := K) rfl) (by rfl) B.n_isinstance (by decide +kernel) (pa_cons (pv 2) (pa_cons (pe_bltn (v := .ty "tuple") (u := .type "tuple") (by rfl) B.n_tuple (by decide +kernel) rfl) pa_nil))))) (pw_or1 (pt_not (pt_val (pe_callB (cr_allK (K := K) rfl rfl) (by rfl) B.n_all (by decide +kernel) (pa_cons (pe_lc (own := [("step", 4)]) (g := gName 4) (tt := tYes) rfl sc_shows_chain.nd (pi_tupK (K := K) rfl (pv 2)) (blkOk_by (own := [("step", 4)]) (N := N_shows_chain) (sc := defScope s_shows_chain) (by decide +kernel)) (fun _ _ _ _ _ => (pg_name (i := 4) sc_shows_chain.nd rfl (Or.inl rfl))) (fun _ _ _ _ _ => pts_nil) (fun _ _ _ _ _ => by exact (pe_callB (call_isiKK (K := K) rfl) (by rfl) B.n_isinstance (by decide +kernel) (pa_cons (pv 4) (pa_cons (pe_glob (v := .ref _) (by rfl) T.S.g rfl) pa_nil))))) pa_nil)))))))
(pss_one (ps_ret pe_bl))
pss_nil)
(pss_cons (ps_setDcRow (i := 3) (K := K) (C0 := ad.CG) rfl rfl sc_shows_chain.nd rfl rfl hr.units (pv 0) (by decide +kernel) (swD_true rfl rfl rfl (by decide +kernel)))
(pss_cons (ps_for PassesOwn.never rfl (pi_tupK (K := K) rfl (pv 2)) (pg_name (i := 4) sc_shows_chain.nd rfl (Or.inl rfl))
(pss_cons (ps_if (PW.pt (pw_or (pt_not (pt_val (pe_callR G_is_right (hr.mono (by decide)) T.k_is_right (by rfl) T.g_is_right passL (pa_cons (pv 4) pa_nil)))) (pw_or (pt_cmp (pc_dnotin (hu_of hr) (pe_fldK (K := K) rfl (pe_fldK (K := K) rfl (pv 4))) (pv 3))) (pw_or1 (pt_cmp (pc_dnotin (hu_of hr) (pe_fldK (K := K) rfl (pe_fldK (K := K) rfl (pv 4))) (pv 3)))))))
(pss_one (ps_ret pe_bl))
pss_nil)
(pss_one (ps_dput (hu_of hr) (pv 3) (pe_fldK (K := K) rfl (pe_fldK (K := K) rfl (pv 4))) pe_bl rfl))))
(pss_one (ps_ret (pe_cmp (pc_din (hu_of hr) (pe_fldK (K := K) rfl (pv 1)) (pv 3)) rfl)))))), ?_⟩
  obtain ⟨sa, g, v, gs, zs, some_, rfl, hs, hgs, lz, hg, h⟩ := h
  rcases h with ⟨ho, hQ⟩ | ⟨a, us, xs, rfl, ha, hsv, hlen, hok, hQ⟩
  · rcases ho with ⟨a, ys, rfl, ha⟩ | rfl | ⟨i, rfl⟩ | ⟨z, rfl⟩ | ⟨a, rfl, ha⟩
    · refine ⟨_, rfl, .ref a, _, .type "list", .type "tuple", false, rfl, .ty "tuple", .base (.lst ha), kit_ty (by decide +kernel), _, rfl, iteT ?_⟩
      exact hQ H Ext.rfl'
    · refine ⟨_, rfl, .non, _, .type "NoneType", .type "tuple", false, rfl, .ty "tuple", .base .non, kit_ty (by decide +kernel), _, rfl, iteT ?_⟩
      exact hQ H Ext.rfl'
    · refine ⟨_, rfl, .int i, _, .type "int", .type "tuple", false, rfl, .ty "tuple", .base (.int i), kit_ty (by decide +kernel), _, rfl, iteT ?_⟩
      exact hQ H Ext.rfl'
    · refine ⟨_, rfl, .str z, _, .type "str", .type "tuple", false, rfl, .ty "tuple", .base (.str z), kit_ty (by decide +kernel), _, rfl, iteT ?_⟩
      exact hQ H Ext.rfl'
    · refine ⟨_, rfl, .ref a, _, .type "tuple", .type "tuple", true, rfl, .ty "tuple", .base (.tup ha), kit_ty (by decide +kernel), _, rfl, iteF ?_⟩
      dsimp only [tNot, tB, tCB, tCons]
      refine Kp.run_lcT (a := a) (xs := [V.non]) (fun _ => true) (fun _ => V.bl false) (Evl.ev_var rfl) (SqT.of ha) (by decide) (fun _ => rfl) (fun i x H9 e9 hx => Kp.et_yes) (fun i x H9 e9 hx _ => ?_) (fun D H2 hD e2 hD2 => ?_)
      · have ex : x = .non := by
          match i, hx with
          | 0, hx => exact (Option.some.inj hx).symm
        subst ex
        exact fun H10 e10 Q' q' => ⟨_, rfl, .non, .ref ad.CS, .type "NoneType", .ref ad.CS, false, rfl, .own ad.CS, .base .non, T.isNS, q' H10 (Evl.Ex.refl H10)⟩
      refine ⟨D, [false], rfl, SqL.of hD2, _, rfl, ?_⟩
      exact hQ _ e2
  · refine ⟨_, rfl, .ref a, _, .type "tuple", .type "tuple", true, rfl, .ty "tuple", .base (.tup ha), kit_ty (by decide +kernel), _, rfl, iteF ?_⟩
    have lu := hsv.1
    dsimp only [tNot, tB, tCB, tCons]
    refine Kp.run_lcT (a := a) (xs := us.map V.ref) (fun _ => true) (fun _ => V.bl true) (Evl.ev_var rfl) (SqT.of ha) (by rw [List.length_map, lu]; omega) (fun _ => rfl) (fun i x H9 e9 hx => Kp.et_yes) (fun i x H9 e9 hx hf => ?_) (fun D H2 hD e2 hD2 => ?_)
    · obtain ⟨u, hu, rfl⟩ : ∃ u, us[i]? = some u ∧ x = .ref u := by
        rw [List.getElem?_map] at hx
        cases q : us[i]? with
        | none => rw [q] at hx; cases hx
        | some b =>
          rw [q] at hx
          exact ⟨b, rfl, (Option.some.inj hx).symm⟩
      have hil : i < xs.length := by rw [← lu]; exact (List.getElem?_eq_some_iff.mp hu).1
      have hx9 : xs[i]? = some xs[i] := List.getElem?_eq_getElem hil
      obtain ⟨dx, g1, g2, mv, hs, _⟩ := (hsv.2 i u _ hu hx9).ext e9
      exact fun H10 e10 Q' q' => ⟨_, rfl, .ref u, .ref ad.CS, .ref ad.CS, .ref ad.CS, true, rfl, .own ad.CS, .base (.ins (e10 _ _ hs) T.S.cl T.S.ca T.S.cn T.S.ct T.S.cm), T.S.isi, q' H10 (Evl.Ex.refl H10)⟩
    have eg : given (us.map V.ref).length (fun _ => true) (fun _ => V.bl true) = (List.replicate us.length true).map V.bl := by
      rw [Kp.given_map fun _ _ => rfl, List.length_map, List.map_replicate, List.map_const', List.length_range]
    rw [eg] at hD2
    refine ⟨D, _, rfl, SqL.of hD2, _, rfl, ?_⟩
    have eall : (List.replicate us.length true).all id = true := by simp
    rw [eall]
    refine iteF ?_
    have x2 : Ext H H2 := e2
    obtain ⟨rs, r1, r2, r3⟩ := grows_of (hgs.ext x2)
    have lr : rs.length = zs.length := by
      have := congrArg List.length r2
      simpa using this
    have ers : (rs.map fun r => V.ref r.1) = gs.map V.ref := by
      rw [← r1, List.map_map]
      rfl
    refine ⟨_, rfl, sa, rs, rfl, by rw [ers]; exact hs.imp (fun h => h.ext x2) (fun h => h.ext x2), ⟨T.G.cl, T.G_row, by omega, r3⟩, fun KD hKD => ?_⟩
    have kn := knows_of _ rfl r2
    have kl := keysOf_len _ _ (rfl : rs.length = rs.length)
    have x3 := x2.trans (Ext.upd (o := HO.dT (keysOf rs)) hKD)
    have oKD : upd H2 KD (.dT (keysOf rs)) KD = some (.dT (keysOf rs)) := upd_same
    have nKD : ∀ b o, H b = some o → b ≠ KD := fun b o hb => ne_of_none (x2 _ _ hb) hKD
    generalize upd H2 KD (.dT (keysOf rs)) = H3 at x3 oKD ⊢
    refine ⟨_, rfl, a, rfl, ⟨_, SqT.of (x3 _ _ ha)⟩, ?_⟩
    refine for_tup (xs := us.map V.ref) (fun i (σ' : L2.St) H' => ∃ a4, σ' = [some (V.ref sa), some (V.ref g), some (V.ref a), some (V.ref KD), a4, none] ∧ ∃ (kvs : List (List Key × V)) (now : List (List Str)), Ext H H' ∧ H' KD = some (.dT kvs) ∧ Knows kvs now ∧ kvs.length ≤ 100 + i ∧ chainB some_ zs xs = chainB some_ now (xs.drop i)) ?_ (fun i σ' H' _ hp => ?_) (fun i y σ' H' hy hp => ?_) (fun σ' H' hp => ?_)
    · exact ⟨_, rfl, keysOf rs, zs, x3, oKD, kn, by omega, by rw [List.drop_zero]⟩
    · obtain ⟨a4, rfl, kvs, now, e, _⟩ := hp
      exact SqT.of (e _ _ ha)
    · obtain ⟨a4, rfl, kvs, now, e, hK, kn, kl, ech⟩ := hp
      obtain ⟨u, hu, rfl⟩ : ∃ u, us[i]? = some u ∧ y = .ref u := by
        rw [List.getElem?_map] at hy
        cases q : us[i]? with
        | none => rw [q] at hy; cases hy
        | some b =>
          rw [q] at hy
          exact ⟨b, rfl, (Option.some.inj hy).symm⟩
      have hil : i < xs.length := by rw [← lu]; exact (List.getElem?_eq_some_iff.mp hu).1
      have hx9 : xs[i]? = some xs[i] := List.getElem?_eq_getElem hil
      have hdr : xs.drop i = xs[i] :: xs.drop (i + 1) := List.drop_eq_getElem_cons hil
      have hxm : xs[i] ∈ xs := List.mem_of_getElem? hx9
      have hst := (hsv.2 i u _ hu hx9).ext e
      generalize xs[i] = x at hx9 hxm hst hdr
      have okx := hok x hxm
      rw [hdr] at ech
      have ech' : chainB some_ zs xs = ((decide (x.f ∈ now) && (decide (x.s ∈ now) && stepOk x)) && chainB some_ (now ++ [x.m.getD []]) (xs.drop (i + 1))) := ech
      refine ⟨_, rfl, u, x, rfl, hst, okx, fun H4 x4 => ⟨_, rfl, ?_⟩⟩
      have e4 := e.trans x4
      have hK4 := x4 _ _ hK
      obtain ⟨dx, g1, g2, mv, hs4, gf, gg, hm⟩ := hst.ext x4
      obtain ⟨d1, t1, hg1, ht1⟩ := gf
      obtain ⟨d2, t2, hg2, ht2⟩ := gg
      rw [← kS_tup] at ht1 ht2
      cases hso : stepOk x with
      | false =>
        refine iteT ?_
        have e0 : chainB some_ zs xs = false := by
          rw [ech', hso]
          simp
        rw [e0] at hQ
        exact hQ H4 e4
      | true =>
        refine iteF ?_
        refine ⟨_, rfl, u, ad.CS, dx, _, .ref g1, rfl, hs4, T.S.cl, T.S_first, rfl, g1, ad.CG, d1, _, .ref t1, rfl, hg1, T.G.cl, T.G_row, rfl, _, rfl, KD, _, rfl, DGet.t hK4 ht1, _, rfl, ?_⟩
        rw [kn x.f]
        by_cases hf : x.f ∈ now
        · rw [decide_eq_true hf]
          refine iteF ?_
          refine ⟨_, rfl, u, ad.CS, dx, _, .ref g2, rfl, hs4, T.S.cl, T.S_second, rfl, g2, ad.CG, d2, _, .ref t2, rfl, hg2, T.G.cl, T.G_row, rfl, _, rfl, KD, _, rfl, DGet.t hK4 ht2, _, rfl, ?_⟩
          rw [kn x.s]
          by_cases hsm : x.s ∈ now
          · rw [decide_eq_true hsm]
            refine iteF ?_
            have hxu : ∃ us', x.m = some us' := by
              cases q : x.m with
              | some us' => exact ⟨us', rfl⟩
              | none =>
                exfalso
                unfold stepOk at hso
                rw [q] at hso
                cases hw : x.w <;> (rw [hw] at hso; cases hso)
            obtain ⟨us', hxu⟩ := hxu
            rw [hxu] at hm ech'
            obtain ⟨g3, rfl, d3, t3, hg3, ht3⟩ := hm
            rw [← kS_tup] at ht3
            refine ⟨_, rfl, _, rfl, u, ad.CS, dx, _, .ref g3, rfl, hs4, T.S.cl, T.S_made, rfl, g3, ad.CG, d3, _, .ref t3, rfl, hg3, T.G.cl, T.G_row, rfl, ?_⟩
            refine ⟨KD, _, rfl, DPut.t hK4 ht3 (Nat.lt_of_le_of_lt (by omega : kvs.length ≤ 200) (by decide)), ?_⟩
            refine ⟨_, rfl, _, now ++ [us'], fun b o hb => ?_, upd_same, kn.put, ?_, ?_⟩
            · rw [upd_ne (nKD b o hb)]
              exact e4 _ _ hb
            · have := length_putK kvs (kS us') (V.bl true)
              omega
            · rw [ech', hso, decide_eq_true hf, decide_eq_true hsm]
              simp
          · rw [decide_eq_false hsm]
            refine iteT ?_
            have e0 : chainB some_ zs xs = false := by
              rw [ech', decide_eq_false hsm]
              simp
            rw [e0] at hQ
            exact hQ H4 e4
        · rw [decide_eq_false hf]
          refine iteT ?_
          have e0 : chainB some_ zs xs = false := by
            rw [ech', decide_eq_false hf]
            simp
          rw [e0] at hQ
          exact hQ H4 e4
    · obtain ⟨a4, rfl, kvs, now, e, hK, kn, kl, ech⟩ := hp
      rw [List.length_map, lu, List.drop_length] at ech
      have ech' : chainB some_ zs xs = decide (some_ ∈ now) := ech
      obtain ⟨dg, tg, hg1, ht1⟩ := hg.ext e
      rw [← kS_tup] at ht1
      refine ⟨_, rfl, g, ad.CG, dg, _, .ref tg, rfl, hg1, T.G.cl, T.G_row, rfl, _, rfl, KD, _, rfl, DGet.t hK ht1, ?_⟩
      rw [kn some_, ← ech']
      exact hQ H' e
theorem ok_shows (T : Tx K mg tL tM tA ad) : FnR P w K mg base (L2.CX P w) 7 ad.fShows (spShows ad.CG ad.CS K) := by
  obtain ⟨fd, F⟩ := T.F_shows_chain
  exact fnP F sc_shows_chain (fun _ _ _ _ _ _ us hl => match us, hl with | [_, _, _], _ => rfl) sp_shows_len (body_shows T)
end
end Kq
set_option maxHeartbeats 1000000
/-! t == () whatever the items are. -/
namespace Kp
open PySem PySem.Spec PyProof.Rows L2
section
variable {X : Cx}
def rEqET (K : PySem.W.Frag) : R2 := fun x y H Q => ∃ p q xs, x = .ref p ∧ y = .ref q ∧ SqT K H p xs ∧ SqT K H q [] ∧ Q (.bl xs.isEmpty) H
theorem op_eqET (hu : X.A.units + 64 < cLine) : OpR X (compareOp .Eq) (rEqET X.K) := by
  intro pins s σ H x y v u Q I rx ry h
  obtain ⟨p, q, xs, rfl, rfl, hp, hq, z⟩ := h
  cases rx
  cases ry
  obtain ⟨its, rv, pl, hz⟩ := I.tuple hp
  obtain ⟨its2, rv2, pl2, hz2⟩ := I.tuple hq
  cases rv2
  have e : xs.isEmpty = ((List.range (min its.toArray.size ([] : List Value).toArray.size)).all (fun _ => true) && its.toArray.size == ([] : List Value).toArray.size) := by
    have l1 := rv.length
    cases xs with
    | nil =>
      cases rv
      rfl
    | cons x xs =>
      have : its ≠ [] := fun q => by rw [q] at l1; cases l1
      simp [this]
  rw [e] at z
  refine PySem.SeqAt.rcIn_tuples (e := fun _ => true) ?_ ?_ (by omega) (fun j h1 h2 => absurd h2 (by simp)) ⟨.bl _, H, I, rfl, z⟩
  · obtain ⟨o, h1, h2, n, h3⟩ := pl
    exact ⟨o, h1, h2, n, h3⟩
  · obtain ⟨o, h1, h2, n, h3⟩ := pl2
    exact ⟨o, h1, h2, n, h3⟩
theorem op_eqETK {K : PySem.W.Frag} (hK : X.K = K) (hu : X.A.units + 64 < cLine) : OpR X (compareOp .Eq) (rEqET K) := hK ▸ op_eqET hu
variable {C f : Addr} {k : Nat} {sp : Sp} {E : XK} {x : Str} {p pos : Pos}
/-- C() -/
theorem pe_mkR0 (M : Mk X.K C f) (F : FX X k f sp) (hr : Room (k + 1) X.A) (hg : Gl X x) (hm : X.mg x = some (.ref C)) (hx : PsX X E) (hd : (x == ("__debug__" : Str)) = false := by decide) : PE X (.Call (.Name x p) [] [] pos) (fun _ H Q => mkSp C sp E [] H Q) :=
  ⟨fun _ _ _ _ _ I q => wpAny_Call_Name_kw (ld_glob I hg hm (PySem.W.callWith_K0 I.kIn M.kp (StX.run_makeR (us := []) M F hr hx I .nil q)) hd)⟩
end
end Kp
set_option maxHeartbeats 1000000
namespace Kq
open PySem PySem.Spec PyProof.Rows L2 Kp
open Evl (Ev EvL EvT EvA given)
/-! ### tuples cut and joined -/
theorem cutV_whole {xs : List V} {lo hi : Option Int} (h : HT.sIx xs.length 0 lo = 0 ∧ HT.sIx xs.length xs.length hi = xs.length) : cutV xs lo hi = xs := by
  unfold cutV
  rw [h.1, h.2]
  simp
theorem sl_any {K : PySem.W.Frag} {H : Hp} {a : Addr} {xs : List V} {lo hi : Option Int} {Q : VK} (ha : H a = some (.tup xs)) (k : ∀ (b : Addr) (H' : Hp), Ext H H' → H' b = some (.tup (cutV xs lo hi)) → Q (.ref b) H') : rSlTA K (.ref a) lo hi H Q :=
  ⟨a, xs, rfl, SqT.of ha, fun h => k a H Ext.rfl' (by rw [cutV_whole h]; exact ha), fun _ p hp => k p _ (Ext.upd hp) upd_same⟩
theorem cat_any {K : PySem.W.Frag} {H : Hp} {a b : Addr} {xs ys : List V} {Q : VK} (ha : H a = some (.tup xs)) (hb : H b = some (.tup ys)) (hz : xs.length + ys.length ≤ sizeLine) (k : ∀ (c : Addr) (H' : Hp), Ext H H' → H' c = some (.tup (xs ++ ys)) → Q (.ref c) H') : rCatA K (.ref a) (.ref b) H Q := by
  refine ⟨a, b, xs, ys, rfl, rfl, SqT.of ha, SqT.of hb, hz, fun h => k b H Ext.rfl' (by rw [h]; exact hb), fun _ h => k a H Ext.rfl' (by rw [h, List.append_nil]; exact ha), fun _ _ p hp => k p _ (Ext.upd hp) upd_same⟩
theorem cut_take {xs : List V} (i : Nat) : cutV xs none (some (i : Int)) = xs.take i := by
  unfold cutV
  rw [HT.sIx_none, HT.sIx_nat]
  simp
theorem cut_drop {xs : List V} (i : Nat) : cutV xs (some (i : Int)) none = xs.drop i := by
  unfold cutV
  rw [HT.sIx_none, HT.sIx_nat]
  by_cases h : i ≤ xs.length
  · rw [Nat.min_eq_left h, List.take_of_length_le (by rw [List.length_drop]; omega)]
  · rw [Nat.min_eq_right (by omega), List.drop_eq_nil_of_le (by omega), List.drop_eq_nil_of_le (by omega)]
    simp
theorem SvsAt.app {CG CS : Addr} {H : Hp} {us vs : List Addr} {xs ys : List SV} (h : SvsAt CG CS H us xs) (k : SvsAt CG CS H vs ys) : SvsAt CG CS H (us ++ vs) (xs ++ ys) := by
  refine ⟨by simp [h.1, k.1], fun i u x hu hx => ?_⟩
  by_cases hi : i < us.length
  · rw [List.getElem?_append_left hi] at hu
    rw [List.getElem?_append_left (by rw [← h.1]; exact hi)] at hx
    exact h.2 i u x hu hx
  · rw [List.getElem?_append_right (by omega)] at hu
    rw [List.getElem?_append_right (by rw [← h.1]; omega), ← h.1] at hx
    exact k.2 _ u x hu hx
theorem SvsAt.take {CG CS : Addr} {H : Hp} {us : List Addr} {xs : List SV} (h : SvsAt CG CS H us xs) (n : Nat) : SvsAt CG CS H (us.take n) (xs.take n) := by
  refine ⟨by simp [h.1], fun i u x hu hx => ?_⟩
  rw [List.getElem?_take] at hu hx
  by_cases hi : i < n
  · rw [if_pos hi] at hu hx
    exact h.2 i u x hu hx
  · rw [if_neg hi] at hu
    cases hu
theorem SvsAt.drop {CG CS : Addr} {H : Hp} {us : List Addr} {xs : List SV} (h : SvsAt CG CS H us xs) (n : Nat) : SvsAt CG CS H (us.drop n) (xs.drop n) := by
  refine ⟨by simp [h.1], fun i u x hu hx => ?_⟩
  rw [List.getElem?_drop] at hu hx
  exact h.2 _ u x hu hx
theorem SvsAt.one {CG CS : Addr} {H : Hp} {u : Addr} {x : SV} (h : StepV CG CS H u x) : SvsAt CG CS H [u] [x] := by
  refine ⟨rfl, fun i u' x' hu hx => ?_⟩
  match i, hu, hx with
  | 0, hu, hx =>
    cases hu
    cases hx
    exact h
theorem SvsAt.rev {CG CS : Addr} {H : Hp} {us : List Addr} {xs : List SV} (h : SvsAt CG CS H us xs) : SvsAt CG CS H us.reverse xs.reverse := by
  refine ⟨by simp [h.1], fun i u x hu hx => ?_⟩
  have hi : i < us.length := by
    have := (List.getElem?_eq_some_iff.mp hu).1
    simpa using this
  rw [List.getElem?_reverse hi] at hu
  rw [List.getElem?_reverse (by rw [← h.1]; exact hi), ← h.1] at hx
  exact h.2 _ u x hu hx
theorem StepV.kept {CG CS p : Addr} {H H' : Hp} {u : Addr} {x : SV} {xs : List V} (h : StepV CG CS H u x) (hp : H p = some (.lst xs)) (e : Kept p H H') : StepV CG CS H' u x := by
  obtain ⟨dx, g1, g2, mv, a, ⟨d1, t1, b1, b2⟩, ⟨d2, t2, c1, c2⟩, d⟩ := h
  have nn : ∀ {b : Addr} {o : HO}, H b = some o → (∀ ys, o ≠ .lst ys) → H' b = some o := fun {b o} hb n => e b o (fun z => n xs (by rw [z, hp] at hb; exact (Option.some.inj hb).symm)) hb
  refine ⟨dx, g1, g2, mv, nn a (fun _ z => nomatch z), ⟨d1, t1, nn b1 (fun _ z => nomatch z), nn b2 (fun _ z => nomatch z)⟩, ⟨d2, t2, nn c1 (fun _ z => nomatch z), nn c2 (fun _ z => nomatch z)⟩, ?_⟩
  cases hm : x.m with
  | none => rw [hm] at d; exact d
  | some us =>
    rw [hm] at d
    obtain ⟨g3, e3, d3, t3, f1, f2⟩ := d
    exact ⟨g3, e3, d3, t3, nn f1 (fun _ z => nomatch z), nn f2 (fun _ z => nomatch z)⟩
theorem SvsAt.kept {CG CS p : Addr} {H H' : Hp} {us : List Addr} {xs : List SV} {ys : List V} (h : SvsAt CG CS H us xs) (hp : H p = some (.lst ys)) (e : Kept p H H') : SvsAt CG CS H' us xs := ⟨h.1, fun i u x a b => (h.2 i u x a b).kept hp e⟩
end Kq
set_option maxHeartbeats 1000000
namespace Kq
open PySem PySem.Spec PyProof.Rows L2 Kp
open Evl (Ev EvL EvT EvA given)
/-! ### _law_bent -/
theorem dec_nat (w n : Nat) : decide (V.int (w : Int) = V.int (n : Int)) = decide (w = n) := by
  by_cases h : w = n
  · rw [h]
    simp
  · exact (decide_eq_false (fun z => h (Int.ofNat.inj (V.int.inj z)))).trans (decide_eq_false h).symm
/-- what a chain may become -/
def BentTo (CG CS : Addr) (H : Hp) (v : V) : Prop := ChO H v ∨ ∃ (a : Addr) (us : List Addr) (xs : List SV), v = .ref a ∧ H a = some (.tup (us.map V.ref)) ∧ SvsAt CG CS H us xs ∧ xs.length ≤ 49 ∧ ∀ x ∈ xs, SvOk x
def spBent (CG CS : Addr) : Sp := fun vs H Q _ => ∃ (p l a : Addr) (cs : List Int) (k : Nat) (us : List Addr) (xs : List SV), vs = [.ref p, .ref a] ∧ Pen H p l cs (k + 3) ∧ H a = some (.tup (us.map V.ref)) ∧ SvsAt CG CS H us xs ∧ xs.length ≤ 49 ∧ (∀ x ∈ xs, SvOk x) ∧ (∀ x ∈ xs, ∃ us, x.m = some us) ∧
  ∀ (v : V) (k' : Nat) (H' : Hp), k ≤ k' → Pen H' p l cs k' → Kept p H H' → BentTo CG CS H' v → Q v H'
theorem ext_made {H H7 : Hp} {so dz C : Addr} (h0 : H so = none) (h1 : H dz = none) (kp : ∀ b u, b ≠ so → (upd (upd H dz (.own so)) so (.ins C dz [])) b = some u → H7 b = some u) : Ext H H7 := fun b o hb => by
  refine kp b o (ne_of_none hb h0) ?_
  rw [upd_ne (ne_of_none hb h0), upd_ne (ne_of_none hb h1)]
  exact hb
/-- while the step is bent -/
def BentSt (CG CS p l a : Addr) (cs : List Int) (k j w : Nat) (H : Hp) (n : Nat) (σ' : L2.St) (H' : Hp) : Prop := ∃ (u : Addr) (x : SV) (k' : Nat), σ' = [some (V.ref p), some (V.ref a), some (V.int j), some (V.int w), some (V.ref u)] ∧ Kept p H H' ∧ Pen H' p l cs k' ∧ k ≤ k' ∧
  (n ≤ 3 → k' = k + 1) ∧ (n ≤ 4 → w ≠ 3 → k' = k + 1) ∧ (w ≠ 4 → ∃ us, x.m = some us) ∧ StepV CG CS H' u x ∧ SvOk x
section
variable {P : Program} {w : World} {K : PySem.W.Frag} {mg : Str → Option Value} {base : Heap} {tL tM tA : Tok} {ad : Ad}
theorem ok_bent (T : Tx K mg tL tM tA ad) : FnR P w K mg base (L2.CX P w) 4 ad.fBent (spBent ad.CG ad.CS) := by
  obtain ⟨fd, F⟩ := T.F_l_bent
  have B := T.B
  have G_l_draw := pen_draw (P := P) (w := w) (base := base) T.B T.P
  have G_l_pick := ok_pick (P := P) (w := w) (base := base) T.B T.P
  have G_Step_init := ok_step_init (P := P) (w := w) (base := base) T
  have G_Group_init := ok_group_init (P := P) (w := w) (base := base) T
  refine fnP F sc_l_bent (fun _ _ _ _ _ _ us hl => match us, hl with | [_, _], _ => rfl) (fun vs H Q E h => ?_) (fun cdv A outer s H vs Q E hr h => ?_)
  · obtain ⟨p, l, a, cs, k, us, xs, rfl, _⟩ := h
    rfl
  · refine ⟨_, PSs.nox (pss_cons (ps_if (pt_cmpR (op_eqETK (K := K) rfl hr.units) (pv 1) (pe_tup pa_nil) (nomark _))
(pss_one (ps_ret (pe_callR G_l_pick (hr.mono (by decide)) T.P.k_l_pick (by rfl) T.P.g_l_pick passL (pa_cons (pv 0) (pa_cons (pe_lst (pa_cons (pe_lst pa_nil) (pa_cons pe_non (pa_cons (pe_tup (pa_cons pe_non pa_nil)) (pa_cons pe_int (pa_cons pe_str pa_nil)))))) pa_nil)))))
pss_nil)
(pss_cons (ps_par (i := 2) (j := 3) (by rfl) sc_l_bent.nd rfl rfl (by decide) rfl rfl (pa_cons (pe_callR G_l_draw (hr.mono (by decide)) T.P.k_l_draw (by rfl) T.P.g_l_draw passL (pa_cons (pv 0) (pa_cons (pe_callB (call_lenK (K := K) rfl) (by rfl) B.n_len (by decide +kernel) (pa_cons (pv 1) pa_nil)) pa_nil))) (pa_cons (pe_callR G_l_draw (hr.mono (by decide)) T.P.k_l_draw (by rfl) T.P.g_l_draw passL (pa_cons (pv 0) (pa_cons pe_int pa_nil))) pa_nil)) (by rfl))
(pss_cons (ps_set (i := 4) sc_l_bent.nd rfl (Or.inl rfl) (pe_ix (ix_tupK (K := K) rfl) (pv 1) (pv 2) (fun _ _ => rfl)))
(pss_cons (ps_if (pt_cmpR op_eq (pv 3) pe_int (nomark _))
(pss_one (ps_ret (pe_op op_catA (pe_slice (sl_tupAK (K := K) rfl) (pv 1) po_none (po_some (pv 2))) (pe_slice (sl_tupAK (K := K) rfl) (pv 1) (po_some (pe_op op_add (pv 2) pe_int)) po_none))))
pss_nil)
(pss_cons (ps_if (pt_cmpR op_eq (pv 3) pe_int (nomark _))
(pss_one (ps_ret (pe_revT (K := K) rfl (pv 1))))
pss_nil)
(Evl.pss_cut (ps_if (pt_cmpR op_eq (pv 3) pe_int (nomark _))
(pss_one (ps_set (i := 4) sc_l_bent.nd rfl (Or.inl rfl) (Kp.pe_mkR (E := E0) T.S.mak G_Step_init (hr.mono (by decide)) (by rfl) T.S.g passL (pa_cons (pe_fldK (K := K) rfl (pv 4)) (pa_cons (pe_fldK (K := K) rfl (pv 4)) (pa_cons (pe_fldK (K := K) rfl (pv 4)) (pa_cons (pe_fldK (K := K) rfl (pv 4)) pa_nil)))))))
pss_nil)
(Evl.pss_cut (ps_if (pt_cmpR op_eq (pv 3) pe_int (nomark _))
(pss_one (ps_set (i := 4) sc_l_bent.nd rfl (Or.inl rfl) (Kp.pe_mkR (E := E0) T.S.mak G_Step_init (hr.mono (by decide)) (by rfl) T.S.g passL (pa_cons (pe_fldK (K := K) rfl (pv 4)) (pa_cons (pe_fldK (K := K) rfl (pv 4)) (pa_cons (pe_callR G_l_pick (hr.mono (by decide)) T.P.k_l_pick (by rfl) T.P.g_l_pick passL (pa_cons (pv 0) (pa_cons (pe_lst (pa_cons pe_int (pa_cons pe_int (pa_cons pe_int (pa_cons pe_int (pa_cons pe_int (pa_cons (pe_un un_neg pe_int) (pa_cons pe_non (pa_cons pe_bl (pa_cons pe_str pa_nil)))))))))) pa_nil))) (pa_cons (pe_fldK (K := K) rfl (pv 4)) pa_nil)))))))
pss_nil)
(Evl.pss_cut (ps_if (pt_cmpR op_eq (pv 3) pe_int (nomark _))
(pss_one (ps_set (i := 4) sc_l_bent.nd rfl (Or.inl rfl) (Kp.pe_mkR (E := E0) T.S.mak G_Step_init (hr.mono (by decide)) (by rfl) T.S.g passL (pa_cons (pe_fldK (K := K) rfl (pv 4)) (pa_cons (pe_fldK (K := K) rfl (pv 4)) (pa_cons (pe_fldK (K := K) rfl (pv 4)) (pa_cons (pe_callR G_l_pick (hr.mono (by decide)) T.P.k_l_pick (by rfl) T.P.g_l_pick passL (pa_cons (pv 0) (pa_cons (pe_lst (pa_cons (pe_fldK (K := K) rfl (pv 4)) (pa_cons (pe_fldK (K := K) rfl (pv 4)) (pa_cons pe_non (pa_cons (Kp.pe_mkR0 (E := E0) T.G.mak G_Group_init (hr.mono (by decide)) (by rfl) T.G.g passL) pa_nil))))) pa_nil))) pa_nil)))))))
pss_nil)
(Evl.pss_cut (ps_if (pt_cmpR op_eq (pv 3) pe_int (nomark _))
(pss_one (ps_set (i := 4) sc_l_bent.nd rfl (Or.inl rfl) (Kp.pe_mkR (E := E0) T.S.mak G_Step_init (hr.mono (by decide)) (by rfl) T.S.g passL (pa_cons (pe_fldK (K := K) rfl (pv 4)) (pa_cons (pe_fldK (K := K) rfl (pv 4)) (pa_cons (pe_fldK (K := K) rfl (pv 4)) (pa_cons (pe_fldK (K := K) rfl (pv 4)) pa_nil)))))))
pss_nil)
(pss_cons (ps_if (pt_cmpR op_eq (pv 3) pe_int (nomark _))
(pss_one (ps_ret (pe_callTy (call_list_ofK (K := K) rfl) (by rfl) B.n_list (by decide +kernel) (pa_cons (pv 1) pa_nil))))
pss_nil)
(pss_one (ps_ret (pe_op op_catA (pe_op op_catA (pe_slice (sl_tupAK (K := K) rfl) (pv 1) po_none (po_some (pv 2))) (pe_tup (pa_cons (pv 4) pa_nil))) (pe_slice (sl_tupAK (K := K) rfl) (pv 1) (po_some (pe_op op_add (pv 2) pe_int)) po_none)))))))))))))), ?_⟩
    obtain ⟨p, l, a, cs, k, us, xs, rfl, pen, ha, hsv, hlen, hok, hm, hQ⟩ := h
    have hl := hsv.1
    refine ⟨_, rfl, by decide, fun e0 he0 => ?_⟩
    have x0 := Ext.upd (o := HO.tup ([] : List V)) he0
    have oe0 : upd H e0 (.tup ([] : List V)) e0 = some (.tup []) := upd_same
    generalize upd H e0 (.tup ([] : List V)) = H1 at x0 oe0 ⊢
    refine ⟨a, e0, _, rfl, rfl, SqT.of (x0 _ _ ha), SqT.of oe0, _, rfl, ?_⟩
    have pen1 := pen.ext x0
    cases us with
    | nil =>
      refine iteT ?_
      refine ⟨_, rfl, by decide, fun m1 hm1 => ?_⟩
      have y1 := Ext.upd (o := HO.lst ([] : List V)) hm1
      have o1 : upd H1 m1 (.lst ([] : List V)) m1 = some (.lst []) := upd_same
      generalize upd H1 m1 (.lst ([] : List V)) = H2 at y1 o1 ⊢
      refine ⟨(show (1 : Nat) ≤ sizeLine by rw [sizeLine_eq]; decide), fun t1 ht1 => ?_⟩
      have y2 := Ext.upd (o := HO.tup [V.non]) ht1
      have o2 : upd H2 t1 (.tup [V.non]) t1 = some (.tup [.non]) := upd_same
      generalize upd H2 t1 (.tup [V.non]) = H3 at y2 o2 ⊢
      refine ⟨(show (5 : Nat) ≤ sizeLine by rw [sizeLine_eq]; decide), fun m hm0 => ?_⟩
      have y3 := Ext.upd (o := HO.lst [V.ref m1, V.non, V.ref t1, V.int 0, V.str ""]) hm0
      have o3 : upd H3 m (.lst [V.ref m1, V.non, V.ref t1, V.int 0, V.str ""]) m = some (.lst [V.ref m1, V.non, V.ref t1, V.int 0, V.str ""]) := upd_same
      have pen3 := pen1.ext (y1.trans (y2.trans y3))
      obtain ⟨tt, rr, hp3, _⟩ := pen1.at_
      have nm1 : m1 ≠ p := (ne_of_none hp3 hm1).symm
      have nt1 : t1 ≠ p := (ne_of_none (y1 _ _ hp3) ht1).symm
      have nm : m ≠ p := (ne_of_none ((y1.trans y2) _ _ hp3) hm0).symm
      generalize upd H3 m (.lst [V.ref m1, V.non, V.ref t1, V.int 0, V.str ""]) = H4 at y3 o3 pen3 ⊢
      refine ⟨p, l, cs, k + 2, .ref m, rfl, pen3, .inl ⟨m, _, rfl, SqL.of o3, nm, by simp, by simp, fun i v H' hv pen' kt => ?_⟩⟩
      refine hQ v (k + 2) H' (by omega) pen' ((Kept.of (x0.trans (y1.trans (y2.trans y3)))).trans kt) (.inl ?_)
      match i, hv with
      | 0, hv =>
        cases hv
        exact .inl ⟨m1, _, rfl, kt _ _ nm1 (y3 _ _ (y2 _ _ o1))⟩
      | 1, hv =>
        cases hv
        exact .inr (.inl rfl)
      | 2, hv =>
        cases hv
        exact .inr (.inr (.inr (.inr ⟨t1, rfl, kt _ _ nt1 (y3 _ _ o2)⟩)))
      | 3, hv =>
        cases hv
        exact .inr (.inr (.inl ⟨_, rfl⟩))
      | 4, hv =>
        cases hv
        exact .inr (.inr (.inr (.inl ⟨_, rfl⟩)))
    | cons u0 us0 =>
      refine iteF ?_
      generalize u0 :: us0 = us, (show 0 < (u0 :: us0).length by simp) = hpos at ha hsv hl
      obtain ⟨tt, rr, hp0, _⟩ := pen.at_
      have na : a ≠ p := fun z => by rw [z, hp0] at ha; cases ha
      have ha1 := x0 _ _ ha
      refine ⟨_, rfl, _, rfl, _, us.length, rfl, .inr ⟨_, SqT.of ha1, by simp⟩, p, l, cs, k + 2, _, rfl, pen1, by omega, by omega, fun d H2 d0 d1 pen2 kt2 => ?_⟩
      refine ⟨_, rfl, p, l, cs, k + 1, _, rfl, pen2, by decide, by decide, fun d2 H3 c0 c1 pen3 kt3 => ?_⟩
      refine ⟨_, _, rfl, ?_⟩
      obtain ⟨j, rfl⟩ := Int.eq_ofNat_of_zero_le d0
      obtain ⟨w, rfl⟩ := Int.eq_ofNat_of_zero_le c0
      have hj : j < us.length := by omega
      have hw : w < 7 := by omega
      have kt : Kept p H H3 := (Kept.of x0).trans (kt2.trans kt3)
      have ha3 := kt _ _ na ha
      have hsv3 := hsv.kept hp0 kt
      have hu : us[j]? = some us[j] := List.getElem?_eq_getElem hj
      have hx : xs[j]? = some xs[j] := List.getElem?_eq_getElem (by omega)
      have hxm : xs[j] ∈ xs := List.getElem_mem _
      generalize us[j] = u at hu
      generalize xs[j] = x at hx hxm
      have hst := hsv3.2 j u x hu hx
      obtain ⟨us1, hm1⟩ := hm x hxm
      have okx := hok x hxm
      refine ⟨_, rfl, _, rfl, a, _, _, _, rfl, rfl, SqT.of ha3, atI_nat (j := j) (by rw [List.getElem?_map, hu]; rfl), ?_⟩
      refine ⟨_, rfl, rfl, _, rfl, ?_⟩
      rw [show decide (V.int (w : Int) = V.int 0) = decide (w = 0) from dec_nat w 0]
      by_cases w0 : w = 0
      · rw [decide_eq_true w0]
        refine iteT ?_
        have jn : ((j : Int) + 1) = ((j + 1 : Nat) : Int) := rfl
        refine ⟨_, rfl, _, rfl, _, rfl, sl_any ha3 fun b1 H4 y1 hb1 => ?_⟩
        refine ⟨_, rfl, _, rfl, _, _, rfl, rfl, _, rfl, ?_⟩
        dsimp only [tNoPart]
        refine sl_any (y1 _ _ ha3) fun b2 H5 y2 hb2 => ?_
        rw [cut_take] at hb1
        rw [jn, cut_drop] at hb2
        refine cat_any (y2 _ _ hb1) hb2 (by simp; exact Nat.le_trans (by omega : _ ≤ 100) (by decide)) fun b3 H6 y3 hb3 => ?_
        have y13 := y1.trans (y2.trans y3)
        refine hQ (.ref b3) (k + 1) H6 (by omega) (pen3.ext y13) (kt.trans (Kept.of y13)) (.inr ⟨b3, us.take j ++ us.drop (j + 1), xs.take j ++ xs.drop (j + 1), rfl, ?_, ((hsv3.take j).app (hsv3.drop (j + 1))).ext y13, by simp; omega, fun z hz => ?_⟩)
        · rw [hb3, List.map_append, List.map_take, List.map_drop]
        · rcases List.mem_append.mp hz with h | h
          · exact hok z (List.mem_of_mem_take h)
          · exact hok z (List.mem_of_mem_drop h)
      rw [decide_eq_false w0]
      refine iteF ?_
      refine ⟨_, rfl, rfl, _, rfl, ?_⟩
      rw [show decide (V.int (w : Int) = V.int 1) = decide (w = 1) from dec_nat w 1]
      by_cases w1 : w = 1
      · rw [decide_eq_true w1]
        refine iteT ?_
        refine ⟨_, rfl, a, _, rfl, SqT.of ha3, fun b hb => ?_⟩
        have y1 := Ext.upd (o := HO.tup (us.map V.ref).reverse) hb
        refine hQ (.ref b) (k + 1) _ (by omega) (pen3.ext y1) (kt.trans (Kept.of y1)) (.inr ⟨b, us.reverse, xs.reverse, rfl, ?_, hsv3.rev.ext y1, by simp; omega, fun z hz => hok z (List.mem_reverse.mp hz)⟩)
        rw [upd_same, List.map_reverse]
      rw [decide_eq_false w1]
      refine iteF ?_
      refine ⟨BentSt ad.CG ad.CS p l a cs k j w H 3, ?_, ?_⟩
      · refine ⟨_, rfl, rfl, _, rfl, ?_⟩
        rw [show decide (V.int (w : Int) = V.int 2) = decide (w = 2) from dec_nat w 2]
        by_cases w2 : w = 2
        · rw [decide_eq_true w2]
          refine iteT ?_
          obtain ⟨dx, g1, g2, mv, hs, gf, gg, hmv⟩ := hst
          refine ⟨_, rfl, u, ad.CS, dx, _, .ref g2, rfl, hs, T.S.cl, T.S_second, rfl, _, rfl, u, ad.CS, dx, _, .ref g1, rfl, hs, T.S.cl, T.S_first, rfl, _, rfl, u, ad.CS, dx, _, x.w, rfl, hs, T.S.cl, T.S_way, rfl, _, rfl, u, ad.CS, dx, _, mv, rfl, hs, T.S.cl, T.S_made, rfl, ?_⟩
          refine fun so dz hso0 hdz hne => ⟨so, dz, .ref g2, .ref g1, x.w, mv, rfl, upd_same, fun H7 kp hso => ⟨rfl, ?_⟩⟩
          have x7 : Ext H3 H7 := ext_made hso0 hdz kp
          exact ⟨so, ⟨x.s, x.f, x.w, x.m⟩, k + 1, rfl, kt.trans (Kept.of x7), pen3.ext x7, by omega, fun _ => rfl, fun _ _ => rfl, fun _ => hm x hxm, ⟨dz, g2, g1, mv, hso, gg.ext x7, gf.ext x7, hmv.ext x7⟩, ⟨okx.s, okx.f, okx.w, okx.m⟩⟩
        · rw [decide_eq_false w2]
          exact iteF ⟨u, x, k + 1, rfl, kt, pen3, by omega, fun _ => rfl, fun _ _ => rfl, fun _ => hm x hxm, hst, okx⟩
      · rintro σ' H4 ⟨u, x, k4, rfl, kt4, pen4, k4a, k4b, k4c, hm4, hst4, ok4⟩
        have ek4 := k4b (Nat.le_refl 3)
        subst ek4
        refine ⟨BentSt ad.CG ad.CS p l a cs k j w H 4, ?_, ?_⟩
        · refine ⟨_, rfl, rfl, _, rfl, ?_⟩
          rw [show decide (V.int (w : Int) = V.int 3) = decide (w = 3) from dec_nat w 3]
          by_cases w3 : w = 3
          · rw [decide_eq_true w3]
            refine iteT ?_
            obtain ⟨dx, g1, g2, mv, hs, gf, gg, hmv⟩ := id hst4
            refine ⟨_, rfl, u, ad.CS, dx, _, .ref g1, rfl, hs, T.S.cl, T.S_first, rfl, _, rfl, u, ad.CS, dx, _, .ref g2, rfl, hs, T.S.cl, T.S_second, rfl, _, rfl, ?_⟩
            refine ⟨_, rfl, (show (9 : Nat) ≤ sizeLine by rw [sizeLine_eq]; decide), fun m hm0 => ?_⟩
            have y1 := Ext.upd (o := HO.lst [V.int 0, V.int 1, V.int 2, V.int 3, V.int 4, V.int (-1), V.non, V.bl true, V.str "1"]) hm0
            have o1 : upd H4 m (.lst [V.int 0, V.int 1, V.int 2, V.int 3, V.int 4, V.int (-1), V.non, V.bl true, V.str "1"]) m = some (.lst [V.int 0, V.int 1, V.int 2, V.int 3, V.int 4, V.int (-1), V.non, V.bl true, V.str "1"]) := upd_same
            obtain ⟨tt4, rr4, hp4, _⟩ := pen4.at_
            have nm : m ≠ p := (ne_of_none hp4 hm0).symm
            generalize upd H4 m (.lst [V.int 0, V.int 1, V.int 2, V.int 3, V.int 4, V.int (-1), V.non, V.bl true, V.str "1"]) = H5 at y1 o1 ⊢
            refine ⟨p, l, cs, k, .ref m, rfl, pen4.ext y1, .inl ⟨m, _, rfl, SqL.of o1, nm, by simp, by simp, fun i v H6 hv pen6 kt6 => ?_⟩⟩
            have hst6 := (hst4.ext y1).kept (y1 _ _ hp4) kt6
            obtain ⟨dx6, g16, g26, mv6, hs6, gf6, gg6, hmv6⟩ := hst6
            refine ⟨_, rfl, u, ad.CS, dx6, _, mv6, rfl, hs6, T.S.cl, T.S_made, rfl, ?_⟩
            have wk : WayOk v := by
              match i, hv with
              | 0, hv => cases hv; exact .inl ⟨_, rfl⟩
              | 1, hv => cases hv; exact .inl ⟨_, rfl⟩
              | 2, hv => cases hv; exact .inl ⟨_, rfl⟩
              | 3, hv => cases hv; exact .inl ⟨_, rfl⟩
              | 4, hv => cases hv; exact .inl ⟨_, rfl⟩
              | 5, hv => cases hv; exact .inl ⟨_, rfl⟩
              | 6, hv => cases hv; exact .inr (.inl rfl)
              | 7, hv => cases hv; exact .inr (.inr (.inl rfl))
              | 8, hv => cases hv; exact .inr (.inr (.inr ⟨_, rfl⟩))
            have y16 : Kept p H4 H6 := (Kept.of y1).trans kt6
            obtain ⟨d1, t1, b1, b2⟩ := gf
            obtain ⟨d2, t2, c1, c2⟩ := gg
            have nn : ∀ {b : Addr} {o : HO}, H4 b = some o → (∀ ys, o ≠ .lst ys) → H6 b = some o := fun {b o} hb n => y16 b o (fun z => n _ (by rw [z, hp4] at hb; exact (Option.some.inj hb).symm)) hb
            refine fun so dz hso0 hdz hne => ⟨so, dz, .ref g1, .ref g2, v, mv6, rfl, upd_same, fun H7 kp hso => ⟨rfl, ?_⟩⟩
            have x7 : Ext H6 H7 := ext_made hso0 hdz kp
            exact ⟨so, ⟨x.f, x.s, v, x.m⟩, k, rfl, kt4.trans (y16.trans (Kept.of x7)), pen6.ext x7, Nat.le_refl _, fun z => absurd z (by decide), fun _ z => absurd w3 z, hm4,
              ⟨dz, g1, g2, mv6, hso, ⟨d1, t1, x7 _ _ (nn b1 (fun _ z => nomatch z)), x7 _ _ (nn b2 (fun _ z => nomatch z))⟩, ⟨d2, t2, x7 _ _ (nn c1 (fun _ z => nomatch z)), x7 _ _ (nn c2 (fun _ z => nomatch z))⟩, hmv6.ext x7⟩, ⟨ok4.f, ok4.s, wk, ok4.m⟩⟩
          · rw [decide_eq_false w3]
            exact iteF ⟨u, x, k + 1, rfl, kt4, pen4, by omega, fun _ => rfl, fun _ _ => rfl, hm4, hst4, ok4⟩
        · rintro σ' H5 ⟨u, x, k5, rfl, kt5, pen5, k5a, k5b, k5c, hm5, hst5, ok5⟩
          refine ⟨BentSt ad.CG ad.CS p l a cs k j w H 5, ?_, ?_⟩
          · refine ⟨_, rfl, rfl, _, rfl, ?_⟩
            rw [show decide (V.int (w : Int) = V.int 4) = decide (w = 4) from dec_nat w 4]
            by_cases w4 : w = 4
            · rw [decide_eq_true w4]
              refine iteT ?_
              have ek5 := k5c (Nat.le_refl 4) (by omega)
              subst ek5
              obtain ⟨dx, g1, g2, mv, hs, gf, gg, hmv⟩ := id hst5
              refine ⟨_, rfl, u, ad.CS, dx, _, .ref g1, rfl, hs, T.S.cl, T.S_first, rfl, _, rfl, u, ad.CS, dx, _, .ref g2, rfl, hs, T.S.cl, T.S_second, rfl, _, rfl, u, ad.CS, dx, _, x.w, rfl, hs, T.S.cl, T.S_way, rfl, _, rfl, ?_⟩
              refine ⟨_, rfl, u, ad.CS, dx, _, .ref g1, rfl, hs, T.S.cl, T.S_first, rfl, _, rfl, u, ad.CS, dx, _, .ref g2, rfl, hs, T.S.cl, T.S_second, rfl, ?_⟩
              dsimp only [tCons, tC]
              refine mk_group (K := K) (ws := []) (by simp) (by simp) (fun us ig => Nat.le_trans ig.len (by simp)) fun gn usn H6 ign y1 hgn ggn => ?_
              refine ⟨(show (4 : Nat) ≤ sizeLine by rw [sizeLine_eq]; decide), fun m hm0 => ?_⟩
              have y2 := Ext.upd (o := HO.lst [V.ref g1, V.ref g2, V.non, V.ref gn]) hm0
              have o2 : upd H6 m (.lst [V.ref g1, V.ref g2, V.non, V.ref gn]) m = some (.lst [V.ref g1, V.ref g2, V.non, V.ref gn]) := upd_same
              obtain ⟨tt5, rr5, hp5, _⟩ := pen5.at_
              have nm : m ≠ p := (ne_of_none (y1 _ _ hp5) hm0).symm
              generalize upd H6 m (.lst [V.ref g1, V.ref g2, V.non, V.ref gn]) = H7 at y2 o2 ⊢
              have y12 := y1.trans y2
              refine ⟨p, l, cs, k, .ref m, rfl, pen5.ext y12, .inl ⟨m, _, rfl, SqL.of o2, nm, by simp, by simp, fun i v H8 hv pen8 kt8 => ?_⟩⟩
              have hp7 := y12 _ _ hp5
              have hs7 : H7 u = some (.ins ad.CS dx (stF (.ref g1) (.ref g2) x.w mv)) := y12 _ _ hs
              have g2g : ∀ {g : Addr} {ws : List Str}, GrpAt ad.CG H7 g ws → GrpAt ad.CG H8 g ws := fun {g ws} ⟨d1, t1, b1, b2⟩ => by
                have nn : ∀ {b : Addr} {o : HO}, H7 b = some o → (∀ ys, o ≠ .lst ys) → H8 b = some o := fun {b o} hb n => kt8 b o (fun z => n _ (by rw [z, hp7] at hb; exact (Option.some.inj hb).symm)) hb
                exact ⟨d1, t1, nn b1 (fun _ z => nomatch z), nn b2 (fun _ z => nomatch z)⟩
              have gf8 := g2g (gf.ext y12)
              have gg8 := g2g (gg.ext y12)
              have gn8 := g2g (ggn.ext y2)
              have e0 : usn = [] := by
                have := gs_eq ign
                rw [this]
                exact gs_nil.mpr rfl
              rw [e0] at gn8
              have ok0 : RowOk [] := ⟨rfl, List.nodup_nil, by simp, by simp⟩
              have hmd : ∃ m' : Option (List Str), MadV ad.CG H8 v m' ∧ ∀ us, m' = some us → RowOk us := by
                match i, hv with
                | 0, hv => cases hv; exact ⟨some x.f, ⟨g1, rfl, gf8⟩, fun us h => by cases h; exact ok5.f⟩
                | 1, hv => cases hv; exact ⟨some x.s, ⟨g2, rfl, gg8⟩, fun us h => by cases h; exact ok5.s⟩
                | 2, hv => cases hv; exact ⟨none, rfl, fun us h => by cases h⟩
                | 3, hv => cases hv; exact ⟨some [], ⟨gn, rfl, gn8⟩, fun us h => by cases h; exact ok0⟩
              obtain ⟨m', md, mok⟩ := hmd
              refine fun so dz hso0 hdz hne => ⟨so, dz, .ref g1, .ref g2, x.w, v, rfl, upd_same, fun H9 kp hso => ⟨rfl, ?_⟩⟩
              have x9 : Ext H8 H9 := ext_made hso0 hdz kp
              exact ⟨so, ⟨x.f, x.s, x.w, m'⟩, k, rfl, kt5.trans ((Kept.of y12).trans (kt8.trans (Kept.of x9))), pen8.ext x9, Nat.le_refl _, fun z => absurd z (by decide), fun z => absurd z (by decide), fun z => absurd w4 z,
                ⟨dz, g1, g2, v, hso, gf8.ext x9, gg8.ext x9, md.ext x9⟩, ⟨ok5.f, ok5.s, ok5.w, mok⟩⟩
            · rw [decide_eq_false w4]
              exact iteF ⟨u, x, k5, rfl, kt5, pen5, k5a, fun z => absurd z (by decide), fun z => absurd z (by decide), hm5, hst5, ok5⟩
          · rintro σ' H6 ⟨u, x, k6, rfl, kt6, pen6, k6a, k6b, k6c, hm6, hst6, ok6⟩
            refine ⟨BentSt ad.CG ad.CS p l a cs k j w H 6, ?_, ?_⟩
            · refine ⟨_, rfl, rfl, _, rfl, ?_⟩
              rw [show decide (V.int (w : Int) = V.int 5) = decide (w = 5) from dec_nat w 5]
              by_cases w5 : w = 5
              · rw [decide_eq_true w5]
                refine iteT ?_
                obtain ⟨us3, hus3⟩ := hm6 (by omega)
                obtain ⟨dx, g1, g2, mv, hs, gf, gg, hmv⟩ := id hst6
                have okm := ok6.m us3 hus3
                have hmv0 := hmv
                rw [hus3] at hmv
                obtain ⟨g3, rfl, g3g⟩ := hmv
                refine ⟨_, rfl, u, ad.CS, dx, _, .ref g3, rfl, hs, T.S.cl, T.S_made, rfl, _, rfl, u, ad.CS, dx, _, .ref g2, rfl, hs, T.S.cl, T.S_second, rfl, _, rfl, u, ad.CS, dx, _, x.w, rfl, hs, T.S.cl, T.S_way, rfl, _, rfl, u, ad.CS, dx, _, .ref g3, rfl, hs, T.S.cl, T.S_made, rfl, ?_⟩
                refine fun so dz hso0 hdz hne => ⟨so, dz, .ref g3, .ref g2, x.w, .ref g3, rfl, upd_same, fun H7 kp hso => ⟨rfl, ?_⟩⟩
                have x7 : Ext H6 H7 := ext_made hso0 hdz kp
                exact ⟨so, ⟨us3, x.s, x.w, x.m⟩, k6, rfl, kt6.trans (Kept.of x7), pen6.ext x7, k6a, fun z => absurd z (by decide), fun z => absurd z (by decide), hm6, ⟨dz, g3, g2, .ref g3, hso, g3g.ext x7, gg.ext x7, hmv0.ext x7⟩, ⟨okm, ok6.s, ok6.w, ok6.m⟩⟩
              · rw [decide_eq_false w5]
                exact iteF ⟨u, x, k6, rfl, kt6, pen6, k6a, fun z => absurd z (by decide), fun z => absurd z (by decide), hm6, hst6, ok6⟩
            · rintro σ' H7 ⟨u, x, k7, rfl, kt7, pen7, k7a, k7b, k7c, hm7, hst7, ok7⟩
              have ha7 := kt7 _ _ na ha
              have hsv7 := hsv.kept hp0 kt7
              refine ⟨_, rfl, rfl, _, rfl, ?_⟩
              rw [show decide (V.int (w : Int) = V.int 6) = decide (w = 6) from dec_nat w 6]
              by_cases w6 : w = 6
              · rw [decide_eq_true w6]
                refine iteT ?_
                refine ⟨_, rfl, a, _, rfl, .inr (SqT.of ha7), fun b hb => ?_⟩
                have y1 := Ext.upd (o := HO.lst (us.map V.ref)) hb
                exact hQ (.ref b) k7 _ k7a (pen7.ext y1) (kt7.trans (Kept.of y1)) (.inl (.inl ⟨b, _, rfl, upd_same⟩))
              · rw [decide_eq_false w6]
                refine iteF ?_
                have jn : ((j : Int) + 1) = ((j + 1 : Nat) : Int) := rfl
                refine ⟨_, rfl, _, rfl, _, rfl, sl_any ha7 fun b1 H8 y1 hb1 => ?_⟩
                refine ⟨_, rfl, (show (1 : Nat) ≤ sizeLine by rw [sizeLine_eq]; decide), fun t1 ht1 => ?_⟩
                have y2 := Ext.upd (o := HO.tup [V.ref u]) ht1
                have o2 : upd H8 t1 (.tup [V.ref u]) t1 = some (.tup [V.ref u]) := upd_same
                generalize upd H8 t1 (.tup [V.ref u]) = H9 at y2 o2 ⊢
                rw [cut_take] at hb1
                refine cat_any (y2 _ _ hb1) o2 (by simp; exact Nat.le_trans (by omega : _ ≤ 100) (by decide)) fun b2 H10 y3 hb2 => ?_
                have y13 := y1.trans (y2.trans y3)
                refine ⟨_, rfl, _, rfl, _, _, rfl, rfl, _, rfl, ?_⟩
                dsimp only [tNoPart]
                refine sl_any (y13 _ _ ha7) fun b3 H11 y4 hb3 => ?_
                rw [jn, cut_drop] at hb3
                refine cat_any (y4 _ _ hb2) hb3 (by simp; exact Nat.le_trans (by omega : _ ≤ 200) (by decide)) fun b4 H12 y5 hb4 => ?_
                have y15 := y13.trans (y4.trans y5)
                refine hQ (.ref b4) k7 H12 k7a (pen7.ext y15) (kt7.trans (Kept.of y15)) (.inr ⟨b4, us.take j ++ [u] ++ us.drop (j + 1), xs.take j ++ [x] ++ xs.drop (j + 1), rfl, ?_, (((hsv7.take j).app (SvsAt.one hst7)).app (hsv7.drop (j + 1))).ext y15, by simp; omega, fun z hz => ?_⟩)
                · rw [hb4]
                  simp [List.map_take, List.map_drop]
                · rcases List.mem_append.mp hz with h | h
                  · rcases List.mem_append.mp h with h | h
                    · exact hok z (List.mem_of_mem_take h)
                    · rw [List.mem_singleton.mp h]
                      exact ok7
                  · exact hok z (List.mem_of_mem_drop h)
end
end Kq
set_option maxHeartbeats 1000000
namespace Kq
open PySem PySem.Spec PyProof.Rows L2 Kp
open Evl (Ev EvL EvT EvA given)
/-! ### _law_chain_right -/
theorem vals_rev : ∀ {xs : List V} {us : List Value}, Vals xs us → Vals xs.reverse us.reverse
  | _, _, .nil => .nil
  | _, _, .cons h t => by
    rw [List.reverse_cons, List.reverse_cons]
    exact (vals_rev t).append (.cons h .nil)
/-- a chain with a step that makes no set is wrong -/
theorem chainB_none {some_ : List Str} : ∀ {xs : List SV} {zs : List (List Str)}, (∃ x ∈ xs, x.m = none) → chainB some_ zs xs = false
  | [], _, h => by
    obtain ⟨_, h, _⟩ := h
    cases h
  | x :: xs, zs, h => by
    show ((decide (x.f ∈ zs) && (decide (x.s ∈ zs) && stepOk x)) && chainB some_ (zs ++ [x.m.getD []]) xs) = false
    obtain ⟨y, hy, hm⟩ := h
    rcases List.mem_cons.mp hy with rfl | hy
    · have e : stepOk y = false := by
        unfold stepOk
        rw [hm]
        cases y.w <;> rfl
      rw [e]
      simp
    · rw [chainB_none ⟨y, hy, hm⟩]
      simp
theorem RowOk.is {z : List Str} (h : RowOk z) : IsG z z := ⟨h.so, h.nd, fun _ => Iff.rfl⟩
theorem RowOk.eq {us z : List Str} (h : RowOk z) (i : IsG us z) : us = z := i.unique h.is fun _ => Iff.rfl
theorem GrpsAt.snoc {CG : Addr} {H : Hp} {gs : List Addr} {zs : List (List Str)} {g : Addr} {z : List Str} (h : GrpsAt CG H gs zs) (k : GrpAt CG H g z) : GrpsAt CG H (gs ++ [g]) (zs ++ [z]) := by
  refine ⟨by simp [h.1], fun i g' z' a b => ?_⟩
  by_cases hi : i < gs.length
  · rw [List.getElem?_append_left hi] at a
    rw [List.getElem?_append_left (by rw [← h.1]; exact hi)] at b
    exact h.2 i g' z' a b
  · rw [List.getElem?_append_right (by omega)] at a
    rw [List.getElem?_append_right (by rw [← h.1]; omega), ← h.1] at b
    have h0 : i - gs.length = 0 := by
      have := (List.getElem?_eq_some_iff.mp a).1
      simp at this
      omega
    rw [h0] at a b
    cases a
    cases b
    exact k
theorem GrpsAt.extL {CG : Addr} {H H' : Hp} {gs : List Addr} {zs : List (List Str)} (h : GrpsAt CG H gs zs) (e : ExtL H H') : GrpsAt CG H' gs zs := ⟨h.1, fun i g z a b => (h.2 i g z a b).extL e⟩
theorem ExtL.kept {H H' : Hp} {p : Addr} {xs : List V} (hp : H p = some (.lst xs)) (e : Kept p H H') : ExtL H H' := fun b u hb n => e b u (fun z => n xs (by rw [z, hp] at hb; exact (Option.some.inj hb).symm)) hb
theorem ExtL.tups {H H' : Hp} (e : ExtL H H') : Tups H H' := fun b xs h => e b _ h (fun _ z => nomatch z)
theorem ChO.ext {H H' : Hp} {v : V} (h : ChO H v) (e : Ext H H') : ChO H' v := by
  rcases h with ⟨a, xs, h1, h2⟩ | h | h | h | ⟨a, h1, h2⟩
  · exact .inl ⟨a, xs, h1, e _ _ h2⟩
  · exact .inr (.inl h)
  · exact .inr (.inr (.inl h))
  · exact .inr (.inr (.inr (.inl h)))
  · exact .inr (.inr (.inr (.inr ⟨a, h1, e _ _ h2⟩)))
theorem BentTo.ext {CG CS : Addr} {H H' : Hp} {v : V} (h : BentTo CG CS H v) (e : Ext H H') : BentTo CG CS H' v := by
  rcases h with h | ⟨a, us, xs, h1, h2, h3, h4, h5⟩
  · exact .inl (h.ext e)
  · exact .inr ⟨a, us, xs, h1, e _ _ h2, h3.ext e, h4, h5⟩
/-- what is told of a bent chain: b -/
def Told (CG CS : Addr) (H : Hp) (some_ : List Str) (zs : List (List Str)) (v : V) (b : Bool) : Prop := (ChO H v ∧ b = false) ∨ ∃ (a : Addr) (us : List Addr) (xs : List SV), v = .ref a ∧ H a = some (.tup (us.map V.ref)) ∧ SvsAt CG CS H us xs ∧ xs.length ≤ 49 ∧ (∀ x ∈ xs, SvOk x) ∧ b = chainB some_ zs xs
theorem Told.ext {CG CS : Addr} {H H' : Hp} {some_ : List Str} {zs : List (List Str)} {v : V} {b : Bool} (h : Told CG CS H some_ zs v b) (e : Ext H H') : Told CG CS H' some_ zs v b := by
  rcases h with ⟨h, h'⟩ | ⟨a, us, xs, h1, h2, h3, h4, h5⟩
  · exact .inl ⟨h.ext e, h'⟩
  · exact .inr ⟨a, us, xs, h1, e _ _ h2, h3.ext e, h4, h5⟩
def spChainR (CG CS : Addr) : Sp := fun vs H Q _ => ∃ (p l kn so c : Addr) (cs : List Int) (k : Nat) (kp : List Addr) (zs : List (List Str)) (some_ : List Str) (us : List Addr) (xs : List SV), vs = [.ref p, .ref kn, .ref so, .ref c] ∧ Pen H p l cs (k + 6) ∧
  H kn = some (.lst (kp.map V.ref)) ∧ kn ≠ p ∧ RowsT H kp zs ∧ (∀ r ∈ zs, RowOk r) ∧ zs.length ≤ 30 ∧ H so = some (.tup (some_.map V.str)) ∧ RowOk some_ ∧ H c = some (.tup (us.map V.ref)) ∧ SvsAt CG CS H us xs ∧ xs.length ≤ 49 ∧ (∀ x ∈ xs, SvOk x) ∧ (∀ x ∈ xs, ∃ us, x.m = some us) ∧ chainB some_ zs xs = true ∧
  ∀ (H' : Hp) (k' : Nat), k ≤ k' → Pen H' p l cs k' → Kept p H H' → Q (.bl true) H'
section
variable {P : Program} {w : World} {K : PySem.W.Frag} {mg : Str → Option Value} {base : Heap} {tL tM tA : Tok} {ad : Ad}
theorem ok_chain_right (T : Tx K mg tL tM tA ad) : FnR P w K mg base (L2.CX P w) 8 ad.fChainR (spChainR ad.CG ad.CS) := by
  obtain ⟨fd, F⟩ := T.F_l_chain_right
  have B := T.B
  have G_Group_of := ok_group_of (P := P) (w := w) (base := base) T
  have G_l_steps := ok_l_steps (P := P) (w := w) (base := base) T
  have G_l_is_chain := ok_is_chain (P := P) (w := w) (base := base) T
  have G_l_bent := ok_bent (P := P) (w := w) (base := base) T
  have G_shows_chain := ok_shows (P := P) (w := w) (base := base) T
  obtain ⟨fds, Fs⟩ := T.F_shows_chain
  have FK := Fs.okX sc_shows_chain sp_shows_len (body_shows (P := P) (w := w) (base := base) T)
  have KB := kbn_of (n := 0) (ps := ["sets", "run", "chain"]) (ks := ["chain", "run", "sets"]) (g := fun us ws => us ++ ws.reverse) (gV := fun vs zs => vs ++ zs.reverse) Fs (fun _ _ _ _ _ _ us ws h1 h2 => match us, ws, h1, h2 with | [], [_, _, _], _, _ => rfl) (fun h k => h.append (vals_rev k))
  refine fnP F sc_l_chain_right (fun _ _ _ _ _ _ us hl => match us, hl with | [_, _, _, _], _ => rfl) (fun vs H Q E h => ?_) (fun cdv A outer s H vs Q E hr h => ?_)
  · obtain ⟨p, l, kn, so, c, cs, k, kp, zs, some_, us, xs, rfl, _⟩ := h
    rfl
  · refine ⟨_, PSs.nox (pss_cons (ps_par (i := 4) (j := 5) (by rfl) sc_l_chain_right.nd rfl rfl (by decide) rfl rfl (pa_cons (pe_lc (own := [("_law_one", 9)]) (g := gName 9) (tt := tYes) rfl sc_l_chain_right.nd (pi_listK (K := K) rfl (pv 1)) (blkOk_by (own := [("_law_one", 9)]) (N := N_l_chain_right) (sc := defScope s_l_chain_right) (by decide +kernel)) (fun _ _ _ _ _ => (pg_name (i := 9) sc_l_chain_right.nd rfl (Or.inl rfl))) (fun _ _ _ _ _ => pts_nil) (fun _ _ _ _ _ => by exact (ClX.pe_cmeth (E := E0) (pe_glob (v := .ref _) (by rfl) T.G.g rfl) T.G_rd T.G_of G_Group_of (hr.mono (by decide)) passL (pa_cons (pv 9) pa_nil)))) (pa_cons (pe_callR G_l_steps (hr.mono (by decide)) T.k_l_steps (by rfl) T.g_l_steps passL (pa_cons (pv 3) pa_nil)) pa_nil)) (by rfl))
(pss_cons (ps_if (PW.pt (pw_or (pt_cmp (pc_isN (pv 5))) (pw_or1 (pt_not (pt_val (pe_callR G_l_is_chain (hr.mono (by decide)) T.k_l_is_chain (by rfl) T.g_l_is_chain passL (pa_cons (pv 1) (pa_cons (pv 2) (pa_cons (pv 5) pa_nil)))))))))
(pss_one (ps_ret pe_bl))
pss_nil)
(pss_cons (ps_if (pt_cmpR op_notBl (pe_callR G_shows_chain (hr.mono (by decide)) T.k_shows_chain (by rfl) T.g_shows_chain passL (pa_cons (pe_callTy (call_tuple_ofK (K := K) rfl) (by rfl) B.n_tuple (by decide +kernel) (pa_cons (pv 4) pa_nil)) (pa_cons (ClX.pe_cmeth (E := E0) (pe_glob (v := .ref _) (by rfl) T.G.g rfl) T.G_rd T.G_of G_Group_of (hr.mono (by decide)) passL (pa_cons (pv 2) pa_nil)) (pa_cons (pv 3) pa_nil)))) pe_bl (nomark _))
(pss_one (ps_ret pe_bl))
pss_nil)
(pss_cons (ps_set (i := 6) sc_l_chain_right.nd rfl (Or.inl rfl) (pv 3))
(pss_cons (ps_for PassesOwn.never rfl (pi_range1 (by rfl) B.n_range (pa_cons pe_int pa_nil)) (pg_name (i := 7) sc_l_chain_right.nd rfl (Or.inl rfl))
(Evl.pss_cut (ps_set (i := 6) sc_l_chain_right.nd rfl (Or.inl rfl) (pe_ifExp (pt_cmp (pc_notN (pe_callR G_l_steps (hr.mono (by decide)) T.k_l_steps (by rfl) T.g_l_steps passL (pa_cons (pv 6) pa_nil)))) (pe_callR G_l_bent (hr.mono (by decide)) T.k_l_bent (by rfl) T.g_l_bent passL (pa_cons (pv 0) (pa_cons (pv 6) pa_nil))) (pv 6)))
(Evl.pss_cut (ps_set (i := 5) sc_l_chain_right.nd rfl (Or.inl rfl) (pe_callR G_l_steps (hr.mono (by decide)) T.k_l_steps (by rfl) T.g_l_steps passL (pa_cons (pv 6) pa_nil)))
(Evl.pss_cut (ps_set (i := 8) sc_l_chain_right.nd rfl (Or.inl rfl) (pe_and (pe_cmp (pc_notN (pv 5)) rfl) (pe_one (pe_callR G_l_is_chain (hr.mono (by decide)) T.k_l_is_chain (by rfl) T.g_l_is_chain passL (pa_cons (pv 1) (pa_cons (pv 2) (pa_cons (pv 5) pa_nil)))))))
(pss_one (ps_if (pt_cmpR op_ne (pe_callB call_repr_bl (by rfl) B.n_repr (by decide +kernel) (pa_cons (pe_callK0 (E := E0) FK (hr.mono (by decide)) (by rfl) T.g_shows_chain T.k_shows_chain KB passL (pk_cons (pv 6) (pk_cons (ClX.pe_cmeth (E := E0) (pe_glob (v := .ref _) (by rfl) T.G.g rfl) T.G_rd T.G_of G_Group_of (hr.mono (by decide)) passL (pa_cons (pv 2) pa_nil)) (pk_cons (pv 4) pk_nil)))) pa_nil)) (pe_callB call_repr_bl (by rfl) B.n_repr (by decide +kernel) (pa_cons (pv 8) pa_nil)) (nomark _))
(pss_one (ps_ret pe_bl))
pss_nil))))))
(pss_one (ps_ret pe_bl))))))), ?_⟩
    obtain ⟨p, l, kn, so, c, cs, k, kp, zs, some_, us, xs, rfl, pen, hkn, nkn, hkp, rk, lz, hso, rs, hc, hsv, hlen, hok, hm, hch, hQ⟩ := h
    have lkp := hkp.1
    refine ⟨_, rfl, kn, rfl, ⟨_, SqL.of hkn⟩, fun D hD => ?_⟩
    refine lcw (walk_list (xs := kp.map V.ref)) (fun i H' => ∃ gs : List Addr, H' D = some (.lst (gs.map V.ref)) ∧ GrpsAt ad.CG H' gs (zs.take i) ∧ Ext H H') ⟨[], upd_same, ⟨by simp, by simp⟩, Ext.upd hD⟩ (fun i H' _ hp => SqL.of (hp.choose_spec.2.2 _ _ hkn)) (fun i x H' H'' hi hp hy => ?_) (fun H1 hp => ?_)
    · obtain ⟨gs, hgs, hga, e⟩ := hp
      obtain ⟨rfl, hx⟩ := hy
      rw [List.length_map] at hi
      obtain ⟨b, hb, rfl⟩ : ∃ b, kp[i]? = some b ∧ x = .ref b := by
        rw [List.getElem?_map] at hx
        cases q : kp[i]? with
        | none => rw [q] at hx; cases hx
        | some b =>
          rw [q] at hx
          exact ⟨b, rfl, (Option.some.inj hx).symm⟩
      have hz : zs[i]? = some zs[i] := List.getElem?_eq_getElem (by omega)
      have hzm : zs[i] ∈ zs := List.getElem_mem _
      generalize zs[i] = z at hz hzm
      have rz := rk z hzm
      have hbz := e _ _ (hkp.2 i b z hb hz)
      have lgs := hga.1
      rw [List.length_take] at lgs
      refine ⟨rfl, ?_⟩
      refine yes ?_
      refine iteT ?_
      refine ⟨rfl, _, rfl, b, z, rfl, .inr hbz, rz.wd, by have := rz.few; omega, fun g us' H2 ig x2 hg gg => ?_⟩
      have eu := rz.eq ig
      subst eu
      have h2 := x2 _ _ hgs
      have eL : ExtL H2 (upd H2 D (.lst (gs.map V.ref ++ [.ref g]))) := ExtL.upd h2
      refine ⟨_, h2, by rw [List.length_map]; exact Nat.lt_of_le_of_lt (by omega : gs.length ≤ 30) (by decide), gs ++ [g], by rw [upd_same, List.map_append]; rfl, ?_, fun b' u hb' => ?_⟩
      · rw [List.take_add_one, hz]
        exact ((hga.ext x2).extL eL).snoc (gg.extL eL)
      · rw [upd_ne (ne_of_none hb' hD)]
        exact x2 _ _ (e _ _ hb')
    · obtain ⟨gs, hgs, hga, x1⟩ := hp
      rw [List.length_map, lkp, List.take_length] at hga
      refine ⟨_, rfl, _, rfl, .inr ⟨c, us, xs, rfl, x1 _ _ hc, hsv.ext x1, by omega, fun hn => ?_, fun _ l1 ts H2 x2 hl1 lts h4 => ?_⟩⟩
      · obtain ⟨x, hx, hn⟩ := hn
        obtain ⟨us', h'⟩ := hm x hx
        rw [hn] at h'
        cases h'
      have x12 := x1.trans x2
      refine ⟨_, _, rfl, ?_⟩
      refine ⟨_, rfl, _, rfl, iteF ?_⟩
      refine ⟨_, rfl, _, rfl, _, rfl, kn, so, l1, kp, ts, zs, some_, xs, rfl, x12 _ _ hkn, hkp.ext x12, rk, x12 _ _ hso, rs, hl1, lts, h4, hok, by omega, by omega, fun H3 x3 => ⟨_, rfl, ?_⟩⟩
      rw [hch]
      refine iteF ?_
      have x13 := x12.trans x3
      have x23 := x2.trans x3
      refine ⟨_, rfl, D, _, rfl, .inl ⟨SqL.of (x23 _ _ hgs), fun t1 ht1 => ?_⟩⟩
      have y1 := Ext.upd (o := HO.tup (gs.map V.ref)) ht1
      have o1 : upd H3 t1 (.tup (gs.map V.ref)) t1 = some (.tup (gs.map V.ref)) := upd_same
      generalize upd H3 t1 (.tup (gs.map V.ref)) = H4 at y1 o1 ⊢
      have x14 := x13.trans y1
      refine ⟨rfl, _, rfl, so, some_, rfl, .inr (x14 _ _ hso), rs.wd, by have := rs.few; omega, fun g us' H5 ig x5 hg gg => ?_⟩
      have eu := rs.eq ig
      subst eu
      have x15 := x14.trans x5
      refine ⟨_, rfl, t1, g, .ref c, gs, zs, us', rfl, .inr (SqT.of (x5 _ _ o1)), hga.ext (x23.trans (y1.trans x5)), by omega, gg, .inr ⟨c, us, xs, rfl, x15 _ _ hc, hsv.ext x15, by omega, hok, fun H6 x6 => ?_⟩⟩
      rw [hch]
      refine ⟨_, _, rfl, rfl, _, rfl, iteF ?_⟩
      have x16 := x15.trans x6
      refine ⟨_, rfl, ?_⟩
      have hkn6 := x16 _ _ hkn
      have hkp6 := hkp.ext x16
      have hso6 := x16 _ _ hso
      have x26 := x23.trans (y1.trans (x5.trans x6))
      have hgs6 := x26 _ _ hgs
      have hga6 := hga.ext x26
      obtain ⟨tt, rr, hp0, _⟩ := pen.at_
      have hp6 := x16 _ _ hp0
      have pen6 := pen.ext x16
      have nDp : D ≠ p := (ne_of_none hp0 hD).symm
      have kt06 : Kept p H H6 := Kept.of x16
      have hc6 := x16 _ _ hc
      have hsv6 := hsv.ext x16
      refine ⟨_, rfl, by decide, by decide, ?_⟩
      refine for_range (lo := 0) (n := 2) (fun i (σ' : L2.St) H' => ∃ a5 v a7 a8 k', σ' = [some (V.ref p), some (V.ref kn), some (V.ref so), some (V.ref c), some (V.ref D), a5, some v, a7, a8, none] ∧ Kept p H6 H' ∧ Pen H' p l cs k' ∧ k + 3 * (2 - i) ≤ k' ∧ BentTo ad.CG ad.CS H' v) ?_ (fun i σ' H' hi hp => ?_) (fun σ' H' hp => ?_)
      · exact ⟨_, _, _, _, k + 6, rfl, Kept.refl _ _, pen6, by omega, .inr ⟨c, us, xs, rfl, hc6, hsv6, hlen, hok⟩⟩
      · obtain ⟨a5, v, a7, a8, k', rfl, kt, pen', hk', bt⟩ := hp
        refine ⟨fun σ' H' => ∃ a5 v a7 a8 k', σ' = [some (V.ref p), some (V.ref kn), some (V.ref so), some (V.ref c), some (V.ref D), a5, some v, a7, a8, none] ∧ Kept p H6 H' ∧ Pen H' p l cs k' ∧ k + 3 * (2 - (i + 1)) ≤ k' ∧ BentTo ad.CG ad.CS H' v, ?_, ?_⟩
        · rcases bt with ho | ⟨a', us2, xs2, rfl, ha', hsv', hl', hok'⟩
          · refine ⟨_, rfl, v, rfl, .inl ⟨ho, fun H7 x7 => ⟨_, rfl, iteF ⟨_, rfl, ?_⟩⟩⟩⟩
            exact ⟨a5, v, _, a8, k', rfl, kt.trans (Kept.of x7), pen'.ext x7, by omega, .inl (ho.ext x7)⟩
          · refine ⟨_, rfl, .ref a', rfl, .inr ⟨a', us2, xs2, rfl, ha', hsv', by omega, fun hn H7 x7 => ⟨_, rfl, iteF ⟨_, rfl, ?_⟩⟩, fun hall l1 ts2 H7 x7 hl1 lts2 h42 => ⟨_, rfl, iteT ⟨_, rfl, _, rfl, ?_⟩⟩⟩⟩
            · exact ⟨a5, .ref a', _, a8, k', rfl, kt.trans (Kept.of x7), pen'.ext x7, by omega, .inr ⟨a', us2, xs2, rfl, x7 _ _ ha', hsv'.ext x7, hl', hok'⟩⟩
            · refine ⟨p, l, a', cs, k' - 3, us2, xs2, rfl, by rw [show k' - 3 + 3 = k' from by omega]; exact pen'.ext x7, x7 _ _ ha', hsv'.ext x7, hl', hok', hall, fun v2 k2 H8 hk2 pen8 kt8 bt8 => ?_⟩
              exact ⟨a5, v2, _, a8, k2, rfl, kt.trans ((Kept.of x7).trans kt8), pen8, by omega, bt8⟩
        · rintro σ' H7 ⟨a5, v, a7, a8, k7, rfl, kt7, pen7, hk7, bt7⟩
          refine ⟨fun σ' H' => ∃ s5 v a7 a8 k' b, σ' = [some (V.ref p), some (V.ref kn), some (V.ref so), some (V.ref c), some (V.ref D), some s5, some v, a7, a8, none] ∧ Kept p H6 H' ∧ Pen H' p l cs k' ∧ k + 3 * (2 - (i + 1)) ≤ k' ∧ Told ad.CG ad.CS H' us' zs v b ∧ ((s5 = .non ∧ b = false) ∨ ∃ (l1 : Addr) (ts2 : List Addr) (xs2 : List SV), s5 = .ref l1 ∧ H' l1 = some (.lst (ts2.map V.ref)) ∧ ts2.length = xs2.length ∧ (∀ (i : Nat) (t : Addr) (x : SV), ts2[i]? = some t → xs2[i]? = some x → Tup4 H' t x) ∧ (∀ x ∈ xs2, SvOk x) ∧ xs2.length ≤ 49 ∧ b = chainB us' zs xs2), ?_, ?_⟩
          · rcases bt7 with ho | ⟨a', us2, xs2, rfl, ha', hsv', hl', hok'⟩
            · refine ⟨_, rfl, v, rfl, .inl ⟨ho, fun H8 x8 => ?_⟩⟩
              exact ⟨.non, v, _, a8, k7, false, rfl, kt7.trans (Kept.of x8), pen7.ext x8, by omega, .inl ⟨ho.ext x8, rfl⟩, .inl ⟨rfl, rfl⟩⟩
            · refine ⟨_, rfl, .ref a', rfl, .inr ⟨a', us2, xs2, rfl, ha', hsv', by omega, fun hn H8 x8 => ?_, fun hall l2 ts2 H8 x8 hl2 lts2 h42 => ?_⟩⟩
              · exact ⟨.non, .ref a', _, a8, k7, false, rfl, kt7.trans (Kept.of x8), pen7.ext x8, by omega, .inr ⟨a', us2, xs2, rfl, x8 _ _ ha', hsv'.ext x8, hl', hok', (chainB_none hn).symm⟩, .inl ⟨rfl, rfl⟩⟩
              · exact ⟨.ref l2, .ref a', _, a8, k7, chainB us' zs xs2, rfl, kt7.trans (Kept.of x8), pen7.ext x8, by omega, .inr ⟨a', us2, xs2, rfl, x8 _ _ ha', hsv'.ext x8, hl', hok', rfl⟩, .inr ⟨l2, ts2, xs2, rfl, hl2, lts2, h42, hok', hl', rfl⟩⟩
          · rintro σ' H8 ⟨s5, v, a7, a8, k8, b, rfl, kt8, pen8, hk8, told, hs5⟩
            refine ⟨fun σ' H' => ∃ s5 v a7 k', σ' = [some (V.ref p), some (V.ref kn), some (V.ref so), some (V.ref c), some (V.ref D), some s5, some v, a7, some (V.bl b), none] ∧ Kept p H6 H' ∧ Pen H' p l cs k' ∧ k + 3 * (2 - (i + 1)) ≤ k' ∧ Told ad.CG ad.CS H' us' zs v b, ?_, ?_⟩
            · rcases hs5 with ⟨rfl, rfl⟩ | ⟨l2, ts2, xs2, rfl, hl2, lts2, h42, hok2, hxl2, rfl⟩
              · refine ⟨_, rfl, _, rfl, iteF ?_⟩
                exact ⟨_, v, _, k8, rfl, kt8, pen8, hk8, told⟩
              · have eL8 := ExtL.kept hp6 kt8
                refine ⟨_, rfl, _, rfl, iteT ?_⟩
                refine ⟨_, rfl, _, rfl, _, rfl, kn, so, l2, kp, ts2, zs, us', xs2, rfl, kt8 _ _ nkn hkn6, hkp6.keep eL8.tups, rk, eL8.tups _ _ hso6, rs, hl2, lts2, h42, hok2, by omega, by omega, fun H9 x9 => ?_⟩
                exact ⟨_, v, _, k8, rfl, kt8.trans (Kept.of x9), pen8.ext x9, hk8, told.ext x9⟩
            · rintro σ' H9 ⟨s5, v, a7, k9, rfl, kt9, pen9, hk9, told9⟩
              have eL9 := ExtL.kept hp6 kt9
              refine ⟨_, rfl, rfl, _, rfl, so, us', rfl, .inr (eL9.tups _ _ hso6), rs.wd, by have := rs.few; omega, fun g2 ug H10 ig2 x10 hg2 gg2 => ?_⟩
              have eu2 := rs.eq ig2
              subst eu2
              refine ⟨_, rfl, rfl, D, g2, v, gs, zs, ug, rfl, .inl (SqL.of (x10 _ _ (kt9 _ _ nDp hgs6))), (hga6.extL eL9).ext x10, by omega, gg2, ?_⟩
              have fin : ∀ H11, Ext H10 H11 → ∃ (a5 : Option V) (v' : V) (a7' a8 : Option V) (k' : Nat), [some (V.ref p), some (V.ref kn), some (V.ref so), some (V.ref c), some (V.ref D), some s5, some v, a7, some (V.bl b), none] = [some (V.ref p), some (V.ref kn), some (V.ref so), some (V.ref c), some (V.ref D), a5, some v', a7', a8, none] ∧ Kept p H6 H11 ∧ Pen H11 p l cs k' ∧ k + 3 * (2 - (i + 1)) ≤ k' ∧ BentTo ad.CG ad.CS H11 v' := fun H11 x11 => by
                refine ⟨some s5, v, a7, some (V.bl b), k9, rfl, kt9.trans (Kept.of (x10.trans x11)), pen9.ext (x10.trans x11), hk9, ?_⟩
                rcases told9 with ⟨ho, _⟩ | ⟨a', us2, xs2, h1, h2, h3, h4, h5, _⟩
                · exact .inl (ho.ext (x10.trans x11))
                · exact .inr ⟨a', us2, xs2, h1, (x10.trans x11) _ _ h2, h3.ext (x10.trans x11), h4, h5⟩
              have nb : ∀ z : Str, (!decide (V.str z = V.str z)) = false := fun z => by simp
              rcases told9 with ⟨ho, rfl⟩ | ⟨a', us2, xs2, rfl, ha', hsv', hl', hok', rfl⟩
              · refine .inl ⟨ho.ext x10, fun H11 x11 => ⟨_, rfl, _, rfl, _, rfl, rfl, _, rfl, ?_⟩⟩
                rw [nb]
                exact iteF (fin H11 x11)
              · refine .inr ⟨a', us2, xs2, rfl, x10 _ _ ha', hsv'.ext x10, by omega, hok', fun H11 x11 => ⟨_, rfl, _, rfl, _, rfl, rfl, _, rfl, ?_⟩⟩
                rw [nb]
                exact iteF (fin H11 x11)
      · obtain ⟨a5, v, a7, a8, k', rfl, kt, pen', hk', bt⟩ := hp
        exact hQ H' k' (by omega) pen' (kt06.trans kt)
end
end Kq
set_option maxHeartbeats 1000000
namespace Kq
open PySem PySem.Spec PyProof.Rows L2 Kp
open Evl (Ev EvL EvT EvA given)
/-! ### the sets of runs, as the law makes them -/
theorem seg_le7 {ws : List Str} {r : Rn} (h : ws.length ≤ 7) : (seg ws r.1 r.2).length ≤ 7 := Nat.le_trans seg_le h
theorem wset_ok {ws : List Str} {r : Rn} (ok : OkW ws) (h7 : ws.length ≤ 7) : RowOk (wset ws r) := by
  have ig : IsG (wset ws r) (seg ws r.1 r.2) := gs_is _
  refine ⟨ig.so, ig.nd, fun w hw => seg_wd ok w ((ig.mem w).1 hw), Nat.le_trans ig.len (seg_le7 h7)⟩
theorem sets_lc {K : PySem.W.Frag} {σ : L2.St} {H : Hp} {Q : VK} {i : Nat} {ye rw : Addr} {ys : List Addr} {rs : List Rn} {ws : List Str} (hi : σ[i]? = some (some (.ref ye))) (hw2 : ∀ x y : V, (((wipe σ [14, 15]).set 14 (some x)).set 15 (some y))[2]? = some (some (.ref rw)))
    (hw14 : ∀ x y : V, (((wipe σ [14, 15]).set 14 (some x)).set 15 (some y))[14]? = some (some x)) (hw15 : ∀ x y : V, (((wipe σ [14, 15]).set 14 (some x)).set 15 (some y))[15]? = some (some y)) (hwp : ∀ x y : V, wipe (((wipe σ [14, 15]).set 14 (some x)).set 15 (some y)) [14, 15] = wipe σ [14, 15])
    (hye : H ye = some (.lst (ys.map V.ref))) (hys : PrsAt H ys rs) (hrw : H rw = some (.lst (ws.map V.str))) (ok : OkW ws) (h7 : ws.length ≤ 7) (okr : ∀ r ∈ rs, OkR ws.length r) (l20 : rs.length ≤ 20)
    (k : ∀ (D : Addr) (kp : List Addr) (H' : Hp), Ext H H' → H D = none → H' D = some (.lst (kp.map V.ref)) → RowsT H' kp (rs.map (wset ws)) → Q (.ref D) H') :
    tLc (iList K (tVar i)) (gTup K 2 (gCons (gName 14) (gCons (gName 15) gNil))) tYes (tCB (rTupleK K) (tCons (tCB (rSortedS K) (tCons (tSl (rSlL K) (tVar 2) (tPart (tVar 14)) (tPart (tOp (rI0 fun i j => V.int (i + j)) (tVar 15) (tC (V.int 1))))) tNil)) tNil)) [14, 15] σ H Q := by
  have lys := hys.1
  refine ⟨_, hi, ye, rfl, ⟨_, SqL.of hye⟩, fun D hD => ?_⟩
  refine lcw (walk_list (xs := ys.map V.ref)) (fun i H' => ∃ kp : List Addr, H' D = some (.lst (kp.map V.ref)) ∧ RowsT H' kp ((rs.take i).map (wset ws)) ∧ Ext H H') ⟨[], upd_same, ⟨by simp, by simp⟩, Ext.upd hD⟩ (fun i H' _ hp => SqL.of (hp.choose_spec.2.2 _ _ hye)) (fun i x H' H'' hi' hp hy => ?_) (fun H1 hp => ?_)
  · obtain ⟨kp, hkp, hrw', e⟩ := hp
    obtain ⟨rfl, hx⟩ := hy
    rw [List.length_map] at hi'
    obtain ⟨b, hb, rfl⟩ : ∃ b, ys[i]? = some b ∧ x = .ref b := by
      rw [List.getElem?_map] at hx
      cases q : ys[i]? with
      | none => rw [q] at hx; cases hx
      | some b =>
        rw [q] at hx
        exact ⟨b, rfl, (Option.some.inj hx).symm⟩
    have hr : rs[i]? = some rs[i] := List.getElem?_eq_getElem (by omega)
    have hrm : rs[i] ∈ rs := List.getElem_mem _
    generalize rs[i] = r at hr hrm
    obtain ⟨r1, r2⟩ := okr r hrm
    have hbr := e _ _ (hys.2 i b r hb hr)
    have lkp := hrw'.1
    rw [List.length_map, List.length_take] at lkp
    refine ⟨b, _, rfl, SqT.of hbr, rfl, _, _, rfl, _, _, rfl, rfl, hwp _ _, ?_⟩
    refine yes ?_
    refine iteT ?_
    refine ⟨_, hw2 _ _, _, hw14 _ _, _, rfl, _, hw15 _ _, _, _, rfl, rfl, _, rfl, rw, _, rfl, SqL.of (e _ _ hrw), fun p1 hp1 => ?_⟩
    rw [cut_seg r1 r2]
    have x1 := Ext.upd (o := HO.lst ((seg ws r.1 r.2).map V.str)) hp1
    refine ⟨p1, _, rfl, SqL.of upd_same, by have := seg_le7 (r := r) h7; omega, fun zs p2 pm so hp2 => ?_⟩
    have x2 := x1.trans (Ext.upd (o := HO.lst (zs.map V.str)) hp2)
    refine ⟨p2, _, rfl, .inl ⟨SqL.of upd_same, fun q hq => ?_⟩⟩
    have x3 := x2.trans (Ext.upd (o := HO.tup (zs.map V.str)) hq)
    have ez : zs = wset ws r := gs_eq ⟨so, pm.nodup_iff.mpr (seg_nd ok.nd), fun k => pm.mem_iff⟩
    have oq : upd (upd (upd H'' p1 (HO.lst ((seg ws r.1 r.2).map V.str))) p2 (HO.lst (zs.map V.str))) q (HO.tup (zs.map V.str)) q = some (.tup ((wset ws r).map V.str)) := by
      rw [upd_same, ez]
    generalize upd (upd (upd H'' p1 (HO.lst ((seg ws r.1 r.2).map V.str))) p2 (HO.lst (zs.map V.str))) q (HO.tup (zs.map V.str)) = H3 at x3 oq ⊢
    have h3 := x3 _ _ hkp
    have nn : ∀ {b : Addr} {us : List V} {ys : HO}, H3 b = some (.tup us) → upd H3 D ys b = some (.tup us) := fun {b us ys} hb => by
      rw [upd_ne (fun z => by rw [z, h3] at hb; cases hb)]
      exact hb
    refine ⟨_, h3, by rw [List.length_map, lkp]; exact Nat.lt_of_le_of_lt (by omega : _ ≤ 20) (by decide), kp ++ [q], by rw [upd_same, List.map_append]; rfl, ?_, fun b' u hb' => ?_⟩
    · rw [List.take_add_one, hr]
      show RowsT _ (kp ++ [q]) (((rs.take i) ++ [r]).map (wset ws))
      rw [List.map_append]
      refine ⟨by simp [hrw'.1], fun j p' z h1 h2 => ?_⟩
      by_cases hj : j < kp.length
      · rw [List.getElem?_append_left hj] at h1
        rw [List.getElem?_append_left (by rw [← hrw'.1]; exact hj)] at h2
        exact nn (x3 _ _ (hrw'.2 j p' z h1 h2))
      · rw [List.getElem?_append_right (by omega)] at h1
        rw [List.getElem?_append_right (by rw [← hrw'.1]; omega), ← hrw'.1] at h2
        have h0 : j - kp.length = 0 := by
          have := (List.getElem?_eq_some_iff.mp h1).1
          simp at this
          omega
        rw [h0] at h1 h2
        cases h1
        cases h2
        exact nn oq
    · rw [upd_ne (ne_of_none hb' hD)]
      exact x3 _ _ (e _ _ hb')
  · obtain ⟨kp, hkp, hrw', e⟩ := hp
    rw [List.length_map, lys, List.take_length] at hrw'
    exact k D kp H1 e hD hkp hrw'
/-! ### the groups of some sets -/
theorem groups_lc {K : PySem.W.Frag} {CG : Addr} {σ : L2.St} {H : Hp} {Q : VK} {i : Nat} {q : Addr} {kp : List Addr} {zs : List (List Str)} (hi : σ[i]? = some (some (.ref q))) (hw : ∀ x : V, ((wipe σ [16]).set 16 (some x))[16]? = some (some x)) (hwp : ∀ x : V, wipe ((wipe σ [16]).set 16 (some x)) [16] = wipe σ [16])
    (hq : H q = some (.lst (kp.map V.ref))) (hkp : RowsT H kp zs) (rk : ∀ z ∈ zs, RowOk z) (lz : zs.length ≤ 30)
    (k : ∀ (D : Addr) (gs : List Addr) (H' : Hp), Ext H H' → H D = none → H' D = some (.lst (gs.map V.ref)) → GrpsAt CG H' gs zs → Q (.ref D) H') :
    tLc (iList K (tVar i)) (gName 16) tYes (ClX.tCMeth CG (spGOf CG) E0 (tC (.ref CG)) (tCons (tVar 16) tNil)) [16] σ H Q := by
  have lkp := hkp.1
  refine ⟨_, hi, q, rfl, ⟨_, SqL.of hq⟩, fun D hD => ?_⟩
  refine lcw (walk_list (xs := kp.map V.ref)) (fun i H' => ∃ gs : List Addr, H' D = some (.lst (gs.map V.ref)) ∧ GrpsAt CG H' gs (zs.take i) ∧ Ext H H') ⟨[], upd_same, ⟨by simp, by simp⟩, Ext.upd hD⟩ (fun i H' _ hp => SqL.of (hp.choose_spec.2.2 _ _ hq)) (fun i x H' H'' hi hp hy => ?_) (fun H1 hp => ?_)
  · obtain ⟨gs, hgs, hga, e⟩ := hp
    obtain ⟨rfl, hx⟩ := hy
    rw [List.length_map] at hi
    obtain ⟨b, hb, rfl⟩ : ∃ b, kp[i]? = some b ∧ x = .ref b := by
      rw [List.getElem?_map] at hx
      cases q : kp[i]? with
      | none => rw [q] at hx; cases hx
      | some b =>
        rw [q] at hx
        exact ⟨b, rfl, (Option.some.inj hx).symm⟩
    have hz : zs[i]? = some zs[i] := List.getElem?_eq_getElem (by omega)
    have hzm : zs[i] ∈ zs := List.getElem_mem _
    generalize zs[i] = z at hz hzm
    have rz := rk z hzm
    have hbz := e _ _ (hkp.2 i b z hb hz)
    have lgs := hga.1
    rw [List.length_take] at lgs
    refine ⟨hwp _, ?_⟩
    refine yes ?_
    refine iteT ?_
    refine ⟨rfl, _, hw _, b, z, rfl, .inr hbz, rz.wd, by have := rz.few; omega, fun g us' H2 ig x2 hg gg => ?_⟩
    have eu := rz.eq ig
    subst eu
    have h2 := x2 _ _ hgs
    have eL : ExtL H2 (upd H2 D (.lst (gs.map V.ref ++ [.ref g]))) := ExtL.upd h2
    refine ⟨_, h2, by rw [List.length_map]; exact Nat.lt_of_le_of_lt (by omega : gs.length ≤ 30) (by decide), gs ++ [g], by rw [upd_same, List.map_append]; rfl, ?_, fun b' u hb' => ?_⟩
    · rw [List.take_add_one, hz]
      exact ((hga.ext x2).extL eL).snoc (gg.extL eL)
    · rw [upd_ne (ne_of_none hb' hD)]
      exact x2 _ _ (e _ _ hb')
  · obtain ⟨gs, hgs, hga, x1⟩ := hp
    rw [List.length_map, lkp, List.take_length] at hga
    exact k D gs H1 x1 hD hgs hga
/-! ### what the asker answers -/
def ChainAns (CG CS : Addr) (H : Hp) (ws : List Str) (As : List (Rn × Bool)) (r : Rn) (v : V) : Prop := (sureB ws.length r = true ∧ ∃ t, v = .ref t ∧ H t = some (.tup [])) ∨ (sureB ws.length r = false ∧ ¬ Cl (· ∈ sel As true) r ∧ v = .non) ∨
  (sureB ws.length r = false ∧ Cl (· ∈ sel As true) r ∧ ∃ (t : Addr) (us : List Addr) (xs : List Row), v = .ref t ∧ H t = some (.tup (us.map V.ref)) ∧ StpsAt CG CS H us ws xs ∧ ChainTo ws.length (sel As true) r xs)
def spChainOf2 (CG CO CA CS : Addr) : Sp := fun vs H Q _ => ∃ (a o tk g : Addr) (ws us : List Str) (As : List (Rn × Bool)) (r : Rn), vs = [.ref a, .ref g] ∧ AskC CG CO CA H a o tk ws As ∧ GrpAt CG H g us ∧ IsG us (seg ws r.1 r.2) ∧ OkR ws.length r ∧ ∀ v H', Ext H H' → ChainAns CG CS H' ws As r v → Q v H'
def BarAns (CG CS : Addr) (H : Hp) (ws : List Str) (As : List (Rn × Bool)) (r : Rn) (v : V) : Prop := ((∀ q ∈ sel As false, ¬ Cl (· ∈ sel As true ++ [r]) q) ∧ v = .non) ∨
  ∃ (t go st : Addr) (us' : List Str) (ts : List Addr) (xs : List Row) (q : Rn), v = .ref t ∧ q ∈ sel As false ∧ Cl (· ∈ sel As true ++ [r]) q ∧ H t = some (.tup [.ref go, .ref st]) ∧ GrpAt CG H go us' ∧ IsG us' (seg ws q.1 q.2) ∧ H st = some (.tup (ts.map V.ref)) ∧ StpsAt CG CS H ts ws xs ∧ ChainTo ws.length (sel As true ++ [r]) q xs
def spBarOf2 (CG CO CA CS : Addr) (TT : List (Addr × Str)) : Sp := fun vs H Q _ => ∃ (a o tk g : Addr) (ws us : List Str) (As : List (Rn × Bool)) (r : Rn), vs = [.ref a, .ref g] ∧ AskC CG CO CA H a o tk ws As ∧ GrpAt CG H g us ∧ IsG us (seg ws r.1 r.2) ∧ OkR ws.length r ∧ LamX.Tabs TT H ∧
  ∀ v H', LamX.ExtN H H' → LamX.Tabs TT H' → BarAns CG CS H' ws As r v → Q v H'
section
variable {P : Program} {w : World} {K : PySem.W.Frag} {mg : Str → Option Value} {base : Heap} {tL tM tA : Tok} {ad : Ad} {TT : List (Addr × Str)} {cC PC : Addr}
theorem ok_chain_of2 (T : Tx K mg tL tM tA ad) : FnR P w K mg base (L2.CX P w) 7 ad.a_chain_of (spChainOf2 ad.CG ad.CO ad.CA ad.CS) :=
  (ok_chain_of T).imp fun vs H Q E h => by
    obtain ⟨a, o, tk, g, ws, us, As, r, e, h1, h2, h3, h4, k⟩ := h
    exact ⟨a, o, tk, g, ws, us, As, r, e, h1, h2, h3, h4, fun hs t H' x ht => k _ _ x (.inl ⟨hs, t, rfl, ht⟩), fun hs hc H' x => k _ _ x (.inr (.inl ⟨hs, hc, rfl⟩)), fun hs hc t us xs H' x ht hst hch => k _ _ x (.inr (.inr ⟨hs, hc, t, us, xs, rfl, ht, hst, hch⟩))⟩
theorem sp_bar2_len : ∀ vs H Q E, spBarOf2 ad.CG ad.CO ad.CA ad.CS TT vs H Q E → vs.length = ["self", "run"].length := fun vs H Q E h => by
  obtain ⟨a, o, tk, g, ws, us, As, r, rfl, _⟩ := h
  rfl
theorem body_bar_of2 (T : Tx K mg tL tM tA ad) (TL : TxL K mg base ad TT cC PC) : BodyX P w K mg base "Asker.bar_of" s_Asker_bar_of ad.a_bar_of N_Asker_bar_of 7 (spBarOf2 ad.CG ad.CO ad.CA ad.CS TT) := fun cdv A outer s H vs Q E hr h => by
  obtain ⟨a, o, tk, g, ws, us, As, r, e, h1, h2, h3, h4, h5, k⟩ := h
  exact body_bar_of T TL cdv A outer s H vs Q E hr ⟨a, o, tk, g, ws, us, As, r, e, h1, h2, h3, h4, h5, fun hn H' x => k _ _ (LamX.ExtN.of x) (h5.ext x) (.inl ⟨hn, rfl⟩), fun t go st us' ts xs q H' x ht hq hc a1 a2 a3 a4 a5 a6 => k _ _ x ht (.inr ⟨t, go, st, us', ts, xs, q, rfl, hq, hc, a1, a2, a3, a4, a5, a6⟩)⟩
end
end Kq
set_option maxHeartbeats 1000000
namespace Kq
open PySem PySem.Spec PyProof.Rows L2 Kp
open LamX (ExtN Tabs TabB)
/-! ### the asker's chains as chains of sets -/
theorem sv_of_stps {CG CS : Addr} {H : Hp} {us : List Addr} {ws : List Str} {xs : List Row} (h : StpsAt CG CS H us ws xs) : SvsAt CG CS H us (xs.map (svOf ws)) := by
  refine ⟨by rw [List.length_map]; exact h.1, fun i u x hu hx => ?_⟩
  rw [List.getElem?_map] at hx
  cases q : xs[i]? with
  | none => rw [q] at hx; cases hx
  | some y =>
    rw [q] at hx
    cases hx
    obtain ⟨dx, g1, g2, g3, u1, u2, u3, a, b1, b2, c1, c2, d1, d2⟩ := h.2 i u y hu q
    have e1 : u1 = wset ws y.p := gs_eq b2
    have e2 : u2 = wset ws y.q := gs_eq c2
    have e3 : u3 = wset ws y.r := gs_eq d2
    subst e1 e2 e3
    exact ⟨dx, g1, g2, .ref g3, a, b1, c1, ⟨g3, rfl, d1⟩⟩
theorem sv_ok {ws : List Str} {x : Row} (ok : OkW ws) (h7 : ws.length ≤ 7) : SvOk (svOf ws x) := ⟨wset_ok ok h7, wset_ok ok h7, .inl ⟨_, rfl⟩, fun us h => by cases h; exact wset_ok ok h7⟩
theorem sv_all {ws : List Str} {xs : List Row} (ok : OkW ws) (h7 : ws.length ≤ 7) : ∀ x ∈ xs.map (svOf ws), SvOk x := fun x hx => by
  obtain ⟨y, _, rfl⟩ := List.mem_map.mp hx
  exact sv_ok ok h7
theorem sv_some {ws : List Str} {xs : List Row} : ∀ x ∈ xs.map (svOf ws), ∃ us, x.m = some us := fun x hx => by
  obtain ⟨y, _, rfl⟩ := List.mem_map.mp hx
  exact ⟨_, rfl⟩
theorem chain_right {ws : List Str} {th : List Rn} {r : Rn} {xs : List Row} (nd : ws.Nodup) (c : ChainTo ws.length th r xs) (ht : ∀ q ∈ th, OkR ws.length q) : chainB (wset ws r) (th.map (wset ws)) (xs.map (svOf ws)) = true := by
  rw [chain_sets nd (wset ws r) xs th c.ch ht]
  refine decide_eq_true ?_
  rcases c.to with h | h
  · exact List.mem_append_left _ (List.mem_map.mpr ⟨r, h, rfl⟩)
  · obtain ⟨x, hx, e⟩ := List.mem_map.mp h
    exact List.mem_append_right _ (List.mem_map.mpr ⟨x, hx, by rw [e]⟩)
theorem Pen.extN {H H' : Hp} {p l : Addr} {cs : List Int} {k : Nat} (h : Pen H p l cs k) (e : ExtN H H') : Pen H' p l cs k := by
  obtain ⟨⟨t, r, a, b, c⟩, d, f⟩ := h
  exact ⟨⟨t, r, e _ _ a (fun _ z => nomatch z), b, c⟩, e _ _ d (fun _ z => nomatch z), f⟩
theorem PrsAt.extN {H H' : Hp} {bs : List Addr} {rs : List Rn} (h : PrsAt H bs rs) (e : ExtN H H') : PrsAt H' bs rs := ⟨h.1, fun i b r x y => e _ _ (h.2 i b r x y) (fun _ z => nomatch z)⟩
theorem RowsT.extN {H H' : Hp} {ps : List Addr} {rows : List (List Str)} (h : RowsT H ps rows) (e : ExtN H H') : RowsT H' ps rows := ⟨h.1, fun i p r a b => e _ _ (h.2 i p r a b) (fun _ z => nomatch z)⟩
/-- a run is made of some and one that overlaps none: it is made of those, or is this one -/
theorem cl_sure {n : Nat} {S : List Rn} {r q : Rn} (hS : ∀ x ∈ S, OkR n x) (hr : OkR n r) (hs : sureB n r = true) (c : Cl (· ∈ S ++ [r]) q) : Cl (· ∈ S) q ∨ q = r := by
  refine Cl.alone (n := n) (S := (· ∈ S)) (x := r) (fun x h => hS x h) ?_ (c.mono fun x h => (List.mem_append.mp h).imp id List.mem_singleton.mp) hr
  unfold sureB at hs
  rcases Bool.or_eq_true_iff.mp hs with h | h
  · exact .inl (of_decide_eq_true h)
  · have := of_decide_eq_true h
    rw [this]
    exact .inr ⟨rfl, rfl⟩
theorem cl_known {S : List Rn} {r q : Rn} (hr : Cl (· ∈ S) r) : Cl (· ∈ S ++ [r]) q ↔ Cl (· ∈ S) q :=
  ⟨fun c => c.join fun x h => (List.mem_append.mp h).elim .base fun e => List.mem_singleton.mp e ▸ hr, fun c => c.mono fun x h => List.mem_append_left _ h⟩
/-- what stands while a run is looked at -/
structure RunA (H : Hp) (rw no b D so KD : Addr) (ws : List Str) (As : List (Rn × Bool)) (r : Rn) (ns kp : List Addr) (F : List Rn) : Prop where
  rw_ : H rw = some (.lst (ws.map V.str))
  no_ : H no = some (.lst (ns.map V.ref))
  pno : PrsAt H ns (sel As false)
  b_ : PrAt H b r
  D_ : H D = some (.lst (kp.map V.ref))
  kp_ : RowsT H kp ((sel As true).map (wset ws))
  so_ : H so = some (.tup ((wset ws r).map V.str))
  KD_ : LDt H KD F
theorem RunA.extN {H H' : Hp} {rw no b D so KD : Addr} {ws : List Str} {As : List (Rn × Bool)} {r : Rn} {ns kp : List Addr} {F : List Rn} (h : RunA H rw no b D so KD ws As r ns kp F) (e : ExtN H H') : RunA H' rw no b D so KD ws As r ns kp F :=
  ⟨e _ _ h.rw_ (fun _ z => nomatch z), e _ _ h.no_ (fun _ z => nomatch z), h.pno.extN e, h.b_.extN e, e _ _ h.D_ (fun _ z => nomatch z), h.kp_.extN e, e _ _ h.so_ (fun _ z => nomatch z), e _ _ h.KD_ (fun _ z => nomatch z)⟩
theorem RunA.ext {H H' : Hp} {rw no b D so KD : Addr} {ws : List Str} {As : List (Rn × Bool)} {r : Rn} {ns kp : List Addr} {F : List Rn} (h : RunA H rw no b D so KD ws As r ns kp F) (e : Ext H H') : RunA H' rw no b D so KD ws As r ns kp F := h.extN (ExtN.of e)
theorem StpAt.extN {CG CS : Addr} {H H' : Hp} {u : Addr} {ws : List Str} {x : Row} (h : StpAt CG CS H u ws x) (e : ExtN H H') : StpAt CG CS H' u ws x :=
  let ⟨dx, g1, g2, g3, u1, u2, u3, a, b, c, d, f, g, i⟩ := h
  ⟨dx, g1, g2, g3, u1, u2, u3, e _ _ a (fun _ z => nomatch z), b.extN e, c, d.extN e, f, g.extN e, i⟩
theorem StpsAt.extN {CG CS : Addr} {H H' : Hp} {us : List Addr} {ws : List Str} {xs : List Row} (h : StpsAt CG CS H us ws xs) (e : ExtN H H') : StpsAt CG CS H' us ws xs := ⟨h.1, fun i u x a b => (h.2 i u x a b).extN e⟩
theorem ChainAns.extN {CG CS : Addr} {H H' : Hp} {ws : List Str} {As : List (Rn × Bool)} {r : Rn} {v : V} (h : ChainAns CG CS H ws As r v) (e : ExtN H H') : ChainAns CG CS H' ws As r v := by
  rcases h with ⟨h, t, h1, h2⟩ | h | ⟨h, hc, t, us, xs, h1, h2, h3, h4⟩
  · exact .inl ⟨h, t, h1, e _ _ h2 (fun _ z => nomatch z)⟩
  · exact .inr (.inl h)
  · exact .inr (.inr ⟨h, hc, t, us, xs, h1, e _ _ h2 (fun _ z => nomatch z), h3.extN e, h4⟩)
theorem BarAns.extN {CG CS : Addr} {H H' : Hp} {ws : List Str} {As : List (Rn × Bool)} {r : Rn} {v : V} (h : BarAns CG CS H ws As r v) (e : ExtN H H') : BarAns CG CS H' ws As r v := by
  rcases h with h | ⟨t, go, st, us', ts, xs, q, h1, h2, h3, h4, h5, h6, h7, h8, h9⟩
  · exact .inl h
  · exact .inr ⟨t, go, st, us', ts, xs, q, h1, h2, h3, e _ _ h4 (fun _ z => nomatch z), h5.extN e, h6, e _ _ h7 (fun _ z => nomatch z), h8.extN e, h9⟩
theorem tabs_keptL {TT : List (Addr × Str)} {H H' : Hp} (t : Tabs TT H) (e : ∀ b u, H b = some u → (∀ zs, u ≠ .lst zs) → H' b = some u) : Tabs TT H' := fun p hp => by
  obtain ⟨ps, h1, h2, h3⟩ := t p hp
  refine ⟨ps, e _ _ h1 (fun _ z => nomatch z), h2, fun pos cv hc => ?_⟩
  obtain ⟨c, e1, e2⟩ := h3 pos cv hc
  refine ⟨c, e1, e _ _ e2 fun zs z => ?_⟩
  unfold LamX.CodeO at z
  cases z
/-- whether a run follows with r -/
noncomputable def barB (As : List (Rn × Bool)) (r q : Rn) : Bool := @decide (Cl (· ∈ sel As true ++ [r]) q) (Classical.propDecidable _)
theorem barB_is {As : List (Rn × Bool)} {r q : Rn} : barB As r q = true ↔ Cl (· ∈ sel As true ++ [r]) q := by
  unfold barB
  exact @decide_eq_true_iff _ (Classical.propDecidable _)
theorem cl_with {As : List (Rn × Bool)} {r : Rn} {F : List Rn} (mF : ∀ q, q ∈ F ↔ Cl (· ∈ sel As true) q) (q : Rn) : Cl (fun x => x ∈ F ∨ x ∈ [r]) q ↔ Cl (· ∈ sel As true ++ [r]) q := by
  constructor
  · intro c
    refine c.join fun x h => ?_
    rcases h with h | h
    · exact ((mF x).1 h).mono fun y hy => List.mem_append_left _ hy
    · exact .base (List.mem_append_right _ h)
  · intro c
    refine c.mono fun x h => ?_
    rcases List.mem_append.mp h with h | h
    · exact .inl ((mF x).2 (.base h))
    · exact .inr h
theorem filter_snoc {l : List Rn} {p : Rn → Bool} {i : Nat} {x : Rn} (h : l[i]? = some x) : (l.take (i + 1)).filter p = (l.take i).filter p ++ if p x = true then [x] else [] := by
  rw [List.take_add_one, h]
  simp only [Option.toList_some, List.filter_append]
  congr 1
  by_cases e : p x = true
  · rw [if_pos e]
    simp [e]
  · rw [if_neg e]
    simp [e]
end Kq
set_option maxHeartbeats 1000000
namespace Kq
open PySem PySem.Spec PyProof.Rows L2 Kp
open Evl (Ev EvL EvT EvA given)
open LamX (ExtN Tabs TabB)
/-! ### _law_run_right -/
def spRunR (CG CO CA CS : Addr) (TT : List (Addr × Str)) : Sp := fun vs H Q _ => ∃ (p l a o tk rw ye no b : Addr) (cs : List Int) (k : Nat) (ws : List Str) (As : List (Rn × Bool)) (r : Rn) (ys ns : List Addr), vs = [.ref p, .ref a, .ref rw, .ref ye, .ref no, .ref b] ∧ Pen H p l cs (k + 7) ∧ AskC CG CO CA H a o tk ws As ∧
  H rw = some (.lst (ws.map V.str)) ∧ H ye = some (.lst (ys.map V.ref)) ∧ PrsAt H ys (sel As true) ∧ H no = some (.lst (ns.map V.ref)) ∧ PrsAt H ns (sel As false) ∧ PrAt H b r ∧ OkR ws.length r ∧ 2 ≤ ws.length ∧ Tabs TT H ∧ tk ≠ p ∧ rw ≠ p ∧ ye ≠ p ∧ no ≠ p ∧
  (∀ q ∈ sel As false, ¬ Cl (· ∈ sel As true) q ∧ sureB ws.length q = false) ∧
  ∀ (H' : Hp) (k' : Nat), k ≤ k' → Pen H' p l cs k' → (∀ c u, c ≠ p → H c = some u → (∀ ps, u ≠ .tbl ps) → H' c = some u) → Tabs TT H' → Q (.bl true) H'
section
variable {P : Program} {w : World} {K : PySem.W.Frag} {mg : Str → Option Value} {base : Heap} {tL tM tA : Tok} {ad : Ad} {TT : List (Addr × Str)} {cC PC : Addr}
theorem ok_run_right (T : Tx K mg tL tM tA ad) (TL : TxL K mg base ad TT cC PC) : FnR P w K mg base (L2.CX P w) 10 ad.fRunR (spRunR ad.CG ad.CO ad.CA ad.CS TT) := by
  obtain ⟨fd, F⟩ := T.F_l_run_right
  have B := T.B
  have G_Group_of := ok_group_of (P := P) (w := w) (base := base) T
  have G_l_draw := pen_draw (P := P) (w := w) (base := base) T.B T.P
  have G_l_closed := ok_l_closed (P := P) (w := w) (base := base) T
  have G_l_chain_right := ok_chain_right (P := P) (w := w) (base := base) T
  have G_Asker_chain_of := ok_chain_of2 (P := P) (w := w) (base := base) T
  have G_shows_chain := ok_shows (P := P) (w := w) (base := base) T
  obtain ⟨fdb, Fb⟩ := T.F_Asker_bar_of
  have FK := Fb.okX sc_Asker_bar_of sp_bar2_len (body_bar_of2 (P := P) (w := w) (base := base) T TL)
  have KB := kbn_of (n := 1) (ps := ["self", "run"]) (ks := ["run"]) (g := fun us ws => us ++ ws) (gV := fun vs zs => vs ++ zs) Fb (fun _ _ _ _ _ _ us ws h1 h2 => match us, ws, h1, h2 with | [_], [_], _, _ => rfl) (fun h k => h.append k)
  refine fnP F sc_l_run_right (fun _ _ _ _ _ _ us hl => match us, hl with | [_, _, _, _, _, _], _ => rfl) (fun vs H Q E h => ?_) (fun cdv A outer s H vs Q E hr h => ?_)
  · obtain ⟨p, l, a, o, tk, rw, ye, no, b, cs, k, ws, As, r, ys, ns, rfl, _⟩ := h
    rfl
  · refine ⟨_, PSs.nox (Evl.pss_cut (ps_setLc (i := 6) (own := [("_law_low", 14), ("_law_high", 15)]) (tt := tYes) rfl sc_l_run_right.nd rfl rfl (sw_true rfl rfl rfl (by decide +kernel)) (pi_listK (K := K) rfl (pv 3)) (blkOk_by (own := [("_law_low", 14), ("_law_high", 15)]) (N := N_l_run_right) (sc := defScope s_l_run_right) (by decide +kernel)) (fun _ _ _ _ _ => (pg_tupK (n := 2) (K := K) rfl rfl (pgs_cons (pg_name (i := 14) sc_l_run_right.nd rfl (Or.inl rfl)) (pgs_cons (pg_name (i := 15) sc_l_run_right.nd rfl (Or.inl rfl)) pgs_nil)))) (fun _ _ _ _ _ => pts_nil) (fun _ _ _ _ _ => by exact (pe_callTy (call_tuple_ofK (K := K) rfl) (by rfl) B.n_tuple (by decide +kernel) (pa_cons (pe_callB (Kq.cr_sortedSK (K := K) rfl) (by rfl) B.n_sorted (by decide +kernel) (pa_cons (pe_slice (sl_listK (K := K) rfl) (pv 2) (po_some (pv 14)) (po_some (pe_op op_add (pv 15) pe_int))) pa_nil)) pa_nil))))
(Evl.pss_cut (ps_asg (pe_tup (pa_cons (pe_callTy (call_tuple_ofK (K := K) rfl) (by rfl) B.n_tuple (by decide +kernel) (pa_cons (pe_callB (Kq.cr_sortedSK (K := K) rfl) (by rfl) B.n_sorted (by decide +kernel) (pa_cons (pe_slice (sl_listK (K := K) rfl) (pv 2) (po_some (pe_ix (ix_tupK (K := K) rfl) (pv 5) pe_int (fun _ _ => rfl))) (po_some (pe_op op_add (pe_ix (ix_tupK (K := K) rfl) (pv 5) pe_int (fun _ _ => rfl)) pe_int))) pa_nil)) pa_nil)) (pa_cons (pe_callR G_l_closed (hr.mono (by decide)) T.k_l_closed (by rfl) T.g_l_closed passL (pa_cons (pe_lst pa_nil) (pa_cons (pv 3) pa_nil))) pa_nil))) (pg_tupK (n := 2) (K := K) rfl rfl (pgs_cons (pg_name (i := 7) sc_l_run_right.nd rfl (Or.inl rfl)) (pgs_cons (pg_name (i := 8) sc_l_run_right.nd rfl (Or.inr rfl)) pgs_nil))))
(Evl.pss_cut (ps_par (i := 9) (j := 10) (by rfl) sc_l_run_right.nd rfl rfl (by decide) rfl rfl (pa_cons (Kp.pe_methR (E := E0) (pv 1) T.A.cl T.m_chain_of G_Asker_chain_of (hr.mono (by decide)) passL (pa_cons (ClX.pe_cmeth (E := E0) (pe_glob (v := .ref _) (by rfl) T.G.g rfl) T.G_rd T.G_of G_Group_of (hr.mono (by decide)) passL (pa_cons (pv 7) pa_nil)) pa_nil)) (pa_cons (pe_methK0 (E := E0) (pv 1) T.A.cl T.m_bar_of FK (hr.mono (by decide)) KB passL (pk_cons (ClX.pe_cmeth (E := E0) (pe_glob (v := .ref _) (by rfl) T.G.g rfl) T.G_rd T.G_of G_Group_of (hr.mono (by decide)) passL (pa_cons (pv 7) pa_nil)) pk_nil)) pa_nil)) (by rfl))
(Evl.pss_cut (ps_if (PW.pt (pw_or (pt_cmpR op_eq (pe_ix (ix_tupK (K := K) rfl) (pv 5) pe_int (fun _ _ => rfl)) (pe_ix (ix_tupK (K := K) rfl) (pv 5) pe_int (fun _ _ => rfl)) (nomark _)) (pw_or1 (pt_cmpR (op_eqDK (K := K) rfl hr.units) (pv 5) (pe_tup (pa_cons pe_int (pa_cons (pe_op op_sub (pe_callB (call_lenK (K := K) rfl) (by rfl) B.n_len (by decide +kernel) (pa_cons (pv 2) pa_nil)) pe_int) pa_nil))) (nomark _)))))
(pss_cons (ps_set (i := 11) sc_l_run_right.nd rfl (Or.inl rfl) (pe_op op_cat (pv 6) (pe_op op_rep (pe_lst (pa_cons (pv 7) pa_nil)) (pe_callR G_l_draw (hr.mono (by decide)) T.P.k_l_draw (by rfl) T.P.g_l_draw passL (pa_cons (pv 0) (pa_cons pe_int pa_nil))))))
(pss_cons (ps_set (i := 12) sc_l_run_right.nd rfl (Or.inl rfl) (pe_callR G_shows_chain (hr.mono (by decide)) T.k_shows_chain (by rfl) T.g_shows_chain passL (pa_cons (pe_lc (own := [("_law_one", 16)]) (g := gName 16) (tt := tYes) rfl sc_l_run_right.nd (pi_listK (K := K) rfl (pv 11)) (blkOk_by (own := [("_law_one", 16)]) (N := N_l_run_right) (sc := defScope s_l_run_right) (by decide +kernel)) (fun _ _ _ _ _ => (pg_name (i := 16) sc_l_run_right.nd rfl (Or.inl rfl))) (fun _ _ _ _ _ => pts_nil) (fun _ _ _ _ _ => by exact (ClX.pe_cmeth (E := E0) (pe_glob (v := .ref _) (by rfl) T.G.g rfl) T.G_rd T.G_of G_Group_of (hr.mono (by decide)) passL (pa_cons (pv 16) pa_nil)))) (pa_cons (ClX.pe_cmeth (E := E0) (pe_glob (v := .ref _) (by rfl) T.G.g rfl) T.G_rd T.G_of G_Group_of (hr.mono (by decide)) passL (pa_cons (pv 7) pa_nil)) (pa_cons (pe_tup pa_nil) pa_nil)))))
(pss_one (ps_ret (pe_and (pe_cmpR (op_eqETK (K := K) rfl hr.units) (pv 9) (pe_tup pa_nil) (nomark _)) (pe_and (pe_cmp (pc_isN (pv 10)) rfl) (pe_one (pe_cmpR op_eq (pe_callB call_repr_bl (by rfl) B.n_repr (by decide +kernel) (pa_cons (pv 12) pa_nil)) (pe_callB call_repr_bl (by rfl) B.n_repr (by decide +kernel) (pa_cons (pe_cmpR (op_inDK (K := K) rfl (u65 hr)) (pv 7) (pv 11) (by rfl)) pa_nil)) (nomark _)))))))))
pss_nil)
(pss_cons (ps_if (pt_cmp (pc_din (hu_of hr) (pv 5) (pv 8)))
(pss_one (ps_ret (pe_and (pe_cmp (pc_isN (pv 10)) rfl) (pe_one (pe_callR G_l_chain_right (hr.mono (by decide)) T.k_l_chain_right (by rfl) T.g_l_chain_right passL (pa_cons (pv 0) (pa_cons (pv 6) (pa_cons (pv 7) (pa_cons (pv 9) pa_nil)))))))))
pss_nil)
(pss_cons (ps_setLc (i := 13) (own := [("_law_one", 16)]) (g := gName 16) rfl sc_l_run_right.nd rfl rfl (sw_true rfl rfl rfl (by decide +kernel)) (pi_listK (K := K) rfl (pv 4)) (blkOk_by (own := [("_law_one", 16)]) (N := N_l_run_right) (sc := defScope s_l_run_right) (by decide +kernel)) (fun _ _ _ _ _ => (pg_name (i := 16) sc_l_run_right.nd rfl (Or.inl rfl))) (fun _ _ _ _ _ => (pts_one (pt_cmp (pc_din (hu_of hr) (pv 16) (pe_callR G_l_closed (hr.mono (by decide)) T.k_l_closed (by rfl) T.g_l_closed passL (pa_cons (pv 8) (pa_cons (pe_lst (pa_cons (pv 5) pa_nil)) pa_nil))))))) (fun _ _ _ _ _ => by exact (pv 16)))
(pss_cons (ps_if (PW.pt (pw_or (pt_cmp (pc_notN (pv 9))) (pw_or1 (pt_cmpR (op_eqEK (K := K) rfl hr.units) (pv 13) (pe_lst pa_nil) (nomark _)))))
(pss_one (ps_ret (pe_and (pe_cmp (pc_isN (pv 9)) rfl) (pe_one (pe_cmp (pc_isN (pv 10)) rfl)))))
pss_nil)
(pss_cons (ps_if (PW.pt (pw_or (pt_not (pt_val (pe_callB (call_isiKK (K := K) rfl) (by rfl) B.n_isinstance (by decide +kernel) (pa_cons (pv 10) (pa_cons (pe_bltn (v := .ty "tuple") (u := .type "tuple") (by rfl) B.n_tuple (by decide +kernel) rfl) pa_nil))))) (pw_or (pt_cmpR op_ne (pe_callB (call_lenK (K := K) rfl) (by rfl) B.n_len (by decide +kernel) (pa_cons (pv 10) pa_nil)) pe_int (nomark _)) (pw_or1 (pt_not (pt_val (pe_callB (call_isiKK (K := K) rfl) (by rfl) B.n_isinstance (by decide +kernel) (pa_cons (pe_ix (ix_tupK (K := K) rfl) (pv 10) pe_int (fun _ _ => rfl)) (pa_cons (pe_glob (v := .ref _) (by rfl) T.G.g rfl) pa_nil)))))))))
(pss_one (ps_ret pe_bl))
pss_nil)
(pss_cons (ps_if (pt_cmpR (op_notInDK (K := K) rfl (u65 hr)) (pe_fldK (K := K) rfl (pe_ix (ix_tupK (K := K) rfl) (pv 10) pe_int (fun _ _ => rfl))) (pe_lc (own := [("_law_low", 14), ("_law_high", 15)]) (tt := tYes) rfl sc_l_run_right.nd (pi_listK (K := K) rfl (pv 13)) (blkOk_by (own := [("_law_low", 14), ("_law_high", 15)]) (N := N_l_run_right) (sc := defScope s_l_run_right) (by decide +kernel)) (fun _ _ _ _ _ => (pg_tupK (n := 2) (K := K) rfl rfl (pgs_cons (pg_name (i := 14) sc_l_run_right.nd rfl (Or.inl rfl)) (pgs_cons (pg_name (i := 15) sc_l_run_right.nd rfl (Or.inl rfl)) pgs_nil)))) (fun _ _ _ _ _ => pts_nil) (fun _ _ _ _ _ => by exact (pe_callTy (call_tuple_ofK (K := K) rfl) (by rfl) B.n_tuple (by decide +kernel) (pa_cons (pe_callB (Kq.cr_sortedSK (K := K) rfl) (by rfl) B.n_sorted (by decide +kernel) (pa_cons (pe_slice (sl_listK (K := K) rfl) (pv 2) (po_some (pv 14)) (po_some (pe_op op_add (pv 15) pe_int))) pa_nil)) pa_nil)))) (by rfl))
(pss_one (ps_ret pe_bl))
pss_nil)
(pss_one (ps_ret (pe_callR G_l_chain_right (hr.mono (by decide)) T.k_l_chain_right (by rfl) T.g_l_chain_right passL (pa_cons (pv 0) (pa_cons (pe_op op_cat (pv 6) (pe_lst (pa_cons (pv 7) pa_nil))) (pa_cons (pe_fldK (K := K) rfl (pe_ix (ix_tupK (K := K) rfl) (pv 10) pe_int (fun _ _ => rfl))) (pa_cons (pe_ix (ix_tupK (K := K) rfl) (pv 10) pe_int (fun _ _ => rfl)) pa_nil)))))))))))))))), ?_⟩
    obtain ⟨p, l, a, o, tk, rw, ye, no, b, cs, k, ws, As, r, ys, ns, rfl, pen, ak, hrw, hye, hys, hno, hns, hb, hr0, h2, hTT, ntk, nrw, nye, nno, hI, hQ⟩ := h
    obtain ⟨dx, ha⟩ := ak.at_
    have lim := ak.lim
    have okT := sel_ok (b := true) ak.oks
    have okF := sel_ok (b := false) ak.oks
    have slT := @sel_len As true
    have slF := @sel_len As false
    have ok := ak.ok
    have h7 := ak.few
    have lys := hys.1
    have lns := hns.1
    refine ⟨fun σ' H' => ∃ D kp, σ' = [some (V.ref p), some (V.ref a), some (V.ref rw), some (V.ref ye), some (V.ref no), some (V.ref b), some (V.ref D), none, none, none, none, none, none, none, none, none, none] ∧ Ext H H' ∧ H D = none ∧ H' D = some (.lst (kp.map V.ref)) ∧ RowsT H' kp ((sel As true).map (wset ws)), ?_, ?_⟩
    · dsimp only [tAsg]
      exact sets_lc (i := 3) rfl (fun _ _ => rfl) (fun _ _ => rfl) (fun _ _ => rfl) (fun _ _ => rfl) hye hys hrw ok h7 okT (by omega) fun D kp H1 x1 hD0 hD hkp => ⟨D, kp, rfl, x1, hD0, hD, hkp⟩
    rintro σ' H1 ⟨D, kp, rfl, x1, hD0, hD, hkp⟩
    refine ⟨fun σ' H' => ∃ so KD F, σ' = [some (V.ref p), some (V.ref a), some (V.ref rw), some (V.ref ye), some (V.ref no), some (V.ref b), some (V.ref D), some (V.ref so), some (V.ref KD), none, none, none, none, none, none, none, none] ∧ Ext H1 H' ∧ H' so = some (.tup ((wset ws r).map V.str)) ∧ LDt H' KD F ∧ ClosedF ws.length F ∧ ∀ q, q ∈ F ↔ Cl (· ∈ sel As true) q, ?_, ?_⟩
    · have hb1 := hb.ext x1
      refine ⟨_, rfl, _, rfl, b, _, 0, _, rfl, rfl, SqT.of hb1, rfl, _, rfl, _, rfl, b, _, 1, _, rfl, rfl, SqT.of hb1, rfl, _, _, rfl, rfl, _, rfl, rw, _, rfl, SqL.of (x1 _ _ hrw), fun p1 hp1 => ?_⟩
      rw [cut_seg hr0.1 hr0.2]
      have y1 := Ext.upd (o := HO.lst ((seg ws r.1 r.2).map V.str)) hp1
      refine ⟨p1, _, rfl, SqL.of upd_same, by have := seg_le7 (r := r) h7; omega, fun zs p2 pm so hp2 => ?_⟩
      have y2 := y1.trans (Ext.upd (o := HO.lst (zs.map V.str)) hp2)
      refine ⟨p2, _, rfl, .inl ⟨SqL.of upd_same, fun q hq => ?_⟩⟩
      have y3 := y2.trans (Ext.upd (o := HO.tup (zs.map V.str)) hq)
      have ez : zs = wset ws r := gs_eq ⟨so, pm.nodup_iff.mpr (seg_nd ok.nd), fun k => pm.mem_iff⟩
      have oq : upd (upd (upd H1 p1 (HO.lst ((seg ws r.1 r.2).map V.str))) p2 (HO.lst (zs.map V.str))) q (HO.tup (zs.map V.str)) q = some (.tup ((wset ws r).map V.str)) := by
        rw [upd_same, ez]
      generalize upd (upd (upd H1 p1 (HO.lst ((seg ws r.1 r.2).map V.str))) p2 (HO.lst (zs.map V.str))) q (HO.tup (zs.map V.str)) = H3 at y3 oq ⊢
      refine ⟨by decide, fun k0 hk0 => ?_⟩
      have y4 := Ext.upd (o := HO.lst ([] : List V)) hk0
      have ok0 : upd H3 k0 (.lst ([] : List V)) k0 = some (.lst []) := upd_same
      have x13 := x1.trans y3
      have nk : k0 ≠ ye := (ne_of_none (x13 _ _ hye) hk0).symm
      generalize upd H3 k0 (.lst ([] : List V)) = H4 at y4 ok0 ⊢
      have x14 := x13.trans y4
      refine ⟨_, rfl, k0, ye, ys, [], sel As true, ws.length, rfl, .inl ⟨rfl, ok0⟩, ⟨List.nodup_nil, by simp, by simp⟩, SqL.of (x14 _ _ hye), nk, hys.ext x14, h7, okT, by omega, fun KD F H5 x5 hKD0 hKD cF mF => ?_⟩
      refine ⟨(show (2 : Nat) ≤ sizeLine by rw [sizeLine_eq]; decide), fun tt htt => ?_⟩
      have y6 := Ext.upd (o := HO.tup [V.ref q, V.ref KD]) htt
      refine ⟨tt, _, rfl, SqT.of upd_same, rfl, _, _, rfl, _, _, rfl, rfl, ?_⟩
      exact ⟨q, KD, F, rfl, (y3.trans (y4.trans x5)).trans y6, y6 _ _ (x5 _ _ (y4 _ _ oq)), y6 _ _ hKD, cF, fun z => (mF z).trans (Cl.congr (fun x => ⟨fun h => h.resolve_left (by simp), .inr⟩) z)⟩
    rintro σ' H2 ⟨so, KD, F, rfl, x2, hso, hKD, cF, mF⟩
    have x02 := x1.trans x2
    have A2 : RunA H2 rw no b D so KD ws As r ns kp F := ⟨x02 _ _ hrw, x02 _ _ hno, hns.ext x02, hb.ext x02, x2 _ _ hD, hkp.ext x2, hso, hKD⟩
    have rso : RowOk (wset ws r) := wset_ok ok h7
    have igr : IsG (wset ws r) (seg ws r.1 r.2) := gs_is _
    have few7 := rso.few
    refine ⟨fun σ' H' => ∃ v w, σ' = [some (V.ref p), some (V.ref a), some (V.ref rw), some (V.ref ye), some (V.ref no), some (V.ref b), some (V.ref D), some (V.ref so), some (V.ref KD), some v, some w, none, none, none, none, none, none] ∧ ExtN H2 H' ∧ Tabs TT H' ∧ ChainAns ad.CG ad.CS H' ws As r v ∧ BarAns ad.CG ad.CS H' ws As r w, ?_, ?_⟩
    · have ak2 := ak.ext x02
      refine ⟨_, rfl, a, dx, _, rfl, x02 _ _ ha, rfl, rfl, _, rfl, so, _, rfl, .inr hso, rso.wd, by omega, fun g ug H3 ig x3 hg gg => ?_⟩
      have eu := rso.eq ig
      subst eu
      refine ⟨a, o, tk, g, ws, _, As, r, rfl, ak2.ext x3, gg, igr, hr0, fun v H4 x4 cv => ?_⟩
      have x34 := x3.trans x4
      refine ⟨_, rfl, a, dx, _, rfl, (x02.trans x34) _ _ ha, rfl, rfl, _, rfl, so, _, rfl, .inr (x34 _ _ hso), rso.wd, by omega, fun g2 ug2 H5 ig2 x5 hg2 gg2 => ?_⟩
      have eu2 := rso.eq ig2
      subst eu2
      have x35 := x34.trans x5
      refine ⟨rfl, a, o, tk, g2, ws, _, As, r, rfl, ak2.ext x35, gg2, igr, hr0, hTT.ext (x02.trans x35), fun w H6 e6 T6 bw => ⟨_, _, rfl, ?_⟩⟩
      exact ⟨v, w, rfl, (ExtN.of x35).trans e6, T6, cv.extN ((ExtN.of x5).trans e6), bw⟩
    rintro σ' H3 ⟨v, w, rfl, e3, T3, cv, bw⟩
    have A3 := A2.extN e3
    have pen3 := (pen.ext x02).extN e3
    have e03 : ExtN H H3 := (ExtN.of x02).trans e3
    obtain ⟨tp, rp, hp3, _⟩ := pen3.at_
    refine ⟨fun σ' H' => sureB ws.length r = false ∧ σ' = [some (V.ref p), some (V.ref a), some (V.ref rw), some (V.ref ye), some (V.ref no), some (V.ref b), some (V.ref D), some (V.ref so), some (V.ref KD), some v, some w, none, none, none, none, none, none] ∧ Ext H3 H', ?_, ?_⟩
    · have hb3 := A3.b_
      refine ⟨_, rfl, b, _, 0, _, rfl, rfl, SqT.of hb3, rfl, _, rfl, b, _, 1, _, rfl, rfl, SqT.of hb3, rfl, rfl, _, rfl, ?_⟩
      rw [dec_nat r.1 r.2]
      by_cases hs : sureB ws.length r = true
      · have hbar : w = .non := by
          rcases bw with ⟨_, h⟩ | ⟨_, _, _, _, _, _, q, _, hq, hc, _⟩
          · exact h
          · exfalso
            rcases cl_sure okT hr0 hs hc with h | h
            · exact (hI q hq).1 h
            · have := (hI q hq).2
              rw [h, hs] at this
              cases this
        subst hbar
        obtain ⟨tv, rfl, htv⟩ : ∃ t, v = .ref t ∧ H3 t = some (.tup []) := by
          rcases cv with ⟨_, h⟩ | ⟨h, _⟩ | ⟨h, _⟩
          · exact h
          · rw [hs] at h; cases h
          · rw [hs] at h; cases h
        have two : r.1 = r.2 ∨ (r.1 ≠ r.2 ∧ r = (0, ws.length - 1)) := by
          by_cases h : r.1 = r.2
          · exact .inl h
          · unfold sureB at hs
            rw [decide_eq_false h, Bool.false_or] at hs
            exact .inr ⟨h, of_decide_eq_true hs⟩
        rcases two with h1 | ⟨h1, h2'⟩
        case' inl =>
          rw [decide_eq_true h1]
          refine iteT ?_
          refine iteT ?_
          generalize e34 : H3 = H4
          have x4 : Ext H3 H4 := e34 ▸ Ext.rfl'
        case' inr =>
          rw [decide_eq_false h1]
          refine iteF ?_
          refine ⟨_, rfl, _, rfl, _, ws.length, rfl, .inl ⟨_, SqL.of A3.rw_, by simp⟩, _, _, rfl, rfl, (show (2 : Nat) ≤ sizeLine by decide), fun p0 hp0 => ?_⟩
          have x4 := Ext.upd (o := HO.tup [.int 0, .int ((ws.length : Nat) - 1 : Int)]) hp0
          refine ⟨.tuple [.int r.1, .int r.2], .tuple [.int 0, .int ((ws.length : Nat) - 1)], Dp.tup (SqT.of (x4 _ _ hb3)) (dp_ints [_, _]), Dp.tup (SqT.of upd_same) (dp_ints [_, _]), shaped_pr _ _, shaped_pr _ _, _, rfl, ?_⟩
          rw [eqv_pr, show (decide (((r.1 : Nat) : Int) = 0) && decide (((r.2 : Nat) : Int) = (ws.length : Nat) - 1)) = true from by
            rw [h2']
            simp
            omega]
          refine iteT ?_
          generalize upd H3 p0 (HO.tup [.int 0, .int ((ws.length : Nat) - 1 : Int)]) = H4 at x4 ⊢
        all_goals
          have A4 := A3.ext x4
          have pen4 := pen3.ext x4
          have htv4 := x4 _ _ htv
          have hp4 := x4 _ _ hp3
          have nD : D ≠ p := by
            obtain ⟨_, _, hp0, _⟩ := pen.at_
            exact (ne_of_none hp0 hD0).symm
          have rk1 : ∀ z ∈ (sel As true).map (wset ws), RowOk z := fun z hz => by
            obtain ⟨q, _, rfl⟩ := List.mem_map.mp hz
            exact wset_ok ok h7
          have lkp := A4.kp_.1
          rw [List.length_map] at lkp
          refine ⟨_, rfl, _, rfl, (show (1 : Nat) ≤ sizeLine by rw [sizeLine_eq]; decide), fun m hm => ?_⟩
          have y1 := Ext.upd (o := HO.lst [V.ref so]) hm
          have om : upd H4 m (.lst [V.ref so]) m = some (.lst [V.ref so]) := upd_same
          have nm : m ≠ p := (ne_of_none hp4 hm).symm
          generalize upd H4 m (.lst [V.ref so]) = H5 at y1 om ⊢
          have A5 := A4.ext y1
          refine ⟨_, rfl, p, l, cs, k + 6, _, rfl, pen4.ext y1, by decide, by decide, fun d H6 d0 d1 pen6 kt6 => ?_⟩
          obtain ⟨n, rfl⟩ := Int.eq_ofNat_of_zero_le d0
          have eL6 := ExtL.kept (y1 _ _ hp4) kt6
          have e6 : ∀ c u, c ≠ p → H3 c = some u → H6 c = some u := fun c u nc hc => kt6 _ _ nc (y1 _ _ (x4 _ _ hc))
          refine ⟨m, n, _, rfl, rfl, kt6 _ _ nm om, by omega, by omega, by simp; exact Nat.le_trans (by omega : n ≤ 1) (by decide), fun q hq => ?_⟩
          have y7 := Ext.upd (o := HO.lst (List.replicate (n : Int).toNat [V.ref so]).flatten) hq
          have oq : upd H6 q (.lst (List.replicate (n : Int).toNat [V.ref so]).flatten) q = some (.lst ((List.replicate n so).map V.ref)) := by
            rw [upd_same, Int.toNat_natCast]
            simp
          generalize upd H6 q (.lst (List.replicate (n : Int).toNat [V.ref so]).flatten) = H7 at y7 oq ⊢
          refine ⟨D, q, _, _, rfl, rfl, y7 _ _ (kt6 _ _ nD A5.D_), oq, by simp; exact Nat.le_trans (by omega : _ ≤ 30) (by decide), fun q2 hq2 => ?_⟩
          have y8 := Ext.upd (o := HO.lst (kp.map V.ref ++ (List.replicate n so).map V.ref)) hq2
          have oq2 : upd H7 q2 (.lst (kp.map V.ref ++ (List.replicate n so).map V.ref)) q2 = some (.lst ((kp ++ List.replicate n so).map V.ref)) := by
            rw [upd_same, List.map_append]
          generalize upd H7 q2 (.lst (kp.map V.ref ++ (List.replicate n so).map V.ref)) = H8 at y8 oq2 ⊢
          have y68 := y7.trans y8
          have so8 := y68 _ _ (eL6.tups _ _ A5.so_)
          have kp8 : RowsT H8 (kp ++ List.replicate n so) ((sel As true).map (wset ws) ++ List.replicate n (wset ws r)) := by
            have k1 := (A5.kp_.keep eL6.tups).ext y68
            refine ⟨by simp [lkp], fun j p' z h1 h2 => ?_⟩
            by_cases hj : j < kp.length
            · rw [List.getElem?_append_left hj] at h1
              rw [List.getElem?_append_left (by rw [List.length_map, ← lkp]; exact hj)] at h2
              exact k1.2 j p' z h1 h2
            · rw [List.getElem?_append_right (by omega)] at h1
              rw [List.getElem?_append_right (by rw [List.length_map]; omega)] at h2
              obtain ⟨_, rfl⟩ := List.mem_replicate.mp (List.mem_of_getElem? h1)
              obtain ⟨_, rfl⟩ := List.mem_replicate.mp (List.mem_of_getElem? h2)
              exact so8
          have rk8 : ∀ z ∈ (sel As true).map (wset ws) ++ List.replicate n (wset ws r), RowOk z := fun z hz => by
            rcases List.mem_append.mp hz with h | h
            · exact rk1 z h
            · rw [(List.mem_replicate.mp h).2]
              exact rso
          have lz8 : ((sel As true).map (wset ws) ++ List.replicate n (wset ws r)).length ≤ 30 := by
            rw [List.length_append, List.length_map, List.length_replicate]
            omega
          dsimp only [tSeq, tAsg, tCallR, tCons, gName]
          refine groups_lc (i := 11) rfl (fun _ => rfl) (fun _ => rfl) oq2 kp8 rk8 lz8 fun Dg gs H9 x9 hDg0 hDg hgs => ?_
          refine ⟨rfl, _, rfl, so, _, rfl, .inr (x9 _ _ so8), rso.wd, by omega, fun g ug H10 ig x10 hg gg => ?_⟩
          have eu := rso.eq ig
          subst eu
          refine ⟨by decide, fun e0 he0 => ?_⟩
          have y11 := Ext.upd (o := HO.tup ([] : List V)) he0
          have oe0 : upd H10 e0 (.tup ([] : List V)) e0 = some (.tup []) := upd_same
          generalize upd H10 e0 (.tup ([] : List V)) = H11 at y11 oe0 ⊢
          refine ⟨Dg, g, .ref e0, gs, _, _, rfl, .inl (SqL.of (y11 _ _ (x10 _ _ hDg))), hgs.ext (x10.trans y11), by omega, gg.ext y11, .inr ⟨e0, [], [], rfl, oe0, ⟨rfl, by simp⟩, by simp, by simp, fun H12 x12 => ?_⟩⟩
          have x8C := x9.trans (x10.trans (y11.trans x12))
          have x6C := y68.trans x8C
          have tv12 : H12 tv = some (.tup []) := x6C _ _ (eL6.tups _ _ (y1 _ _ htv4))
          refine ⟨_, rfl, by decide, fun e1 he1 => ?_⟩
          have y13 := Ext.upd (o := HO.tup ([] : List V)) he1
          refine ⟨tv, e1, [], rfl, rfl, SqT.of (y13 _ _ tv12), SqT.of upd_same, _, rfl, iteT ?_⟩
          refine ⟨_, rfl, _, rfl, iteT ?_⟩
          generalize upd H12 e1 (.tup ([] : List V)) = H13 at y13 ⊢
          have x8D := x8C.trans y13
          refine ⟨_, rfl, _, rfl, _, rfl, _, rfl, _, _, Dp.tup (SqT.of (x8D _ _ so8)) (dp_strs _), Dp.lst (SqL.of (x8D _ _ oq2)) (rowsT_dp (kp8.ext x8D)), row_shaped rso.wd, rows_shaped fun z hz => (rk8 z hz).wd, ?_⟩
          have e1' : ((((sel As true).map (wset ws) ++ List.replicate n (wset ws r)).map rowD).any fun z => PyData.eqv z (.tuple ((wset ws r).map PyData.str))) = chainB (wset ws r) ((sel As true).map (wset ws) ++ List.replicate n (wset ws r)) [] := rows_any _ _
          rw [e1']
          refine ⟨_, rfl, rfl, ?_⟩
          rw [show decide (V.str (if chainB (wset ws r) ((sel As true).map (wset ws) ++ List.replicate n (wset ws r)) [] = true then "True" else "False") = V.str (if chainB (wset ws r) ((sel As true).map (wset ws) ++ List.replicate n (wset ws r)) [] = true then "True" else "False")) = true from by simp]
          have x68 : Ext H6 H13 := x6C.trans y13
          refine hQ H13 (k + 6) (by omega) (pen6.ext x68) (fun c' u nc hc nt => x68 _ _ (e6 c' u nc (e03 _ _ hc nt))) ?_
          exact (tabs_keptL (T3.ext (x4.trans y1)) eL6).ext x68
      · rw [Bool.not_eq_true] at hs
        have hs2 := hs
        unfold sureB at hs2
        rw [Bool.or_eq_false_iff] at hs2
        obtain ⟨n1, n2⟩ := hs2
        have n1 := of_decide_eq_false n1
        have n2 := of_decide_eq_false n2
        rw [decide_eq_false n1]
        refine iteF ?_
        refine ⟨_, rfl, _, rfl, _, ws.length, rfl, .inl ⟨_, SqL.of A3.rw_, by simp⟩, _, _, rfl, rfl, (show (2 : Nat) ≤ sizeLine by decide), fun p0 hp0 => ?_⟩
        have x4 := Ext.upd (o := HO.tup [.int 0, .int ((ws.length : Nat) - 1 : Int)]) hp0
        refine ⟨.tuple [.int r.1, .int r.2], .tuple [.int 0, .int ((ws.length : Nat) - 1)], Dp.tup (SqT.of (x4 _ _ hb3)) (dp_ints [_, _]), Dp.tup (SqT.of upd_same) (dp_ints [_, _]), shaped_pr _ _, shaped_pr _ _, _, rfl, ?_⟩
        have e2 : (decide (((r.1 : Nat) : Int) = 0) && decide (((r.2 : Nat) : Int) = (ws.length : Nat) - 1)) = false := by
          rw [← Bool.decide_and]
          refine decide_eq_false fun h => n2 ?_
          exact Prod.ext (by show r.1 = 0; omega) (by show r.2 = ws.length - 1; omega)
        rw [eqv_pr, e2]
        exact iteF ⟨hs, rfl, x4⟩
    rintro σ' H4 ⟨hsu, rfl, x4⟩
    have A4 := A3.ext x4
    have pen4 := pen3.ext x4
    have hp4 := x4 _ _ hp3
    have T4 := T3.ext x4
    have cv4 := cv.extN (ExtN.of x4)
    have bw4 := bw.extN (ExtN.of x4)
    have nD : D ≠ p := by
      obtain ⟨_, _, hp0, _⟩ := pen.at_
      exact (ne_of_none hp0 hD0).symm
    have e04 : ∀ c u, c ≠ p → H c = some u → (∀ ps, u ≠ .tbl ps) → H4 c = some u := fun c u _ hc nt => x4 _ _ (e03 _ _ hc nt)
    have rk1 : ∀ z ∈ (sel As true).map (wset ws), RowOk z := fun z hz => by
      obtain ⟨q, _, rfl⟩ := List.mem_map.mp hz
      exact wset_ok ok h7
    have lkp := A4.kp_.1
    rw [List.length_map] at lkp
    refine ⟨_, rfl, _, rfl, KD, _, rfl, DGet.t A4.KD_ A4.b_.key, _, rfl, ?_⟩
    rw [valL_is]
    by_cases hin : r ∈ F
    · rw [decide_eq_true hin]
      refine iteT ?_
      have hcl := (mF r).1 hin
      have hbar : w = .non := by
        rcases bw with ⟨_, h⟩ | ⟨_, _, _, _, _, _, q, _, hq, hc, _⟩
        · exact h
        · exact absurd ((cl_known hcl).1 hc) (hI q hq).1
      subst hbar
      obtain ⟨tv, us, xs, rfl, htv, hst, hch⟩ : ∃ (t : Addr) (us : List Addr) (xs : List Row), v = .ref t ∧ H4 t = some (.tup (us.map V.ref)) ∧ StpsAt ad.CG ad.CS H4 us ws xs ∧ ChainTo ws.length (sel As true) r xs := by
        rcases cv4 with ⟨h, _⟩ | ⟨_, h, _⟩ | ⟨_, _, h⟩
        · rw [hsu] at h; cases h
        · exact absurd hcl h
        · exact h
      refine ⟨_, rfl, _, rfl, iteT ?_⟩
      refine ⟨_, rfl, _, rfl, _, rfl, _, rfl, p, l, D, so, tv, cs, k + 1, kp, _, _, us, xs.map (svOf ws), rfl, pen4, A4.D_, nD, A4.kp_, rk1, by rw [List.length_map]; omega, A4.so_, rso, htv, sv_of_stps hst, by rw [List.length_map]; exact hch.few, sv_all ok h7, sv_some, chain_right ok.nd hch okT, fun H' k' hk' pen' kt' => ?_⟩
      exact hQ H' k' (by omega) pen' (fun c u nc hc nt => kt' _ _ nc (e04 c u nc hc nt)) (tabs_keptL T4 (ExtL.kept hp4 kt'))
    rw [decide_eq_false hin]
    refine iteF ?_
    have hncl : ¬ Cl (· ∈ sel As true) r := fun c => hin ((mF r).2 c)
    have hv : v = .non := by
      rcases cv4 with ⟨h, _⟩ | ⟨_, _, h⟩ | ⟨_, h, _⟩
      · rw [hsu] at h; cases h
      · exact h
      · exact absurd h hncl
    subst hv
    refine ⟨_, rfl, no, rfl, ⟨_, SqL.of A4.no_⟩, fun Db hDb => ?_⟩
    refine lcw (walk_list (xs := ns.map V.ref)) (fun i H' => ∃ bl : List Addr, H' Db = some (.lst (bl.map V.ref)) ∧ PrsAt H' bl (((sel As false).take i).filter (barB As r)) ∧ Ext H4 H') ⟨[], upd_same, ⟨by simp, by simp⟩, Ext.upd hDb⟩ (fun i H' _ hp => SqL.of (hp.choose_spec.2.2 _ _ A4.no_)) (fun i x H' H'' hi hp hy => ?_) (fun H5 hp => ?_)
    · obtain ⟨bl, hbl, hpb, e⟩ := hp
      obtain ⟨rfl, hx⟩ := hy
      rw [List.length_map] at hi
      obtain ⟨bq, hbq, rfl⟩ : ∃ b, ns[i]? = some b ∧ x = .ref b := by
        rw [List.getElem?_map] at hx
        cases q : ns[i]? with
        | none => rw [q] at hx; cases hx
        | some b =>
          rw [q] at hx
          exact ⟨b, rfl, (Option.some.inj hx).symm⟩
      have hq : (sel As false)[i]? = some (sel As false)[i] := List.getElem?_eq_getElem (by omega)
      have hqm : (sel As false)[i] ∈ sel As false := List.getElem_mem _
      generalize (sel As false)[i] = q at hq hqm
      have hfs := filter_snoc (p := barB As r) hq
      have hbq' : PrAt H'' bq q := e _ _ (A4.pno.2 i bq q hbq hq)
      have lbl := hpb.1
      have lfl := List.length_filter_le (barB As r) ((sel As false).take i)
      rw [List.length_take] at lfl
      refine ⟨rfl, ?_⟩
      refine ⟨_, rfl, _, rfl, _, rfl, (show (1 : Nat) ≤ sizeLine by rw [sizeLine_eq]; decide), fun m hm => ?_⟩
      have y1 := Ext.upd (o := HO.lst [V.ref b]) hm
      have om : upd H'' m (.lst [V.ref b]) m = some (.lst ([b].map V.ref)) := upd_same
      have nKm : KD ≠ m := ne_of_none (e _ _ A4.KD_) hm
      generalize upd H'' m (.lst [V.ref b]) = H6 at y1 om ⊢
      have e6 := e.trans y1
      have hb6 := e6 _ _ A4.b_
      refine ⟨KD, m, [b], F, [r], ws.length, rfl, .inr (e6 _ _ A4.KD_), cF, SqL.of om, nKm, ⟨rfl, fun j b' r' h1 h2 => ?_⟩, h7, fun z hz => by rw [List.mem_singleton.mp hz]; exact hr0, by simp, fun D2 F2 H7 x7 hD20 hD2 cF2 mF2 => ?_⟩
      · match j, h1, h2 with
        | 0, h1, h2 =>
          cases h1
          cases h2
          exact hb6
      have e7 := e6.trans x7
      have y17 := y1.trans x7
      refine ⟨D2, _, rfl, DGet.t hD2 (hbq'.ext y17).key, _, rfl, ?_⟩
      rw [valL_is]
      have hqF : q ∈ F2 ↔ barB As r q = true := ((mF2 q).trans (cl_with mF q)).trans barB_is.symm
      have h7b := y17 _ _ hbl
      by_cases hq2 : q ∈ F2
      · rw [decide_eq_true hq2]
        refine iteT ?_
        rw [if_pos (hqF.1 hq2)] at hfs
        have eL : ExtL H7 (upd H7 Db (.lst (bl.map V.ref ++ [.ref bq]))) := ExtL.upd h7b
        refine ⟨_, rfl, _, h7b, by rw [List.length_map]; exact Nat.lt_of_le_of_lt (by omega : bl.length ≤ 20) (by decide), bl ++ [bq], by rw [upd_same, List.map_append]; rfl, ?_, fun c u hc => ?_⟩
        · rw [hfs]
          exact prs_snoc ((hpb.ext y17).keep eL.tups) (eL.tups _ _ (y17 _ _ hbq'))
        · rw [upd_ne (ne_of_none hc hDb)]
          exact e7 _ _ hc
      · rw [decide_eq_false hq2]
        refine iteF ?_
        rw [if_neg (fun z => hq2 (hqF.2 z)), List.append_nil] at hfs
        exact ⟨bl, h7b, by rw [hfs]; exact hpb.ext y17, e7⟩
    · obtain ⟨bl, hbl, hpb, x5⟩ := hp
      rw [List.length_map, lns, List.take_length] at hpb
      have A5 := A4.ext x5
      have pen5 := pen4.ext x5
      have hp5 := x5 _ _ hp4
      have T5 := T4.ext x5
      have bw5 := bw4.extN (ExtN.of x5)
      have e05 : ∀ c u, c ≠ p → H c = some u → (∀ ps, u ≠ .tbl ps) → H5 c = some u := fun c u nc hc nt => x5 _ _ (e04 c u nc hc nt)
      have lbl := hpb.1
      have lfl := List.length_filter_le (barB As r) (sel As false)
      refine ⟨_, rfl, _, rfl, iteF ?_⟩
      refine ⟨_, rfl, by decide, fun e0 he0 => ?_⟩
      have y1 := Ext.upd (o := HO.lst ([] : List V)) he0
      refine ⟨Db, e0, _, rfl, rfl, SqL.of (y1 _ _ hbl), SqL.of upd_same, _, rfl, ?_⟩
      generalize upd H5 e0 (.lst ([] : List V)) = H6 at y1 ⊢
      cases bl with
      | nil =>
        refine iteT ?_
        have hemp : (sel As false).filter (barB As r) = [] := List.length_eq_zero_iff.mp lbl.symm
        have hbar : w = .non := by
          rcases bw with ⟨_, h⟩ | ⟨_, _, _, _, _, _, q, _, hq, hc, _⟩
          · exact h
          · have : q ∈ (sel As false).filter (barB As r) := List.mem_filter.mpr ⟨hq, barB_is.mpr hc⟩
            rw [hemp] at this
            cases this
        subst hbar
        refine ⟨_, rfl, _, rfl, iteT ⟨_, rfl, ?_⟩⟩
        exact hQ H6 (k + 7) (by omega) (pen5.ext y1) (fun c u nc hc nt => y1 _ _ (e05 c u nc hc nt)) (T5.ext y1)
      | cons b0 bl0 =>
        refine iteF ?_
        generalize b0 :: bl0 = bl, (show (b0 :: bl0).length ≠ 0 from fun z => nomatch z) = hne at hbl hpb lbl
        obtain ⟨t, go, st, us', ts, xs, q, rfl, hqn, hqc, ht, hgo, igq, hst, hsts, hch⟩ : ∃ (t go st : Addr) (us' : List Str) (ts : List Addr) (xs : List Row) (q : Rn), w = .ref t ∧ q ∈ sel As false ∧ Cl (· ∈ sel As true ++ [r]) q ∧ H5 t = some (.tup [.ref go, .ref st]) ∧ GrpAt ad.CG H5 go us' ∧ IsG us' (seg ws q.1 q.2) ∧ H5 st = some (.tup (ts.map V.ref)) ∧ StpsAt ad.CG ad.CS H5 ts ws xs ∧ ChainTo ws.length (sel As true ++ [r]) q xs := by
          rcases bw5 with ⟨h, _⟩ | h
          · exfalso
            have h0 : (sel As false).filter (barB As r) ≠ [] := fun z => hne (by rw [lbl, z]; rfl)
            obtain ⟨q, hq⟩ := List.exists_mem_of_ne_nil _ h0
            obtain ⟨hq1, hq2⟩ := List.mem_filter.mp hq
            exact h q hq1 (barB_is.mp hq2)
          · exact h
        have eu : us' = wset ws q := gs_eq igq
        subst eu
        obtain ⟨dz, tr, hg1, htr⟩ := id hgo
        have rq : RowOk (wset ws q) := wset_ok ok h7
        have ht6 := y1 _ _ ht
        refine ⟨_, rfl, .ref t, _, .type "tuple", .type "tuple", true, rfl, .ty "tuple", .base (.tup ht6), kit_ty (by decide +kernel), _, rfl, iteF ?_⟩
        refine ⟨_, rfl, _, 2, rfl, .inr ⟨_, SqT.of ht6, rfl⟩, rfl, _, rfl, iteF ?_⟩
        refine ⟨_, rfl, t, _, 0, _, rfl, rfl, SqT.of ht6, rfl, .ref go, .ref ad.CG, .ref ad.CG, .ref ad.CG, true, rfl, .own ad.CG, ty_grp T (hgo.ext y1), T.G.isi, _, rfl, iteF ?_⟩
        refine ⟨_, rfl, t, _, 0, _, rfl, rfl, SqT.of ht6, rfl, go, ad.CG, dz, _, .ref tr, rfl, y1 _ _ hg1, T.G.cl, T.G_row, rfl, ?_⟩
        have okB : ∀ z ∈ (sel As false).filter (barB As r), OkR ws.length z := fun z hz => okF z (List.mem_filter.mp hz).1
        refine sets_lc (i := 13) rfl (fun _ _ => rfl) (fun _ _ => rfl) (fun _ _ => rfl) (fun _ _ => rfl) (y1 _ _ hbl) (hpb.ext y1) (y1 _ _ A5.rw_) ok h7 okB (by omega) fun Dc kc H7 x7 hDc0 hDc hkc => ?_
        have y17 := y1.trans x7
        refine ⟨_, _, Dp.tup (SqT.of (y17 _ _ htr)) (dp_strs _), Dp.lst (SqL.of hDc) (rowsT_dp hkc), row_shaped rq.wd, rows_shaped fun z hz => by
          obtain ⟨z', _, rfl⟩ := List.mem_map.mp hz
          exact (wset_ok (r := z') ok h7).wd, _, rfl, ?_⟩
        have e1 : ((((sel As false).filter (barB As r)).map (wset ws)).map rowD).any (fun z => PyData.eqv z (.tuple ((wset ws q).map PyData.str))) = true := by
          refine (rows_any _ _).trans (decide_eq_true (List.mem_map.mpr ⟨q, List.mem_filter.mpr ⟨hqn, barB_is.mpr hqc⟩, rfl⟩))
        rw [e1]
        refine iteF ?_
        refine ⟨_, rfl, ?_⟩
        refine ⟨_, rfl, _, rfl, (show (1 : Nat) ≤ sizeLine by rw [sizeLine_eq]; decide), fun m hm => ?_⟩
        have y8 := Ext.upd (o := HO.lst [V.ref so]) hm
        have om : upd H7 m (.lst [V.ref so]) m = some (.lst [V.ref so]) := upd_same
        generalize upd H7 m (.lst [V.ref so]) = H8 at y8 om ⊢
        have y18 := y17.trans y8
        refine ⟨D, m, _, _, rfl, rfl, y18 _ _ A5.D_, om, by simp; exact Nat.le_trans (by omega : _ ≤ 30) (by decide), fun d2 hd2 => ?_⟩
        have y9 := Ext.upd (o := HO.lst (kp.map V.ref ++ [V.ref so])) hd2
        have od2 : upd H8 d2 (.lst (kp.map V.ref ++ [V.ref so])) d2 = some (.lst ((kp ++ [so]).map V.ref)) := by
          rw [upd_same, List.map_append]
          rfl
        have nd2 : d2 ≠ p := (ne_of_none (y18 _ _ hp5) hd2).symm
        generalize upd H8 d2 (.lst (kp.map V.ref ++ [V.ref so])) = H9 at y9 od2 ⊢
        have y19 := y18.trans y9
        have A9 := A5.ext y19
        have ht9 := y19 _ _ ht
        refine ⟨_, rfl, t, _, 0, _, rfl, rfl, SqT.of ht9, rfl, go, ad.CG, dz, _, .ref tr, rfl, y19 _ _ hg1, T.G.cl, T.G_row, rfl, ?_⟩
        refine ⟨_, rfl, t, _, 1, _, rfl, rfl, SqT.of ht9, rfl, ?_⟩
        have kp9 : RowsT H9 (kp ++ [so]) ((sel As true ++ [r]).map (wset ws)) := by
          rw [List.map_append]
          refine ⟨by simp [lkp], fun j p' z h1 h2 => ?_⟩
          by_cases hj : j < kp.length
          · rw [List.getElem?_append_left hj] at h1
            rw [List.getElem?_append_left (by rw [List.length_map, ← lkp]; exact hj)] at h2
            exact A9.kp_.2 j p' z h1 h2
          · rw [List.getElem?_append_right (by omega)] at h1
            rw [List.getElem?_append_right (by rw [List.length_map]; omega), List.length_map, ← lkp] at h2
            have h0 : j - kp.length = 0 := by
              have := (List.getElem?_eq_some_iff.mp h1).1
              simp at this
              omega
            rw [h0] at h1 h2
            cases h1
            cases h2
            exact A9.so_
        have okS : ∀ z ∈ sel As true ++ [r], OkR ws.length z := fun z hz => (List.mem_append.mp hz).elim (okT z) fun h => List.mem_singleton.mp h ▸ hr0
        refine ⟨p, l, d2, tr, st, cs, k + 1, kp ++ [so], _, _, ts, xs.map (svOf ws), rfl, pen5.ext y19, od2, nd2, kp9, fun z hz => ?_, by simp; omega, y19 _ _ htr, rq, y19 _ _ hst, sv_of_stps (hsts.ext y19), by rw [List.length_map]; exact hch.few, sv_all ok h7, sv_some, chain_right ok.nd hch okS, fun H' k' hk' pen' kt' => ?_⟩
        · obtain ⟨z', _, rfl⟩ := List.mem_map.mp hz
          exact wset_ok ok h7
        · exact hQ H' k' (by omega) pen' (fun c u nc hc nt => kt' _ _ nc (y19 _ _ (e05 c u nc hc nt))) (tabs_keptL (T5.ext y19) (ExtL.kept (y19 _ _ hp5) kt'))
end
end Kq
set_option maxHeartbeats 1000000
namespace Kq
open PySem PySem.Spec PyProof.Rows L2 Kp
open LamX (ExtN Tabs TabB)
/-! ### what stands in the law's loops -/
/-- all but the lists and tables stay -/
def ExtLN (H H' : Hp) : Prop := ∀ b u, H b = some u → (∀ zs, u ≠ .lst zs) → (∀ ps, u ≠ .tbl ps) → H' b = some u
theorem GrpAt.extLN {CG : Addr} {H H' : Hp} {g : Addr} {ws : List Str} (h : GrpAt CG H g ws) (e : ExtLN H H') : GrpAt CG H' g ws :=
  let ⟨dx, t, a, b⟩ := h
  ⟨dx, t, e _ _ a (fun _ z => nomatch z) (fun _ z => nomatch z), e _ _ b (fun _ z => nomatch z) (fun _ z => nomatch z)⟩
theorem OrdAt.extLN {CG CO : Addr} {H H' : Hp} {o : Addr} {ws : List Str} (h : OrdAt CG CO H o ws) (e : ExtLN H H') : OrdAt CG CO H' o ws := by
  obtain ⟨dx, t, g, d, us, kvs, a, b, c, i, k, q⟩ := h
  exact ⟨dx, t, g, d, us, kvs, e _ _ a (fun _ z => nomatch z) (fun _ z => nomatch z), e _ _ b (fun _ z => nomatch z) (fun _ z => nomatch z), c.extLN e, i, e _ _ k (fun _ z => nomatch z) (fun _ z => nomatch z), q⟩
theorem TakAt.extLN {CG : Addr} {H H' : Hp} {t : Addr} {ws : List Str} {x : Rn × Bool} (h : TakAt CG H t ws x) (e : ExtLN H H') : TakAt CG H' t ws x :=
  let ⟨g, us, a, b, c⟩ := h
  ⟨g, us, e _ _ a (fun _ z => nomatch z) (fun _ z => nomatch z), b.extLN e, c⟩
theorem AskC.extLN {CG CO CA : Addr} {H H' : Hp} {a o tk : Addr} {ws : List Str} {As : List (Rn × Bool)} (h : AskC CG CO CA H a o tk ws As) (e : ExtLN H H') (ht : ∀ u, H tk = some u → H' tk = some u) : AskC CG CO CA H' a o tk ws As := by
  obtain ⟨⟨dx, h1⟩, h2, ⟨ts, h3, h4, h5⟩, h6, h7, h8, h9⟩ := h
  exact ⟨⟨dx, e _ _ h1 (fun _ z => nomatch z) (fun _ z => nomatch z)⟩, h2.extLN e, ⟨ts, ht _ h3, h4, fun i t x a b => (h5 i t x a b).extLN e⟩, h6, h7, h8, h9⟩
theorem PrsAt.extLN {H H' : Hp} {bs : List Addr} {rs : List Rn} (h : PrsAt H bs rs) (e : ExtLN H H') : PrsAt H' bs rs := ⟨h.1, fun i b r x y => e _ _ (h.2 i b r x y) (fun _ z => nomatch z) (fun _ z => nomatch z)⟩
/-- the answers clash with nothing -/
def Fair (n : Nat) (As : List (Rn × Bool)) : Prop := ∀ q ∈ sel As false, ¬ Cl (· ∈ sel As true) q ∧ sureB n q = false
structure LawSt (CG CO CA : Addr) (TT : List (Addr × Str)) (H : Hp) (p l : Addr) (cs : List Int) (k : Nat) (a o tk rw ye no : Addr) (ws : List Str) (As : List (Rn × Bool)) (ys ns : List Addr) : Prop where
  pen : Pen H p l cs k
  ak : AskC CG CO CA H a o tk ws As
  rw_ : H rw = some (.lst (ws.map V.str))
  ye_ : H ye = some (.lst (ys.map V.ref))
  pye : PrsAt H ys (sel As true)
  no_ : H no = some (.lst (ns.map V.ref))
  pno : PrsAt H ns (sel As false)
  tb : Tabs TT H
  n1 : tk ≠ p
  n2 : rw ≠ p
  n3 : ye ≠ p
  n4 : no ≠ p
  m2 : rw ≠ tk
  m3 : ye ≠ tk
  m4 : no ≠ tk
  n5 : tk ≠ l
  fair : Fair ws.length As
section
variable {CG CO CA : Addr} {TT : List (Addr × Str)} {H H' : Hp} {p l : Addr} {cs : List Int} {k k' : Nat} {a o tk rw ye no : Addr} {ws : List Str} {As : List (Rn × Bool)} {ys ns : List Addr}
theorem LawSt.step (h : LawSt CG CO CA TT H p l cs k a o tk rw ye no ws As ys ns) (e : ExtLN H H') (hl : ∀ c u, c ≠ p → H c = some (.lst u) → H' c = some (.lst u)) (pen : Pen H' p l cs k') (tb : Tabs TT H') : LawSt CG CO CA TT H' p l cs k' a o tk rw ye no ws As ys ns :=
  ⟨pen, h.ak.extLN e (fun u hu => by
    obtain ⟨ts, ht, _⟩ := h.ak.taken
    rw [ht] at hu
    cases hu
    exact hl _ _ h.n1 ht), hl _ _ h.n2 h.rw_, hl _ _ h.n3 h.ye_, h.pye.extLN e, hl _ _ h.n4 h.no_, h.pno.extLN e, tb, h.n1, h.n2, h.n3, h.n4, h.m2, h.m3, h.m4, h.n5, h.fair⟩
theorem LawSt.ext (h : LawSt CG CO CA TT H p l cs k a o tk rw ye no ws As ys ns) (e : Ext H H') : LawSt CG CO CA TT H' p l cs k a o tk rw ye no ws As ys ns :=
  h.step (fun b u hb _ _ => e b u hb) (fun c u _ hc => e _ _ hc) (h.pen.ext e) (h.tb.ext e)
theorem LawSt.kept (h : LawSt CG CO CA TT H p l cs k a o tk rw ye no ws As ys ns) (e : Kept p H H') (pen : Pen H' p l cs k') : LawSt CG CO CA TT H' p l cs k' a o tk rw ye no ws As ys ns := by
  obtain ⟨t, r, hp, _⟩ := h.pen.at_
  have eL := ExtL.kept hp e
  exact h.step (fun b u hb n _ => eL b u hb n) (fun c u n hc => e _ _ n hc) pen (tabs_keptL h.tb eL)
theorem LawSt.keptN (h : LawSt CG CO CA TT H p l cs k a o tk rw ye no ws As ys ns) (e : ∀ c u, c ≠ p → H c = some u → (∀ ps, u ≠ .tbl ps) → H' c = some u) (pen : Pen H' p l cs k') (tb : Tabs TT H') : LawSt CG CO CA TT H' p l cs k' a o tk rw ye no ws As ys ns := by
  obtain ⟨t, r, hp, _⟩ := h.pen.at_
  exact h.step (fun b u hb n n2 => e b u (fun z => n _ (by rw [z, hp] at hb; exact (Option.some.inj hb).symm)) hb n2) (fun c u n hc => e _ _ n hc (fun _ z => nomatch z)) pen tb
/-- an answer leaves the rest -/
theorem LawSt.answered (h : LawSt CG CO CA TT H p l cs k a o tk rw ye no ws As ys ns) (e : ∀ c u, c ≠ tk → H c = some u → H' c = some u) : ExtL H H' ∧ Pen H' p l cs k ∧ H' rw = some (.lst (ws.map V.str)) ∧ H' ye = some (.lst (ys.map V.ref)) ∧ PrsAt H' ys (sel As true) ∧ H' no = some (.lst (ns.map V.ref)) ∧ PrsAt H' ns (sel As false) ∧ Tabs TT H' := by
  obtain ⟨ts, ht, _⟩ := h.ak.taken
  have eL : ExtL H H' := fun b u hb n => e b u (fun z => n _ (by rw [z, ht] at hb; exact (Option.some.inj hb).symm)) hb
  refine ⟨eL, ?_, e _ _ h.m2 h.rw_, e _ _ h.m3 h.ye_, h.pye.keep eL.tups, e _ _ h.m4 h.no_, h.pno.keep eL.tups, tabs_keptL h.tb eL⟩
  obtain ⟨⟨t, r, a, b, c⟩, d, f⟩ := h.pen
  exact ⟨⟨t, r, e _ _ h.n1.symm a, b, c⟩, e _ _ h.n5.symm d, f⟩
end
theorem asker_made {CG CO CA : Addr} {H : Hp} {o x dx : Addr} {ws : List Str} (hx : H x = none) (hdx : H dx = none) (ne : dx ≠ x) (ho : OrdAt CG CO H o ws) (ok : OkW ws) (h7 : ws.length ≤ 7) :
    OrdAt CG CO (upd (upd H dx (.own x)) x (.ins CA dx [])) o ws ∧ ∀ (tk : Addr) (H' : Hp), (∀ b u, b ≠ x → upd (upd H dx (.own x)) x (.ins CA dx []) b = some u → H' b = some u) → H' x = some (.ins CA dx [("first", .ref o), ("taken", .ref tk), ("kept_from", .int 0)]) → H' tk = some (.lst []) → tk ≠ x → upd (upd H dx (.own x)) x (.ins CA dx []) tk = none →
      Ext H H' ∧ H tk = none ∧ AskC CG CO CA H' x o tk ws [] := by
  have xdx : x ≠ dx := ne.symm
  have e1 : Ext H (upd (upd H dx (.own x)) x (.ins CA dx [])) := (Ext.upd hdx).trans (Ext.upd (by rw [upd_ne xdx]; exact hx))
  refine ⟨ho.ext e1, fun tk H' kp hx' htk ntx htk0 => ?_⟩
  have e2 : Ext H H' := fun b u hb => kp b u (ne_of_none hb hx) (e1 b u hb)
  have nt : H tk = none := by
    by_cases h : tk = dx
    · rw [h]; exact hdx
    · rw [upd_ne ntx, upd_ne h] at htk0
      exact htk0
  exact ⟨e2, nt, ⟨dx, hx'⟩, ho.ext e2, ⟨[], htk, rfl, fun i t x h => by simp at h⟩, ok, h7, by simp, by simp⟩
theorem step_made {CS : Addr} {H H' : Hp} {x dx : Addr} (hx : H x = none) (hdx : H dx = none) (kp : ∀ b o, b ≠ x → upd (upd H dx (.own x)) x (.ins CS dx []) b = some o → H' b = some o) : Ext H H' := fun b o hb => kp b o (ne_of_none hb hx) (by rw [upd_ne (ne_of_none hb hx), upd_ne (ne_of_none hb hdx)]; exact hb)
theorem sel_app {As : List (Rn × Bool)} {x : Rn × Bool} {b : Bool} : sel (As ++ [x]) b = sel As b ++ if x.2 = b then [x.1] else [] := by
  unfold sel
  rw [List.filter_append, List.map_append]
  congr 1
  by_cases e : x.2 = b
  · rw [if_pos e]
    simp [e]
  · rw [if_neg e]
    simp [e]
theorem rep_bit (t : Bool) (b : Addr) : (List.replicate (if t = true then (1 : Int) else 0).toNat [V.ref b]).flatten = (if t = true then [b] else []).map V.ref := by cases t <;> rfl
theorem prs_more {H : Hp} {bs : List Addr} {As : List (Rn × Bool)} {b : Addr} {r : Rn} {t c : Bool} (h : PrsAt H bs (sel As c)) (hb : PrAt H b r) : PrsAt H (bs ++ if (t == c) = true then [b] else []) (sel (As ++ [(r, t)]) c) := by
  rw [sel_app]
  by_cases e : t = c
  · rw [if_pos e, if_pos (by rw [e]; simp)]
    exact prs_snoc h hb
  · rw [if_neg e, if_neg (by simpa using e), List.append_nil, List.append_nil]
    exact h
theorem fair_yes {n : Nat} {As : List (Rn × Bool)} {r : Rn} (f : Fair n As) (h : ∀ q ∈ sel As false, ¬ Cl (· ∈ sel As true ++ [r]) q) : Fair n (As ++ [(r, true)]) := fun q hq => by
  rw [sel_app, if_neg (by simp), List.append_nil] at hq
  refine ⟨fun c => h q hq ?_, (f q hq).2⟩
  rw [sel_app, if_pos rfl] at c
  exact c
theorem fair_no {n : Nat} {As : List (Rn × Bool)} {r : Rn} (f : Fair n As) (hs : sureB n r = false) (h : ¬ Cl (· ∈ sel As true) r) : Fair n (As ++ [(r, false)]) := fun q hq => by
  have e : sel (As ++ [(r, false)]) true = sel As true := by
    rw [sel_app, if_neg (by simp), List.append_nil]
  rw [e]
  rw [sel_app, if_pos rfl] at hq
  rcases List.mem_append.mp hq with hq | hq
  · exact f q hq
  · rw [List.mem_singleton.mp hq]
    exact ⟨h, hs⟩
end Kq
set_option maxHeartbeats 1000000
namespace Kq
open PySem PySem.Spec PyProof.Rows L2 Kp
open Evl (Ev EvL EvT EvA given)
open LamX (ExtN Tabs TabB)
/-! ### law -/
def spLaw (K : PySem.W.Frag) (TT : List (Addr × Str)) : Sp := fun vs H Q _ => ∃ (q : Addr) (cs : List Int), vs = [.ref q] ∧ SqL K H q (cs.map V.int) ∧ Tabs TT H ∧ ∀ H', Q (.bl true) H'
section
variable {P : Program} {w : World} {K : PySem.W.Frag} {mg : Str → Option Value} {base : Heap} {tL tM tA : Tok} {ad : Ad} {TT : List (Addr × Str)} {cC PC fLaw : Addr} {fd : FuncData}
theorem ok_law (T : Tx K mg tL tM tA ad) (TL : TxL K mg base ad TT cC PC) (F : Fun K "law" "law" s_law fLaw fd) : FnOk P w K mg base (L2.CX P w) 60 fLaw fd ["_law_script"] (spLaw K TT) := by
  have B := T.B
  have G_l_pen := ok_pen (P := P) (w := w) (base := base) T
  have G_l_draw := pen_draw (P := P) (w := w) (base := base) T.B T.P
  have G_l_words := ok_words (P := P) (w := w) (base := base) T.B T.P T.W
  have G_Group_of := ok_group_of (P := P) (w := w) (base := base) T
  have G_Order_of := ok_order_of (P := P) (w := w) (base := base) T
  have G_Asker_init := ok_asker_init (P := P) (w := w) (base := base) T
  have G_Asker_answer := ok_answer (P := P) (w := w) (base := base) T TL
  have G_l_closed := ok_l_closed (P := P) (w := w) (base := base) T
  have G_l_run_right := ok_run_right (P := P) (w := w) (base := base) T TL
  have G_Step_init := ok_step_init (P := P) (w := w) (base := base) T
  have G_Step_eq := ok_step_eq (P := P) (w := w) (base := base) T
  obtain ⟨fds, Fs⟩ := T.F_Step_init
  have FK := Fs.okX sc_Step_init sp_step_len (body_step_init (P := P) (w := w) (base := base) T)
  have KB := kbn_of (n := 1) (ps := ["self", "first", "second", "way", "made"]) (ks := ["first", "second", "way", "made"]) (g := fun us ws => us ++ ws) (gV := fun vs zs => vs ++ zs) Fs (fun _ _ _ _ _ _ us ws h1 h2 => match us, ws, h1, h2 with | [_], [_, _, _, _], _, _ => rfl) (fun h k => h.append k)
  refine F.okX sc_law (fun vs H Q E h => ?_) (fun cdv A outer s H vs Q E hr h => ?_)
  · obtain ⟨q, cs, rfl, _⟩ := h
    rfl
  · refine ⟨_, PSs.nox (pss_cons (ps_set (i := 1) sc_law.nd rfl (Or.inl rfl) (pe_callR G_l_pen (hr.mono (by decide)) T.k_l_pen (by rfl) T.g_l_pen passL (pa_cons (pv 0) pa_nil)))
(pss_cons (ps_for PassesOwn.never rfl (pi_range1 (by rfl) B.n_range (pa_cons pe_int pa_nil)) (pg_name (i := 2) sc_law.nd rfl (Or.inl rfl))
(pss_cons (ps_par3 (i := 3) (j := 4) (l := 5) (by rfl) sc_law.nd rfl rfl rfl (by decide) (by decide) (by decide) rfl rfl rfl (pa_cons (pe_callR G_l_words (hr.mono (by decide)) T.W.k_l_words (by rfl) T.W.g_l_words passL (pa_cons (pv 1) (pa_cons (pe_op op_add pe_int (pe_callR G_l_draw (hr.mono (by decide)) T.P.k_l_draw (by rfl) T.P.g_l_draw passL (pa_cons (pv 1) (pa_cons pe_int pa_nil)))) pa_nil))) (pa_cons (pe_lst pa_nil) (pa_cons (pe_lst pa_nil) pa_nil))) (by rfl))
(pss_cons (ps_set (i := 6) sc_law.nd rfl (Or.inl rfl) (Kp.pe_mkR (E := E0) T.A.mak G_Asker_init (hr.mono (by decide)) (by rfl) T.A.g passL (pa_cons (ClX.pe_cmeth (E := E0) (pe_glob (v := .ref _) (by rfl) T.O.g rfl) T.O_rd T.O_of G_Order_of (hr.mono (by decide)) passL (pa_cons (pv 3) pa_nil)) pa_nil)))
(pss_cons (ps_for PassesOwn.never rfl (pi_range1 (by rfl) B.n_range (pa_cons (pe_callR G_l_draw (hr.mono (by decide)) T.P.k_l_draw (by rfl) T.P.g_l_draw passL (pa_cons (pv 1) (pa_cons pe_int pa_nil))) pa_nil)) (pg_name (i := 7) sc_law.nd rfl (Or.inl rfl))
(pss_cons (ps_set (i := 8) sc_law.nd rfl (Or.inl rfl) (pe_callR G_l_draw (hr.mono (by decide)) T.P.k_l_draw (by rfl) T.P.g_l_draw passL (pa_cons (pv 1) (pa_cons (pe_callB (call_lenK (K := K) rfl) (by rfl) B.n_len (by decide +kernel) (pa_cons (pv 3) pa_nil)) pa_nil))))
(pss_cons (ps_set (i := 9) sc_law.nd rfl (Or.inr rfl) (pe_tup (pa_cons (pv 8) (pa_cons (pe_op op_add (pv 8) (pe_callR G_l_draw (hr.mono (by decide)) T.P.k_l_draw (by rfl) T.P.g_l_draw passL (pa_cons (pv 1) (pa_cons (pe_op op_sub (pe_callB (call_lenK (K := K) rfl) (by rfl) B.n_len (by decide +kernel) (pa_cons (pv 3) pa_nil)) (pv 8)) pa_nil)))) pa_nil))))
(Evl.pss_cut (ps_asg (pe_tup (pa_cons (pe_callR G_l_closed (hr.mono (by decide)) T.k_l_closed (by rfl) T.g_l_closed passL (pa_cons (pe_lst pa_nil) (pa_cons (pv 4) pa_nil))) (pa_cons (pe_cmpR op_gt (pe_callR G_l_draw (hr.mono (by decide)) T.P.k_l_draw (by rfl) T.P.g_l_draw passL (pa_cons (pv 1) (pa_cons pe_int pa_nil))) pe_int (nomark _)) pa_nil))) (pg_tupK (n := 2) (K := K) rfl rfl (pgs_cons (pg_name (i := 10) sc_law.nd rfl (Or.inr rfl)) (pgs_cons (pg_name (i := 11) sc_law.nd rfl (Or.inl rfl)) pgs_nil))))
(Evl.pss_cut (ps_if (PW.pt (pw_or (pt_cmp (pc_din (hu_of hr) (pv 9) (pv 10))) (pw_or (pt_cmpR op_eq (pe_ix (ix_tupK (K := K) rfl) (pv 9) pe_int (fun _ _ => rfl)) (pe_ix (ix_tupK (K := K) rfl) (pv 9) pe_int (fun _ _ => rfl)) (nomark _)) (pw_or1 (pt_cmpR (op_eqDK (K := K) rfl hr.units) (pv 9) (pe_tup (pa_cons pe_int (pa_cons (pe_op op_sub (pe_callB (call_lenK (K := K) rfl) (by rfl) B.n_len (by decide +kernel) (pa_cons (pv 3) pa_nil)) pe_int) pa_nil))) (nomark _))))))
(pss_one (ps_set (i := 11) sc_law.nd rfl (Or.inl rfl) pe_bl))
(pss_one (ps_if (pt_cmpR (op_neEK (K := K) rfl hr.units) (pe_lc (own := [("_law_one", 12)]) (g := gName 12) rfl sc_law.nd (pi_listK (K := K) rfl (pv 5)) (blkOk_by (own := [("_law_one", 12)]) (N := N_law) (sc := defScope s_law) (by decide +kernel)) (fun _ _ _ _ _ => (pg_name (i := 12) sc_law.nd rfl (Or.inl rfl))) (fun _ _ _ _ _ => (pts_one (pt_cmp (pc_din (hu_of hr) (pv 12) (pe_callR G_l_closed (hr.mono (by decide)) T.k_l_closed (by rfl) T.g_l_closed passL (pa_cons (pv 10) (pa_cons (pe_lst (pa_cons (pv 9) pa_nil)) pa_nil))))))) (fun _ _ _ _ _ => by exact (pv 12))) (pe_lst pa_nil) (nomark _))
(pss_one (ps_set (i := 11) sc_law.nd rfl (Or.inl rfl) pe_bl))
pss_nil)))
(pss_cons (ps_expr (Kp.pe_methR (E := E0) (pv 6) T.A.cl T.m_answer G_Asker_answer (hr.mono (by decide)) passL (pa_cons (ClX.pe_cmeth (E := E0) (pe_glob (v := .ref _) (by rfl) T.G.g rfl) T.G_rd T.G_of G_Group_of (hr.mono (by decide)) passL (pa_cons (pe_slice (sl_listK (K := K) rfl) (pv 3) (po_some (pe_ix (ix_tupK (K := K) rfl) (pv 9) pe_int (fun _ _ => rfl))) (po_some (pe_op op_add (pe_ix (ix_tupK (K := K) rfl) (pv 9) pe_int (fun _ _ => rfl)) pe_int))) pa_nil)) (pa_cons (pv 11) pa_nil))))
(pss_one (ps_par (i := 4) (j := 5) (by rfl) sc_law.nd rfl rfl (by decide) rfl rfl (pa_cons (pe_op op_cat (pv 4) (pe_op op_rep (pe_lst (pa_cons (pv 9) pa_nil)) (pe_callTy call_int1 (by rfl) B.n_int (by decide +kernel) (pa_cons (pv 11) pa_nil)))) (pa_cons (pe_op op_cat (pv 5) (pe_op op_rep (pe_lst (pa_cons (pv 9) pa_nil)) (pe_callTy call_int1 (by rfl) B.n_int (by decide +kernel) (pa_cons (pe_not (pv 11)) pa_nil)))) pa_nil)) (by rfl)))))))))
(pss_one (ps_for PassesOwn.never rfl (pi_range1 (by rfl) B.n_range (pa_cons pe_int pa_nil)) (pg_name (i := 7) sc_law.nd rfl (Or.inl rfl))
(pss_cons (ps_set (i := 8) sc_law.nd rfl (Or.inl rfl) (pe_callR G_l_draw (hr.mono (by decide)) T.P.k_l_draw (by rfl) T.P.g_l_draw passL (pa_cons (pv 1) (pa_cons (pe_callB (call_lenK (K := K) rfl) (by rfl) B.n_len (by decide +kernel) (pa_cons (pv 3) pa_nil)) pa_nil))))
(pss_cons (ps_set (i := 9) sc_law.nd rfl (Or.inr rfl) (pe_tup (pa_cons (pv 8) (pa_cons (pe_op op_add (pv 8) (pe_callR G_l_draw (hr.mono (by decide)) T.P.k_l_draw (by rfl) T.P.g_l_draw passL (pa_cons (pv 1) (pa_cons (pe_op op_sub (pe_callB (call_lenK (K := K) rfl) (by rfl) B.n_len (by decide +kernel) (pa_cons (pv 3) pa_nil)) (pv 8)) pa_nil)))) pa_nil))))
(pss_one (ps_if (pt_not (pt_val (pe_callR G_l_run_right (hr.mono (by decide)) T.k_l_run_right (by rfl) T.g_l_run_right passL (pa_cons (pv 1) (pa_cons (pv 6) (pa_cons (pv 3) (pa_cons (pv 4) (pa_cons (pv 5) (pa_cons (pv 9) pa_nil)))))))))
(pss_one (ps_ret pe_bl))
pss_nil))))))))))
(pss_cons (ps_asg (pe_tup (pa_cons (Kp.pe_mkR (E := E0) T.S.mak G_Step_init (hr.mono (by decide)) (by rfl) T.S.g passL (pa_cons pe_int (pa_cons pe_int (pa_cons pe_int (pa_cons pe_int pa_nil))))) (pa_cons (L2.pe_makeK0 (E := E0) T.S.mak FK (hr.mono (by decide)) (by rfl) T.S.g KB passL (pk_cons pe_int (pk_cons pe_int (pk_cons pe_int (pk_cons pe_int pk_nil))))) pa_nil))) (pg_tupK (n := 2) (K := K) rfl rfl (pgs_cons (pg_name (i := 12) sc_law.nd rfl (Or.inr rfl)) (pgs_cons (pg_name (i := 13) sc_law.nd rfl (Or.inl rfl)) pgs_nil))))
(pss_cons (ps_set (i := 14) sc_law.nd rfl (Or.inl rfl) (pe_lst (pa_cons (Kp.pe_mkR (E := E0) T.S.mak G_Step_init (hr.mono (by decide)) (by rfl) T.S.g passL (pa_cons pe_int (pa_cons pe_int (pa_cons pe_int (pa_cons pe_int pa_nil))))) (pa_cons (Kp.pe_mkR (E := E0) T.S.mak G_Step_init (hr.mono (by decide)) (by rfl) T.S.g passL (pa_cons pe_int (pa_cons pe_int (pa_cons pe_int (pa_cons pe_int pa_nil))))) (pa_cons (Kp.pe_mkR (E := E0) T.S.mak G_Step_init (hr.mono (by decide)) (by rfl) T.S.g passL (pa_cons pe_int (pa_cons pe_int (pa_cons pe_int (pa_cons pe_int pa_nil))))) (pa_cons (Kp.pe_mkR (E := E0) T.S.mak G_Step_init (hr.mono (by decide)) (by rfl) T.S.g passL (pa_cons pe_int (pa_cons pe_int (pa_cons pe_int (pa_cons pe_int pa_nil))))) pa_nil))))))
(pss_one (ps_ret (pe_and (pe_cmpR (op_eqO (E := E0) T.S_deq.at_ T.S_deq.fn G_Step_eq (hr.mono (by decide)) passL) (pv 12) (pv 13) (nomark _)) (pe_one (pe_cmpR (op_eqEK (K := K) rfl hr.units) (pe_lc (own := [("_law_step", 15)]) (g := gName 15) rfl sc_law.nd (pi_listK (K := K) rfl (pv 14)) (blkOk_by (own := [("_law_step", 15)]) (N := N_law) (sc := defScope s_law) (by decide +kernel)) (fun _ _ _ _ _ => (pg_name (i := 15) sc_law.nd rfl (Or.inl rfl))) (fun _ _ _ _ _ => (pts_one (pt_cmpR (op_eqO (E := E0) T.S_deq.at_ T.S_deq.fn G_Step_eq (hr.mono (by decide)) passL) (pv 15) (pv 12) (nomark _)))) (fun _ _ _ _ _ => by exact (pv 15))) (pe_lst pa_nil) (nomark _)))))))))), ?_⟩
    obtain ⟨q, cs, rfl, hq, hTT, hQ⟩ := h
    refine ⟨_, rfl, q, cs, rfl, hq, fun p l cs' H1 x1 hp0 pen1 => ?_⟩
    have T1 := hTT.ext x1
    refine ⟨_, rfl, by decide, by decide, ?_⟩
    refine for_range (lo := 0) (n := 3) (fun i (σ' : L2.St) H' => ∃ a2 a3 a4 a5 a6 a7 a8 a9 a10 a11, σ' = [some (V.ref q), some (V.ref p), a2, a3, a4, a5, a6, a7, a8, a9, a10, a11, none, none, none, none] ∧ Tabs TT H' ∧ Pen H' p l cs' (90000 + (3 - i) * 1000)) ?_ (fun i σ' H' hi hp => ?_) (fun σ' H' hp => ?_)
    · exact ⟨_, _, _, _, _, _, _, _, _, _, rfl, T1, pen1.less (by decide)⟩
    · obtain ⟨a2, a3, a4, a5, a6, a7, a8, a9, a10, a11, rfl, T2, pen2⟩ := hp
      refine ⟨_, rfl, _, rfl, p, l, cs', 90000 + (3 - (i + 1)) * 1000 + 999, _, rfl, pen2.less (by omega), by decide, by decide, fun d H2 d0 d1 pen3 kt2 => ?_⟩
      obtain ⟨n, rfl⟩ := Int.eq_ofNat_of_zero_le d0
      refine ⟨_, _, rfl, rfl, p, l, cs', 90000 + (3 - (i + 1)) * 1000 + 900, 2 + n, congrArg (fun z : Int => [V.ref p, V.int z]) (by omega), by omega, pen3.less (by omega), fun ws rw H3 lw wd nd hr0 hrw pen4 kt3 => ?_⟩
      refine ⟨by decide, fun ye hye => ?_⟩
      have y1 := Ext.upd (o := HO.lst ([] : List V)) hye
      have oye : upd H3 ye (.lst ([] : List V)) ye = some (.lst []) := upd_same
      refine ⟨by decide, fun no hno => ?_⟩
      have y2 := Ext.upd (o := HO.lst ([] : List V)) hno
      have ono : upd (upd H3 ye (.lst ([] : List V))) no (.lst ([] : List V)) no = some (.lst []) := upd_same
      have ny : no ≠ ye := (ne_of_none oye hno).symm
      have x34 := y1.trans y2
      have oye4 := y2 _ _ oye
      generalize upd (upd H3 ye (.lst ([] : List V))) no (.lst ([] : List V)) = H4 at x34 oye4 ono ⊢
      refine ⟨_, _, _, rfl, ?_⟩
      have okw : OkW ws := ⟨wd, nd, fun z => by rw [z] at lw; simp at lw; omega, by omega⟩
      refine ⟨rfl, _, rfl, rw, ws, rfl, x34 _ _ hrw, okw, fun o H5 x5 _ hoA => ?_⟩
      intro a dxa ha0 hdxa nea
      have mk := asker_made (CA := ad.CA) ha0 hdxa nea hoA okw (by omega)
      refine ⟨a, dxa, o, ws, rfl, upd_same, mk.1, by omega, fun tk H6 kp6 ha6 htk6 nta htk0 => ⟨rfl, ?_⟩⟩
      obtain ⟨x6, htk, ak⟩ := mk.2 tk H6 kp6 ha6 htk6 nta htk0
      have x56 := x5.trans x6
      have x36 := x34.trans x56
      have hp3 := pen4.at_
      obtain ⟨tt, rr, hp3, _⟩ := hp3
      obtain ⟨tt2, rr2, hp2, _⟩ := pen2.at_
      obtain ⟨tt3, rr3, hp20, _⟩ := pen3.at_
      have T6 : Tabs TT H6 := (tabs_keptL (tabs_keptL T2 (ExtL.kept hp2 kt2)) (ExtL.kept hp20 kt3)).ext x36
      have L0 : LawSt ad.CG ad.CO ad.CA TT H6 p l cs' (90000 + (3 - (i + 1)) * 1000 + 900) a o tk rw ye no ws [] [] [] := by
        refine ⟨pen4.ext x36, ak, x36 _ _ hrw, x56 _ _ oye4, ⟨rfl, fun i b r h => by simp at h⟩, x56 _ _ ono, ⟨rfl, fun i b r h => by simp at h⟩, T6, ?_, ?_, ?_, ?_, ?_, ?_, ?_, ?_, ?_⟩
        · exact (ne_of_none ((x34.trans x5) _ _ hp3) htk).symm
        · exact fun z => by rw [z] at hr0; rw [hp20] at hr0; cases hr0
        · exact fun z => by rw [z, hp3] at hye; cases hye
        · exact fun z => by rw [z, y1 _ _ hp3] at hno; cases hno
        · exact ne_of_none ((x34.trans x5) _ _ hrw) htk
        · exact ne_of_none (x5 _ _ oye4) htk
        · exact ne_of_none (x5 _ _ ono) htk
        · exact (ne_of_none ((x34.trans x5) _ _ pen4.cells) htk).symm
        · exact fun z hz => by simp [sel] at hz
      generalize 90000 + (3 - (i + 1)) * 1000 = kb at L0 ⊢
      have h2w : 2 ≤ ws.length := by omega
      have h7w : ws.length ≤ 7 := by omega
      refine ⟨_, rfl, p, l, cs', kb + 899, _, rfl, L0.pen, by decide, by decide, fun e H7 e0 e1 pen7 kt7 => ?_⟩
      obtain ⟨m, rfl⟩ := Int.eq_ofNat_of_zero_le e0
      have L7 := L0.kept kt7 pen7
      refine ⟨_, rfl, by omega, by omega, ?_⟩
      refine for_range (lo := 0) (n := (m : Int).toNat) (fun j (σ' : L2.St) H' => ∃ a7 a8 a9 a10 a11 ye no As ys ns, σ' = [some (V.ref q), some (V.ref p), some (V.int (0 + (i : Int))), some (V.ref rw), some (V.ref ye), some (V.ref no), some (V.ref a), a7, a8, a9, a10, a11, none, none, none, none] ∧ LawSt ad.CG ad.CO ad.CA TT H' p l cs' (kb + 600 + (8 - j) * 10) a o tk rw ye no ws As ys ns ∧ As.length = j) ?_ (fun j σ' H' hj hp => ?_) (fun σ' H' hp => ?_)
      · exact ⟨_, _, _, _, _, ye, no, [], [], [], rfl, { L7 with pen := L7.pen.less (by omega) }, rfl⟩
      · clear L7 L0 ak hrw oye4 ono
        obtain ⟨a7, a8, a9, a10, a11, ye, no, As, ys, ns, rfl, L, lAs⟩ := hp
        have hj8 : j < 8 := by omega
        refine ⟨_, rfl, _, rfl, _, ws.length, rfl, .inl ⟨_, SqL.of L.rw_, by simp⟩, p, l, cs', kb + 600 + (8 - (j + 1)) * 10 + 9, _, rfl, L.pen.less (by omega), by omega, by omega, fun lo H8 l0 l1 pen8 kt8 => ?_⟩
        obtain ⟨lo, rfl⟩ := Int.eq_ofNat_of_zero_le l0
        have L8 := L.kept kt8 pen8
        refine ⟨_, rfl, _, rfl, _, rfl, _, rfl, _, ws.length, rfl, .inl ⟨_, SqL.of L8.rw_, by simp⟩, _, rfl, _, _, rfl, rfl, p, l, cs', kb + 600 + (8 - (j + 1)) * 10 + 8, _, rfl, L8.pen, by omega, by omega, fun de H9 e0 e1 pen9 kt9 => ?_⟩
        obtain ⟨de, rfl⟩ := Int.eq_ofNat_of_zero_le e0
        have L9 := L8.kept kt9 pen9
        refine ⟨_, _, rfl, rfl, (show (2 : Nat) ≤ sizeLine by rw [sizeLine_eq]; decide), fun b hb => ?_⟩
        have y10 := Ext.upd (o := HO.tup [V.int lo, V.int (lo + de)]) hb
        have hbr : PrAt (upd H9 b (HO.tup [V.int lo, V.int (lo + de)])) b (lo, lo + de) := by
          unfold PrAt
          rw [upd_same]
          rfl
        generalize upd H9 b (HO.tup [V.int lo, V.int (lo + de)]) = H10 at y10 hbr ⊢
        have L10 := L9.ext y10
        have okr : OkR ws.length (lo, lo + de) := ⟨by show lo ≤ lo + de; omega, by show lo + de < _; omega⟩
        generalize (lo, lo + de) = r at hbr okr
        clear L L8 L9 y10 kt8 kt9 pen8 pen9
        have lim := L10.ak.lim
        have okT := sel_ok (b := true) L10.ak.oks
        have okF := sel_ok (b := false) L10.ak.oks
        have slT := @sel_len As true
        have slF := @sel_len As false
        refine ⟨fun σ' H' => ∃ a7 a8 KD F t, σ' = [some (V.ref q), some (V.ref p), some (V.int (0 + (i : Int))), some (V.ref rw), some (V.ref ye), some (V.ref no), some (V.ref a), a7, a8, some (V.ref b), some (V.ref KD), some (V.bl t), none, none, none, none] ∧ LawSt ad.CG ad.CO ad.CA TT H' p l cs' (kb + 600 + (8 - (j + 1)) * 10 + 7) a o tk rw ye no ws As ys ns ∧ PrAt H' b r ∧ LDt H' KD F ∧ ClosedF ws.length F ∧ ∀ z, z ∈ F ↔ Cl (· ∈ sel As true) z, ?_, ?_⟩
        · refine ⟨by decide, fun k0 hk0 => ?_⟩
          have y1 := Ext.upd (o := HO.lst ([] : List V)) hk0
          have ok0 : upd H10 k0 (.lst ([] : List V)) k0 = some (.lst []) := upd_same
          have nk : k0 ≠ ye := (ne_of_none L10.ye_ hk0).symm
          generalize upd H10 k0 (.lst ([] : List V)) = H11 at y1 ok0 ⊢
          have L11 := L10.ext y1
          refine ⟨_, rfl, k0, ye, ys, [], sel As true, ws.length, rfl, .inl ⟨rfl, ok0⟩, ⟨List.nodup_nil, by simp, by simp⟩, SqL.of L11.ye_, nk, L11.pye, h7w, okT, by omega, fun KD F H12 x12 hKD0 hKD cF mF => ?_⟩
          have L12 := L11.ext x12
          refine ⟨_, rfl, p, l, cs', kb + 600 + (8 - (j + 1)) * 10 + 7, _, rfl, L12.pen, by decide, by decide, fun t H13 t0 t1 pen13 kt13 => ?_⟩
          have L13 := L12.kept kt13 pen13
          refine ⟨_, _, rfl, rfl, (show (2 : Nat) ≤ sizeLine by rw [sizeLine_eq]; decide), fun tt htt => ?_⟩
          have y14 := Ext.upd (o := HO.tup [V.ref KD, V.bl (decide (0 < t))]) htt
          refine ⟨tt, _, rfl, SqT.of upd_same, rfl, _, _, rfl, _, _, rfl, rfl, ?_⟩
          obtain ⟨tz, rz, hpz, _⟩ := L12.pen.at_
          have eL := ExtL.kept hpz kt13
          exact ⟨_, _, KD, F, _, rfl, L13.ext y14, y14 _ _ (eL _ _ ((hbr.ext y1).ext x12) (fun _ z => nomatch z)), y14 _ _ (eL _ _ hKD (fun _ z => nomatch z)), cF, fun z => (mF z).trans (Cl.congr (fun x => ⟨fun h => h.resolve_left (by simp), .inr⟩) z)⟩
        clear L10 hbr H10
        rintro σ' H10 ⟨a7, a8, KD, F, t, rfl, L10, hbr, hKD, cF, mF⟩
        refine ⟨fun σ' H' => ∃ a7 a8 a10 t, σ' = [some (V.ref q), some (V.ref p), some (V.int (0 + (i : Int))), some (V.ref rw), some (V.ref ye), some (V.ref no), some (V.ref a), a7, a8, some (V.ref b), a10, some (V.bl t), none, none, none, none] ∧ LawSt ad.CG ad.CO ad.CA TT H' p l cs' (kb + 600 + (8 - (j + 1)) * 10) a o tk rw ye no ws As ys ns ∧ PrAt H' b r ∧ (t = true → ∀ z ∈ sel As false, ¬ Cl (· ∈ sel As true ++ [r]) z) ∧ (t = false → sureB ws.length r = false ∧ ¬ Cl (· ∈ sel As true) r), ?_, ?_⟩
        · refine ⟨_, rfl, _, rfl, KD, _, rfl, DGet.t hKD hbr.key, _, rfl, ?_⟩
          rw [valL_is]
          have fair := L10.fair
          by_cases hin : r ∈ F
          · rw [decide_eq_true hin]
            refine iteT ?_
            refine iteT ?_
            exact ⟨_, _, _, true, rfl, { L10 with pen := L10.pen.less (by omega) }, hbr, fun _ z hz c => (fair z hz).1 ((cl_known ((mF r).1 hin)).1 c), fun z => by cases z⟩
          rw [decide_eq_false hin]
          refine iteF ?_
          have hncl : ¬ Cl (· ∈ sel As true) r := fun c => hin ((mF r).2 c)
          refine ⟨_, rfl, b, _, 0, _, rfl, rfl, SqT.of hbr, rfl, _, rfl, b, _, 1, _, rfl, rfl, SqT.of hbr, rfl, rfl, _, rfl, ?_⟩
          rw [dec_nat r.1 r.2]
          have hsure : sureB ws.length r = true → ∀ z ∈ sel As false, ¬ Cl (· ∈ sel As true ++ [r]) z := fun hs z hz c => by
            rcases cl_sure okT okr hs c with h | h
            · exact (fair z hz).1 h
            · have := (fair z hz).2
              rw [h, hs] at this
              cases this
          by_cases h1 : r.1 = r.2
          · rw [decide_eq_true h1]
            refine iteT ?_
            refine iteT ?_
            exact ⟨_, _, _, true, rfl, { L10 with pen := L10.pen.less (by omega) }, hbr, fun _ => hsure (by unfold sureB; rw [decide_eq_true h1]; rfl), fun z => by cases z⟩
          rw [decide_eq_false h1]
          refine iteF ?_
          refine ⟨_, rfl, _, rfl, _, ws.length, rfl, .inl ⟨_, SqL.of L10.rw_, by simp⟩, _, _, rfl, rfl, (show (2 : Nat) ≤ sizeLine by decide), fun p0 hp0 => ?_⟩
          have y1 := Ext.upd (o := HO.tup [.int 0, .int ((ws.length : Nat) - 1 : Int)]) hp0
          refine ⟨.tuple [.int r.1, .int r.2], .tuple [.int 0, .int ((ws.length : Nat) - 1)], Dp.tup (SqT.of (y1 _ _ hbr)) (dp_ints [_, _]), Dp.tup (SqT.of upd_same) (dp_ints [_, _]), shaped_pr _ _, shaped_pr _ _, _, rfl, ?_⟩
          generalize upd H10 p0 (HO.tup [.int 0, .int ((ws.length : Nat) - 1 : Int)]) = H11 at y1 ⊢
          have L11 := L10.ext y1
          by_cases h2 : r = (0, ws.length - 1)
          · rw [eqv_pr, show (decide (((r.1 : Nat) : Int) = 0) && decide (((r.2 : Nat) : Int) = (ws.length : Nat) - 1)) = true from by
              rw [h2]
              simp
              omega]
            refine iteT ?_
            exact ⟨_, _, _, true, rfl, { L11 with pen := L11.pen.less (by omega) }, hbr.ext y1, fun _ => hsure (by unfold sureB; rw [decide_eq_true h2, Bool.or_true]), fun z => by cases z⟩
          have e2 : (decide (((r.1 : Nat) : Int) = 0) && decide (((r.2 : Nat) : Int) = (ws.length : Nat) - 1)) = false := by
            rw [← Bool.decide_and]
            refine decide_eq_false fun h => h2 ?_
            exact Prod.ext (by show r.1 = 0; omega) (by show r.2 = ws.length - 1; omega)
          rw [eqv_pr, e2]
          refine iteF ?_
          have hsu : sureB ws.length r = false := by
            unfold sureB
            rw [decide_eq_false h1, decide_eq_false h2]
            rfl
          have hb11 := hbr.ext y1
          have hKD11 := y1 _ _ hKD
          have lns := L11.pno.1
          refine ⟨_, rfl, no, rfl, ⟨_, SqL.of L11.no_⟩, fun Db hDb => ?_⟩
          refine lcw (walk_list (xs := ns.map V.ref)) (fun i H' => ∃ bl : List Addr, H' Db = some (.lst (bl.map V.ref)) ∧ PrsAt H' bl (((sel As false).take i).filter (barB As r)) ∧ Ext H11 H') ⟨[], upd_same, ⟨by simp, by simp⟩, Ext.upd hDb⟩ (fun i H' _ hp => SqL.of (hp.choose_spec.2.2 _ _ L11.no_)) (fun i x H' H'' hi hp hy => ?_) (fun H5 hp => ?_)
          · obtain ⟨bl, hbl, hpb, e⟩ := hp
            obtain ⟨rfl, hx⟩ := hy
            rw [List.length_map] at hi
            obtain ⟨bq, hbq, rfl⟩ : ∃ b, ns[i]? = some b ∧ x = .ref b := by
              rw [List.getElem?_map] at hx
              cases q : ns[i]? with
              | none => rw [q] at hx; cases hx
              | some b =>
                rw [q] at hx
                exact ⟨b, rfl, (Option.some.inj hx).symm⟩
            have hq : (sel As false)[i]? = some (sel As false)[i] := List.getElem?_eq_getElem (by omega)
            have hqm : (sel As false)[i] ∈ sel As false := List.getElem_mem _
            generalize (sel As false)[i] = q at hq hqm
            have hfs := filter_snoc (p := barB As r) hq
            have hbq' : PrAt H'' bq q := e _ _ (L11.pno.2 i bq q hbq hq)
            have lbl := hpb.1
            have lfl := List.length_filter_le (barB As r) ((sel As false).take i)
            rw [List.length_take] at lfl
            refine ⟨rfl, ?_⟩
            refine ⟨_, rfl, _, rfl, _, rfl, (show (1 : Nat) ≤ sizeLine by rw [sizeLine_eq]; decide), fun m hm => ?_⟩
            have y1 := Ext.upd (o := HO.lst [V.ref b]) hm
            have om : upd H'' m (.lst [V.ref b]) m = some (.lst ([b].map V.ref)) := upd_same
            have nKm : KD ≠ m := ne_of_none (e _ _ hKD11) hm
            generalize upd H'' m (.lst [V.ref b]) = H6 at y1 om ⊢
            have e6 := e.trans y1
            have hb6 := e6 _ _ hb11
            refine ⟨KD, m, [b], F, [r], ws.length, rfl, .inr (e6 _ _ hKD11), cF, SqL.of om, nKm, ⟨rfl, fun j b' r' h1 h2 => ?_⟩, h7w, fun z hz => by rw [List.mem_singleton.mp hz]; exact okr, by simp, fun D2 F2 H7 x7 hD20 hD2 cF2 mF2 => ?_⟩
            · match j, h1, h2 with
              | 0, h1, h2 =>
                cases h1
                cases h2
                exact hb6
            have e7 := e6.trans x7
            have y17 := y1.trans x7
            refine ⟨D2, _, rfl, DGet.t hD2 (hbq'.ext y17).key, _, rfl, ?_⟩
            rw [valL_is]
            have hqF : q ∈ F2 ↔ barB As r q = true := ((mF2 q).trans (cl_with mF q)).trans barB_is.symm
            have h7b := y17 _ _ hbl
            by_cases hq2 : q ∈ F2
            · rw [decide_eq_true hq2]
              refine iteT ?_
              rw [if_pos (hqF.1 hq2)] at hfs
              have eL : ExtL H7 (upd H7 Db (.lst (bl.map V.ref ++ [.ref bq]))) := ExtL.upd h7b
              refine ⟨_, rfl, _, h7b, by rw [List.length_map]; exact Nat.lt_of_le_of_lt (by omega : bl.length ≤ 20) (by decide), bl ++ [bq], by rw [upd_same, List.map_append]; rfl, ?_, fun c u hc => ?_⟩
              · rw [hfs]
                exact prs_snoc ((hpb.ext y17).keep eL.tups) (eL.tups _ _ (y17 _ _ hbq'))
              · rw [upd_ne (ne_of_none hc hDb)]
                exact e7 _ _ hc
            · rw [decide_eq_false hq2]
              refine iteF ?_
              rw [if_neg (fun z => hq2 (hqF.2 z)), List.append_nil] at hfs
              exact ⟨bl, h7b, by rw [hfs]; exact hpb.ext y17, e7⟩
          · obtain ⟨bl, hbl, hpb, x5⟩ := hp
            rw [List.length_map, lns, List.take_length] at hpb
            have L5 := L11.ext x5
            refine ⟨by decide, fun e0 he0 => ?_⟩
            have y6 := Ext.upd (o := HO.lst ([] : List V)) he0
            refine ⟨Db, e0, _, rfl, rfl, SqL.of (y6 _ _ hbl), SqL.of upd_same, _, rfl, ?_⟩
            generalize upd H5 e0 (.lst ([] : List V)) = H6 at y6 ⊢
            have L6 := L5.ext y6
            have hb6 := (hb11.ext x5).ext y6
            have lbl := hpb.1
            cases bl with
            | nil =>
              refine iteF ?_
              refine ⟨_, _, _, t, rfl, { L6 with pen := L6.pen.less (by omega) }, hb6, fun _ z hz c => ?_, fun _ => ⟨hsu, hncl⟩⟩
              have : z ∈ (sel As false).filter (barB As r) := List.mem_filter.mpr ⟨hz, barB_is.mpr c⟩
              rw [List.length_eq_zero_iff.mp lbl.symm] at this
              cases this
            | cons b0 bl0 =>
              refine iteT ?_
              exact ⟨_, _, _, false, rfl, { L6 with pen := L6.pen.less (by omega) }, hb6, (fun z => by cases z), fun _ => ⟨hsu, hncl⟩⟩
        · rintro σ' H11 ⟨a7, a8, a10, t, rfl, L11, hbr, ht1, ht0⟩
          obtain ⟨dxa, ha11⟩ := L11.ak.at_
          refine ⟨_, rfl, a, dxa, _, rfl, ha11, rfl, rfl, ?_⟩
          refine ⟨_, rfl, _, rfl, b, _, 0, _, rfl, rfl, SqT.of hbr, rfl, _, rfl, _, rfl, b, _, 1, _, rfl, rfl, SqT.of hbr, rfl, _, _, rfl, rfl, _, rfl, rw, _, rfl, SqL.of L11.rw_, fun p1 hp1 => ?_⟩
          rw [cut_seg okr.1 okr.2]
          have y12 := Ext.upd (o := HO.lst ((seg ws r.1 r.2).map V.str)) hp1
          have op1 : upd H11 p1 (HO.lst ((seg ws r.1 r.2).map V.str)) p1 = some (HO.lst ((seg ws r.1 r.2).map V.str)) := upd_same
          generalize upd H11 p1 (HO.lst ((seg ws r.1 r.2).map V.str)) = H12 at y12 op1 ⊢
          refine ⟨p1, _, rfl, .inl op1, seg_wd L11.ak.ok, Nat.le_trans seg_le (by omega), fun g ug H13 ig x13 hg gg => ?_⟩
          have L13 := (L11.ext y12).ext x13
          have hbr13 := (hbr.ext y12).ext x13
          refine ⟨_, rfl, a, o, tk, g, ws, ug, As, r, t, rfl, L13.ak, gg, ig, okr, L13.tb, by omega, ht1, fun h => ⟨(ht0 h).1, (ht0 h).2, fun z hz => (L13.fair z hz).1⟩, fun H14 kp14 ak14 => ?_⟩
          obtain ⟨eL, pen14, rw14, ye14, pye14, no14, pno14, tb14⟩ := L13.answered kp14
          have hbr14 : PrAt H14 b r := eL _ _ hbr13 (fun _ z => nomatch z)
          have fair := L13.fair
          have lys := pye14.1
          have lns := pno14.1
          obtain ⟨tz, rz, hpz, _⟩ := pen14.at_
          obtain ⟨ts, htk14, _⟩ := ak14.taken
          refine ⟨_, rfl, _, rfl, (show (1 : Nat) ≤ sizeLine by rw [sizeLine_eq]; decide), fun m1 hm1 => ?_⟩
          refine ⟨_, rfl, .inr ⟨t, rfl, ?_⟩⟩
          have y1 := Ext.upd (o := HO.lst [V.ref b]) hm1
          have o1 : upd H14 m1 (.lst [V.ref b]) m1 = some (.lst [V.ref b]) := upd_same
          generalize upd H14 m1 (.lst [V.ref b]) = G1 at y1 o1 ⊢
          refine ⟨m1, _, _, rfl, rfl, o1, by cases t <;> decide, by cases t <;> decide, by cases t <;> simp [sizeLine_eq], fun q1 hq1 => ?_⟩
          rw [rep_bit]
          have y2 := Ext.upd (o := HO.lst ((if t = true then [b] else []).map V.ref)) hq1
          have o2 : upd G1 q1 (.lst ((if t = true then [b] else []).map V.ref)) q1 = some (.lst ((if t = true then [b] else []).map V.ref)) := upd_same
          generalize upd G1 q1 (.lst ((if t = true then [b] else []).map V.ref)) = G2 at y2 o2 ⊢
          have z2 := y1.trans y2
          refine ⟨ye, q1, _, _, rfl, rfl, z2 _ _ ye14, o2, by rw [List.length_map, List.length_map]; refine Nat.le_trans (m := 30) ?_ (by rw [sizeLine_eq]; decide); cases t <;> simp <;> omega, fun q2 hq2 => ?_⟩
          rw [← List.map_append]
          have y3 := Ext.upd (o := HO.lst ((ys ++ if t = true then [b] else []).map V.ref)) hq2
          have o3 : upd G2 q2 (.lst ((ys ++ if t = true then [b] else []).map V.ref)) q2 = some (.lst ((ys ++ if t = true then [b] else []).map V.ref)) := upd_same
          generalize upd G2 q2 (.lst ((ys ++ if t = true then [b] else []).map V.ref)) = G3 at y3 o3 ⊢
          have z3 := z2.trans y3
          refine ⟨_, rfl, _, rfl, (show (1 : Nat) ≤ sizeLine by rw [sizeLine_eq]; decide), fun m2 hm2 => ?_⟩
          refine ⟨_, rfl, _, rfl, .inr ⟨!t, rfl, ?_⟩⟩
          have y4 := Ext.upd (o := HO.lst [V.ref b]) hm2
          have o4 : upd G3 m2 (.lst [V.ref b]) m2 = some (.lst [V.ref b]) := upd_same
          generalize upd G3 m2 (.lst [V.ref b]) = G4 at y4 o4 ⊢
          refine ⟨m2, _, _, rfl, rfl, o4, by cases t <;> decide, by cases t <;> decide, by cases t <;> simp [sizeLine_eq], fun q3 hq3 => ?_⟩
          rw [rep_bit]
          have y5 := Ext.upd (o := HO.lst ((if (!t) = true then [b] else []).map V.ref)) hq3
          have o5 : upd G4 q3 (.lst ((if (!t) = true then [b] else []).map V.ref)) q3 = some (.lst ((if (!t) = true then [b] else []).map V.ref)) := upd_same
          generalize upd G4 q3 (.lst ((if (!t) = true then [b] else []).map V.ref)) = G5 at y5 o5 ⊢
          have z5 := z3.trans (y4.trans y5)
          refine ⟨no, q3, _, _, rfl, rfl, z5 _ _ no14, o5, by rw [List.length_map, List.length_map]; refine Nat.le_trans (m := 30) ?_ (by rw [sizeLine_eq]; decide); cases t <;> simp <;> omega, fun q4 hq4 => ?_⟩
          rw [← List.map_append]
          have y6 := Ext.upd (o := HO.lst ((ns ++ if (!t) = true then [b] else []).map V.ref)) hq4
          have o6 : upd G5 q4 (.lst ((ns ++ if (!t) = true then [b] else []).map V.ref)) q4 = some (.lst ((ns ++ if (!t) = true then [b] else []).map V.ref)) := upd_same
          generalize upd G5 q4 (.lst ((ns ++ if (!t) = true then [b] else []).map V.ref)) = G6 at y6 o6 ⊢
          have z6 := z5.trans y6
          have z36 := y4.trans (y5.trans y6)
          refine ⟨_, _, rfl, ?_⟩
          refine ⟨a7, a8, some (V.ref b), a10, some (V.bl t), q2, q4, As ++ [(r, t)], _, _, rfl, ⟨pen14.ext z6, ak14.ext z6, z6 _ _ rw14, z36 _ _ o3, ?_, o6, ?_, tb14.ext z6, L13.n1, L13.n2, ?_, ?_, L13.m2, ?_, ?_, L13.n5, ?_⟩, by rw [List.length_append, lAs]; rfl⟩
          · have := prs_more (t := t) (c := true) (pye14.ext z6) (hbr14.ext z6)
            rw [show (t == true) = t from by cases t <;> rfl] at this
            exact this
          · have := prs_more (t := t) (c := false) (pno14.ext z6) (hbr14.ext z6)
            rw [show (t == false) = !t from by cases t <;> rfl] at this
            exact this
          · exact (ne_of_none (z2 _ _ hpz) hq2).symm
          · exact (ne_of_none (z5 _ _ hpz) hq4).symm
          · exact (ne_of_none (z2 _ _ htk14) hq2).symm
          · exact (ne_of_none (z5 _ _ htk14) hq4).symm
          · cases t with
            | true => exact fair_yes fair (ht1 rfl)
            | false => exact fair_no fair (ht0 rfl).1 (ht0 rfl).2
      · clear L7 L0 ak hrw oye4 ono
        obtain ⟨a7, a8, a9, a10, a11, ye, no, As, ys, ns, rfl, L, lAs⟩ := hp
        refine ⟨_, rfl, by decide, by decide, ?_⟩
        refine for_range (lo := 0) (n := 8) (fun j (σ' : L2.St) H' => ∃ a7 a8 a9, σ' = [some (V.ref q), some (V.ref p), some (V.int (0 + (i : Int))), some (V.ref rw), some (V.ref ye), some (V.ref no), some (V.ref a), a7, a8, a9, a10, a11, none, none, none, none] ∧ LawSt ad.CG ad.CO ad.CA TT H' p l cs' (kb + (8 - j) * 20) a o tk rw ye no ws As ys ns) ?_ (fun j σ' H' hj hp => ?_) (fun σ' H' hp => ?_)
        · exact ⟨_, _, _, rfl, { L with pen := L.pen.less (by omega) }⟩
        · clear L
          obtain ⟨a7, a8, a9, rfl, L⟩ := hp
          refine ⟨_, rfl, _, rfl, _, ws.length, rfl, .inl ⟨_, SqL.of L.rw_, by simp⟩, p, l, cs', kb + (8 - (j + 1)) * 20 + 9, _, rfl, L.pen.less (by omega), by omega, by omega, fun lo H8 l0 l1 pen8 kt8 => ?_⟩
          obtain ⟨lo, rfl⟩ := Int.eq_ofNat_of_zero_le l0
          have L8 := L.kept kt8 pen8
          refine ⟨_, rfl, _, rfl, _, rfl, _, rfl, _, ws.length, rfl, .inl ⟨_, SqL.of L8.rw_, by simp⟩, _, rfl, _, _, rfl, rfl, p, l, cs', kb + (8 - (j + 1)) * 20 + 8, _, rfl, L8.pen, by omega, by omega, fun de H9 e0 e1 pen9 kt9 => ?_⟩
          obtain ⟨de, rfl⟩ := Int.eq_ofNat_of_zero_le e0
          have L9 := L8.kept kt9 pen9
          refine ⟨_, _, rfl, rfl, (show (2 : Nat) ≤ sizeLine by rw [sizeLine_eq]; decide), fun b hb => ?_⟩
          have y10 := Ext.upd (o := HO.tup [V.int lo, V.int (lo + de)]) hb
          have hbr : PrAt (upd H9 b (HO.tup [V.int lo, V.int (lo + de)])) b (lo, lo + de) := by
            unfold PrAt
            rw [upd_same]
            rfl
          generalize upd H9 b (HO.tup [V.int lo, V.int (lo + de)]) = H10 at y10 hbr ⊢
          have L10 := L9.ext y10
          have okr : OkR ws.length (lo, lo + de) := ⟨by show lo ≤ lo + de; omega, by show lo + de < _; omega⟩
          generalize (lo, lo + de) = r at hbr okr
          refine ⟨_, rfl, _, rfl, _, rfl, _, rfl, _, rfl, _, rfl, p, l, a, o, tk, rw, ye, no, b, cs', kb + (8 - (j + 1)) * 20, ws, As, r, ys, ns, rfl, L10.pen.less (by omega), L10.ak, L10.rw_, L10.ye_, L10.pye, L10.no_, L10.pno, hbr, okr, h2w, L10.tb, L10.n1, L10.n2, L10.n3, L10.n4, L10.fair, fun H11 k' hk' pen' e T' => ?_⟩
          have L11 := L10.keptN e pen' T'
          refine ⟨_, rfl, iteF ?_⟩
          exact ⟨_, _, _, rfl, { L11 with pen := L11.pen.less (by omega) }⟩
        · obtain ⟨a7, a8, a9, rfl, L⟩ := hp
          exact ⟨_, _, _, _, _, _, _, _, _, _, rfl, L.tb, L.pen.less (by omega)⟩
    · obtain ⟨a2, a3, a4, a5, a6, a7, a8, a9, a10, a11, rfl, T2, pen2⟩ := hp
      intro x1 d1 hx1 hd1 ne1
      refine ⟨x1, d1, _, _, _, _, rfl, upd_same, fun G1 kp1 o1 => ⟨rfl, ?_⟩⟩
      have y1 := step_made hx1 hd1 kp1
      refine ⟨rfl, rfl, ?_⟩
      intro x2 d2 hx2 hd2 ne2
      refine ⟨x2, d2, _, _, _, _, rfl, upd_same, fun G2 kp2 o2 => ⟨rfl, ?_⟩⟩
      have y2 := step_made hx2 hd2 kp2
      refine ⟨(show (2 : Nat) ≤ sizeLine by rw [sizeLine_eq]; decide), fun tt htt => ?_⟩
      have y3 := Ext.upd (o := HO.tup [V.ref x1, V.ref x2]) htt
      refine ⟨tt, _, rfl, SqT.of upd_same, rfl, _, _, rfl, _, _, rfl, rfl, ?_⟩
      generalize upd G2 tt (HO.tup [V.ref x1, V.ref x2]) = G3 at y3 ⊢
      have o13 := y3 _ _ (y2 _ _ o1)
      have o23 := y3 _ _ o2
      intro x3 d3 hx3 hd3 ne3
      refine ⟨x3, d3, _, _, _, _, rfl, upd_same, fun G4 kp4 o3 => ⟨rfl, ?_⟩⟩
      have y4 := step_made hx3 hd3 kp4
      intro x4 d4 hx4 hd4 ne4
      refine ⟨x4, d4, _, _, _, _, rfl, upd_same, fun G5 kp5 o4 => ⟨rfl, ?_⟩⟩
      have y5 := step_made hx4 hd4 kp5
      intro x5 d5 hx5 hd5 ne5
      refine ⟨x5, d5, _, _, _, _, rfl, upd_same, fun G6 kp6 o5 => ⟨rfl, ?_⟩⟩
      have y6 := step_made hx5 hd5 kp6
      intro x6 d6 hx6 hd6 ne6
      refine ⟨x6, d6, _, _, _, _, rfl, upd_same, fun G7 kp7 o6 => ⟨rfl, ?_⟩⟩
      have y7 := step_made hx6 hd6 kp7
      refine ⟨(show (4 : Nat) ≤ sizeLine by rw [sizeLine_eq]; decide), fun m hm => ?_⟩
      have y8 := Ext.upd (o := HO.lst [V.ref x3, V.ref x4, V.ref x5, V.ref x6]) hm
      have om : upd G7 m (HO.lst [V.ref x3, V.ref x4, V.ref x5, V.ref x6]) m = some (HO.lst [V.ref x3, V.ref x4, V.ref x5, V.ref x6]) := upd_same
      have y38 := y4.trans (y5.trans (y6.trans (y7.trans y8)))
      have p1 := y38 _ _ o13
      have p2 := y38 _ _ o23
      have p3 := (y5.trans (y6.trans (y7.trans y8))) _ _ o3
      have p4 := (y6.trans (y7.trans y8)) _ _ o4
      have p5 := (y7.trans y8) _ _ o5
      have p6 := y8 _ _ o6
      refine ⟨_, rfl, _, rfl, x1, d1, _, x2, d2, _, rfl, rfl, p1, p2, x1, x2, d1, d2, _, _, _, _, _, _, _, _, rfl, p1, p2, ?_⟩
      refine ⟨_, rfl, iteT ?_⟩
      generalize upd G7 m (HO.lst [V.ref x3, V.ref x4, V.ref x5, V.ref x6]) = G8 at om p1 p2 p3 p4 p5 p6 ⊢
      have hall : ∀ (i : Nat) (v : V), [V.ref x3, V.ref x4, V.ref x5, V.ref x6][i]? = some v → ∃ b dx j1 j2 j3 j4, v = .ref b ∧ G8 b = some (.ins ad.CS dx (stF (.int j1) (.int j2) (.int j3) (.int j4))) ∧ (decide (j1 = 1) && (decide (j2 = 2) && (decide (j3 = 3) && decide (j4 = 4)))) = false := fun i v h => by
        match i, h with
        | 0, h => cases h; exact ⟨_, _, _, _, _, _, rfl, p3, by decide⟩
        | 1, h => cases h; exact ⟨_, _, _, _, _, _, rfl, p4, by decide⟩
        | 2, h => cases h; exact ⟨_, _, _, _, _, _, rfl, p5, by decide⟩
        | 3, h => cases h; exact ⟨_, _, _, _, _, _, rfl, p6, by decide⟩
      refine ⟨_, rfl, m, rfl, ⟨_, SqL.of om⟩, fun Db hDb => ?_⟩
      refine lcw (walk_list (xs := [V.ref x3, V.ref x4, V.ref x5, V.ref x6])) (fun i H' => H' Db = some (.lst []) ∧ Ext G8 H') ⟨upd_same, Ext.upd hDb⟩ (fun i H' _ hp => SqL.of (hp.2 _ _ om)) (fun i x H' H'' hi hp hy => ?_) (fun H5 hp => ?_)
      · obtain ⟨hbl, e⟩ := hp
        obtain ⟨rfl, hx⟩ := hy
        obtain ⟨b, dx, j1, j2, j3, j4, rfl, hb, hf⟩ := hall _ _ hx
        refine ⟨rfl, ?_⟩
        refine ⟨_, rfl, _, rfl, b, dx, _, x1, d1, _, rfl, rfl, e _ _ hb, e _ _ p1, b, x1, dx, d1, _, _, _, _, _, _, _, _, rfl, e _ _ hb, e _ _ p1, ?_⟩
        rw [hf]
        refine ⟨_, rfl, iteF ?_⟩
        exact ⟨hbl, e⟩
      · refine ⟨by decide, fun e0 he0 => ?_⟩
        have y9 := Ext.upd (o := HO.lst ([] : List V)) he0
        refine ⟨Db, e0, [], rfl, rfl, SqL.of (y9 _ _ hp.1), SqL.of upd_same, ?_⟩
        exact hQ _
end
end Kq
set_option maxHeartbeats 4000000
namespace Kq
open PySem PySem.Spec PyProof.Rows L2 Kp KpH
open He (ga ma cT codeOf codeOf_eq codeIn_ref)
open He5 (wf)
open LamX (Tabs TabB)
abbrev adK (K : PySem.W.Frag) : Ad := { fDraw := ga K "_law_draw", fPick := ga K "_law_pick", fWords := ga K "_law_words", fPen := ga K "_law_pen", fClosed := ga K "_law_closed", fMade := ga K "_law_made", fIsChain := ga K "_law_is_chain", fSteps := ga K "_law_steps", fBent := ga K "_law_bent", fChainR := ga K "_law_chain_right", fRunR := ga K "_law_run_right", fIsWord := ga K "is_word", fOver := ga K "overlapping", fMadeOf := ga K "made_of", fClosedBy := ga K "closed_by", fRowsTo := ga K "rows_to", fNeedOrd := ga K "need_order", fMadeBy := ga K "made_by", fIsRight := ga K "is_right", fShows := ga K "shows_chain", CG := ga K "Group", gI := ma K (ga K "Group") "__init__", g_len := ma K (ga K "Group") "__len__", g_contains := ma K (ga K "Group") "__contains__", g_eq := ma K (ga K "Group") "__eq__", g_and := ma K (ga K "Group") "__and__", g_or := ma K (ga K "Group") "__or__", g_sub := ma K (ga K "Group") "__sub__", g_overlaps := ma K (ga K "Group") "overlaps", g_of := wf K (ga K "Group") "classmethod" "of", gp_of := ma K (ga K "Group") "of", CO := ga K "Order", oI := ma K (ga K "Order") "__init__", o_len := ma K (ga K "Order") "__len__", o_contains := ma K (ga K "Order") "__contains__", o_stands := ma K (ga K "Order") "stands", o_of := wf K (ga K "Order") "classmethod" "of", op_of := ma K (ga K "Order") "of", CA := ga K "Asker", aI := ma K (ga K "Asker") "__init__", a_pair_of := ma K (ga K "Asker") "pair_of", a_group_of := ma K (ga K "Asker") "group_of", a_is_sure := ma K (ga K "Asker") "is_sure", a_told_pairs := ma K (ga K "Asker") "told_pairs", a_clash_in := ma K (ga K "Asker") "clash_in", a_steps_in := ma K (ga K "Asker") "steps_in", a_answer := ma K (ga K "Asker") "answer", a_chain_of := ma K (ga K "Asker") "chain_of", a_bar_of := ma K (ga K "Asker") "bar_of", CS := ga K "Step", sI := ma K (ga K "Step") "__init__", s_eq := ma K (ga K "Step") "__eq__" }
theorem funC_of {K : PySem.W.Frag} {C m x qual : Str} {st : Stmt} {fd : FuncData} (F : Fun K x qual st (ma K (ga K C) m) fd) : FunC K x qual st (ma K (ga K C) m) fd (codeOf K (C, some m)) := by
  refine ⟨F, ?_⟩
  obtain ⟨oc, od, kV, doc, pm, an, cdv, ct, osl, rfl, lk, hcd⟩ := F.ex
  obtain ⟨c, rfl⟩ := codeIn_ref hcd
  rw [codeOf_eq (K := K) (p := (C, some m)) lk rfl]
section
variable {h : Heap} {mg : Str → Option Value} {w : World}
theorem factsT {K : PySem.W.Frag} (X : K.In h) (G : h.Ns mainGlobals mg) (c : SaysZ PP fa fn er tf ex h K) : ∃ tL tM tA, Tx K mg tL tM tA (adK K) := by
  have hex : (exs K).all id = true := c.more
  obtain ⟨fd_l_draw, F_l_draw⟩ := c.fG (x := "_law_draw") (st := s_l_draw) (List.mem_of_getElem? (show fn[0]? = some (dG "_law_draw" s_l_draw) from rfl))
  obtain ⟨fd_l_pick, F_l_pick⟩ := c.fG (x := "_law_pick") (st := s_l_pick) (List.mem_of_getElem? (show fn[1]? = some (dG "_law_pick" s_l_pick) from rfl))
  obtain ⟨fd_l_words, F_l_words⟩ := c.fG (x := "_law_words") (st := s_l_words) (List.mem_of_getElem? (show fn[2]? = some (dG "_law_words" s_l_words) from rfl))
  obtain ⟨fd_l_pen, F_l_pen⟩ := c.fG (x := "_law_pen") (st := s_l_pen) (List.mem_of_getElem? (show fn[3]? = some (dG "_law_pen" s_l_pen) from rfl))
  obtain ⟨fd_l_closed, F_l_closed⟩ := c.fG (x := "_law_closed") (st := s_l_closed) (List.mem_of_getElem? (show fn[4]? = some (dG "_law_closed" s_l_closed) from rfl))
  obtain ⟨fd_l_made, F_l_made⟩ := c.fG (x := "_law_made") (st := s_l_made) (List.mem_of_getElem? (show fn[5]? = some (dG "_law_made" s_l_made) from rfl))
  obtain ⟨fd_l_is_chain, F_l_is_chain⟩ := c.fG (x := "_law_is_chain") (st := s_l_is_chain) (List.mem_of_getElem? (show fn[6]? = some (dG "_law_is_chain" s_l_is_chain) from rfl))
  obtain ⟨fd_l_steps, F_l_steps⟩ := c.fG (x := "_law_steps") (st := s_l_steps) (List.mem_of_getElem? (show fn[7]? = some (dG "_law_steps" s_l_steps) from rfl))
  obtain ⟨fd_l_bent, F_l_bent⟩ := c.fG (x := "_law_bent") (st := s_l_bent) (List.mem_of_getElem? (show fn[8]? = some (dG "_law_bent" s_l_bent) from rfl))
  obtain ⟨fd_l_chain_right, F_l_chain_right⟩ := c.fG (x := "_law_chain_right") (st := s_l_chain_right) (List.mem_of_getElem? (show fn[9]? = some (dG "_law_chain_right" s_l_chain_right) from rfl))
  obtain ⟨fd_l_run_right, F_l_run_right⟩ := c.fG (x := "_law_run_right") (st := s_l_run_right) (List.mem_of_getElem? (show fn[10]? = some (dG "_law_run_right" s_l_run_right) from rfl))
  obtain ⟨fd_is_word, F_is_word⟩ := c.fG (x := "is_word") (st := s_is_word) (List.mem_of_getElem? (show fn[11]? = some (dG "is_word" s_is_word) from rfl))
  obtain ⟨fd_overlapping, F_overlapping⟩ := c.fG (x := "overlapping") (st := s_overlapping) (List.mem_of_getElem? (show fn[12]? = some (dG "overlapping" s_overlapping) from rfl))
  obtain ⟨fd_made_of, F_made_of⟩ := c.fG (x := "made_of") (st := s_made_of) (List.mem_of_getElem? (show fn[13]? = some (dG "made_of" s_made_of) from rfl))
  obtain ⟨fd_closed_by, F_closed_by⟩ := c.fG (x := "closed_by") (st := s_closed_by) (List.mem_of_getElem? (show fn[14]? = some (dG "closed_by" s_closed_by) from rfl))
  obtain ⟨fd_rows_to, F_rows_to⟩ := c.fG (x := "rows_to") (st := s_rows_to) (List.mem_of_getElem? (show fn[15]? = some (dG "rows_to" s_rows_to) from rfl))
  obtain ⟨fd_need_order, F_need_order⟩ := c.fG (x := "need_order") (st := s_need_order) (List.mem_of_getElem? (show fn[16]? = some (dG "need_order" s_need_order) from rfl))
  obtain ⟨fd_made_by, F_made_by⟩ := c.fG (x := "made_by") (st := s_made_by) (List.mem_of_getElem? (show fn[17]? = some (dG "made_by" s_made_by) from rfl))
  obtain ⟨fd_is_right, F_is_right⟩ := c.fG (x := "is_right") (st := s_is_right) (List.mem_of_getElem? (show fn[18]? = some (dG "is_right" s_is_right) from rfl))
  obtain ⟨fd_shows_chain, F_shows_chain⟩ := c.fG (x := "shows_chain") (st := s_shows_chain) (List.mem_of_getElem? (show fn[19]? = some (dG "shows_chain" s_shows_chain) from rfl))
  have F_Group_init := c.fM (C := "Group") (m := "__init__") (qual := "Group.__init__") (st := s_Group_init) (List.mem_of_getElem? (show fn[21]? = some (dM "Group" "__init__" "Group.__init__" s_Group_init) from rfl))
  have F_Group_len := c.fM (C := "Group") (m := "__len__") (qual := "Group.__len__") (st := s_Group_len) (List.mem_of_getElem? (show fn[22]? = some (dM "Group" "__len__" "Group.__len__" s_Group_len) from rfl))
  have F_Group_contains := c.fM (C := "Group") (m := "__contains__") (qual := "Group.__contains__") (st := s_Group_contains) (List.mem_of_getElem? (show fn[23]? = some (dM "Group" "__contains__" "Group.__contains__" s_Group_contains) from rfl))
  have F_Group_eq := c.fM (C := "Group") (m := "__eq__") (qual := "Group.__eq__") (st := s_Group_eq) (List.mem_of_getElem? (show fn[24]? = some (dM "Group" "__eq__" "Group.__eq__" s_Group_eq) from rfl))
  have F_Group_and := c.fM (C := "Group") (m := "__and__") (qual := "Group.__and__") (st := s_Group_and) (List.mem_of_getElem? (show fn[25]? = some (dM "Group" "__and__" "Group.__and__" s_Group_and) from rfl))
  have F_Group_or := c.fM (C := "Group") (m := "__or__") (qual := "Group.__or__") (st := s_Group_or) (List.mem_of_getElem? (show fn[26]? = some (dM "Group" "__or__" "Group.__or__" s_Group_or) from rfl))
  have F_Group_sub := c.fM (C := "Group") (m := "__sub__") (qual := "Group.__sub__") (st := s_Group_sub) (List.mem_of_getElem? (show fn[27]? = some (dM "Group" "__sub__" "Group.__sub__" s_Group_sub) from rfl))
  have F_Group_overlaps := c.fM (C := "Group") (m := "overlaps") (qual := "Group.overlaps") (st := s_Group_overlaps) (List.mem_of_getElem? (show fn[28]? = some (dM "Group" "overlaps" "Group.overlaps" s_Group_overlaps) from rfl))
  have F_Group_of := c.fW (T := "classmethod") (C := "Group") (m := "of") (qual := "Group.of") (st := s_Group_of) (List.mem_of_getElem? (show fn[29]? = some (dW "classmethod" "Group" "of" "Group.of" s_Group_of) from rfl))
  have F_Order_init := c.fM (C := "Order") (m := "__init__") (qual := "Order.__init__") (st := s_Order_init) (List.mem_of_getElem? (show fn[30]? = some (dM "Order" "__init__" "Order.__init__" s_Order_init) from rfl))
  have F_Order_len := c.fM (C := "Order") (m := "__len__") (qual := "Order.__len__") (st := s_Order_len) (List.mem_of_getElem? (show fn[31]? = some (dM "Order" "__len__" "Order.__len__" s_Order_len) from rfl))
  have F_Order_contains := c.fM (C := "Order") (m := "__contains__") (qual := "Order.__contains__") (st := s_Order_contains) (List.mem_of_getElem? (show fn[32]? = some (dM "Order" "__contains__" "Order.__contains__" s_Order_contains) from rfl))
  have F_Order_stands := c.fM (C := "Order") (m := "stands") (qual := "Order.stands") (st := s_Order_stands) (List.mem_of_getElem? (show fn[33]? = some (dM "Order" "stands" "Order.stands" s_Order_stands) from rfl))
  have F_Order_of := c.fW (T := "classmethod") (C := "Order") (m := "of") (qual := "Order.of") (st := s_Order_of) (List.mem_of_getElem? (show fn[34]? = some (dW "classmethod" "Order" "of" "Order.of" s_Order_of) from rfl))
  have F_Asker_init := c.fM (C := "Asker") (m := "__init__") (qual := "Asker.__init__") (st := s_Asker_init) (List.mem_of_getElem? (show fn[35]? = some (dM "Asker" "__init__" "Asker.__init__" s_Asker_init) from rfl))
  have F_Asker_pair_of := c.fM (C := "Asker") (m := "pair_of") (qual := "Asker.pair_of") (st := s_Asker_pair_of) (List.mem_of_getElem? (show fn[36]? = some (dM "Asker" "pair_of" "Asker.pair_of" s_Asker_pair_of) from rfl))
  have F_Asker_group_of := c.fM (C := "Asker") (m := "group_of") (qual := "Asker.group_of") (st := s_Asker_group_of) (List.mem_of_getElem? (show fn[37]? = some (dM "Asker" "group_of" "Asker.group_of" s_Asker_group_of) from rfl))
  have F_Asker_is_sure := c.fM (C := "Asker") (m := "is_sure") (qual := "Asker.is_sure") (st := s_Asker_is_sure) (List.mem_of_getElem? (show fn[38]? = some (dM "Asker" "is_sure" "Asker.is_sure" s_Asker_is_sure) from rfl))
  have F_Asker_told_pairs := c.fM (C := "Asker") (m := "told_pairs") (qual := "Asker.told_pairs") (st := s_Asker_told_pairs) (List.mem_of_getElem? (show fn[39]? = some (dM "Asker" "told_pairs" "Asker.told_pairs" s_Asker_told_pairs) from rfl))
  have F_Asker_clash_in := c.fM (C := "Asker") (m := "clash_in") (qual := "Asker.clash_in") (st := s_Asker_clash_in) (List.mem_of_getElem? (show fn[40]? = some (dM "Asker" "clash_in" "Asker.clash_in" s_Asker_clash_in) from rfl))
  have F_Asker_steps_in := c.fM (C := "Asker") (m := "steps_in") (qual := "Asker.steps_in") (st := s_Asker_steps_in) (List.mem_of_getElem? (show fn[41]? = some (dM "Asker" "steps_in" "Asker.steps_in" s_Asker_steps_in) from rfl))
  have F_Asker_answer := c.fM (C := "Asker") (m := "answer") (qual := "Asker.answer") (st := s_Asker_answer) (List.mem_of_getElem? (show fn[42]? = some (dM "Asker" "answer" "Asker.answer" s_Asker_answer) from rfl))
  have F_Asker_chain_of := c.fM (C := "Asker") (m := "chain_of") (qual := "Asker.chain_of") (st := s_Asker_chain_of) (List.mem_of_getElem? (show fn[43]? = some (dM "Asker" "chain_of" "Asker.chain_of" s_Asker_chain_of) from rfl))
  have F_Asker_bar_of := c.fM (C := "Asker") (m := "bar_of") (qual := "Asker.bar_of") (st := s_Asker_bar_of) (List.mem_of_getElem? (show fn[44]? = some (dM "Asker" "bar_of" "Asker.bar_of" s_Asker_bar_of) from rfl))
  have F_Step_init := c.fM (C := "Step") (m := "__init__") (qual := "Step.__init__") (st := s_Step_init) (List.mem_of_getElem? (show fn[45]? = some (dM "Step" "__init__" "Step.__init__" s_Step_init) from rfl))
  have F_Step_eq := c.fM (C := "Step") (m := "__eq__") (qual := "Step.__eq__") (st := s_Step_eq) (List.mem_of_getElem? (show fn[46]? = some (dM "Step" "__eq__" "Step.__eq__" s_Step_eq) from rfl))
  have B : TxB mg := ⟨(He.free_ok X G (c.fact (List.mem_of_getElem? (show fa[0]? = some (.free "int") from rfl)))), (He.free_ok X G (c.fact (List.mem_of_getElem? (show fa[1]? = some (.free "len") from rfl)))), (He.free_ok X G (c.fact (List.mem_of_getElem? (show fa[2]? = some (.free "abs") from rfl)))), (He.free_ok X G (c.fact (List.mem_of_getElem? (show fa[3]? = some (.free "list") from rfl)))), (He.free_ok X G (c.fact (List.mem_of_getElem? (show fa[4]? = some (.free "tuple") from rfl)))), (He.free_ok X G (c.fact (List.mem_of_getElem? (show fa[5]? = some (.free "str") from rfl)))), (He.free_ok X G (c.fact (List.mem_of_getElem? (show fa[6]? = some (.free "set") from rfl)))), (He.free_ok X G (c.fact (List.mem_of_getElem? (show fa[7]? = some (.free "min") from rfl)))), (He.free_ok X G (c.fact (List.mem_of_getElem? (show fa[8]? = some (.free "range") from rfl)))), (He.free_ok X G (c.fact (List.mem_of_getElem? (show fa[9]? = some (.free "enumerate") from rfl)))), (He.free_ok X G (c.fact (List.mem_of_getElem? (show fa[10]? = some (.free "zip") from rfl)))), (He.free_ok X G (c.fact (List.mem_of_getElem? (show fa[11]? = some (.free "sorted") from rfl)))), (He.free_ok X G (c.fact (List.mem_of_getElem? (show fa[12]? = some (.free "all") from rfl)))), (He.free_ok X G (c.fact (List.mem_of_getElem? (show fa[13]? = some (.free "repr") from rfl)))), (He.free_ok X G (c.fact (List.mem_of_getElem? (show fa[14]? = some (.free "isinstance") from rfl)))), (He.free_ok X G (c.fact (List.mem_of_getElem? (show fa[15]? = some (.free "super") from rfl)))), (He.free_ok X G (c.fact (List.mem_of_getElem? (show fa[16]? = some (.free "dict") from rfl)))), (He.free_ok X G (c.fact (List.mem_of_getElem? (show fa[17]? = some (.free "bool") from rfl)))), (He.free_ok X G (c.fact (List.mem_of_getElem? (show fa[18]? = some (.free "max") from rfl)))), (He.free_ok X G (c.fact (List.mem_of_getElem? (show fa[19]? = some (.free "ValueError") from rfl))))⟩
  have Tp : TxP K mg (adK K).fDraw (adK K).fPick := ⟨(He.glo_ok X G (c.fact (List.mem_of_getElem? (show fa[20]? = some (.glo "_law_draw") from rfl)))), (He.glo_ok X G (c.fact (List.mem_of_getElem? (show fa[21]? = some (.glo "_law_pick") from rfl)))), F_l_draw.kp, F_l_pick.kp, ⟨_, F_l_draw⟩, ⟨_, F_l_pick⟩⟩
  have Tw : TxW K mg (adK K).fWords := ⟨(He.glo_ok X G (c.fact (List.mem_of_getElem? (show fa[22]? = some (.glo "_law_words") from rfl)))), F_l_words.kp, ⟨_, F_l_words⟩⟩
  obtain ⟨tL, hL⟩ := He.str_ok X G (c.fact (List.mem_of_getElem? (show fa[47]? = some (.str "LETTERS" "abcdefghijklmnopqrstuvwxyz") from rfl)))
  obtain ⟨tM, hM⟩ := He.int_ok X G (c.fact (List.mem_of_getElem? (show fa[45]? = some (.int "MOST_WORDS_checks" 24) from rfl)))
  obtain ⟨tA, hA⟩ := He.int_ok X G (c.fact (List.mem_of_getElem? (show fa[46]? = some (.int "MOST_WORDS_asked" 7) from rfl)))
  have ctG : CT K mg "Group" (ga K "Group") (ma K (ga K "Group") "__init__") := ⟨(He.glo_ok X G (c.fact (List.mem_of_getElem? (show fa[40]? = some (.glo "Group") from rfl)))), (of_decide_eq_true (all_at hex 0 rfl)), (of_decide_eq_true (all_at hex 1 rfl)), (of_decide_eq_true (all_at hex 2 rfl)), (of_decide_eq_true (all_at hex 3 rfl)), (of_decide_eq_true (all_at hex 4 rfl)), (of_decide_eq_true (all_at hex 5 rfl)), (of_decide_eq_true (all_at hex 6 rfl)), (of_decide_eq_true (all_at hex 7 rfl))⟩
  have ctO : CT K mg "Order" (ga K "Order") (ma K (ga K "Order") "__init__") := ⟨(He.glo_ok X G (c.fact (List.mem_of_getElem? (show fa[41]? = some (.glo "Order") from rfl)))), (of_decide_eq_true (all_at hex 18 rfl)), (of_decide_eq_true (all_at hex 19 rfl)), (of_decide_eq_true (all_at hex 20 rfl)), (of_decide_eq_true (all_at hex 21 rfl)), (of_decide_eq_true (all_at hex 22 rfl)), (of_decide_eq_true (all_at hex 23 rfl)), (of_decide_eq_true (all_at hex 24 rfl)), (of_decide_eq_true (all_at hex 25 rfl))⟩
  have ctA : CT K mg "Asker" (ga K "Asker") (ma K (ga K "Asker") "__init__") := ⟨(He.glo_ok X G (c.fact (List.mem_of_getElem? (show fa[42]? = some (.glo "Asker") from rfl)))), (of_decide_eq_true (all_at hex 34 rfl)), (of_decide_eq_true (all_at hex 35 rfl)), (of_decide_eq_true (all_at hex 36 rfl)), (of_decide_eq_true (all_at hex 37 rfl)), (of_decide_eq_true (all_at hex 38 rfl)), (of_decide_eq_true (all_at hex 39 rfl)), (of_decide_eq_true (all_at hex 40 rfl)), (of_decide_eq_true (all_at hex 41 rfl))⟩
  have ctS : CT K mg "Step" (ga K "Step") (ma K (ga K "Step") "__init__") := ⟨(He.glo_ok X G (c.fact (List.mem_of_getElem? (show fa[43]? = some (.glo "Step") from rfl)))), (of_decide_eq_true (all_at hex 54 rfl)), (of_decide_eq_true (all_at hex 55 rfl)), (of_decide_eq_true (all_at hex 56 rfl)), (of_decide_eq_true (all_at hex 57 rfl)), (of_decide_eq_true (all_at hex 58 rfl)), (of_decide_eq_true (all_at hex 59 rfl)), (of_decide_eq_true (all_at hex 60 rfl)), (of_decide_eq_true (all_at hex 61 rfl))⟩
  exact ⟨tL, tM, tA, { B := B, P := Tp, W := Tw, g_LETTERS := hL, g_MOST_WORDS_checks := hM, g_MOST_WORDS_asked := hA, g_l_pen := (He.glo_ok X G (c.fact (List.mem_of_getElem? (show fa[23]? = some (.glo "_law_pen") from rfl)))), k_l_pen := F_l_pen.kp, F_l_pen := ⟨_, F_l_pen⟩, g_l_closed := (He.glo_ok X G (c.fact (List.mem_of_getElem? (show fa[24]? = some (.glo "_law_closed") from rfl)))), k_l_closed := F_l_closed.kp, F_l_closed := ⟨_, F_l_closed⟩, g_l_made := (He.glo_ok X G (c.fact (List.mem_of_getElem? (show fa[25]? = some (.glo "_law_made") from rfl)))), k_l_made := F_l_made.kp, F_l_made := ⟨_, F_l_made⟩, g_l_is_chain := (He.glo_ok X G (c.fact (List.mem_of_getElem? (show fa[26]? = some (.glo "_law_is_chain") from rfl)))), k_l_is_chain := F_l_is_chain.kp, F_l_is_chain := ⟨_, F_l_is_chain⟩, g_l_steps := (He.glo_ok X G (c.fact (List.mem_of_getElem? (show fa[27]? = some (.glo "_law_steps") from rfl)))), k_l_steps := F_l_steps.kp, F_l_steps := ⟨_, F_l_steps⟩, g_l_bent := (He.glo_ok X G (c.fact (List.mem_of_getElem? (show fa[28]? = some (.glo "_law_bent") from rfl)))), k_l_bent := F_l_bent.kp, F_l_bent := ⟨_, F_l_bent⟩, g_l_chain_right := (He.glo_ok X G (c.fact (List.mem_of_getElem? (show fa[29]? = some (.glo "_law_chain_right") from rfl)))), k_l_chain_right := F_l_chain_right.kp, F_l_chain_right := ⟨_, F_l_chain_right⟩, g_l_run_right := (He.glo_ok X G (c.fact (List.mem_of_getElem? (show fa[30]? = some (.glo "_law_run_right") from rfl)))), k_l_run_right := F_l_run_right.kp, F_l_run_right := ⟨_, F_l_run_right⟩, g_is_word := (He.glo_ok X G (c.fact (List.mem_of_getElem? (show fa[31]? = some (.glo "is_word") from rfl)))), k_is_word := F_is_word.kp, F_is_word := ⟨_, F_is_word⟩, g_overlapping := (He.glo_ok X G (c.fact (List.mem_of_getElem? (show fa[32]? = some (.glo "overlapping") from rfl)))), k_overlapping := F_overlapping.kp, F_overlapping := ⟨_, F_overlapping⟩, g_made_of := (He.glo_ok X G (c.fact (List.mem_of_getElem? (show fa[33]? = some (.glo "made_of") from rfl)))), k_made_of := F_made_of.kp, F_made_of := ⟨_, F_made_of⟩, g_closed_by := (He.glo_ok X G (c.fact (List.mem_of_getElem? (show fa[34]? = some (.glo "closed_by") from rfl)))), k_closed_by := F_closed_by.kp, F_closed_by := ⟨_, F_closed_by⟩, g_rows_to := (He.glo_ok X G (c.fact (List.mem_of_getElem? (show fa[35]? = some (.glo "rows_to") from rfl)))), k_rows_to := F_rows_to.kp, F_rows_to := ⟨_, F_rows_to⟩, g_need_order := (He.glo_ok X G (c.fact (List.mem_of_getElem? (show fa[36]? = some (.glo "need_order") from rfl)))), k_need_order := F_need_order.kp, F_need_order := ⟨_, F_need_order⟩, g_made_by := (He.glo_ok X G (c.fact (List.mem_of_getElem? (show fa[37]? = some (.glo "made_by") from rfl)))), k_made_by := F_made_by.kp, F_made_by := ⟨_, F_made_by⟩, g_is_right := (He.glo_ok X G (c.fact (List.mem_of_getElem? (show fa[38]? = some (.glo "is_right") from rfl)))), k_is_right := F_is_right.kp, F_is_right := ⟨_, F_is_right⟩, g_shows_chain := (He.glo_ok X G (c.fact (List.mem_of_getElem? (show fa[39]? = some (.glo "shows_chain") from rfl)))), k_shows_chain := F_shows_chain.kp, F_shows_chain := ⟨_, F_shows_chain⟩, G := ctG, G_row := (of_decide_eq_true (all_at hex 8 rfl)), G_dlen := (of_decide_eq_true (all_at hex 9 rfl)), G_dcontains := (of_decide_eq_true (all_at hex 10 rfl)), G_deq := (of_decide_eq_true (all_at hex 11 rfl)), G_dand := (of_decide_eq_true (all_at hex 12 rfl)), G_dor := (of_decide_eq_true (all_at hex 13 rfl)), G_dsub := (of_decide_eq_true (all_at hex 14 rfl)), m_overlaps := (of_decide_eq_true (all_at hex 15 rfl)), F_Group_init := F_Group_init, F_Group_len := F_Group_len, F_Group_contains := F_Group_contains, F_Group_eq := F_Group_eq, F_Group_and := F_Group_and, F_Group_or := F_Group_or, F_Group_sub := F_Group_sub, F_Group_overlaps := F_Group_overlaps, F_Group_of := F_Group_of, G_rd := (of_decide_eq_true (all_at hex 16 rfl)), G_of := cmB_ok (all_at hex 17 rfl), O := ctO, O_row := (of_decide_eq_true (all_at hex 26 rfl)), O_group := (of_decide_eq_true (all_at hex 27 rfl)), O_place_of := (of_decide_eq_true (all_at hex 28 rfl)), O_dlen := (of_decide_eq_true (all_at hex 29 rfl)), O_dcontains := (of_decide_eq_true (all_at hex 30 rfl)), m_stands := (of_decide_eq_true (all_at hex 31 rfl)), F_Order_init := F_Order_init, F_Order_len := F_Order_len, F_Order_contains := F_Order_contains, F_Order_stands := F_Order_stands, F_Order_of := F_Order_of, O_rd := (of_decide_eq_true (all_at hex 32 rfl)), O_of := cmB_ok (all_at hex 33 rfl), A := ctA, A_first := (of_decide_eq_true (all_at hex 42 rfl)), A_taken := (of_decide_eq_true (all_at hex 43 rfl)), A_kept_from := (of_decide_eq_true (all_at hex 44 rfl)), m_pair_of := (of_decide_eq_true (all_at hex 45 rfl)), m_group_of := (of_decide_eq_true (all_at hex 46 rfl)), m_is_sure := (of_decide_eq_true (all_at hex 47 rfl)), m_told_pairs := (of_decide_eq_true (all_at hex 48 rfl)), m_clash_in := (of_decide_eq_true (all_at hex 49 rfl)), m_steps_in := (of_decide_eq_true (all_at hex 50 rfl)), m_answer := (of_decide_eq_true (all_at hex 51 rfl)), m_chain_of := (of_decide_eq_true (all_at hex 52 rfl)), m_bar_of := (of_decide_eq_true (all_at hex 53 rfl)), F_Asker_init := F_Asker_init, F_Asker_pair_of := F_Asker_pair_of, F_Asker_group_of := F_Asker_group_of, F_Asker_is_sure := F_Asker_is_sure, F_Asker_told_pairs := F_Asker_told_pairs, F_Asker_clash_in := F_Asker_clash_in, F_Asker_steps_in := F_Asker_steps_in, F_Asker_answer := F_Asker_answer, F_Asker_chain_of := F_Asker_chain_of, F_Asker_bar_of := F_Asker_bar_of, S := ctS, S_first := (of_decide_eq_true (all_at hex 62 rfl)), S_second := (of_decide_eq_true (all_at hex 63 rfl)), S_way := (of_decide_eq_true (all_at hex 64 rfl)), S_made := (of_decide_eq_true (all_at hex 65 rfl)), S_deq := (of_decide_eq_true (all_at hex 66 rfl)), F_Step_init := F_Step_init, F_Step_eq := F_Step_eq, isOO := (of_decide_eq_true (all_at hex 67 rfl)), isNS := (of_decide_eq_true (all_at hex 68 rfl)), isNG := (of_decide_eq_true (all_at hex 69 rfl)), isTG := (of_decide_eq_true (all_at hex 70 rfl)) }⟩
abbrev qC : Str := ("Asker.clash_in" : Str) ++ ".<locals>." ++ "<lambda>"
theorem facts {K : PySem.W.Frag} {f : Addr} (X : K.In h) (G : h.Ns mainGlobals mg) (hfa : mg ("law" : Str) = some (.ref f)) (c : SaysZ PP fa fn er tf ex h K) :
    LamX.LawAtS (PySem.Challenge.rw_keptphrases_k83_chains_and_bars) w K (L2.CX PP w) 60 63 "_law_script" mg f h := by
  obtain ⟨tL, tM, tA, T⟩ := factsT X G c
  have e := hfa.symm.trans (He.glo_ok X G (c.fact (List.mem_of_getElem? (show fa[44]? = some (.glo "law") from rfl))))
  cases e
  obtain ⟨fdl, FD0⟩ := c.def_ (d := dG "law" s_law) (List.mem_of_getElem? (show fn[20]? = some (dG "law" s_law) from rfl))
  have FD : FunD K "law" "law" (defArgs s_law) (defBody s_law) (defScope s_law) [] [] (ga K "law") fdl := FD0
  have FF := He5.fun_of FD
  have FC := c.fM (C := "Asker") (m := "clash_in") (qual := "Asker.clash_in") (st := s_Asker_clash_in) (List.mem_of_getElem? (show fn[40]? = some (dM "Asker" "clash_in" "Asker.clash_in" s_Asker_clash_in) from rfl))
  obtain ⟨fdc, FC⟩ := FC
  have FL := funC_of FC
  have hR : (("Asker", some "clash_in") : He.Defn) ∈ tf := List.mem_of_getElem? (show tf[0]? = some _ from rfl)
  have cs : ∀ p ∈ [cT K ("Asker", some "clash_in")], ∃ q ∈ tf, p = cT K q := fun p hp => by
    rw [List.mem_singleton.mp hp]
    exact ⟨_, hR, rfl⟩
  have b := FunD.bindsA (ps := ["_law_script"]) FD fun _ _ _ _ _ _ us hl => match us, hl with | [_], _ => rfl
  refine ⟨fdl, [cT K ("Asker", some "clash_in")], spLaw K [((cT K ("Asker", some "clash_in")).2, qC)], fun p hp => ?_, fun p hp => ?_, fun p hp => ?_, fun s u => b s [u] rfl, fun H a ns hl hb hT hS => ?_, fun base KX hns TB => ?_⟩
  · obtain ⟨q, hq, rfl⟩ := cs p hp
    exact c.empty q hq
  · obtain ⟨q, hq, rfl⟩ := cs p hp
    exact c.out q hq
  · obtain ⟨q, hq, rfl⟩ := cs p hp
    exact PySem.W.codeHd_of_K X (c.hd q hq)
  · refine ⟨a, ns, rfl, hS, fun p hp => ?_, fun _ => rfl⟩
    rw [List.mem_singleton.mp hp]
    exact LamX.TabS.nil (hT _ List.mem_cons_self)
  · have TL : TxL K mg base (adK K) [((cT K ("Asker", some "clash_in")).2, qC)] (cT K ("Asker", some "clash_in")).1 (cT K ("Asker", some "clash_in")).2 := ⟨⟨fdc, FL⟩, TB _ List.mem_cons_self, List.mem_cons_self, fun p hp _ => by rw [List.mem_singleton.mp hp]⟩
    exact ok_law T TL FF
end
end Kq
open PySem PySem.W PySem.Calls PyProof.Rows
set_option maxRecDepth 100000 in
set_option maxHeartbeats 0 in
theorem PySem.Challenge.cw_keptphrases_k83_chains_and_bars_holds : PySem.Challenge.rw_keptphrases_k83_chains_and_bars.Holds := by
  w_on; o_law
  refine HandSHeadRun.head_any (r := OpenLaw.row PySem.Challenge.rw_keptphrases_k83_chains_and_bars) (q := view (OpenLaw.row PySem.Challenge.rw_keptphrases_k83_chains_and_bars).prog [65]) (H := Kq.hk) (ob := Kq.ob) (M := 20000) (loose := Kq.names) (d := HandSHeadRun.topDef (OpenLaw.row PySem.Challenge.rw_keptphrases_k83_chains_and_bars).prog 65) (kwd := []) Kq.ob_eq
    (by kernel_rfl) (fun s => by kernel_rfl) Kq.run (by kernel_rfl) (by kernel_rfl) (by kernel_rfl) (by rfl) (by first | assumption | decide +kernel) (by decide +kernel) ⟨rfl, rfl, rfl, rfl, rfl, by decide +kernel⟩ ?hw ?hc
  case hw => w_witness2
  case hc =>
    refine LamX.walk_ofTsE (l := PySem.Challenge.rw_keptphrases_k83_chains_and_bars) (n := 63) (k := 60) (x := "_law_script") (CX := fun w => L2.CX (PySem.Challenge.rw_keptphrases_k83_chains_and_bars).prog w) rfl (by decide) (by kernel_rfl) ⟨rfl, by decide, by decide⟩ ?F (fun w H s e s' z => by
      obtain ⟨_, _, _, _, _, _, _, _, _, _, _, _, z⟩ := z
      exact z)
    intro w mg fa h Y G hmg0
    obtain ⟨K, KX, c⟩ := Y
    have hmg : mg ("law" : PySem.Str) = some (.ref fa) := by
      have e : (HandSHeadRun.topDef (OpenLaw.row PySem.Challenge.rw_keptphrases_k83_chains_and_bars).prog 65).name = ("law" : PySem.Str) := by kernel_rfl
      rw [← e]
      exact hmg0
    exact ⟨K, KX, Kq.facts KX G hmg c⟩
