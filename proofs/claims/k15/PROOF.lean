import PyProof.Rows.All
import Wide.All
import OpenK.AllK
import Wide.FinOn
import KE.KStateDown
import HandS.ForMost
import HandS.ForExc
import HandS.Defaults
import HandS.Star
import HandS.ClsMeth
import HandS.Property
import HandS.MakeKw
import HandS.MakeKwOnly
import HandS.IsInst
import HandS.FStr
import HandS.Wide
import HandS.WideBits
import HandS.Style
import HandS.Flow
import HandS.Zip
import HandS.CallLocal
import HandS.Head0
import HandS.Head1
import HandS.Head2
import HandS.HeadEnd
import HandS.HeadHook1
import HandS.HeadHook2
import HandS.HeadNt
import KE.KCallOwn
import HandS.SlotsOwn
import KE.KOpsOwn
import HandS.Walk
import HandS.OwnEq
import KE.KFmtOwn
import HandS.Evl
import HandS.Deep
import PyProof.ReprLen
import PyProof.EnumMake
import PyProof.Draws
import HandS.TryOnly
import PySem.Challenge.RW_anypoints_k15_tables_told
set_option Elab.async false
set_option linter.all false
set_option maxRecDepth 100000
set_option maxHeartbeats 4000000
namespace Z
open PySem PySem.W PySem.Calls PyProof.Rows He
def obsZ (ex : List (Frag → Bool)) (fn : List He5.DefA) (K : Frag) : He.AlD := ((ex.all fun f => f K) && fn.all fun d => d.ok K, fn.map fun d => He5.fnA K (d.at_ K))
def SaysZ (ex : List (Frag → Bool)) (fn : List He5.DefA) (K : Frag) : Prop := obsZ ex fn K = He5.valA fn
def obsZG (n : Nat) (ex : List (Frag → Bool)) (fn : List He5.DefA) (g : Addr → Option Obj) : He.AlD := obsZ ex fn (frG g (He5.asA g n))
def hookZ (n : Nat) (ex : List (Frag → Bool)) (fn : List He5.DefA) : PySem.W.Hook where
  α := He.AlD
  obs := fun s => obsZG n ex fn s.heap.get?
  val := fun _ => He5.valA fn
  says := fun _ h => ∃ K : Frag, K.In h ∧ SaysZ ex fn K
  of := fun _ _ e => ⟨_, frG_in, e⟩
  keeps := fun _ _ _ ⟨K, hK, c⟩ k => ⟨K, Frag.In.keeps hK k, c⟩
theorem obsZG_eq {n : Nat} {ex : List (Frag → Bool)} {fn : List He5.DefA} {g : Addr → Option Obj} {s : Shared} (h : ∀ a, g a = s.heap.get? a) : obsZG n ex fn g = (hookZ n ex fn).obs s := by
  have e : g = s.heap.get? := funext h
  rw [e] <;> rfl
section
variable {ex : List (Frag → Bool)} {fn : List He5.DefA} {K : Frag}
theorem SaysZ.fact (c : SaysZ ex fn K) (i : Nat) {f : Frag → Bool} (h : ex[i]? = some f := by rfl) : f K = true := by
  have c1 := (ba (show ((ex.all fun f => f K) && fn.all fun d => d.ok K) = true from congrArg (fun z : He.AlD => z.1) c)).1
  exact List.all_eq_true.mp c1 f (List.mem_of_getElem? h)
theorem SaysZ.def_ (c : SaysZ ex fn K) (i : Nat) {d : He5.DefA} (h : fn[i]? = some d := by rfl) : ∃ fd, L2.FunD K d.name d.qual d.params d.body d.scope (d.dvs K) (d.kws K) (d.at_ K) fd := by
  have c2 := (ba (show ((ex.all fun f => f K) && fn.all fun d => d.ok K) = true from congrArg (fun z : He.AlD => z.1) c)).2
  have e : fn.map (fun d => He5.fnA K (d.at_ K)) = fn.map He5.DefA.val := congrArg (fun z : He.AlD => z.2) c
  have e2 : (fn.map fun d => He5.fnA K (d.at_ K))[i]? = (fn.map He5.DefA.val)[i]? := by rw [e]
  rw [List.getElem?_map, List.getElem?_map, h] at e2
  exact He5.DefA.funD (Option.some.inj e2) (List.all_eq_true.mp c2 d (List.mem_of_getElem? h))
end
end Z

namespace Z
open PySem PySem.Spec PyProof.Rows L2
/-! ### defs to promises -/
/-- a promise that wants to know that no list is being shown -/
def FnG (P : Program) (w : World) (K : PySem.W.Frag) (mg : Str → Option Value) (base : Heap) (k : Nat) (f : Addr) (sp : Sp) : Prop :=
  ∀ (A : Around), Room k A → A.guards = some [] → ∀ (outer : List Env) (s : Shared) (H : Hp) (us : List Value) (vs : List V) (Q : VK) (E : XK), Env0 P w K mg base A outer s H → Vals vs us → sp vs H Q E →
    codeAny (model P w) A (.call (.ref f) ⟨us, []⟩) (CR (L2.CX P w) outer P w H s Q E) s
section
variable {P : Program} {w : World} {K : PySem.W.Frag} {mg : Str → Option Value} {base : Heap} {x qual : Str} {st : Stmt} {kws : List (Str × V)} {f : Addr} {fd : FuncData} {N ps : List Str} {k : Nat} {sp : Sp}
abbrev BodyOf (P : Program) (w : World) (K : PySem.W.Frag) (mg : Str → Option Value) (base : Heap) (N : List Str) (qual : Str) (st : Stmt) (f : Addr) (k : Nat) (sp : Sp) : Prop :=
  ∀ (cdv : Value) (A : Around) (outer : List Env) (s : Shared) (H : Hp) (vs : List V) (Q : VK) (E : XK), Room k (A.deeper (envOfC qual (defScope st) s.heap.objs.size f cdv)) → sp vs H Q E →
      ∃ t, PSs (cxOf (L2.CX P w) P w K mg base N qual (defScope st) f cdv A outer s H E) (defBody st) t ∧ t { nx := fun _ H' => Q .non H', rt := Q } (start N vs) H
abbrev BindsAll (x qual : Str) (st : Stmt) (ps : List Str) : Prop :=
  ∀ (kV doc pm : Value) (an : Option Addr) (cdv ct : Value) (us : List Value), us.length = ps.length → bindArgs (PySem.W.fnOf x qual (defArgs st) (defBody st) (defScope st) .none kV doc pm an cdv ct) ⟨us, []⟩ = pure (ps.zip us)
theorem fnr (F : FunD K x qual (defArgs st) (defBody st) (defScope st) [] kws f fd) (S : FnScope N ps (defScope st)) (hb : BindsAll x qual st ps) (len : ∀ vs H Q E, sp vs H Q E → vs.length = ps.length)
    (hbody : BodyOf P w K mg base N qual st f k sp) : FnR P w K mg base (L2.CX P w) (k + 1) f sp := by
  have G := (F.ok (CX := L2.CX P w) (k := k) S len hbody).raw (F.bindsN hb) .nil
  refine G.imp fun vs H Q E h => ?_
  show sp (vs ++ []) H Q E
  rw [List.append_nil]
  exact h
theorem fng (F : FunD K x qual (defArgs st) (defBody st) (defScope st) [] kws f fd) (S : FnScope N ps (defScope st)) (hb : BindsAll x qual st ps) (len : ∀ vs H Q E, sp vs H Q E → vs.length = ps.length)
    (hbody : ∀ (cdv : Value) (A : Around) (outer : List Env) (s : Shared) (H : Hp) (vs : List V) (Q : VK) (E : XK), Room k (A.deeper (envOfC qual (defScope st) s.heap.objs.size f cdv)) → A.guards = some [] → sp vs H Q E →
      ∃ t, PSs (cxOf (L2.CX P w) P w K mg base N qual (defScope st) f cdv A outer s H E) (defBody st) t ∧ t { nx := fun _ H' => Q .non H', rt := Q } (start N vs) H) : FnG P w K mg base (k + 1) f sp := by
  intro A hr hg outer s H us vs Q E e0 r h
  obtain ⟨oc, od, dV, kV, doc, pm, an, cdv, ct, osl, efd, lk, hcd, hD, _⟩ := F.ex
  have eD : dV = .none := by
    rcases hD with z | z
    · exact z.2
    · exact absurd rfl z.1
  subst eD
  subst efd
  have hl : us.length = ps.length := r.length.symm.trans (len _ _ _ _ h)
  refine StX.run_bnd (G := fun ws H2 => ws = vs ∧ H2 = H) lk hcd S hr e0 (fun A' Ex Q' hq => ?_) fun s2 H2 ws g hr2 => ?_
  · rw [hb kV doc pm an cdv ct us hl]
    exact wpAny_pure (hq s H vs us e0 Un.refl rfl (fun _ _ z => z) r (len _ _ _ _ h) ⟨rfl, rfl⟩)
  · obtain ⟨rfl, rfl⟩ := g
    exact hbody cdv A outer s2 H2 ws Q E hr2 hg h
end
section
variable {P : Program} {w : World} {K : PySem.W.Frag} {mg : Str → Option Value} {base : Heap} {x qual : Str} {st : Stmt} {kws : List (Str × V)} {f : Addr} {fd : FuncData} {N ps : List Str} {pv : Str} {k : Nat} {spb : Sp}
/-- def f(a, .., *v) -/
theorem fnstar (F : FunD K x qual (defArgs st) (defBody st) (defScope st) [] kws f fd) (S : FnScope N (ps ++ [pv]) (defScope st))
    (hb : ∀ (kV doc pm : Value) (an : Option Addr) (cdv ct : Value) (us rest : List Value), us.length = ps.length → bindArgs (PySem.W.fnOf x qual (defArgs st) (defBody st) (defScope st) .none kV doc pm an cdv ct) ⟨us ++ rest, []⟩ = (newTuple rest >>= fun t => pure (ps.zip us ++ [(pv, t)])))
    (hbody : BodyOf P w K mg base N qual st f k spb) :
    FnR P w K mg base (L2.CX P w) (k + 1) f (fun vs H Q E => ∃ ws rest, vs = ws ++ rest ∧ ws.length = ps.length ∧ rest.length ≤ sizeLine ∧ ∀ p, H p = Option.none → spb (ws ++ [V.ref p]) (upd H p (.tup rest)) Q E) := by
  obtain ⟨oc, od, dV, kV, doc, pm, an, cdv, ct, osl, efd, lk, hcd, hD, _⟩ := F.ex
  have eD : dV = .none := by
    rcases hD with z | z
    · exact z.2
    · exact absurd rfl z.1
  subst eD
  subst efd
  exact StX.fn_star lk hcd S StX.cxUp (hb kV doc pm an cdv ct) (hbody cdv)
end
/-! ### calls of such -/
section
variable {X : Cx} {k : Nat} {f : Addr} {sp : Sp} {E : XK} {x : Str} {p pos : Pos} {e : Expr} {es : List Expr} {t : TA} {CX : CXT}
def tCl (sp : Sp) (E : XK) (t : TA) : TE := fun σ H Q => t σ H fun vs H1 => sp vs H1 Q E
theorem run_g {pins : List (Addr × Obj)} {σ : L2.St} {H : Hp} {s : Shared} {Q : VK} {us : List Value} {vs : List V} (F : FnG X.prog X.w X.K X.mg X.base k f sp) (hr : Room k X.A) (hg : X.A.guards = some []) (hx : Passes (L2.CX X.prog X.w) X E)
    (I : Inv X pins σ H s) (r : Vals vs us) (h : sp vs H Q E) : wpAny (model X.prog X.w) X.A (call (.ref f) us) (EP X pins σ Q) X.xe s := by
  refine wpAny_call (codeAny_mono (F X.A hr hg X.stack s H us vs Q E I.env0 r h) fun res s' hq => ?_)
  match res, hq with
  | .error er, hq => exact hx pins σ H s er s' I hq
  | .ok (.ret u), hq => exact I.after hq
/-- f(e, ..) by either promise -/
theorem pe_cl (F : FnR X.prog X.w X.K X.mg X.base CX k f sp) (hr : Room k X.A) (hm : X.mg x = some (.ref f)) (hk : PySem.W.keepIn X.K (.ref f) = true) (hx : Passes CX X E) (ha : PA X (e :: es) t) (hg : Gl X x := by rfl)
    (hdb : (x == ("__debug__" : Str)) = false := by decide) (he : starEach (e :: es) X.env = (false, eval e X.env) :: starEach es X.env := by rfl) (hpl : (backTo pos (starEach es X.env)).any (·.1) = false := by rfl) :
    PE X (.Call (.Name x p) (e :: es) [] pos) (tCl sp E t) := by
  constructor
  intro pins s σ H Q I h
  refine wpAny_Call_Name_kw (ld_glob I hg hm (PySem.W.callWith_K (h₀ := X.base) I.ok.mod.kin hk (thn (ha.run pos pins s σ H _ I h) fun us s1 z => ?_) he hpl) hdb)
  obtain ⟨vs, H1, I1, r, q⟩ := z
  exact ⟨I1.kIn, wpAny_call (run_fnR F hr hx I1 r q)⟩
theorem pe_clG (F : FnG X.prog X.w X.K X.mg X.base k f sp) (hr : Room k X.A) (hgd : X.A.guards = some []) (hm : X.mg x = some (.ref f)) (hk : PySem.W.keepIn X.K (.ref f) = true) (hx : Passes (L2.CX X.prog X.w) X E) (ha : PA X (e :: es) t) (hg : Gl X x := by rfl)
    (hdb : (x == ("__debug__" : Str)) = false := by decide) (he : starEach (e :: es) X.env = (false, eval e X.env) :: starEach es X.env := by rfl) (hpl : (backTo pos (starEach es X.env)).any (·.1) = false := by rfl) :
    PE X (.Call (.Name x p) (e :: es) [] pos) (tCl sp E t) := by
  constructor
  intro pins s σ H Q I h
  refine wpAny_Call_Name_kw (ld_glob I hg hm (PySem.W.callWith_K (h₀ := X.base) I.ok.mod.kin hk (thn (ha.run pos pins s σ H _ I h) fun us s1 z => ?_) he hpl) hdb)
  obtain ⟨vs, H1, I1, r, q⟩ := z
  exact ⟨I1.kIn, run_g F hr hgd hx I1 r q⟩
end
end Z

namespace Z
open PySem PySem.Spec PyProof.Rows L2
open PySem.W (Frag Looks findIn subIn isFn selfFirst InstAt)
/-! ### own operators -/
/-- the class at C has the operator's def at f -/
structure OpC (K : Frag) (C : Addr) (nm : String) (f : Addr) : Prop where
  sf : selfFirst K C = true
  at_ : findIn K (.ref C) (PySem.dunder nm) = some (some (.ref f))
  fn : isFn K (.ref f) = true
  rf : ∃ rc, findIn K (.ref C) (dunderR nm) = some rc ∧ (rc = none ∨ ∃ g : Addr, rc = some (.ref g))
/-- the class at C has the reflected def at f -/
structure OpR' (K : Frag) (C : Addr) (nm : String) (f : Addr) : Prop where
  sf : selfFirst K C = true
  own : ∃ g : Addr, findIn K (.ref C) (PySem.dunder nm) = some (some (.ref g))
  at_ : findIn K (.ref C) (dunderR nm) = some (some (.ref f))
  fn : isFn K (.ref f) = true
  nint : subIn K (.ref C) (.type "int") = some false
section
variable {X : Cx} {pins : List (Addr × Obj)} {σ : L2.St} {H : Hp} {s : Shared}
theorem inst_at {a C dx : Addr} {fs : List (Str × V)} (I : Inv X pins σ H s) (h : H a = some (.ins C dx fs)) : ∃ od, InstAt s.heap a (PySem.W.instObj C dx) C (some od) := by
  obtain ⟨mA, O, _⟩ := ins_get I.hok h
  obtain ⟨od, J, _⟩ := O.look
  exact ⟨od, J⟩
theorem looks_ref {M : Model} {h : Heap} {a : Addr} {o : Obj} (e : h.get? a = some o) : Looks M h (typeOf (.ref a)) o.cls := by
  intro A Q E t k q
  exact wpAny_typeOf_ref (k a o e) q
/-- a value's type -/
theorem looks_ty {M : Model} {x : V} {u t : Value} (I : Inv X pins σ H s) (rx : RelV x u) (ty : TyX X.K H x t) : Looks M s.heap (typeOf u) t := by
  cases ty with
  | base b =>
    cases b with
    | non => cases (show u = Value.none from rx); exact Looks.of_pure rfl
    | bl y => cases (show u = Value.bool y from rx); exact Looks.of_pure rfl
    | int i => obtain ⟨tk, e⟩ := (show ∃ t, u = Value.int i t from rx); subst e; exact Looks.of_pure rfl
    | str y => obtain ⟨tk, e⟩ := (show ∃ t, u = Value.str y t from rx); subst e; exact Looks.of_pure rfl
    | flt y => obtain ⟨tk, e⟩ := (show ∃ t, u = Value.float y t from rx); subst e; exact Looks.of_pure rfl
    | @lst a xs ea =>
      cases (show u = Value.ref a from rx)
      have z := I.hok a _ ea
      obtain ⟨_, _, n, _, h1⟩ := z
      exact looks_ref h1
    | @frz a ob xs ea =>
      cases (show u = Value.ref a from rx)
      have z := I.hok a _ ea
      obtain ⟨_, _, _, n, _, h1⟩ := z
      exact looks_ref h1
    | @tup a xs ea =>
      cases (show u = Value.ref a from rx)
      have z := I.hok a _ ea
      obtain ⟨_, _, _, o, h1, h2, _⟩ := z
      exact h2 ▸ looks_ref h1
    | @dK a kvs ea =>
      cases (show u = Value.ref a from rx)
      have z := I.hok a _ ea
      obtain ⟨_, _, vs, _, o, es, ep, h1, h2, _⟩ := z
      exact h2.1 ▸ looks_ref h1
    | @dT a kvs ea =>
      cases (show u = Value.ref a from rx)
      have z := I.hok a _ ea
      obtain ⟨_, _, vs, _, o, es, ep, h1, h2, _⟩ := z
      exact h2.1 ▸ looks_ref h1
    | @ins a C dx fs ea =>
      cases (show u = Value.ref a from rx)
      obtain ⟨od, J⟩ := inst_at I ea
      exact J.type
  | byt y => obtain ⟨tk, e⟩ := (show ∃ t, u = Value.bytes y t from rx); subst e; exact Looks.of_pure rfl
  | @set a S n ea =>
    cases (show u = Value.ref a from rx)
    have z := I.hok a _ ea
    obtain ⟨o, _, _, _, e, ex, _⟩ := z
    exact ex.1 ▸ looks_ref e
  | @kList a o e c => cases (show u = Value.ref a from rx); exact c ▸ looks_ref (I.kIn a o e)
  | @kTuple a o e c => cases (show u = Value.ref a from rx); exact c ▸ looks_ref (I.kIn a o e)
  | @kDict a o e c => cases (show u = Value.ref a from rx); exact c ▸ looks_ref (I.kIn a o e)
  | @fTuple a ob xs ea =>
    cases (show u = Value.ref a from rx)
    have z := I.hok a _ ea
    obtain ⟨_, _, _, _, o, h1, h2, _⟩ := z
    exact h2 ▸ looks_ref h1
  | @fDict a ob kvs ea =>
    cases (show u = Value.ref a from rx)
    have z := I.hok a _ ea
    obtain ⟨_, _, _, vs, _, o, es, ep, h1, h2, _⟩ := z
    exact h2.1 ▸ looks_ref h1
end
section
variable {prog : Program} {w : World} {A : Around} {E : Value → Shared → Prop} {s : Shared} {K : Frag} {x C f : Addr} {ox : Obj} {od : Option Obj}
/-- an instance on the left, anything of a built-in type on the right -/
theorem own_left {op : Operator} {b : Value} {T : String} {fo ro : Option Value} {Q : Value → Shared → Prop} (X : K.In s.heap) (I : InstAt s.heap x ox C od) (c : OpC K C op.info.2 f) (hb : Looks (model prog w) s.heap (typeOf b) (.type T))
    (h1 : findIn K (.type T) (PySem.dunder op.info.2) = some fo) (h2 : findIn K (.type T) (dunderR op.info.2) = some ro) (h3 : subIn K (.type T) (.ref C) = some false)
    (h : wpAny (model prog w) A (call (.ref f) [.ref x, b]) (PySem.W.CmpBack Q) E s) : wpAny (model prog w) A (binaryOp op (.ref x) b) Q E s := by
  obtain ⟨cd, rest, hcd, hm⟩ := PySem.W.ksp_first c.sf
  obtain ⟨rc, hr, hp⟩ := c.rf
  have hat := c.at_
  have hfn := c.fn
  generalize hi : op.info = pr at *
  obtain ⟨sym, nm⟩ := pr
  have go := PySem.W.ksp_try X I hat hfn h
  obtain ⟨hh, gs, dr, tk, os⟩ := s
  have L1 : Looks (model prog w) hh (typeOf (.ref x)) (.ref C) := I.type
  have L2 : Looks (model prog w) hh (typeOf b) (.type T) := hb
  have L3 : Looks (model prog w) hh (fillsNumberSlot (.ref C) nm) true := PySem.W.fills_K X hcd hm hat
  have L4 : Looks (model prog w) hh (fillsNumberSlot (.type T) nm) ((fo.isSome && !isSeqSlot fo) || (ro.isSome && !isSeqSlot ro)) := PySem.W.ksp_fillsT X h1 h2
  have L5 : Looks (model prog w) hh (isSubtype (.type T) (.ref C)) false := PySem.W.looks_subIn X h3
  have L6 : Looks (model prog w) hh (numberSlotInPython (.ref C) nm) true := PySem.W.ksp_inPy X hat hr hp
  have L7 : Looks (model prog w) hh (numberSlotInPython (.type T) nm) false := Looks.of_pure rfl
  have L8 : Looks (model prog w) hh (typeLookup (.type T) (dunderR nm)) ro := PySem.W.looks_findIn X h2
  have two : (Value.ref C == Value.type T) = false := by
    cases e : (Value.ref C == Value.type T) with
    | false => rfl
    | true => exact nomatch (beq_iff_eq.mp e)
  generalize ((fo.isSome && !isSeqSlot fo) || (ro.isSome && !isSeqSlot ro)) = rb at L4
  simp only [binaryOp, hi]
  refine wpAny_holding (wpAny_bind ?_)
  unfold binaryOp1
  refine wpAny_bind (L1.at (wpAny_bind (L2.at (wpAny_bind (L3.at ?_)))))
  simp only [two, Bool.false_eq_true, if_false]
  cases rb
  all_goals
    ksp_lk
    refine wpAny_mono go (fun r s' z => ?_) fun _ _ z => z
    obtain ⟨v, er, q⟩ := z
    subst er
    ksp_lk
    exact q
theorem fills_R {M : Model} {h : Heap} {nm : String} {cd : ClassData} {rest : List Value} {g : Addr} (X : K.In h) (hc : PySem.W.clsIn K C = some cd) (hm : cd.mro = .ref C :: rest) (hs : findIn K (.ref C) (PySem.dunder nm) = some (some (.ref g))) : Looks M h (fillsNumberSlot (.ref C) nm) true := PySem.W.fills_K X hc hm hs
/-- int's own slot declines an instance -/
theorem int_declines {g : Int → Int → Sem PySem.Fin} {nm : String} {i : Int} {t : Tok} {Q : PySem.Fin → Shared → Prop} {o : Obj} (ho : s.heap.get? x = some o) (hd : o.data = .plain)
    (h : Q (.done (.ret .notImplemented)) s) : wpAny (model prog w) A (Builtin.Int.intBinary nm g false ⟨[.int i t, .ref x], []⟩) Q E s := by
  show wpAny _ _ (do
    let some y ← asInt? (.ref x) | rule "int.binary.not-an-int"; ret .notImplemented
    if false then g y i else g i y) _ _ _
  refine wpAny_bind ?_
  unfold asInt?
  refine wpAny_bind (wpAny_load ho ?_)
  simp only [hd]
  refine wpAny_pure ?_
  exact wpAny_bind (wpAny_rule (wpAny_pure h))
/-- what of the int's slot is asked -/
structure IntSlot (nm : String) (idl : String) : Prop where
  sl : Slot "int" (PySem.dunder nm) idl
  ent : ∃ (b : String) (g : Int → Int → Sem PySem.Fin), entryFor table idl = some (Builtin.Int.intBinary b g false)
  arg : ∀ a b, argsOk idl ⟨[a, b], []⟩
  fl : fillsNumberSlot (.type "int") nm = pure true
theorem is_add : IntSlot "add" "int.__add__" := ⟨PySem.F.slot_int_add, ⟨_, _, PySem.F.entry_int_add⟩, PySem.F.args_int_add_2, PySem.F.fills_int_add⟩
theorem is_sub : IntSlot "sub" "int.__sub__" := ⟨PySem.F.slot_int_sub, ⟨_, _, PySem.F.entry_int_sub⟩, PySem.F.args_int_sub_2, PySem.F.fills_int_sub⟩
theorem is_mul : IntSlot "mul" "int.__mul__" := ⟨PySem.F.slot_int_mul, ⟨_, _, PySem.F.entry_int_mul⟩, PySem.F.args_int_mul_2, PySem.F.fills_int_mul⟩
/-- an int on the left, an instance on the right -/
theorem own_right {op : Operator} {i : Int} {t : Tok} {idl : String} {Q : Value → Shared → Prop} (X : K.In s.heap) (I : InstAt s.heap x ox C od) (hpl : ox.data = .plain) (c : OpR' K C op.info.2 f) (sl : IntSlot op.info.2 idl)
    (h : wpAny (model prog w) A (call (.ref f) [.ref x, .int i t]) (PySem.W.CmpBack Q) E s) : wpAny (model prog w) A (binaryOp op (.int i t) (.ref x)) Q E s := by
  obtain ⟨cd, rest, hcd, hm⟩ := PySem.W.ksp_first c.sf
  obtain ⟨g, hg⟩ := c.own
  obtain ⟨bn, bf, hent⟩ := sl.ent
  have hat := c.at_
  have hfn := c.fn
  have hsl := sl.sl
  have hfl := sl.fl
  have hni := c.nint
  generalize hi : op.info = pr at *
  obtain ⟨sym, nm⟩ := pr
  have go := PySem.W.ksp_try X I hat hfn h
  have dec : wpAny (model prog w) A (tryMethod (.int i t) (PySem.dunder nm) (.ref x)) (fun r s' => r = none ∧ s' = s) E s :=
    wpAny_tryMethod_declines (typeIs_int s i t) hsl (wpAny_call_entry hsl (typeIs_int s i t) hent (int_declines I.at_ hpl ⟨_, rfl, rfl, rfl, rfl⟩) (sl.arg _ _))
  obtain ⟨hh, gs, dr, tk, os⟩ := s
  have L1 : Looks (model prog w) hh (typeOf (.int i t)) (.type "int") := Looks.of_pure rfl
  have L2 : Looks (model prog w) hh (typeOf (.ref x)) (.ref C) := I.type
  have L3 : Looks (model prog w) hh (fillsNumberSlot (.type "int") nm) true := Looks.of_pure hfl
  have L4 : Looks (model prog w) hh (fillsNumberSlot (.ref C) nm) true := PySem.W.fills_K X hcd hm hg
  have L5 : Looks (model prog w) hh (isSubtype (.ref C) (.type "int")) false := PySem.W.looks_subIn X hni
  have L6 : Looks (model prog w) hh (numberSlotInPython (.type "int") nm) false := Looks.of_pure rfl
  have two : (Value.type "int" == Value.ref C) = false := by
    cases e : (Value.type "int" == Value.ref C) with
    | false => rfl
    | true => exact nomatch (beq_iff_eq.mp e)
  simp only [binaryOp, hi]
  refine wpAny_holding (wpAny_bind ?_)
  unfold binaryOp1
  refine wpAny_bind (L1.at (wpAny_bind (L2.at (wpAny_bind (L3.at ?_)))))
  simp only [two, Bool.false_eq_true, if_false]
  ksp_lk
  refine wpAny_mono dec (fun r s' z => ?_) fun _ _ z => z
  obtain ⟨er, es⟩ := z
  subst er
  subst es
  ksp_lk
  refine wpAny_mono go (fun r s' z => ?_) fun _ _ z => z
  obtain ⟨v, er, q⟩ := z
  subst er
  ksp_lk
  exact q
end
/-! ### the same over the layer -/
section
variable {X : Cx} {k : Nat} {f C : Addr} {sp : Sp} {E : XK} {op : Operator} {CX : CXT}
/-- what may stand on the right -/
def RightOk (K : Frag) (C : Addr) (nm : String) (H : Hp) (y : V) : Prop :=
  (∃ b dy gs, y = .ref b ∧ H b = some (.ins C dy gs)) ∨ ∃ (T : String) (fo ro : Option Value), TyX K H y (.type T) ∧ findIn K (.type T) (PySem.dunder nm) = some fo ∧ findIn K (.type T) (dunderR nm) = some ro ∧ subIn K (.type T) (.ref C) = some false
def rOwnL (K : Frag) (C : Addr) (nm : String) (sp : Sp) (E : XK) : R2 := fun x y H Q => ∃ a dx fs, x = .ref a ∧ H a = some (.ins C dx fs) ∧ RightOk K C nm H y ∧ sp [x, y] H Q E
theorem op_ownL (c : OpC X.K C op.info.2 f) (F : FnR X.prog X.w X.K X.mg X.base CX k f sp) (hr : Room k X.A) (hx : Passes CX X E) : OpR X (binaryOp op) (rOwnL X.K C op.info.2 sp E) := by
  intro pins s σ H x y v u Q I rx ry h
  obtain ⟨a, dx, fs, rfl, ha, ry2, q⟩ := h
  cases (show v = Value.ref a from rx)
  obtain ⟨od, J⟩ := inst_at I ha
  have go : wpAny (model X.prog X.w) X.A (call (.ref f) [.ref a, u]) (PySem.W.CmpBack (EP X pins σ Q)) X.xe s :=
    wpAny_mono (wpAny_call (run_fnR (us := [.ref a, u]) (vs := [.ref a, y]) F hr hx I (.cons rfl (.cons ry .nil)) q)) (fun z s' hz => by
      have hz2 := hz
      obtain ⟨zv, H', I', rz, qz⟩ := hz2
      exact SlX.cmpback rz hz) fun _ _ z => z
  rcases ry2 with ⟨b, dy, gs, rfl, hb⟩ | ⟨T, fo, ro, ty, h1, h2, h3⟩
  · cases (show u = Value.ref b from ry)
    obtain ⟨od2, J2⟩ := inst_at I hb
    obtain ⟨m, hF⟩ := I.fr
    exact PySem.W.binop_K hF I.ok.mod.kin J J2.type c.sf c.at_ c.fn go
  · exact own_left I.kIn J c (looks_ty I ry ty) h1 h2 h3 go
def rOwnR (C : Addr) (sp : Sp) (E : XK) : R2 := fun x y H Q => ∃ i b dx fs, x = .int i ∧ y = .ref b ∧ H b = some (.ins C dx fs) ∧ sp [y, x] H Q E
theorem op_ownR {idl : String} (c : OpR' X.K C op.info.2 f) (sl : IntSlot op.info.2 idl) (F : FnR X.prog X.w X.K X.mg X.base CX k f sp) (hr : Room k X.A) (hx : Passes CX X E) : OpR X (binaryOp op) (rOwnR C sp E) := by
  intro pins s σ H x y v u Q I rx ry h
  obtain ⟨i, b, dx, fs, rfl, rfl, hb, q⟩ := h
  cases (show u = Value.ref b from ry)
  have rx2 := rx
  obtain ⟨t, rfl⟩ := rx2
  obtain ⟨od, J⟩ := inst_at I hb
  refine own_right I.kIn J rfl c sl (wpAny_mono (wpAny_call (run_fnR (us := [.ref b, .int i t]) (vs := [.ref b, .int i]) F hr hx I (.cons rfl (.cons rx .nil)) q)) (fun z s' hz => ?_) fun _ _ z => z)
  have hz2 := hz
  obtain ⟨zv, H', I', rz, qz⟩ := hz2
  exact SlX.cmpback rz hz
/-- - in front -/
def rNeg (C : Addr) (sp : Sp) (E : XK) : V → Hp → VK → Prop := fun x H Q => ∃ a dx fs, x = .ref a ∧ H a = some (.ins C dx fs) ∧ sp [x] H Q E
theorem un_own (h1 : findIn X.K (.ref C) "__neg__" = some (some (.ref f))) (h2 : isFn X.K (.ref f) = true) (F : FnR X.prog X.w X.K X.mg X.base CX k f sp) (hr : Room k X.A) (hx : Passes CX X E) : UnR X (unaryOp .USub) (rNeg C sp E) := by
  intro pins s σ H x v Q I rx h
  obtain ⟨a, dx, fs, rfl, ha, q⟩ := h
  cases (show v = Value.ref a from rx)
  obtain ⟨od, J⟩ := inst_at I ha
  obtain ⟨m, hF⟩ := I.fr
  exact PySem.W.ksp_neg hF I.ok.mod.kin J h1 h2 (wpAny_call (run_fnR (us := [.ref a]) (vs := [.ref a]) F hr hx I (.cons rfl .nil) q))
end
end Z

namespace Z
open PySem PySem.Spec PyProof.Rows L2
open PySem.W (Frag Looks findIn subIn isFn selfFirst InstAt)
/-! ### a property's record -/
def propB (K : Frag) (C : Addr) (m : Str) : Bool := He.eqO (findIn K (.ref C) m) (some (some (.ref (He.ma K C m)))) && (decide (PySem.W.specialIn K (.ref (He.ma K C m)) "__get__" = some (some (.builtin "property.__get__"))) &&
  (decide (PySem.W.takesIn K (.ref (He.ma K C m)) = some true) && (match PySem.W.recIn K (He.ma K C m) "property" with
    | some (.ref _ :: _) => true
    | _ => false)))
theorem prop_ok {K : Frag} {C : Addr} {m : Str} (h : propB K C m = true) : PropOf K C m (He.ma K C m) (He5.wf K C "property" m) := by
  obtain ⟨h1, h⟩ := He.ba h
  obtain ⟨h2, h⟩ := He.ba h
  obtain ⟨h3, h4⟩ := He.ba h
  refine ⟨He.eqO_ok h1, of_decide_eq_true h2, of_decide_eq_true h3, ?_⟩
  unfold He5.wf
  split at h4
  · rename_i f r e
    rw [e]
    exact ⟨r, rfl⟩
  · cases h4
/-! ### below a body: one frame of the machine's own more -/
section
variable {X : Cx} {k : Nat} {f C p : Addr} {sp : Sp} {E : XK} {CX : CXT} {pins : List (Addr × Obj)} {σ : L2.St} {H : Hp} {s : Shared}
theorem run_in {A : Around} {Q : VK} {us : List Value} {ws : List V} (F : FnR X.prog X.w X.K X.mg X.base CX k f sp) (hr : Room k A) (e0 : Env0 X.prog X.w X.K X.mg X.base A X.stack s H) (hx : Passes CX X E) (I : Inv X pins σ H s) (r : Vals ws us)
    (h : sp ws H Q E) : wpAny (model X.prog X.w) A (call (.ref f) us) (EP X pins σ Q) X.xe s := wpAny_call (SlX.run_at F hr e0 hx I r h)
theorem room1 {A : Around} (hr : Room (k + 1) A) : Room k A.in1 := Room.in1 hr
/-- str(o), o an instance -/
def rStrO (C : Addr) (sp : Sp) (E : XK) : List V → Hp → VK → Prop := fun xs H Q => ∃ a dx fs, xs = [V.ref a] ∧ H a = some (.ins C dx fs) ∧ sp [.ref a] H (fun z H' => ∃ y, z = .str y ∧ Q z H') E
theorem strback {Q : VK} {v : Value} {s' : Shared} (h : EP X pins σ (fun z H' => ∃ y, z = .str y ∧ Q z H') v s') : PySem.W.StrBack (EP X pins σ Q) v s' := by
  obtain ⟨z, H', I', rz, y, ey, q⟩ := h
  subst ey
  have rz2 := rz
  obtain ⟨t, et⟩ := rz2
  subst et
  exact ⟨_, H', I', rz, q⟩
theorem call_strO (h1 : findIn X.K (.ref C) "__str__" = some (some (.ref f))) (h2 : isFn X.K (.ref f) = true) (F : FnR X.prog X.w X.K X.mg X.base CX k f sp) (hr : Room (k + 2) X.A) (hx : Passes CX X E) : CallR X (.type "str") (rStrO C sp E) := by
  intro pins s σ H xs us Q I r h
  obtain ⟨a, dx, fs, rfl, ha, q⟩ := h
  obtain ⟨u, rfl, ru⟩ := vals1 r
  cases (show u = Value.ref a from ru)
  obtain ⟨od, J⟩ := inst_at I ha
  have hr2 := room1 (room1 hr)
  refine PySem.W.kso_call hr2.units0 I.kIn J h1 h2 (wpAny_mono (run_in (us := [.ref a]) (ws := [.ref a]) F hr2 I.env0.in1.in1 hx I (.cons rfl .nil) q) (fun z s' hz => strback hz) fun _ _ z => z)
/-- repr(o) -/
theorem call_reprO (h1 : findIn X.K (.ref C) "__repr__" = some (some (.ref f))) (h2 : isFn X.K (.ref f) = true) (F : FnR X.prog X.w X.K X.mg X.base CX k f sp) (hr : Room (k + 1) X.A) (hx : Passes CX X E) : CallR X (.builtin "repr") (rStrO C sp E) := by
  intro pins s σ H xs us Q I r h
  obtain ⟨a, dx, fs, rfl, ha, q⟩ := h
  obtain ⟨u, rfl, ru⟩ := vals1 r
  cases (show u = Value.ref a from ru)
  obtain ⟨od, J⟩ := inst_at I ha
  obtain ⟨m, hF⟩ := I.fr
  have hr2 := room1 hr
  exact PySem.W.repr_K hr2.units0 hF I.ok.mod.kin J h1 h2 (wpAny_mono (run_in (us := [.ref a]) (ws := [.ref a]) F hr2 I.env0.in1 hx I (.cons rfl .nil) q) (fun z s' hz => strback hz) fun _ _ z => z)
/-- repr of data -/
def rReprD (K : Frag) : List V → Hp → VK → Prop := fun xs H Q => ∃ a d, xs = [V.ref a] ∧ Dp K H (.ref a) d ∧ d.showable = true ∧ d.depth ≤ 60 ∧ d.shown.length ≤ sizeLine ∧ Q (.str d.shown) H
mutual
theorem noDict : ∀ {K : Frag} {H : Hp} {v : V} (d : PyData), Dp K H v d → d.hasDict = false
  | _, _, _, .none, _ => rfl
  | _, _, _, .bool _, _ => rfl
  | _, _, _, .int _, _ => rfl
  | _, _, _, .str _, _ => rfl
  | _, _, _, .list ds, .lst _ h => by
    show PyData.hasDictAll ds = false
    exact noDictAll ds h
  | _, _, _, .tuple ds, .tup _ h => by
    show PyData.hasDictAll ds = false
    exact noDictAll ds h
theorem noDictAll : ∀ {K : Frag} {H : Hp} {vs : List V} (ds : List PyData), DpAll K H vs ds → PyData.hasDictAll ds = false
  | _, _, _, [], _ => rfl
  | _, _, _, d :: ds, .cons h1 h2 => by
    show (d.hasDict || PyData.hasDictAll ds) = false
    rw [noDict d h1, noDictAll ds h2] <;> rfl
end
theorem call_reprD (hg : X.A.guards = some []) (hu : X.A.units + 64 < cLine) : CallR X (.builtin "repr") (rReprD X.K) := by
  intro pins s σ H xs us Q I r h
  obtain ⟨a, d, rfl, hd, hs, hp, hz, q⟩ := h
  obtain ⟨u, rfl, ru⟩ := vals1 r
  cases (show u = Value.ref a from ru)
  obtain ⟨as, rd⟩ := Dp.reads I d _ _ hd ru
  refine repr_of_reads' rd hs (PyData.noDict_hsm (noDict d hd)) hg (by omega) (fun b o e => e) (fun h' t tk kp => ?_) hz
  exact ⟨.str d.shown, H, I.kept kp, ⟨t, rfl⟩, q⟩
/-- e.f, a property, by a positional promise -/
def tPropR (C : Addr) (sp : Sp) (E : XK) (ta : TE) : TE := fun σ H Q => ta σ H fun x H1 => ∃ a dx fs, x = .ref a ∧ H1 a = some (.ins C dx fs) ∧ sp [.ref a] H1 Q E
theorem pe_propR {e : Expr} {nm : Str} {pos : Pos} {ta : TE} (he : PE X e ta) (c : Cls X.K C) (hp : PropOf X.K C nm p f) (F : FnR X.prog X.w X.K X.mg X.base (L2.CX X.prog X.w) k f sp) (hr : Room (k + 1) X.A)
    (hab : attributeBase e nm X.env (eval e X.env) = eval e X.env := by rfl) : PE X (.Attribute e nm pos) (tPropR C sp E0 ta) := by
  constructor
  intro pins s σ H Q I h
  refine attr_of hab (thn (he.run pins s σ H _ I h) fun u s1 z => ?_)
  obtain ⟨x, H1, I1, rx, a, dx, fs, ex, ea, q⟩ := z
  subst ex
  cases (show u = Value.ref a from rx)
  obtain ⟨od, J⟩ := inst_at I1 ea
  obtain ⟨rest, hrec⟩ := hp.rec_
  have hc : (PySem.W.clsIn X.K C).isSome = true := by
    obtain ⟨cd, e1, _⟩ := PySem.W.any_some c.hd
    simp [e1]
  have I2 := I1.tok (s1.toks + 1)
  refine PySem.W.get_bind I1.kIn J (PySem.W.plainGet_of (c.get nm)).1 (PySem.W.findObj_data hc hp.at_ hp.get hp.tak) (PySem.W.plainGet_of (c.get nm)).2 (wpAny_call ?_)
  refine PySem.W.prop_get (s := { s1 with toks := s1.toks + 1 }) I1.kIn hrec (codeAny_mono (F X.A.in1 X.stack { s1 with toks := s1.toks + 1 } H1 [.ref a] [.ref a] Q E0 (room1 hr) I2.env0.in1 (.cons rfl .nil) q) fun res s' hq => ?_)
  match res, hq with
  | .error er, hq => exact False.elim (passL (X := X.nox) pins σ H1 _ er s' (I2.wish _) hq)
  | .ok (.ret w), hq =>
    have z := I2.after hq
    obtain ⟨v, H', I3, rv, q3⟩ := z
    show wpAny _ _ (handedOut w) _ _ _
    rw [PySem.W.handedOut_of (handed_of rv)]
    exact wpAny_pure ⟨v, H', I3, rv, q3⟩
/-- o.m() and o.m(e, ..) by a positional promise: pe_methR; without arguments -/
theorem pe_methR0 {o : Expr} {m : Str} {ta : TE} {apos pos : Pos} {pl : Sem Bool} (he : PE X o ta) (c : Cls X.K C) (hm : Meth X.K C m f) (F : FnR X.prog X.w X.K X.mg X.base CX k f sp) (hr : Room k X.A) (hx : Passes CX X E)
    (ht : eval (.Call (.Attribute o m apos) [] [] pos) X.env = (do
      let ov ← eval o X.env
      standAt apos.atName
      let (f, first) ← holding [ov] (getMethod ov m pl)
      callWith pos f first (backTo pos (starEach [] X.env)) (backToKw pos (keywordEach [] X.env))) := by rfl) :
    PE X (.Call (.Attribute o m apos) [] [] pos) (tMethR C m sp E ta tNil) := by
  constructor
  intro pins s σ H Q I h
  refine PySem.W.methodCall_KW (pl := pl) (thn (he.run pins s σ H _ I h) fun u s1 z => ?_) ht
  obtain ⟨x, H1, I1, rx, a, dx, fs, ex, ea, l, q⟩ := z
  subst ex
  cases (show u = Value.ref a from rx)
  exact getmeth_ok I1 ea c hm l (PySem.W.callWith_K0 (first := [.ref a]) I1.kIn hm.kp (wpAny_call (run_fnR (us := [.ref a]) (vs := [.ref a]) F hr hx I1 (.cons rfl .nil) q)))
/-! ### keywords -/
/-- a promise by positional values and the values of the keywords ks -/
def FnK (P : Program) (w : World) (K : Frag) (mg : Str → Option Value) (base : Heap) (CX : CXT) (k : Nat) (f : Addr) (n : Nat) (ks : List Str) (sp : List V → List V → Hp → VK → XK → Prop) : Prop :=
  ∀ (A : Around) (outer : List Env) (s : Shared) (H : Hp) (us ws : List Value) (vs zs : List V) (Q : VK) (E : XK), Room k A → Env0 P w K mg base A outer s H → Vals vs us → Vals zs ws → vs.length = n → zs.length = ks.length → sp vs zs H Q E →
    codeAny (model P w) A (.call (.ref f) ⟨us, ks.zip ws⟩) (CR CX outer P w H s Q E) s
theorem fnk {P : Program} {w : World} {K : Frag} {mg : Str → Option Value} {base : Heap} {fd : FuncData} {ps ks : List Str} {n : Nat} {g : List Value → List Value → List Value} {gV : List V → List V → List V} (F : FnOk P w K mg base CX k f fd ps sp) (hb : KBn K fd ps n ks g gV) :
    FnK P w K mg base CX k f n ks (fun vs zs H Q E => sp (gV vs zs) H Q E) := by
  intro A outer s H us ws vs zs Q E hr e0 r1 r2 l1 l2 h
  exact F.run A outer s H ⟨us, ks.zip ws⟩ (g us ws) (gV vs zs) Q E hr e0 (hb.to s us ws (e0.mod.kin.keeps fun b o e => (e0.bs b o e).1) (r1.length.symm.trans l1) (r2.length.symm.trans l2)) (hb.rel r1 r2) h
theorem run_k {pins : List (Addr × Obj)} {σ : L2.St} {H : Hp} {s : Shared} {Q : VK} {us ws : List Value} {vs zs : List V} {n : Nat} {ks : List Str} {spk : List V → List V → Hp → VK → XK → Prop} (F : FnK X.prog X.w X.K X.mg X.base CX k f n ks spk) (hr : Room k X.A)
    (hx : Passes CX X E) (I : Inv X pins σ H s) (r1 : Vals vs us) (r2 : Vals zs ws) (l1 : vs.length = n) (l2 : zs.length = ks.length) (h : spk vs zs H Q E) : wpAny (model X.prog X.w) X.A (call (.ref f) us (ks.zip ws)) (EP X pins σ Q) X.xe s := by
  refine wpAny_call (codeAny_mono (F X.A X.stack s H us ws vs zs Q E hr I.env0 r1 r2 l1 l2 h) fun res s' hq => ?_)
  match res, hq with
  | .error er, hq => exact hx pins σ H s er s' I hq
  | .ok (.ret u), hq => exact I.after hq
/-- o.m(k = v, ..) -/
def tMethK (C : Addr) (m : Str) (ks : List Str) (spk : List V → List V → Hp → VK → XK → Prop) (E : XK) (ta : TE) (tk : TA) : TE := fun σ H Q => ta σ H fun x H1 => ∃ a dx fs, x = .ref a ∧ H1 a = some (.ins C dx fs) ∧ fs.lookup m = none ∧
  tk σ H1 fun zs H2 => zs.length = ks.length ∧ spk [.ref a] zs H2 Q E
theorem pe_methK {o : Expr} {m : Str} {ta : TE} {tk : TA} {kws : List Keyword} {ks : List Str} {apos pos : Pos} {pl : Sem Bool} {spk : List V → List V → Hp → VK → XK → Prop} (he : PE X o ta) (c : Cls X.K C) (hm : Meth X.K C m f)
    (F : FnK X.prog X.w X.K X.mg X.base CX k f 1 ks spk) (hr : Room k X.A) (hx : Passes CX X E) (hkw : PK X kws tk) (hall : (backToKw pos (keywordEach kws X.env)).all (·.1.isSome) = true := by rfl) (hks : (backToKw pos (keywordEach kws X.env)).filterMap (·.1) = ks := by rfl)
    (hpl : ((backTo pos (starEach [] X.env)).any (·.1) || (backToKw pos (keywordEach kws X.env)).any (·.1.isNone)) = false := by rfl)
    (ht : eval (.Call (.Attribute o m apos) [] kws pos) X.env = (do
      let ov ← eval o X.env
      standAt apos.atName
      let (f, first) ← holding [ov] (getMethod ov m pl)
      callWith pos f first (backTo pos (starEach [] X.env)) (backToKw pos (keywordEach kws X.env))) := by rfl) :
    PE X (.Call (.Attribute o m apos) [] kws pos) (tMethK C m ks spk E ta tk) := by
  constructor
  intro pins s σ H Q I h
  refine PySem.W.methodCall_KW (pl := pl) (thn (he.run pins s σ H _ I h) fun u s1 z => ?_) ht
  obtain ⟨x, H1, I1, rx, a, dx, fs, ex, ea, l, q⟩ := z
  subst ex
  cases (show u = Value.ref a from rx)
  refine getmeth_ok I1 ea c hm l (PySem.W.callWith_KW0 (first := [.ref a]) (h₀ := X.base) I1.ok.mod.kin hm.kp hall (thn (hkw.run pos pins s1 σ H1 _ I1 q) fun ws s2 z => ?_) hpl)
  obtain ⟨zs, H2, I2, rz, l2, q2⟩ := z
  rw [hks]
  exact ⟨I2.kIn, run_k (us := [.ref a]) (vs := [.ref a]) F hr hx I2 (.cons rfl .nil) rz rfl l2 q2⟩
/-- f(k = v, ..) -/
def tClK (ks : List Str) (spk : List V → List V → Hp → VK → XK → Prop) (E : XK) (tk : TA) : TE := fun σ H Q => tk σ H fun zs H2 => zs.length = ks.length ∧ spk [] zs H2 Q E
theorem pe_clK {x : Str} {tk : TA} {kws : List Keyword} {ks : List Str} {np pos : Pos} {spk : List V → List V → Hp → VK → XK → Prop} (F : FnK X.prog X.w X.K X.mg X.base CX k f 0 ks spk) (hr : Room k X.A) (hm : X.mg x = some (.ref f)) (hk : PySem.W.keepIn X.K (.ref f) = true) (hx : Passes CX X E) (hkw : PK X kws tk)
    (hg : Gl X x := by rfl) (hall : (backToKw pos (keywordEach kws X.env)).all (·.1.isSome) = true := by rfl) (hks : (backToKw pos (keywordEach kws X.env)).filterMap (·.1) = ks := by rfl)
    (hpl : ((backTo pos (starEach [] X.env)).any (·.1) || (backToKw pos (keywordEach kws X.env)).any (·.1.isNone)) = false := by rfl) (hdb : (x == ("__debug__" : Str)) = false := by decide) :
    PE X (.Call (.Name x np) [] kws pos) (tClK ks spk E tk) := by
  constructor
  intro pins s σ H Q I h
  refine wpAny_Call_Name_kw (ld_glob I hg hm (PySem.W.callWith_KW0 (first := []) (h₀ := X.base) I.ok.mod.kin hk hall (thn (hkw.run pos pins s σ H _ I h) fun ws s2 z => ?_) hpl) hdb)
  obtain ⟨zs, H2, I2, rz, l2, q2⟩ := z
  rw [hks]
  exact ⟨I2.kIn, run_k (us := []) (vs := []) F hr hx I2 .nil rz rfl l2 q2⟩
/-- C(k = v, ..) -/
def tMkK (C : Addr) (ks : List Str) (spk : List V → List V → Hp → VK → XK → Prop) (E : XK) (tk : TA) : TE := fun σ H Q => tk σ H fun zs H2 => zs.length = ks.length ∧ ∀ x dx, H2 x = none → H2 dx = none → dx ≠ x →
  spk [.ref x] zs (upd (upd H2 dx (.own x)) x (.ins C dx [])) (fun v H3 => v = .non ∧ Q (.ref x) H3) E
theorem pe_mkK {x : Str} {tk : TA} {kws : List Keyword} {ks : List Str} {np pos : Pos} {spk : List V → List V → Hp → VK → XK → Prop} (M : Mk X.K C f) (F : FnK X.prog X.w X.K X.mg X.base CX k f 1 ks spk) (hr : Room (k + 1) X.A) (hm : X.mg x = some (.ref C)) (hx : Passes CX X E) (hkw : PK X kws tk)
    (hg : Gl X x := by rfl) (hall : (backToKw pos (keywordEach kws X.env)).all (·.1.isSome) = true := by rfl) (hks : (backToKw pos (keywordEach kws X.env)).filterMap (·.1) = ks := by rfl)
    (hpl : ((backTo pos (starEach [] X.env)).any (·.1) || (backToKw pos (keywordEach kws X.env)).any (·.1.isNone)) = false := by rfl) (hdb : (x == ("__debug__" : Str)) = false := by decide) :
    PE X (.Call (.Name x np) [] kws pos) (tMkK C ks spk E tk) := by
  constructor
  intro pins s σ H Q I h
  refine wpAny_Call_Name_kw (ld_glob I hg hm (PySem.W.callWith_KW0 (first := []) (h₀ := X.base) I.ok.mod.kin M.kp hall (thn (hkw.run pos pins s σ H _ I h) fun ws s2 z => ?_) hpl) hdb)
  obtain ⟨zs, H2, I2, rz, l2, q2⟩ := z
  rw [hks]
  refine ⟨I2.kIn, ?_⟩
  have J := Inv.made (C := C) I2
  have hq := q2 (s2.heap.objs.size + 1) s2.heap.objs.size (I2.hok.fresh (Nat.le_succ _)) (I2.hok.fresh (Nat.le_refl _)) (Nat.ne_of_lt (Nat.lt_succ_self _))
  refine wpAny_call (make_map (f := f) I2.kIn M.makes M.init (beq_iff_eq.mp M.fn) (codeAny_mono (F _ X.stack _ _ [Value.ref (s2.heap.objs.size + 1)] ws [V.ref (s2.heap.objs.size + 1)] zs _ E (hr.make C [] (ks.zip ws)) (J.env0.make C [] (ks.zip ws)) (.cons rfl .nil) rz rfl l2 hq) fun res s' hq' => ?_))
  match res, hq' with
  | .error er, hq' => exact hx pins σ _ _ er s' J hq'
  | .ok (.ret u), hq' =>
    have z := J.after hq'
    obtain ⟨v, H', I3, rv, ev, q3⟩ := z
    subst ev
    exact ⟨rv, ⟨V.ref (s2.heap.objs.size + 1), H', I3, rfl, q3⟩⟩
/-! ### a class held by a local name: cls(e, ..) -/
def tMkL (i : Nat) (C : Addr) (sp : Sp) (E : XK) (t : TA) : TE := fun σ H Q => σ[i]? = some (some (.ref C)) ∧ StX.tMakeR C sp E t σ H Q
theorem pe_mkL {i : Nat} {x : Str} {np pos : Pos} {e : Expr} {es : List Expr} {t : TA} (M : Mk X.K C f) (F : FnR X.prog X.w X.K X.mg X.base CX k f sp) (hr : Room (k + 1) X.A) (hx : Passes CX X E) (ha : PA X (e :: es) t) (hv : PE X (.Name x np) (tVar i))
    (he : starEach (e :: es) X.env = (false, eval e X.env) :: starEach es X.env := by rfl) (hpl : (backTo pos (starEach es X.env)).any (·.1) = false := by rfl) : PE X (.Call (.Name x np) (e :: es) [] pos) (tMkL i C sp E t) := by
  constructor
  intro pins s σ H Q I h
  obtain ⟨hi, h⟩ := h
  refine wpAny_Call_Name_kw (thn (hv.run pins s σ H (fun v H1 => v = .ref C ∧ H1 = H) I ⟨_, hi, rfl, rfl⟩) fun u s1 z => ?_)
  obtain ⟨v, H1, I1, rv, ev, eH⟩ := z
  subst ev
  subst eH
  cases (show u = Value.ref C from rv)
  refine PySem.W.callWith_K (h₀ := X.base) I1.ok.mod.kin M.kp (thn (ha.run pos pins s1 σ H1 _ I1 h) fun us s2 z => ?_) he hpl
  obtain ⟨vs, H2, I2, r, q⟩ := z
  exact ⟨I2.kIn, StX.run_makeR M F hr hx I2 r q⟩
/-! ### C.m() of a classmethod, without arguments -/
theorem pe_cmeth0 {o : Expr} {m : Str} {ta : TE} {apos pos : Pos} {pl : Sem Bool} {mc : Value} {pr : Addr} (he : PE X o ta) (r : ClX.CRead X.K C mc) (c : ClX.CMet X.K C mc m pr f) (F : FnR X.prog X.w X.K X.mg X.base CX k f sp) (hr : Room k X.A) (hx : Passes CX X E)
    (ht : eval (.Call (.Attribute o m apos) [] [] pos) X.env = (do
      let ov ← eval o X.env
      standAt apos.atName
      let (f, first) ← holding [ov] (getMethod ov m pl)
      callWith pos f first (backTo pos (starEach [] X.env)) (backToKw pos (keywordEach [] X.env))) := by rfl) :
    PE X (.Call (.Attribute o m apos) [] [] pos) (ClX.tCMeth C sp E ta tNil) := by
  constructor
  intro pins s σ H Q I h
  refine PySem.W.methodCall_KW (pl := pl) (thn (he.run pins s σ H _ I h) fun u s1 z => ?_) ht
  obtain ⟨x, H1, I1, rx, ex, q⟩ := z
  subst ex
  cases (show u = Value.ref C from rx)
  refine ClX.getmethcm_ok I1 r c fun s2 I2 => ?_
  exact PySem.W.callWith_M0 (first := []) ⟨ClX.pin_at I2, I2.kIn⟩ c.fi (ClX.run_cm (us := []) (vs := []) F hr hx I2 .nil q)
end
end Z

namespace Z
open PySem PySem.Spec PyProof.Rows L2
open PySem.W (Frag Looks findIn subIn isFn selfFirst InstAt)
/-! ### numbers -/
def CDz (_ j : Int) : Prop := j ≠ 0 ∧ j.natAbs.log2 < 9000
section
variable {X : Cx}
theorem op_fdivZ : OpR X (binaryOp .FloorDiv) (rI CDz fun i j => .int (i.fdiv j)) := opI fun i j _ _ _ _ _ hc q => floordiv_int hc.1 q (.inl (PyProof.noPylong_of_log2 hc.2))
def CDp (_ j : Int) : Prop := 0 < j ∧ j.natAbs.log2 < 9000
theorem call_divmodZ : CallR X (.builtin "divmod") (fun xs H Q => ∃ i j, xs = [.int i, .int j] ∧ CDp i j ∧ ∀ p, H p = none → Q (.ref p) (upd H p (.tup [.int (i / j), .int (i % j)]))) := by
  intro pins s σ H xs us Q I r h
  obtain ⟨i, j, e, ⟨h1, h2⟩, q⟩ := h
  exact call_divmodW pins s σ H xs us Q I r ⟨i, j, e, ⟨h1, PyProof.noPylong_of_log2 h2⟩, q⟩
/-- two lists of unlike lengths are not equal -/
def rEqN (K : Frag) : R2 := fun x y H Q => ∃ a b xs ys, x = .ref a ∧ y = .ref b ∧ SqL K H a xs ∧ SqL K H b ys ∧ xs.length ≠ ys.length ∧ Q (.bl false) H
theorem op_eqN (hu : X.A.units < cLine) : OpR X (compareOp .Eq) (rEqN X.K) := by
  intro pins s σ H x y v u Q I rx ry h
  obtain ⟨a, b, xs, ys, rfl, rfl, h1, h2, hn, q⟩ := h
  cases (show v = Value.ref a from rx)
  cases (show u = Value.ref b from ry)
  obtain ⟨i1, r1, p1, _⟩ := I.list h1
  obtain ⟨i2, r2, p2, _⟩ := I.list h2
  have z : (i1.toArray.size != i2.toArray.size) = true := by
    simp only [List.size_toArray, bne_iff_ne]
    rw [← r1.length, ← r2.length]
    exact hn
  exact SeqAt.eq_list_lengthsAt p1.isList p2.isList z hu ⟨.bl false, H, I, rfl, q⟩
end
/-! ### the end of a law -/
section
theorem end_g {P : Program} {w : World} {K : Frag} {mg mb : Str → Option Value} {k : Nat} {fa a : Addr} {sp : Sp} {s1 : Shared} {vs : List Value} {ns : List Int} (KX : K.In s1.heap) (hns : s1.heap.Ns mainGlobals mg) (hb : s1.heap.Ns builtinsNs mb)
    (hbb : ∀ x : Str, x ≠ "__name__" → mb x = bootBuiltins x) (hlim : s1.heap.NoLimit) (hg : s1.gens = #[]) (ha : s1.heap.get? a = some { cls := .type "list", data := .seq vs.toArray }) (hi : IntsAre vs ns) (hl : ns.length ≤ sizeLine) (hr : Room k callerA)
    (F : ∀ base : Heap, K.In base → base.Ns mainGlobals mg → FnG P w K mg base k fa sp) (hsp : ∀ H : Hp, SqL K H a (ns.map V.int) → sp [.ref a] H (fun v _ => v = .bl true) E0) :
    codeAny (model P w) callerA (.call (.ref fa) ⟨[.ref a], []⟩) (fun r s' => r = .ok (.ret (.bool true)) ∧ OldK s1.heap s'.heap ∧ s'.os = s1.os ∧ AllBare s'.gens) s1 := by
  have rv : Vals (ns.map V.int) vs := vals_ints hi
  have lv : vs.length = ns.length := hi.length
  -- nothing is tracked but the script, where it is no object of the module
  generalize eo : ({ cls := .type "list", data := .seq vs.toArray } : Obj) = ob at ha
  let H : Hp := fun b => if b = a ∧ K.lookup a = none then some (.frz ob (.lst (ns.map V.int))) else none
  have hH : ∀ b u, H b = some u → b = a ∧ K.lookup a = none ∧ u = .frz ob (.lst (ns.map V.int)) := fun b u e => by
    have e2 : (if b = a ∧ K.lookup a = none then some (HO.frz ob (.lst (ns.map V.int))) else none) = some u := e
    by_cases c : b = a ∧ K.lookup a = none
    · rw [if_pos c] at e2
      exact ⟨c.1, c.2, (Option.some.inj e2).symm⟩
    · rw [if_neg c] at e2
      cases e2
  have hset : ∀ b o es ep, s1.heap.get? b = some o → o.data = .dict es ep → H b = none := fun b o es ep e d => by
    cases q : H b with
    | none => rfl
    | some u =>
      obtain ⟨eb, _, _⟩ := hH b u q
      rw [eb, ha] at e
      rw [← Option.some.inj e, ← eo] at d
      cases d
  have hin : ∀ b o, K.lookup b = some o → H b = none := fun b o e => by
    cases q : H b with
    | none => rfl
    | some u =>
      obtain ⟨eb, en, _⟩ := hH b u q
      rw [eb, en] at e
      cases e
  have KB : K.In (hidT s1.heap H) := fun b o e => hidT_get (KX b o e) (hin b o e)
  have nsB : ∀ {b : Addr} {m : Str → Option Value}, s1.heap.Ns b m → (hidT s1.heap H).Ns b m := fun z => by
    obtain ⟨o, es, ep, e, d, r⟩ := z
    exact ⟨o, es, ep, hidT_get e (hset _ o es ep e d), d, r⟩
  have hM : Mod K mg (hidT s1.heap H) := by
    refine ⟨KB, nsB hns, ⟨mb, nsB hb, hbb⟩, ?_⟩
    obtain ⟨mc, z1, z2⟩ := hlim
    exact ⟨mc, nsB z1, z2⟩
  have hok : HOk P w H s1.heap := fun b u e => by
    obtain ⟨eb, _, eu⟩ := hH b u e
    subst eu
    subst eb
    refine ⟨ha, ?_⟩
    rw [← eo] at ha
    exact ⟨by rw [List.length_map]; exact hl, vs, _, rv, ha⟩
  have e0 : Env0 P w K mg (hidT s1.heap H) callerA [] s1 H :=
    { frames := rfl, mod := hM, bs := fun b o e => of_hidT e, bsz := Nat.le_of_eq (hidT_size _ _), funs := trivial, frf := fun b z => absurd (show b ∈ ([] : List Addr) from z) (by simp), hok := hok, bare := .of_eq hg }
  have hS : SqL K H a (ns.map V.int) := by
    cases q : K.lookup a with
    | none => exact .inl (.inr ⟨ob, if_pos ⟨rfl, q⟩⟩)
    | some o =>
      have e := KX a o q
      rw [ha] at e
      have eq2 : o = { cls := .type "list", data := .seq vs.toArray } := by rw [← Option.some.inj e, ← eo]
      subst eq2
      exact .inr ⟨_, vs.toArray, _, q, rfl, rfl, rfl, by rw [List.size_toArray, lv]; exact hl, by simpa using rv⟩
  refine codeAny_mono (F _ KB (nsB hns) callerA hr rfl [] s1 H [.ref a] [.ref a] _ E0 e0 (.cons rfl .nil) (hsp H hS)) fun r s' z => ?_
  match r, z with
  | .error e, z =>
    obtain ⟨_, _, _, _, _, _, _, _, _, _, _, _, bad⟩ := z
    exact bad.elim
  | .ok (.ret u), z =>
    obtain ⟨v, H', os, bare, un, hok', ru, qv⟩ := z
    subst qv
    cases (show u = Value.bool true from ru)
    refine ⟨rfl, OldK.of_keep fun b o e => ?_, os, bare⟩
    cases q : H b with
    | none => exact un.keep b o e q (fun y => absurd (show b ∈ ([] : List Addr) from y) (by simp)) (by simp)
    | some u =>
      obtain ⟨eb, _, eu⟩ := hH b u q
      subst eu
      have y := un.frzs b ob _ q
      have y2 := (hok' b _ y).1
      rw [eb, ha] at e
      rw [y2, Option.some.inj e]
theorem walk_g {l : PySem.W.OpenLaw} {n k : Nat} {q : Program} {loose : List Str} {XP : (Str → Option Value) → Heap → Prop} {YP : World → Heap → Prop} {d : DefRec} (hn : l.most = some n) (hn2 : n ≤ sizeLine) (hdf : d.params.defaults = []) (hr : Room k callerA)
    (F : ∀ (w : World) (mg : Str → Option Value) (fa : Addr) (h : Heap), YP w h → h.Ns mainGlobals mg → mg d.name = some (.ref fa) → ∃ (K : Frag) (sp : Sp), K.In h ∧
      (∀ (H : Hp) (a : Addr) (ns : List Int), ns.length ≤ n → SqL K H a (ns.map V.int) → sp [.ref a] H (fun v _ => v = .bl true) E0) ∧ ∀ base : Heap, K.In base → base.Ns mainGlobals mg → FnG l.prog w K mg base k fa sp) :
    PySem.W.WalkO q loose XP YP l.row.toRowW d [] (fun f vs => PySem.call f vs) := by
  refine Att.attach_call hn hdf fun w s0 s1 mg mb fa o pm cd doc a vs ns G Y ho hd hcd hmg hobj hints hlen hg => ?_
  obtain ⟨K, sp, KX, hsp, hF⟩ := F w mg fa _ Y G.T.g hmg
  exact end_g KX G.T.g G.T.b G.T.builtins G.T.nolimit hg hobj hints (Nat.le_trans hlen hn2) hr hF fun H hS => hsp H a ns hlen hS
end
end Z

namespace Z
open PySem PySem.Spec PyProof.Rows L2
/-! ### texts and how long they show -/
def Okc (x : Str) : Prop := ∀ c ∈ x.cps.toList, c < 16 ^ 8
theorem okc_of (s : String) : Okc (Str.ofString s) := fun c hc => by
  have e : (Str.ofString s).cps.toList = s.toList.map Char.toNat := by
    rw [Str.ofString_eq_toList]
  rw [e] at hc
  obtain ⟨ch, _, rfl⟩ := List.mem_map.mp hc
  have h := ch.valid
  have h2 : ch.toNat < 1114112 := by
    rcases h with h | h
    · show ch.val.toNat < 1114112
      omega
    · show ch.val.toNat < 1114112
      omega
  omega
theorem okc_app {x y : Str} (hx : Okc x) (hy : Okc y) : Okc (x ++ y) := fun c hc => by
  rw [Str.cps_append, Array.toList_append] at hc
  rcases List.mem_append.mp hc with h | h
  · exact hx c h
  · exact hy c h
theorem listText_le (ts : List Str) : (listText ts).length ≤ piled ts + 2 := by
  unfold listText
  rw [Str.length_append]
  have e1 : ("]" : Str).length = 1 := by decide +kernel
  have e2 : ("[" : Str).length = 1 := by decide +kernel
  cases ts with
  | nil =>
    show ("[" : Str).length + _ ≤ _
    omega
  | cons t r =>
    show (textFrom 1 (("[" : Str) ++ (if 0 > 0 then ", " else "" : String) ++ t) r).length + _ ≤ _
    rw [textFrom_length_pos r 1 _ (by decide), Str.length_append, Str.length_append, piled_cons]
    have e3 : (Str.ofString (if 0 > 0 then ", " else "" : String)).length = 0 := by decide +kernel
    have e4 : ((if 0 > 0 then ", " else "" : String) : Str).length = 0 := e3
    omega
theorem rep_le {x : Str} {n : Nat} (h : Okc x) (hn : x.length ≤ n) : (reprText x).length ≤ 10 * n + 2 := by
  have := StrLaws.reprText_len x h
  omega
/-! ### either of two rules -/
theorem op_or {X : Cx} {f : Value → Value → Sem Value} {r1 r2 : R2} (h1 : OpR X f r1) (h2 : OpR X f r2) : OpR X f (fun x y H Q => r1 x y H Q ∨ r2 x y H Q) := by
  intro pins s σ H x y v u Q I rx ry h
  rcases h with h | h
  · exact h1 pins s σ H x y v u Q I rx ry h
  · exact h2 pins s σ H x y v u Q I rx ry h
theorem op_eqL {X : Cx} (hu : X.A.units + 64 < cLine) : OpR X (compareOp .Eq) (fun x y H Q => rEqD X.K x y H Q ∨ rEqN X.K x y H Q) := op_or (op_eqD hu) (op_eqN (by omega))
theorem raw0 {P : Program} {w : World} {K : PySem.W.Frag} {mg : Str → Option Value} {base : Heap} {CX : CXT} {k : Nat} {f : Addr} {fd : FuncData} {ps : List Str} {sp : Sp} (F : FnOk P w K mg base CX k f fd ps sp) (b : Binds K fd ps []) : FnR P w K mg base CX k f sp := by
  refine (F.raw b .nil).imp fun vs H Q E h => ?_
  show sp (vs ++ []) H Q E
  rw [List.append_nil]
  exact h
/-! ### keywords of a def without defaults -/
section
variable {K : PySem.W.Frag} {x qual : Str} {params : Arguments} {body : List Stmt} {scope : Scope} {kws : List (Str × V)} {f : Addr} {fd : FuncData} {ps : List Str}
theorem kbN (F : FunD K x qual params body scope [] kws f fd) (n : Nat) (ks : List Str) (g : {α : Type} → List α → List α → List α)
    (hrel : ∀ {vs zs : List V} {us ws : List Value}, Vals vs us → Vals zs ws → Vals (g vs zs) (g us ws))
    (h : ∀ (kV doc pm : Value) (an : Option Addr) (cdv ct : Value) (us ws : List Value), us.length = n → ws.length = ks.length → bindArgs (PySem.W.fnOf x qual params body scope .none kV doc pm an cdv ct) ⟨us, ks.zip ws⟩ = pure (ps.zip (g us ws))) :
    KBn K fd ps n ks (fun us ws => g us ws) (fun vs zs => g vs zs) := by
  obtain ⟨oc, od, dV, kV, doc, pm, an, cdv, ct, osl, e1, lk, hcd, hD, hK⟩ := F.ex
  subst e1
  rcases hD with ⟨_, e2⟩ | ⟨e2, _⟩
  · subst e2
    exact ⟨fun s us ws _ l1 l2 => .of_eq (h kV doc pm an cdv ct us ws l1 l2), fun r1 r2 => hrel r1 r2⟩
  · exact absurd rfl e2
end
end Z

namespace Z
open PySem PySem.Spec PyProof.Rows L2
/-! ### the rules that look into the module, told which it is: a comprehension's block has the def's -/
section
variable {X : Cx} {K : PySem.W.Frag}
theorem lenK (hK : X.K = K) : CallR X (.builtin "len") (fun xs H Q => ∃ x n, xs = [x] ∧ LenV K x H n ∧ Q (.int n) H) := by
  subst hK
  exact call_len
theorem ixlK (hK : X.K = K) : IxR X (rIxL K) := by
  subst hK
  exact ix_list
theorem ixtK (hK : X.K = K) : IxR X (rIxT K) := by
  subst hK
  exact ix_tup
theorem eqDK (hK : X.K = K) (hu : X.A.units + 64 < cLine) : OpR X (compareOp .Eq) (rEqD K) := by
  subst hK
  exact op_eqD hu
theorem neDK (hK : X.K = K) (hu : X.A.units + 64 < cLine) : OpR X (compareOp .NotEq) (rNeD K) := by
  subst hK
  exact op_neD hu
theorem eqLK (hK : X.K = K) (hu : X.A.units + 64 < cLine) : OpR X (compareOp .Eq) (fun x y H Q => rEqD K x y H Q ∨ rEqN K x y H Q) := by
  subst hK
  exact op_eqL hu
theorem isiK (hK : X.K = K) : CallR X (.builtin "isinstance") (rIsi K) := by
  subst hK
  exact call_isi
theorem allK (hK : X.K = K) (hc : X.calm = true) : CallR X (.builtin "all") (rAll K) := by
  subst hK
  exact cr_all hc
theorem anyK (hK : X.K = K) (hc : X.calm = true) : CallR X (.builtin "any") (rAny K) := by
  subst hK
  exact cr_any hc
theorem sumK (hK : X.K = K) (hc : X.calm = true) : CallR X (.builtin "sum") (rSum K) := by
  subst hK
  exact cr_sum hc
theorem reprK (hK : X.K = K) (hg : X.A.guards = some []) (hu : X.A.units + 64 < cLine) : CallR X (.builtin "repr") (rReprD K) := by
  subst hK
  exact call_reprD hg hu
theorem sllK (hK : X.K = K) : SlR X (rSlL K) := by
  subst hK
  exact sl_list
theorem sltK (hK : X.K = K) : SlR X (rSlT K) := by
  subst hK
  exact sl_tup
theorem listK (hK : X.K = K) : CallR X (.type "list") (fun xs H Q => ∃ p ys, xs = [.ref p] ∧ (SqL K H p ys ∨ SqT K H p ys) ∧ ∀ l, H l = none → Q (.ref l) (upd H l (.lst ys))) := by
  subst hK
  exact call_list_of
theorem tupleK (hK : X.K = K) : CallR X (.type "tuple") (fun xs H Q => ∃ p ys, xs = [.ref p] ∧ ((SqL K H p ys ∧ ∀ l, H l = none → Q (.ref l) (upd H l (.tup ys))) ∨ (SqT K H p ys ∧ Q (.ref p) H))) := by
  subst hK
  exact call_tuple_of
theorem piListK {tg l : Expr} {tl : TE} (hK : X.K = K) (hl : PE X l tl) : PI X tg l (iList K tl) := by
  subst hK
  exact pi_list hl
theorem piTupK {tg l : Expr} {tl : TE} (hK : X.K = K) (hl : PE X l tl) : PI X tg l (iTup K tl) := by
  subst hK
  exact pi_tup hl
theorem pgTupK {es : List Expr} {k : Nat} {pos : Pos} {t : TGs} {n : Nat} (hK : X.K = K) (hc : X.calm = true) (h : PGs X es t)
    (hn : (assignEach es X.env).length = n := by rfl) (hst : (assignEach es X.env).findIdx? (·.1) = none := by rfl) : PG X (.Tuple es k pos) (gTup K n t) := by
  subst hK
  exact pg_tup hc h hn hst
end
end Z

namespace Z
open PySem PySem.Spec PyProof.Rows L2
open PySem.W (Frag Looks findIn subIn isFn InstAt)
/-! ### == with an own object on the right: the built-in on the left declines -/
section
variable {prog : Program} {w : World} {A : Around} {E : Value → Shared → Prop} {K : Frag} {s : Shared} {x C f : Addr} {ox : Obj} {od : Option Obj}
theorem rc_right {op : CmpOp} {u : Value} {T idl : String} {Q : Value → Shared → Prop} (hu : A.units < cLine) (X : K.In s.heap) (I : InstAt s.heap x ox C od) (hT : s.TypeIs u T) (hone : oneThing? op u (.ref x) = none) (hs1 : Slot T (cmpInfo op).2.1 idl)
    (hd : wpAny (model prog w) A (call (.builtin idl) [u, .ref x]) (fun v s' => v = .notImplemented ∧ s' = s) E s) (hsub : subIn K (.ref C) (.type T) = some false)
    (hat : findIn K (.ref C) (cmpInfo op).2.2 = some (some (.ref f))) (hfn : isFn K (.ref f) = true)
    (h : wpAny (model prog w) A (call (.ref f) [.ref x, u]) (PySem.W.CmpBack Q) E s) : wpAny (model prog w) A (richCompare op u (.ref x)) Q E s := by
  have one : wpAny (model prog w) A (tryCompare (.ref x) (cmpInfo op).2.2 u) (fun r s' => ∃ v, r = some v ∧ Q v s') E s := by
    unfold tryCompare
    refine wpAny_bind (PySem.W.ifBound_K X I hat hfn (wpAny_mono h (fun v s' hv => ?_) fun _ _ e => e))
    cases v <;> first | exact hv.elim | exact wpAny_pure ⟨_, rfl, hv⟩
  have dec : wpAny (model prog w) A (tryCompare u (cmpInfo op).2.1 (.ref x)) (fun r s' => r = none ∧ s' = s) E s :=
    wpAny_tryCompare_declines hT hs1 (wpAny_mono hd (fun v s' z => ⟨z.1, rfl, z.2⟩) fun _ _ z => z)
  have ne : (Value.type T != Value.ref C) = true := by
    cases e : (Value.type T != Value.ref C) with
    | true => rfl
    | false =>
      have z := bne_eq_false_iff_eq.mp e
      exact nomatch z
  unfold richCompare
  simp only [hone]
  refine wpAny_holding (wpAny_bind (wpAny_cRoomFor hu ?_))
  refine wpAny_bind (wpAny_typeOf hT (wpAny_bind (I.type.here ?_)))
  simp only [ne, if_true]
  refine wpAny_bind ((PySem.W.looks_subIn X hsub).here ?_)
  simp only [Bool.false_eq_true, if_false]
  refine wpAny_bind (wpAny_mono dec (fun r s' z => ?_) fun _ _ z => z)
  obtain ⟨e1, e2⟩ := z
  subst e1
  subst e2
  simp only [Bool.not_false, if_true]
  refine wpAny_bind (wpAny_mono one (fun r s' z => ?_) fun _ _ z => z)
  obtain ⟨v, e1, q⟩ := z
  subst e1
  exact wpAny_pure q
theorem dec_int {i : Int} {t : Tok} (I : InstAt s.heap x ox C od) (hpl : ox.data = .plain) : wpAny (model prog w) A (call (.builtin "int.__eq__") [.int i t, .ref x]) (fun v s' => v = .notImplemented ∧ s' = s) E s :=
  wpAny_call_entry PySem.F.slot_int_eq (typeIs_int s i t) (PySem.F.entry_int_eq) (int_declines I.at_ hpl ⟨_, rfl, rfl, rfl⟩) (PySem.F.args_int_eq_2 _ _)
theorem dec_bool {b : Bool} (I : InstAt s.heap x ox C od) (hpl : ox.data = .plain)   : wpAny (model prog w) A (call (.builtin "int.__eq__") [.bool b, .ref x]) (fun v s' => v = .notImplemented ∧ s' = s) E s := by
  refine wpAny_call_entry PySem.F.slot_bool_eq (PySem.typeIs_bool s b) PySem.F.entry_int_eq ?_ (PySem.F.args_int_eq_2 _ _)
  show wpAny _ _ (do
    let some y ← asInt? (.ref x) | rule "int.binary.not-an-int"; ret .notImplemented
    if false then _ else _) _ _ _
  refine wpAny_bind ?_
  unfold asInt?
  refine wpAny_bind (wpAny_load I.at_ ?_)
  simp only [hpl]
  refine wpAny_pure ?_
  exact wpAny_bind (wpAny_rule (wpAny_pure ⟨_, rfl, rfl, rfl⟩))
theorem dec_str {y : Str} {t : Tok} (I : InstAt s.heap x ox C od) (hpl : ox.data = .plain) : wpAny (model prog w) A (call (.builtin "str.__eq__") [.str y t, .ref x]) (fun v s' => v = .notImplemented ∧ s' = s) E s := by
  refine wpAny_call_entry PySem.F.slot_str_eq (typeIs_str s y t) PySem.F.entry_str_eq ?_ (PySem.F.args_str_eq_2 _ _)
  show wpAny _ _ (do
    match ← asStr? (.ref x) with
    | some o => ret (.bool (y.cps.toList == o.cps.toList))
    | none => rule s!"str.{"__eq__"}.not-a-str"; ret .notImplemented) _ _ _
  refine wpAny_bind ?_
  unfold asStr?
  refine wpAny_bind (wpAny_load I.at_ ?_)
  simp only [hpl]
  refine wpAny_pure ?_
  exact wpAny_bind (wpAny_rule (wpAny_pure ⟨_, rfl, rfl, rfl⟩))
theorem isi_looks {M : Model} {T : String} (X : K.In s.heap) (I : InstAt s.heap x ox C od) (hsub : subIn K (.ref C) (.type T) = some false) : Looks M s.heap (isInstance (.ref x) (.type T)) false := by
  show Looks M s.heap (typeOf (.ref x) >>= fun t => isSubtype t (.type T)) false
  exact I.type.andThen (PySem.W.looks_subIn X hsub)
theorem dec_list {a : Addr} (X : K.In s.heap) (I : InstAt s.heap x ox C od) (hT : s.TypeIs (.ref a) "list") (hsub : subIn K (.ref C) (.type "list") = some false) : wpAny (model prog w) A (call (.builtin "list.__eq__") [.ref a, .ref x]) (fun v s' => v = .notImplemented ∧ s' = s) E s := by
  refine wpAny_call_entry PySem.F.slot_list_eq hT PySem.F.entry_list_eq ?_ (PySem.F.args_list_eq_2 _ _)
  unfold Builtin.«list.__eq__»
  refine wpAny_bind (m := slotArgs "__eq__" 1 _) (wpAny_pure ?_)
  refine wpAny_bind (m := isInstance (.ref x) (.type "list")) ((isi_looks X I hsub).here ?_)
  exact wpAny_pure ⟨_, rfl, rfl, rfl⟩
theorem dec_tuple {a : Addr} (X : K.In s.heap) (I : InstAt s.heap x ox C od) (hT : s.TypeIs (.ref a) "tuple") (hsub : subIn K (.ref C) (.type "tuple") = some false) : wpAny (model prog w) A (call (.builtin "tuple.__eq__") [.ref a, .ref x]) (fun v s' => v = .notImplemented ∧ s' = s) E s := by
  refine wpAny_call_entry PySem.F.slot_tuple_eq hT PySem.F.entry_tuple_eq ?_ (PySem.F.args_tuple_eq_2 _ _)
  unfold Builtin.«tuple.__eq__»
  refine wpAny_bind (m := slotArgs "__eq__" 1 _) (wpAny_pure ?_)
  refine wpAny_bind (m := isInstance (.ref x) (.type "tuple")) ((isi_looks X I hsub).here ?_)
  exact wpAny_pure ⟨_, rfl, rfl, rfl⟩
theorem dec_dict {a : Addr} (X : K.In s.heap) (I : InstAt s.heap x ox C od) (hT : s.TypeIs (.ref a) "dict") (hsub : subIn K (.ref C) (.type "dict") = some false) : wpAny (model prog w) A (call (.builtin "dict.__eq__") [.ref a, .ref x]) (fun v s' => v = .notImplemented ∧ s' = s) E s := by
  refine wpAny_call_entry PySem.F.slot_dict_eq hT PySem.F.entry_dict_eq ?_ (PySem.F.args_dict_eq_2 _ _)
  unfold Builtin.«dict.__eq__»
  refine wpAny_bind (m := Builtin.Dict.dictSlotArgs "__eq__" _) (wpAny_pure ?_)
  refine wpAny_bind (m := isInstance (.ref x) (.type "dict")) ((isi_looks X I hsub).here ?_)
  exact wpAny_bind (wpAny_rule (wpAny_pure ⟨_, rfl, rfl, rfl⟩))
theorem dec_none : wpAny (model prog w) A (call (.builtin "NoneType.__eq__") [.none, .ref x]) (fun v s' => v = .notImplemented ∧ s' = s) E s := by
  refine wpAny_call_entry PySem.F.slot_NoneType_eq (typeIs_none s) PySem.F.entry_NoneType_eq ?_ (PySem.F.args_NoneType_eq_2 _ _)
  unfold Builtin.«NoneType.__eq__»
  refine wpAny_bind (m := slotArgs "__eq__" 1 _) (wpAny_pure ?_)
  exact wpAny_pure ⟨_, rfl, rfl, rfl⟩
/-- != of an own object whose class has == alone -/
theorem ifBound_B {M : Model} {name : Str} {id : String} {args : List Value} {Q : Option Value → Shared → Prop} (X : K.In s.heap) (I : InstAt s.heap x ox C od) (hs : findIn K (.ref C) name = some (some (.builtin id)))
    (hb : ∀ self, bindSpecial (.builtin id) self = pure (.builtin id, [self])) (h : wpAny M A (call (.builtin id) (.ref x :: args)) (fun v => Q (some v)) E s) : wpAny M A (callSpecialIfBound? (.ref x) name args) Q E s := by
  simp only [callSpecialIfBound?, bindSpecialIfBound?]
  refine wpAny_holding (wpAny_bind (wpAny_bind (wpAny_bind (I.type.here ((PySem.W.looks_findIn X hs).here ?_)))))
  refine wpAny_bind (wpAny_askSetting (wpAny_ite ?_))
  have fin : wpAny M A (call (.builtin id) ([.ref x] ++ args) >>= fun v => pure (some v)) Q E s := wpAny_bind (wpAny_mono h (fun v s' h' => wpAny_pure h') fun _ _ h' => h')
  split
  · exact wpAny_bind ((Looks.of_pure (hb _)).here (wpAny_pure (by exact fin)))
  · exact wpAny_tryCatch (wpAny_bind ((Looks.of_pure (hb _)).here (wpAny_pure (by exact fin))))
theorem ne_own {u : Value} {Q : Value → Shared → Prop} (hu : A.units + 1 < cLine) (X : K.In s.heap) (I : InstAt s.heap x ox C od) (hm : PySem.W.mroIn K C (.type "object") = some true) (hat : findIn K (.ref C) "__eq__" = some (some (.ref f))) (hfn : isFn K (.ref f) = true)
    (h : wpAny (model prog w) A.in1 (call (.ref f) [.ref x, u]) (fun v s' => ∃ b, v = .bool b ∧ Q (.bool (!b)) s') E s) : wpAny (model prog w) A (call (.builtin "object.__ne__") [.ref x, u]) Q E s := by
  refine wpAny_call (codeAny_call_builtin PySem.F.slot_object_ne.plain PySem.F.cmpEntry_ne (PySem.W.check_slot (i := "object.__ne__") (owner := "object") (n := "__ne__") (by decide +kernel) (by decide +kernel) (I.type.andThen (PySem.W.looks_mroIn X hm)) (PySem.F.cmpArgs_ne _ _) ?_))
  unfold Builtin.«object.__ne__»
  refine wpAny_bind (m := slotArgs "__ne__" 1 _) (wpAny_pure ?_)
  refine wpAny_bind (m := cRoomFor _ _) (wpAny_cRoomFor hu ?_)
  refine wpAny_bind (m := callSpecialIfBound? (.ref x) (Str.ofString "__eq__") _) (PySem.W.ifBound_K X I hat hfn (wpAny_mono h (fun r s' hq => ?_) fun _ _ y => y))
  obtain ⟨b, e, q⟩ := hq
  subst e
  exact wpAny_bind (wpAny_truthy_bool (wpAny_pure q))
/-- the left one's answer is the answer, where the right one's class is none of its heirs -/
theorem cmp_one {op : CmpOp} {u tu : Value} {Q : Value → Shared → Prop} (hu : A.units < cLine) (X : K.In s.heap) (I : InstAt s.heap x ox C od) (hb : Looks (model prog w) s.heap (typeOf u) tu) (hn : PySem.W.notFirst K C tu = true)
    (one : wpAny (model prog w) A (tryCompare (.ref x) (cmpInfo op).2.1 u) (fun r s' => ∃ v, r = some v ∧ Q v s') E s) : wpAny (model prog w) A (richCompare op (.ref x) u) Q E s := by
  have last : ∀ {k : Option Value → Sem Value}, (∀ v, k (some v) = pure v) → wpAny (model prog w) A (tryCompare (.ref x) (cmpInfo op).2.1 u >>= k) Q E s := fun {k} hk => by
    refine wpAny_bind (wpAny_mono one (fun r s' z => ?_) fun _ _ z => z)
    obtain ⟨v, e, q⟩ := z
    subst e
    rw [hk]
    exact wpAny_pure q
  unfold richCompare
  simp only [oneThing_ref]
  refine wpAny_holding (wpAny_bind (wpAny_cRoomFor hu ?_))
  refine wpAny_bind (I.type.here (wpAny_bind (hb.here ?_)))
  by_cases q : (Value.ref C != tu) = true
  · have e : subIn K tu (.ref C) = some false := by
      unfold PySem.W.notFirst at hn
      rcases Bool.or_eq_true_iff.mp hn with e | e
      · have e2 := beq_iff_eq.mp e
        rw [e2] at q
        simp at q
      · exact beq_iff_eq.mp e
    simp only [q, if_true]
    refine wpAny_bind ((PySem.W.looks_subIn X e).here ?_)
    simp only [Bool.false_eq_true, if_false]
    exact last fun _ => rfl
  · simp only [q, if_false]
    refine wpAny_bind (wpAny_pure ?_)
    simp only [Bool.false_eq_true, if_false]
    exact last fun _ => rfl
end
/-! ### the rules over the layer -/
def blts : List String := ["int", "bool", "str", "list", "tuple", "dict", "NoneType"]
/-- the class at C has == at f, and takes != from it -/
structure EqC (K : Frag) (C f : Addr) : Prop where
  at_ : findIn K (.ref C) "__eq__" = some (some (.ref f))
  fn : isFn K (.ref f) = true
  ne : findIn K (.ref C) "__ne__" = some (some (.builtin "object.__ne__"))
  mo : PySem.W.mroIn K C (.type "object") = some true
  bl : ∀ T ∈ blts, subIn K (.ref C) (.type T) = some false
def eqcB (K : Frag) (C : Addr) : Bool := decide (findIn K (.ref C) "__ne__" = some (some (.builtin "object.__ne__"))) && blts.all fun T => decide (subIn K (.ref C) (.type T) = some false)
theorem eqc_ok {K : Frag} {C f : Addr} (h1 : findIn K (.ref C) "__eq__" = some (some (.ref f))) (h2 : isFn K (.ref f) = true) (h3 : PySem.W.mroIn K C (.type "object") = some true) (h : eqcB K C = true) : EqC K C f := by
  obtain ⟨a, b⟩ := He.ba h
  exact ⟨h1, h2, of_decide_eq_true a, h3, fun T hT => of_decide_eq_true (List.all_eq_true.mp b T hT)⟩
theorem mros : (PySem.fastBuiltinMro "int" = some [.type "int", .type "object"] ∧ PySem.fastBuiltinMro "bool" = some [.type "bool", .type "int", .type "object"] ∧ PySem.fastBuiltinMro "str" = some [.type "str", .type "object"]) ∧
    (PySem.fastBuiltinMro "list" = some [.type "list", .type "object"] ∧ PySem.fastBuiltinMro "tuple" = some [.type "tuple", .type "object"] ∧ PySem.fastBuiltinMro "dict" = some [.type "dict", .type "object"] ∧ PySem.fastBuiltinMro "NoneType" = some [.type "NoneType", .type "object"]) :=
  ⟨⟨by kernel_rfl, by kernel_rfl, by kernel_rfl⟩, by kernel_rfl, by kernel_rfl, by kernel_rfl, by kernel_rfl⟩
theorem nf_blt {K : Frag} {C : Addr} {T : String} (h : T ∈ blts) : PySem.W.notFirst K C (.type T) = true := by
  have e : subIn K (.type T) (.ref C) = some false := by
    show (PySem.fastBuiltinMro T).map _ = _
    obtain ⟨⟨m1, m2, m3⟩, m4, m5, m6, m7⟩ := mros
    simp only [blts, List.mem_cons, List.mem_nil_iff, or_false] at h
    rcases h with h | h | h | h | h | h | h <;> subst h
    · rw [m1]; rfl
    · rw [m2]; rfl
    · rw [m3]; rfl
    · rw [m4]; rfl
    · rw [m5]; rfl
    · rw [m6]; rfl
    · rw [m7]; rfl
  unfold PySem.W.notFirst
  rw [e]
  simp
section
variable {X : Cx} {k : Nat} {f C : Addr} {sp : Sp} {E : XK} {CX : CXT} {K : Frag}
def TyL (K : Frag) (H : Hp) (x : V) (T : String) : Prop := TyOf K H x (.type T) ∨ (T = "dict" ∧ ∃ a o kvs, x = .ref a ∧ H a = some (.frz o (.dK kvs)))
/-- x == y by the == of the class at C -/
def rEqO (K : Frag) (C : Addr) (sp : Sp) (E : XK) : R2 := fun x y H Q => (∃ a dx fs t, x = .ref a ∧ H a = some (.ins C dx fs) ∧ TyX K H y t ∧ PySem.W.notFirst K C t = true ∧ sp [x, y] H Q E) ∨
  ∃ b dy gs T, y = .ref b ∧ H b = some (.ins C dy gs) ∧ TyL K H x T ∧ T ∈ blts ∧ sp [y, x] H Q E
theorem dec_any {pins : List (Addr × Obj)} {σ : L2.St} {H : Hp} {s : Shared} {x : V} {u : Value} {T : String} {b : Addr} {ob : Obj} {od : Option Obj} {A : Around} {Ex : Value → Shared → Prop} (I : Inv X pins σ H s) (rx : RelV x u) (ty : TyOf X.K H x (.type T)) (hT : T ∈ blts) (J : InstAt s.heap b ob C od) (hpl : ob.data = .plain)
    (hsub : subIn X.K (.ref C) (.type T) = some false) : s.TypeIs u T ∧ oneThing? .Eq u (.ref b) = none ∧ ∃ idl, Slot T (cmpInfo .Eq).2.1 idl ∧ wpAny (model X.prog X.w) A (call (.builtin idl) [u, .ref b]) (fun v s' => v = .notImplemented ∧ s' = s) Ex s := by
  cases ty with
  | non =>
    cases (show u = Value.none from rx)
    exact ⟨typeIs_none s, rfl, _, PySem.F.slot_NoneType_eq, dec_none⟩
  | bl y =>
    cases (show u = Value.bool y from rx)
    exact ⟨PySem.typeIs_bool s y, rfl, _, PySem.F.slot_bool_eq, dec_bool J hpl⟩
  | int i =>
    obtain ⟨t, e⟩ := (show ∃ t, u = Value.int i t from rx)
    subst e
    exact ⟨typeIs_int s i t, rfl, _, PySem.F.slot_int_eq, dec_int J hpl⟩
  | str y =>
    obtain ⟨t, e⟩ := (show ∃ t, u = Value.str y t from rx)
    subst e
    exact ⟨typeIs_str s y t, rfl, _, PySem.F.slot_str_eq, dec_str J hpl⟩
  | flt y => simp [blts] at hT
  | @lst a xs e =>
    cases (show u = Value.ref a from rx)
    have z := I.hok a _ e
    obtain ⟨_, _, n, _, h1⟩ := z
    exact ⟨⟨_, h1, rfl⟩, oneThing_ref _ _ _, _, PySem.F.slot_list_eq, dec_list I.kIn J ⟨_, h1, rfl⟩ hsub⟩
  | @frz a o xs e =>
    cases (show u = Value.ref a from rx)
    have z := I.hok a _ e
    obtain ⟨_, _, _, n, _, h1⟩ := z
    exact ⟨⟨_, h1, rfl⟩, oneThing_ref _ _ _, _, PySem.F.slot_list_eq, dec_list I.kIn J ⟨_, h1, rfl⟩ hsub⟩
  | @tup a xs e =>
    cases (show u = Value.ref a from rx)
    have z := I.hok a _ e
    obtain ⟨_, _, _, o, h1, h2, _⟩ := z
    exact ⟨⟨_, h1, h2⟩, oneThing_ref _ _ _, _, PySem.F.slot_tuple_eq, dec_tuple I.kIn J ⟨_, h1, h2⟩ hsub⟩
  | @dK a kvs e =>
    cases (show u = Value.ref a from rx)
    have z := I.hok a _ e
    obtain ⟨_, _, vs, _, o, es, ep, h1, h2, _⟩ := z
    exact ⟨⟨_, h1, h2.1⟩, oneThing_ref _ _ _, _, PySem.F.slot_dict_eq, dec_dict I.kIn J ⟨_, h1, h2.1⟩ hsub⟩
  | @dT a kvs e =>
    cases (show u = Value.ref a from rx)
    have z := I.hok a _ e
    obtain ⟨_, _, vs, _, o, es, ep, h1, h2, _⟩ := z
    exact ⟨⟨_, h1, h2.1⟩, oneThing_ref _ _ _, _, PySem.F.slot_dict_eq, dec_dict I.kIn J ⟨_, h1, h2.1⟩ hsub⟩
theorem dec_anyL {pins : List (Addr × Obj)} {σ : L2.St} {H : Hp} {s : Shared} {x : V} {u : Value} {T : String} {b : Addr} {ob : Obj} {od : Option Obj} {A : Around} {Ex : Value → Shared → Prop} (I : Inv X pins σ H s) (rx : RelV x u) (ty : TyL X.K H x T) (hT : T ∈ blts) (J : InstAt s.heap b ob C od) (hpl : ob.data = .plain)
    (hsub : subIn X.K (.ref C) (.type T) = some false) : s.TypeIs u T ∧ oneThing? .Eq u (.ref b) = none ∧ ∃ idl, Slot T (cmpInfo .Eq).2.1 idl ∧ wpAny (model X.prog X.w) A (call (.builtin idl) [u, .ref b]) (fun v s' => v = .notImplemented ∧ s' = s) Ex s := by
  rcases ty with ty | ⟨rfl, a, o, kvs, rfl, e⟩
  · exact dec_any I rx ty hT J hpl hsub
  · cases (show u = Value.ref a from rx)
    have z := I.hok a _ e
    obtain ⟨_, _, _, vs, _, o, es, ep, h1, h2, _⟩ := z
    exact ⟨⟨_, h1, h2.1⟩, oneThing_ref _ _ _, _, PySem.F.slot_dict_eq, dec_dict I.kIn J ⟨_, h1, h2.1⟩ hsub⟩
theorem op_eqO (hK : X.K = K) (c : EqC K C f) (F : FnR X.prog X.w X.K X.mg X.base CX k f sp) (hr : Room k X.A) (hx : Passes CX X E) : OpR X (compareOp .Eq) (rEqO K C sp E) := by
  subst hK
  intro pins s σ H x y v u Q I rx ry h
  show wpAny (model X.prog X.w) X.A (richCompare .Eq v u) (EP X pins σ Q) X.xe s
  obtain ⟨m, hF⟩ := I.fr
  rcases h with ⟨a, dx, fs, t, rfl, ha, ty, hn, q⟩ | ⟨b, dy, gs, T, rfl, hb, ty, hT, q⟩
  · cases (show v = Value.ref a from rx)
    obtain ⟨od, J⟩ := inst_at I ha
    refine PySem.W.cmp_K (op := .Eq) (tb := t) hr.units0 hF I.ok.mod.kin J (looks_ty I ry ty) hn c.at_ c.fn ?_
    refine wpAny_mono (wpAny_call (run_fnR (us := [.ref a, u]) (vs := [.ref a, y]) F hr hx I (.cons rfl (.cons ry .nil)) q)) (fun w s' z => ?_) fun _ _ z => z
    obtain ⟨z', H', I', rz, qz⟩ := z
    exact SlX.cmpback rz ⟨z', H', I', rz, qz⟩
  · cases (show u = Value.ref b from ry)
    obtain ⟨od, J⟩ := inst_at I hb
    obtain ⟨h1, h2, idl, h3, h4⟩ := dec_anyL (A := X.A) (Ex := X.xe) I rx ty hT J rfl (c.bl T hT)
    refine rc_right hr.units0 I.kIn J h1 h2 h3 h4 (c.bl T hT) c.at_ c.fn ?_
    refine wpAny_mono (wpAny_call (run_fnR (us := [.ref b, v]) (vs := [.ref b, x]) F hr hx I (.cons rfl (.cons rx .nil)) q)) (fun w s' z => ?_) fun _ _ z => z
    obtain ⟨z', H', I', rz, qz⟩ := z
    exact SlX.cmpback rz ⟨z', H', I', rz, qz⟩
/-- x != y -/
def rNeO (K : Frag) (C : Addr) (sp : Sp) (E : XK) : R2 := fun x y H Q => ∃ a dx fs t, x = .ref a ∧ H a = some (.ins C dx fs) ∧ TyX K H y t ∧ PySem.W.notFirst K C t = true ∧ sp [x, y] H (fun z H' => ∃ b, z = .bl b ∧ Q (.bl (!b)) H') E
theorem op_neO (hK : X.K = K) (c : EqC K C f) (F : FnR X.prog X.w X.K X.mg X.base CX k f sp) (hr : Room (k + 1) X.A) (hx : Passes CX X E) : OpR X (compareOp .NotEq) (rNeO K C sp E) := by
  subst hK
  intro pins s σ H x y v u Q I rx ry h
  show wpAny (model X.prog X.w) X.A (richCompare .NotEq v u) (EP X pins σ Q) X.xe s
  obtain ⟨a, dx, fs, t, rfl, ha, ty, hn, q⟩ := h
  cases (show v = Value.ref a from rx)
  obtain ⟨od, J⟩ := inst_at I ha
  have hr1 := room1 hr
  refine cmp_one hr.units0 I.kIn J (looks_ty I ry ty) hn ?_
  unfold tryCompare
  refine wpAny_bind (ifBound_B I.kIn J c.ne PySem.F.slot_object_ne.bind (ne_own hr1.units0 I.kIn J c.mo c.at_ c.fn ?_))
  refine wpAny_mono (run_in (us := [.ref a, u]) (ws := [.ref a, y]) F hr1 I.env0.in1 hx I (.cons rfl (.cons ry .nil)) q) (fun w s' z => ?_) fun _ _ z => z
  obtain ⟨z', H', I', rz, b, ez, qz⟩ := z
  subst ez
  cases (show w = Value.bool b from rz)
  exact ⟨b, rfl, wpAny_pure ⟨_, rfl, .bl (!b), H', I', rfl, qz⟩⟩
end
end Z

namespace Z
open PySem PySem.SeqAt
open AutoSeq1 (wpAny_loadPart')
open MeetsSeq MeetsSeq2 MeetsSeq3 SeqRoads2
open GQ (FinOf)
/-! ### lists walked with an own == : what I says holds at every turn -/
def anyF (e : Nat → Bool) : Nat → Nat → Bool
  | 0, _ => false
  | k + 1, i => e i || anyF e k (i + 1)
def allF (e : Nat → Bool) : Nat → Nat → Bool
  | 0, _ => true
  | k + 1, i => e i && allF e k (i + 1)
section
variable {prog : Program} {w : World} {A : Around} {R : Result → Shared → Prop}
def OneI (prog : Program) (w : World) (A : Around) (E : Value → Shared → Prop) (l : Addr) (x : Value) (N : Nat) (e : Nat → Bool) (I : Shared → Prop) : Prop :=
  ∀ s, I s → ∃ (its : Array Value) (n : Nat), s.heap.get? l = some { cls := .type "list", data := .seq its n } ∧ its.size = N ∧ ∀ i (h : i < its.size), wpAny (model prog w) A.in1 (eqBool its[i] x) (fun r s' => r = e i ∧ I s') E s
theorem in_loop {l : Addr} {x : Value} {N : Nat} {e : Nat → Bool} {I : Shared → Prop} (hl : OneI prog w A (fun z s' => R (.error z) s') l x N e I) (k : Nat) :
    ∀ i : Nat, N - i = k → (∀ s, I s → R (.ok (.ret (.bool (anyF e k i)))) s) → ∀ s, I s →
      wpAny (model prog w) A.in1 (Builtin.«list.__contains__.loop» ⟨[.ref l, x, rawInt i], []⟩) (FinOf prog w A R) (fun z s' => R (.error z) s') s := by
  induction k with
  | zero =>
    intro i hk fin s h
    obtain ⟨its, n, h1, h2, _⟩ := hl _ h
    have hR := fin s h
    obtain ⟨hp, g, d, tk, os⟩ := s
    wp_walk using wpAny_loadPart' h1
    have no : its[((i : Nat) : Int).toNat]? = none := by simp; omega
    rw [no]
    wp_walk
    exact hR
  | succ k ih =>
    intro i hk fin s h
    obtain ⟨its, n, h1, h2, turn⟩ := hl _ h
    have hlt : i < its.size := by omega
    have ht := turn i hlt
    obtain ⟨hp, g, d, tk, os⟩ := s
    wp_walk using wpAny_loadPart' h1
    have yes : its[((i : Nat) : Int).toNat]? = some its[i] := by simp [hlt]
    rw [yes]
    refine wpAny_bind (wpAny_mono ht (fun r s2 z => ?_) fun _ _ z => z)
    obtain ⟨hr, i2⟩ := z
    subst hr
    have f2 : ∀ s, I s → R (.ok (.ret (.bool (e i || anyF e k (i + 1))))) s := fin
    cases hb : e i with
    | true =>
      rw [hb] at f2
      have hR := f2 s2 i2
      obtain ⟨hp2, g2, d2, tk2, os2⟩ := s2
      wp_walk
      exact hR
    | false =>
      rw [hb] at f2
      have up : ((i : Int) + 1) = ((i + 1 : Nat) : Int) := by omega
      have rec_ := ih (i + 1) (by omega) (by simpa using f2) s2 i2
      obtain ⟨hp2, g2, d2, tk2, os2⟩ := s2
      wp_walk
      rw [up]
      exact ⟨plainId_quiet plain_contains_loop _, codeAny_builtin entry_contains_loop (by
        rw [Around.under_plainId plain_contains_loop _]
        exact rec_)⟩
theorem in_body {l : Addr} {x : Value} {N : Nat} {e : Nat → Bool} {I : Shared → Prop} (hl : OneI prog w A (fun z s' => R (.error z) s') l x N e I) (fin : ∀ s, I s → R (.ok (.ret (.bool (anyF e N 0)))) s) {s : Shared} (h : I s) :
    wpAny (model prog w) A.in1 (Builtin.«list.__contains__» ⟨[.ref l, x], []⟩) (FinOf prog w A R) (fun z s' => R (.error z) s') s := by
  have rec_ := in_loop hl N 0 rfl fin s h
  obtain ⟨hp, g, d, tk, os⟩ := s
  wp_walk
  exact ⟨plainId_quiet plain_contains_loop _, codeAny_builtin entry_contains_loop (by
    rw [Around.under_plainId plain_contains_loop _]
    exact rec_)⟩
theorem at_loop {l : Addr} {x : Value} {upto : Int} {N j : Nat} {e : Nat → Bool} {I : Shared → Prop} (hI : ∀ s t, I s → I { s with toks := t }) (hl : OneI prog w A (fun z s' => R (.error z) s') l x N e I) (hj : j < N) (hz : (j : Int) < upto) (hit : e j = true) (fin : ∀ s, I s → R (.ok (.ret (.int j s.toks))) { s with toks := s.toks + 1 }) (k : Nat) :
    ∀ i : Nat, j - i = k → i ≤ j → (∀ m, i ≤ m → m < j → e m = false) → ∀ s, I s →
      wpAny (model prog w) A.in1 (Builtin.«list.index.loop» ⟨[.ref l, x, rawInt i, rawInt upto], []⟩) (FinOf prog w A R) (fun z s' => R (.error z) s') s := by
  induction k with
  | zero =>
    intro i hk hij hno s h
    have e0 : i = j := by omega
    subst e0
    obtain ⟨its, n, h1, h2, turn⟩ := hl _ h
    have hlt : i < its.size := by omega
    have ht := turn i hlt
    obtain ⟨hp, g, d, tk, os⟩ := s
    wp_walk using wpAny_loadPart' h1
    have yes : (if (i : Int) < upto then its[((i : Nat) : Int).toNat]? else none) = some its[i] := by simp [hlt, show (i : Int) < upto by omega]
    rw [yes]
    refine wpAny_bind (wpAny_mono ht (fun r s2 z => ?_) fun _ _ z => z)
    obtain ⟨hr, i2⟩ := z
    subst hr
    have hR := fin s2 i2
    obtain ⟨hp2, g2, d2, tk2, os2⟩ := s2
    rw [hit]
    wp_walk
    exact hR
  | succ k ih =>
    intro i hk hij hno s h
    obtain ⟨its, n, h1, h2, turn⟩ := hl _ h
    have hlt : i < its.size := by omega
    have ht := turn i hlt
    obtain ⟨hp, g, d, tk, os⟩ := s
    wp_walk using wpAny_loadPart' h1
    have yes : (if (i : Int) < upto then its[((i : Nat) : Int).toNat]? else none) = some its[i] := by simp [hlt, show (i : Int) < upto by omega]
    rw [yes]
    refine wpAny_bind (wpAny_mono ht (fun r s2 z => ?_) fun _ _ z => z)
    obtain ⟨hr, i2⟩ := z
    subst hr
    have rec_ := ih (i + 1) (by omega) (by omega) (fun m m1 m2 => hno m (by omega) m2) s2 i2
    rw [hno i (Nat.le_refl _) (by omega)]
    have up : ((i : Int) + 1) = ((i + 1 : Nat) : Int) := by omega
    obtain ⟨hp2, g2, d2, tk2, os2⟩ := s2
    wp_walk
    rw [up]
    exact ⟨plainId_quiet plain_index_loop _, codeAny_builtin entry_index_loop (by
      rw [Around.under_plainId plain_index_loop _]
      exact rec_)⟩
theorem at_body {l : Addr} {x : Value} {N j : Nat} {e : Nat → Bool} {I : Shared → Prop} (hI : ∀ s t, I s → I { s with toks := t }) (hl : OneI prog w A (fun z s' => R (.error z) s') l x N e I) (hj : j < N) (hz : (j : Int) < 2 ^ 63 - 1) (hit : e j = true) (hno : ∀ m, m < j → e m = false)
    (fin : ∀ s, I s → R (.ok (.ret (.int j s.toks))) { s with toks := s.toks + 1 }) {s : Shared} (h : I s) : wpAny (model prog w) A.in1 (Builtin.«list.index» ⟨[.ref l, x], []⟩) (FinOf prog w A R) (fun z s' => R (.error z) s') s := by
  have rec_ := at_loop hI hl hj hz hit fin j 0 rfl (Nat.zero_le _) (fun m _ m2 => hno m m2) s h
  obtain ⟨its, n, h1, h2, _⟩ := hl _ h
  obtain ⟨hp, g, d, tk, os⟩ := s
  wp_walk using wpAny_loadPart' h1
  have a1 : ((fun i : Int => if i < 0 then max 0 (i + (its.size : Int)) else i) ((none : Option Int).getD 0)) = ((0 : Nat) : Int) := by simp
  have a2 : ((fun i : Int => if i < 0 then max 0 (i + (its.size : Int)) else i) ((none : Option Int).getD (2 ^ 63 - 1))) = 2 ^ 63 - 1 := by simp
  rw [a1, a2]
  exact ⟨plainId_quiet plain_index_loop _, codeAny_builtin entry_index_loop (by
    rw [Around.under_plainId plain_index_loop _]
    exact rec_)⟩
/-! two lists, item by item -/
def TwoI (prog : Program) (w : World) (A : Around) (E : Value → Shared → Prop) (l b : Addr) (N : Nat) (e : Nat → Bool) (I : Shared → Prop) : Prop :=
  ∀ s, I s → ∃ (its its2 : Array Value) (n n2 : Nat), s.heap.get? l = some { cls := .type "list", data := .seq its n } ∧ s.heap.get? b = some { cls := .type "list", data := .seq its2 n2 } ∧ its.size = N ∧ its2.size = N ∧
    ∀ i (h1 : i < its.size) (h2 : i < its2.size), wpAny (model prog w) A.in1 (eqBool its[i] its2[i]) (fun r s' => r = e i ∧ I s') E s
theorem two_loop {l b : Addr} {N : Nat} {e : Nat → Bool} {I : Shared → Prop} (hl : TwoI prog w A (fun z s' => R (.error z) s') l b N e I) (k : Nat) :
    ∀ i : Nat, N - i = k → i ≤ N → (∀ s, I s → R (.ok (.ret (.bool (allF e k i)))) s) → ∀ s, I s →
      wpAny (model prog w) A.in1 (Builtin.«list.__eq__.loop» ⟨[.ref l, .ref b, rawInt i, rawInt 2], []⟩) (FinOf prog w A R) (fun z s' => R (.error z) s') s := by
  induction k with
  | zero =>
    intro i hk hi fin s h
    obtain ⟨its, its2, n, n2, h1, h2, z1, z2, _⟩ := hl _ h
    have hR : R (.ok (.ret (.bool true))) s := fin s h
    obtain ⟨hp, g, d, tk, os⟩ := s
    wp_walk using wpAny_loadPart' h1, wpAny_loadPart' h2
    have no1 : its[((i : Nat) : Int).toNat]? = none := by simp; omega
    have no2 : its2[((i : Nat) : Int).toNat]? = none := by simp; omega
    rw [no1, no2]
    wp_walk using wpAny_loadPart' h1, wpAny_loadPart' h2
    show R (.ok (.ret (.bool (its.size == its2.size)))) _
    rw [z1, z2]
    simpa using hR
  | succ k ih =>
    intro i hk hi fin s h
    obtain ⟨its, its2, n, n2, h1, h2, z1, z2, turn⟩ := hl _ h
    have l1 : i < its.size := by omega
    have l2 : i < its2.size := by omega
    have ht := turn i l1 l2
    obtain ⟨hp, g, d, tk, os⟩ := s
    wp_walk using wpAny_loadPart' h1, wpAny_loadPart' h2
    have yes1 : its[((i : Nat) : Int).toNat]? = some its[i] := by simp [l1]
    have yes2 : its2[((i : Nat) : Int).toNat]? = some its2[i] := by simp [l2]
    have up : ((i : Int) + 1) = ((i + 1 : Nat) : Int) := by omega
    rw [yes1, yes2]
    refine wpAny_bind (wpAny_mono ht (fun r s2 z => ?_) fun _ _ z => z)
    obtain ⟨hr, i2⟩ := z
    subst hr
    have f2 : ∀ s, I s → R (.ok (.ret (.bool (e i && allF e k (i + 1))))) s := fin
    cases hb : e i with
    | true =>
      rw [hb] at f2
      have rec_ := ih (i + 1) (by omega) (by omega) (by simpa using f2) s2 i2
      obtain ⟨hp2, g2, d2, tk2, os2⟩ := s2
      wp_walk
      rw [up]
      exact ⟨plainId_quiet plain_eq_loop _, codeAny_builtin entry_eq_loop (by
        rw [Around.under_plainId plain_eq_loop _]
        exact rec_)⟩
    | false =>
      rw [hb] at f2
      have hR := f2 s2 i2
      obtain ⟨jts, jts2, m, m2, g1, g2, y1, y2, _⟩ := hl _ i2
      obtain ⟨hp2, gg2, d2, tk2, os2⟩ := s2
      wp_walk using wpAny_loadPart' g1, wpAny_loadPart' g2
      have yes1 : jts[((i : Nat) : Int).toNat]? = some jts[i] := by simp
      have yes2 : jts2[((i : Nat) : Int).toNat]? = some jts2[i] := by simp
      rw [yes1, yes2]
      wp_walk
      exact hR
theorem two_body {l b : Addr} {N : Nat} {e : Nat → Bool} {I : Shared → Prop} (hl : TwoI prog w A (fun z s' => R (.error z) s') l b N e I) (fin : ∀ s, I s → R (.ok (.ret (.bool (allF e N 0)))) s) {s : Shared} (h : I s) :
    wpAny (model prog w) A.in1 (Builtin.«list.__eq__» ⟨[.ref l, .ref b], []⟩) (FinOf prog w A R) (fun z s' => R (.error z) s') s := by
  have rec_ := two_loop hl N 0 rfl (Nat.zero_le _) fin s h
  obtain ⟨its, its2, n, n2, h1, h2, z1, z2, _⟩ := hl _ h
  obtain ⟨hp, g, d, tk, os⟩ := s
  have f3 := AutoSeq1.sub_list_list
  have alike : ¬ (its.size != its2.size) = true := by simp [z1, z2]
  wp_walk using wpAny_loadPart' h1, wpAny_loadPart' h2
  exact ⟨plainId_quiet plain_eq_loop _, codeAny_builtin entry_eq_loop (by
    rw [Around.under_plainId plain_eq_loop _]
    exact rec_)⟩
end
end Z

namespace Z
open PySem PySem.Spec PyProof.Rows L2
open PySem.W (Frag Looks findIn subIn isFn InstAt)
theorem un65 {k : Nat} {A : Around} (r : Room k A) : A.units + 65 < cLine := by
  have := r.un
  omega
/-! ### == of any answer, below a body -/
abbrev Eqb := V → V → Hp → Bool → Prop
def MonB (D : Eqb) : Prop := ∀ x y H H' b, Ext H H' → D x y H b → D x y H' b
def EqB (X : Cx) (n : Nat) (D : Eqb) : Prop := ∀ (A : Around) (pins : List (Addr × Obj)) (s : Shared) (σ : L2.St) (H : Hp) (x y : V) (u v : Value) (b : Bool), Sub X n A → Inv X pins σ H s → RelV x u → RelV y v → D x y H b →
  wpAny (model X.prog X.w) A (eqBool u v) (fun r s' => r = b ∧ ∃ H', Inv X pins σ H' s' ∧ Ext H H') X.xe s
def RcB (X : Cx) (n : Nat) (D : Eqb) : Prop := ∀ (A : Around) (pins : List (Addr × Obj)) (s : Shared) (σ : L2.St) (H : Hp) (x y : V) (u v : Value) (b : Bool), Sub X n A → Inv X pins σ H s → RelV x u → RelV y v → D x y H b →
  wpAny (model X.prog X.w) A (richCompare .Eq u v) (fun r s' => r = .bool b ∧ ∃ H', Inv X pins σ H' s' ∧ Ext H H') X.xe s
section
variable {X : Cx} {n k : Nat} {D : Eqb} {K : Frag} {C f : Addr} {sp : Sp} {E : XK} {CX : CXT}
theorem RcB.eqB (h : RcB X n D) (hr : ∀ x y H b, D x y H b → ∃ a c, x = .ref a ∧ y = .ref c ∧ (a = c → b = true)) : EqB X n D := by
  intro A pins s σ H x y u v b sb I rx ry d
  obtain ⟨a, c, e1, e2, e3⟩ := hr _ _ _ _ d
  subst e1
  subst e2
  cases (show u = Value.ref a from rx)
  cases (show v = Value.ref c from ry)
  by_cases hac : a = c
  · have hb := e3 hac
    subst hac
    subst hb
    exact SeqAt.EqAt.same (A := A) (s := s) (.ref a) X.prog X.w X.xe _ ⟨rfl, H, I, Ext.rfl'⟩
  · refine GQ.eqBool_refG hac (wpAny_mono (h A pins s σ H (.ref a) (.ref c) _ _ b sb I rfl rfl d) (fun r s' q => ?_) fun _ _ z => z)
    obtain ⟨er, q⟩ := q
    exact ⟨b, er, rfl, q⟩
/-- instances of the class at C on the left -/
def DInsB (K : Frag) (C : Addr) (R : Addr → V → Hp → Bool → Prop) : Eqb := fun x y H b => ∃ a dx fs t, x = .ref a ∧ H a = some (.ins C dx fs) ∧ TyX K H y t ∧ PySem.W.notFirst K C t = true ∧ R a y H b
theorem rcB_ins {R : Addr → V → Hp → Bool → Prop} (c : EqC X.K C f) (F : FnR X.prog X.w X.K X.mg X.base CX n f sp) (hx : Passes CX X E) (hsp : ∀ (a : Addr) (y : V) (H : Hp) (b : Bool) (Q : VK), R a y H b → (∀ H', Ext H H' → Q (.bl b) H') → sp [.ref a, y] H Q E) : RcB X n (DInsB X.K C R) := by
  intro A pins s σ H x y u v b sb I rx ry d
  obtain ⟨a, dx, fs, t, e1, ha, ty, hn, hR⟩ := d
  subst e1
  cases (show u = Value.ref a from rx)
  obtain ⟨od, J⟩ := inst_at I ha
  obtain ⟨m, hF⟩ := I.fr
  have e0 : Env0 X.prog X.w X.K X.mg X.base A X.stack s H := by
    have e := I.env0
    exact ⟨by rw [sb.fr]; exact e.frames, e.mod, e.bs, e.bsz, e.funs, e.frf, e.hok, e.bare⟩
  refine PySem.W.cmp_K (op := .Eq) (tb := t) sb.room.units0 hF I.ok.mod.kin J (looks_ty I ry ty) hn c.at_ c.fn ?_
  refine wpAny_mono (wpAny_call (SlX.run_at (us := [.ref a, v]) (ws := [.ref a, y]) F sb.room e0 hx I (.cons rfl (.cons ry .nil)) (hsp a y H b (fun z H' => z = .bl b ∧ Ext H H') hR fun H' e => ⟨rfl, e⟩))) (fun w s' z => ?_) fun _ _ z => z
  obtain ⟨z', H', I', rz, ez, ex⟩ := z
  subst ez
  cases (show w = Value.bool b from rz)
  exact ⟨rfl, H', I', ex⟩
/-! lists of such -/
def DListB (D : Eqb) : Eqb := fun x y H b => ∃ a c xs ys e, x = .ref a ∧ y = .ref c ∧ H a = some (.lst xs) ∧ H c = some (.lst ys) ∧ xs.length = ys.length ∧ (∀ (i : Nat) p q, xs[i]? = some p → ys[i]? = some q → D p q H (e i)) ∧ b = allF e xs.length 0
theorem mon_listB (hD : MonB D) : MonB (DListB D) := fun x y H H' b ex d => by
  obtain ⟨a, c, xs, ys, e, h1, h2, h3, h4, h5, h6, h7⟩ := d
  exact ⟨a, c, xs, ys, e, h1, h2, ex _ _ h3, ex _ _ h4, h5, fun i p q z1 z2 => hD _ _ _ _ _ ex (h6 i p q z1 z2), h7⟩
theorem item_at {xs : List V} {its : List Value} (r : Vals xs its) {i : Nat} (h : i < its.toArray.size) : ∃ p, xs[i]? = some p ∧ RelV p its.toArray[i] := by
  have h' : i < its.length := by simpa using h
  have k1 : i < xs.length := by
    rw [r.length]
    exact h'
  obtain ⟨u, hu, ru⟩ := r.get (List.getElem?_eq_getElem k1)
  rw [List.getElem?_eq_getElem h'] at hu
  have e := Option.some.inj hu
  refine ⟨xs[i], List.getElem?_eq_getElem k1, ?_⟩
  rw [show its.toArray[i] = u by simpa using e]
  exact ru
theorem rcB_list (hD : MonB D) (h : EqB X n D) : RcB X (n + 1) (DListB D) := by
  intro A pins s σ H x y u v b sb I rx ry d
  obtain ⟨a, c, xs, ys, e, e1, e2, ha, hc, hl, hp, hb⟩ := d
  subst e1
  subst e2
  subst hb
  cases (show u = Value.ref a from rx)
  cases (show v = Value.ref c from ry)
  have z1 := I.hok a _ ha
  have z2 := I.hok c _ hc
  obtain ⟨_, its, k1, r1, g1⟩ := z1
  obtain ⟨_, its2, k2, r2, g2⟩ := z2
  refine wpAny_richCompare_same_room (op := .Eq) ⟨_, g1, rfl⟩ ⟨_, g2, rfl⟩ F.slot_list_eq (GQ.call_here F.slot_list_eq ⟨_, g1, rfl⟩ F.entry_list_eq (F.args_list_eq_2 _ _) ?_) sb.room.units0
  refine two_body (N := xs.length) (e := e) (I := fun s' => ∃ H', Inv X pins σ H' s' ∧ Ext H H') (fun s' q => ?_) (fun s' q => ⟨(fun z => nomatch z), rfl, q⟩) ⟨H, I, Ext.rfl'⟩
  obtain ⟨H1, I1, x1⟩ := q
  have y1 := I1.hok a _ (x1 _ _ ha)
  have y2 := I1.hok c _ (x1 _ _ hc)
  obtain ⟨_, jts, m1, s1, w1⟩ := y1
  obtain ⟨_, jts2, m2, s2, w2⟩ := y2
  refine ⟨jts.toArray, jts2.toArray, m1, m2, w1, w2, by rw [List.size_toArray, ← s1.length], by rw [List.size_toArray, ← s2.length, hl], fun i h1 h2 => ?_⟩
  obtain ⟨p, hp1, rp⟩ := item_at s1 h1
  obtain ⟨q, hq1, rq⟩ := item_at s2 h2
  refine wpAny_mono (h A.in1 pins s' σ H1 p q _ _ (e i) sb.in1 I1 rp rq (hD _ _ _ _ _ x1 (hp i p q hp1 hq1))) (fun r s2 z => ?_) fun _ _ z => z
  obtain ⟨er, H2, I2, x2⟩ := z
  exact ⟨er, H2, I2, x1.trans x2⟩
/-! as expressions -/
def rEqB (D : Eqb) : R2 := fun x y H Q => ∃ b, D x y H b ∧ ∀ H', Ext H H' → Q (.bl b) H'
theorem op_eqB (h : RcB X n D) (hr : Room n X.A) : OpR X (compareOp .Eq) (rEqB D) := by
  intro pins s σ H x y v u Q I rx ry hq
  obtain ⟨b, d, q⟩ := hq
  show wpAny (model X.prog X.w) X.A (richCompare .Eq v u) (EP X pins σ Q) X.xe s
  refine wpAny_mono (h X.A pins s σ H x y v u b ⟨hr, rfl⟩ I rx ry d) (fun r s' z => ?_) fun _ _ z => z
  obtain ⟨er, H', I', ex⟩ := z
  subst er
  exact ⟨.bl b, H', I', rfl, q H' ex⟩
/-- x in l -/
def rInO (D : Eqb) : R2 := fun x y H Q => ∃ l xs e, y = .ref l ∧ H l = some (.lst xs) ∧ (∀ (i : Nat) p, xs[i]? = some p → D p x H (e i)) ∧ ∀ H', Ext H H' → Q (.bl (anyF e xs.length 0)) H'
theorem one_I (hD : MonB D) (h : EqB X n D) (hr : Room (n + 1) X.A) {pins : List (Addr × Obj)} {σ : L2.St} {H : Hp} {x : V} {v : Value} {l : Addr} {xs : List V} {e : Nat → Bool} (rx : RelV x v) (hl : H l = some (.lst xs)) (hp : ∀ (i : Nat) p, xs[i]? = some p → D p x H (e i)) :
    OneI X.prog X.w X.A X.xe l v xs.length e (fun s' => ∃ H', Inv X pins σ H' s' ∧ Ext H H') := by
  intro s' q
  obtain ⟨H1, I1, x1⟩ := q
  have y1 := I1.hok l _ (x1 _ _ hl)
  obtain ⟨_, jts, m1, s1, w1⟩ := y1
  refine ⟨jts.toArray, m1, w1, by rw [List.size_toArray, ← s1.length], fun i h1 => ?_⟩
  obtain ⟨p, hp1, rp⟩ := item_at s1 h1
  have sb : Sub X (n + 1) X.A := ⟨hr, rfl⟩
  refine wpAny_mono (h X.A.in1 pins s' σ H1 p x _ _ (e i) sb.in1 I1 rp rx (hD _ _ _ _ _ x1 (hp i p hp1))) (fun r s2 z => ?_) fun _ _ z => z
  obtain ⟨er, H2, I2, x2⟩ := z
  exact ⟨er, H2, I2, x1.trans x2⟩
theorem op_inO (hD : MonB D) (h : EqB X n D) (hr : Room (n + 1) X.A) : OpR X (compareOp .In) (rInO D) := by
  intro pins s σ H x y v u Q I rx ry hq
  obtain ⟨l, xs, e, e1, hl, hp, q⟩ := hq
  subst e1
  cases (show u = Value.ref l from ry)
  have z1 := I.hok l _ hl
  obtain ⟨_, its, k1, r1, g1⟩ := z1
  show wpAny (model X.prog X.w) X.A (do return Value.bool (← contains (.ref l) v)) (EP X pins σ Q) X.xe s
  refine wpAny_bind (wpAny_contains_slot ⟨_, g1, rfl⟩ F.slot_list_contains (wpAny_mono (GQ.call_here (Q := fun w s' => ∃ b, w = .bool b ∧ EP X pins σ Q (.bool b) s') F.slot_list_contains ⟨_, g1, rfl⟩ F.entry_list_contains (F.args_list_contains_2 _ _) ?_) (fun w s' hv => ?_) fun _ _ z => z))
  · refine in_body (N := xs.length) (e := e) (one_I (pins := pins) (σ := σ) hD h hr rx hl hp) (fun s' z => ?_) ⟨H, I, Ext.rfl'⟩
    obtain ⟨H', I', ex⟩ := z
    exact ⟨_, rfl, .bl _, H', I', rfl, q H' ex⟩
  · obtain ⟨b, eb, hq⟩ := hv
    subst eb
    exact wpAny_truthy_bool (wpAny_pure hq)
/-- l.index(x) -/
def rIndexO (D : Eqb) : V → List V → Hp → VK → Prop := fun x vs H Q => ∃ (l : Addr) (y : V) (xs : List V) (e : Nat → Bool) (j : Nat), x = .ref l ∧ vs = [y] ∧ H l = some (.lst xs) ∧ (∀ (i : Nat) p, xs[i]? = some p → D p y H (e i)) ∧ j < xs.length ∧ e j = true ∧ (∀ m, m < j → e m = false) ∧ ∀ H', Ext H H' → Q (.int (j : Nat)) H'
theorem mt_indexO (hD : MonB D) (h : EqB X n D) (hr : Room (n + 1) X.A) : MtR X "list.index" (rIndexO D) := by
  intro pins s σ H x vs v us Q I rx rv hq
  obtain ⟨l, y, xs, e, j, e1, e2, hl, hp, hj, hit, hno, q⟩ := hq
  subst e1
  subst e2
  obtain ⟨u, e3, ru⟩ := vals1 rv
  subst e3
  cases (show v = Value.ref l from rx)
  have z1 := I.hok l _ hl
  obtain ⟨zl, its, k1, r1, g1⟩ := z1
  refine GQ.call_here F.slot_list_index ⟨_, g1, rfl⟩ F.entry_list_index (F.args_list_index_2 _ _) ?_
  refine at_body (N := xs.length) (j := j) (e := e) (fun s' t z => ?_) (one_I (pins := pins) (σ := σ) hD h hr ru hl hp) hj ?_ hit hno (fun s' z => ?_) ⟨H, I, Ext.rfl'⟩
  · obtain ⟨H', I', ex⟩ := z
    exact ⟨H', I'.tok t, ex⟩
  · have := sizeLine_eq
    omega
  · obtain ⟨H', I', ex⟩ := z
    exact ⟨.int (j : Nat), H', I'.tok _, ⟨_, rfl⟩, q H' ex⟩
end
end Z

/-! fractions in lowest terms -/
namespace M
def sg (u l : Int) : Int := if l < 0 then -(Int.gcd u l : Int) else (Int.gcd u l : Int)
def low (u l : Int) : Int × Int := (u.fdiv (sg u l), l.fdiv (sg u l))
theorem sg_abs (u l : Int) : (sg u l).natAbs = Int.gcd u l := by
  unfold sg
  split
  · rw [Int.natAbs_neg, Int.natAbs_natCast]
  · exact Int.natAbs_natCast _
theorem gcd_pos {u l : Int} (h : l ≠ 0) : 0 < Int.gcd u l := Int.gcd_pos_of_ne_zero_right u h
theorem sg_ne {u l : Int} (h : l ≠ 0) : sg u l ≠ 0 := fun e => by
  have h1 := sg_abs u l
  rw [e] at h1
  have h2 := gcd_pos (u := u) h
  simp at h1
  omega
theorem sg_dvd_l (u l : Int) : sg u l ∣ l := by
  rw [← Int.natAbs_dvd_natAbs, sg_abs]
  exact Int.natAbs_dvd_natAbs.mpr (Int.gcd_dvd_right u l)
theorem sg_dvd_u (u l : Int) : sg u l ∣ u := by
  rw [← Int.natAbs_dvd_natAbs, sg_abs]
  exact Int.natAbs_dvd_natAbs.mpr (Int.gcd_dvd_left u l)
theorem fdiv_of {g q : Int} (h : g ≠ 0) : (g * q).fdiv g = q := Int.mul_fdiv_cancel_left q h
/-- both parts are quotients -/
theorem low_quot {u l : Int} (h : l ≠ 0) : u = sg u l * (low u l).1 ∧ l = sg u l * (low u l).2 := by
  obtain ⟨a, ha⟩ := sg_dvd_u u l
  obtain ⟨b, hb⟩ := sg_dvd_l u l
  have hg := sg_ne (u := u) h
  have e1 : (low u l).1 = a := by
    show u.fdiv (sg u l) = a
    rw [show u.fdiv (sg u l) = (sg u l * a).fdiv (sg u l) from by rw [← ha]]
    exact fdiv_of hg
  have e2 : (low u l).2 = b := by
    show l.fdiv (sg u l) = b
    rw [show l.fdiv (sg u l) = (sg u l * b).fdiv (sg u l) from by rw [← hb]]
    exact fdiv_of hg
  rw [e1, e2]
  exact ⟨ha, hb⟩
theorem low_pos {u l : Int} (h : l ≠ 0) : 0 < (low u l).2 := by
  obtain ⟨_, e⟩ := low_quot (u := u) h
  have hp := gcd_pos (u := u) h
  by_cases c : l < 0
  · have s : sg u l = -(Int.gcd u l : Int) := if_pos c
    rw [s] at e
    generalize (low u l).2 = b at *
    generalize Int.gcd u l = g at *
    have h1 : (g : Int) * b = -l := by
      rw [e]
      rw [Int.neg_mul]
      omega
    have h2 : 0 < (g : Int) * b := by omega
    exact Int.pos_of_mul_pos_right h2 (by omega)
  · have s : sg u l = (Int.gcd u l : Int) := if_neg c
    rw [s] at e
    generalize (low u l).2 = b at *
    generalize Int.gcd u l = g at *
    have h2 : 0 < (g : Int) * b := by omega
    exact Int.pos_of_mul_pos_right h2 (by omega)
/-- in lowest terms, the bottom above 0 -/
def Red (p : Int × Int) : Prop := 0 < p.2 ∧ Int.gcd p.1 p.2 = 1
theorem low_red {u l : Int} (h : l ≠ 0) : Red (low u l) := by
  refine ⟨low_pos h, ?_⟩
  obtain ⟨e1, e2⟩ := low_quot (u := u) h
  have hp := gcd_pos (u := u) h
  have e : Int.gcd u l = (sg u l).natAbs * Int.gcd (low u l).1 (low u l).2 := by
    have z := Int.gcd_mul_left (sg u l) (low u l).1 (low u l).2
    rw [← e1, ← e2] at z
    exact z
  rw [sg_abs] at e
  have e3 : Int.gcd u l * 1 = Int.gcd u l * Int.gcd (low u l).1 (low u l).2 := by omega
  exact (Nat.eq_of_mul_eq_mul_left hp e3).symm
theorem sg_red {p : Int × Int} (h : Red p) : sg p.1 p.2 = 1 := by
  unfold sg
  rw [if_neg (by have := h.1; omega), h.2]
  rfl
theorem low_of_red {p : Int × Int} (h : Red p) : low p.1 p.2 = p := by
  unfold low
  rw [sg_red h]
  rw [Int.fdiv_one, Int.fdiv_one]
theorem red_int (n : Int) : Red (n, 1) := ⟨Int.one_pos, Int.gcd_one_right n⟩
theorem low_int (n : Int) : low n 1 = (n, 1) := low_of_red (red_int n)
theorem red_neg {p : Int × Int} (h : Red p) : Red (-p.1, p.2) := ⟨h.1, by
  show Int.gcd (-p.1) p.2 = 1
  rw [Int.neg_gcd]
  exact h.2⟩
theorem quot_le {g q : Int} (h : g ≠ 0) : q.natAbs ≤ (g * q).natAbs := by
  rw [Int.natAbs_mul]
  exact Nat.le_mul_of_pos_left _ (Int.natAbs_pos.mpr h)
theorem low_le1 {u l : Int} (h : l ≠ 0) : (low u l).1.natAbs ≤ u.natAbs := by
  have e := (low_quot (u := u) h).1
  have z := quot_le (q := (low u l).1) (sg_ne (u := u) h)
  rw [← e] at z
  exact z
theorem low_le2 {u l : Int} (h : l ≠ 0) : (low u l).2.natAbs ≤ l.natAbs := by
  have e := (low_quot (u := u) h).2
  have z := quot_le (q := (low u l).2) (sg_ne (u := u) h)
  rw [← e] at z
  exact z
/-- both parts below 2 ^ n -/
def Sz (n : Nat) (p : Int × Int) : Prop := p.1.natAbs < 2 ^ n ∧ p.2.natAbs < 2 ^ n
theorem Sz.mono {n m : Nat} {p : Int × Int} (h : Sz n p) (hm : n ≤ m) : Sz m p := ⟨Nat.lt_of_lt_of_le h.1 (Nat.pow_le_pow_right (by decide) hm), Nat.lt_of_lt_of_le h.2 (Nat.pow_le_pow_right (by decide) hm)⟩
theorem low_sz {u l : Int} {n : Nat} (h : l ≠ 0) (h1 : u.natAbs < 2 ^ n) (h2 : l.natAbs < 2 ^ n) : Sz n (low u l) := ⟨Nat.lt_of_le_of_lt (low_le1 h) h1, Nat.lt_of_le_of_lt (low_le2 h) h2⟩
theorem mul_lt {a b : Int} {n m : Nat} (h1 : a.natAbs < 2 ^ n) (h2 : b.natAbs < 2 ^ m) : (a * b).natAbs < 2 ^ (n + m) := by
  rw [Int.natAbs_mul, Nat.pow_add]
  exact Nat.mul_lt_mul'' h1 h2
theorem add_lt {a b : Int} {n : Nat} (h1 : a.natAbs < 2 ^ n) (h2 : b.natAbs < 2 ^ n) : (a + b).natAbs < 2 ^ (n + 1) := by
  have := Int.natAbs_add_le a b
  rw [Nat.pow_succ]
  omega
theorem sub_lt {a b : Int} {n : Nat} (h1 : a.natAbs < 2 ^ n) (h2 : b.natAbs < 2 ^ n) : (a - b).natAbs < 2 ^ (n + 1) := by
  have h : (a - b).natAbs ≤ a.natAbs + b.natAbs := by omega
  rw [Nat.pow_succ]
  omega
/-- the sum of two fractions -/
def plus (p q : Int × Int) : Int × Int := low (p.1 * q.2 + q.1 * p.2) (p.2 * q.2)
def minus (p q : Int × Int) : Int × Int := low (p.1 * q.2 - q.1 * p.2) (p.2 * q.2)
def times (p q : Int × Int) : Int × Int := low (p.1 * q.1) (p.2 * q.2)
theorem bot_ne {p q : Int × Int} (hp : Red p) (hq : Red q) : p.2 * q.2 ≠ 0 := by
  have := Int.mul_pos hp.1 hq.1
  omega
theorem plus_red {p q : Int × Int} (hp : Red p) (hq : Red q) : Red (plus p q) := low_red (bot_ne hp hq)
theorem minus_red {p q : Int × Int} (hp : Red p) (hq : Red q) : Red (minus p q) := low_red (bot_ne hp hq)
theorem times_red {p q : Int × Int} (hp : Red p) (hq : Red q) : Red (times p q) := low_red (bot_ne hp hq)
theorem plus_sz {p q : Int × Int} {n m : Nat} (hp : Red p) (hq : Red q) (h1 : Sz n p) (h2 : Sz m q) : Sz (n + m + 1) (plus p q) := by
  refine low_sz (bot_ne hp hq) (add_lt (mul_lt h1.1 h2.2) ?_) ?_
  · have z := mul_lt h2.1 h1.2
    rw [Nat.add_comm] at z
    exact z
  · exact Nat.lt_of_lt_of_le (mul_lt h1.2 h2.2) (Nat.pow_le_pow_right (by decide) (Nat.le_succ _))
theorem minus_sz {p q : Int × Int} {n m : Nat} (hp : Red p) (hq : Red q) (h1 : Sz n p) (h2 : Sz m q) : Sz (n + m + 1) (minus p q) := by
  refine low_sz (bot_ne hp hq) (sub_lt (mul_lt h1.1 h2.2) ?_) ?_
  · have z := mul_lt h2.1 h1.2
    rw [Nat.add_comm m n] at z
    exact z
  · exact Nat.lt_of_lt_of_le (mul_lt h1.2 h2.2) (Nat.pow_le_pow_right (by decide) (by omega))
theorem times_sz {p q : Int × Int} {n m : Nat} (hp : Red p) (hq : Red q) (h1 : Sz n p) (h2 : Sz m q) : Sz (n + m) (times p q) :=
  low_sz (bot_ne hp hq) (mul_lt h1.1 h2.1) (mul_lt h1.2 h2.2)
/-- less an addend is the sum with its opposite -/
theorem minus_plus (p q : Int × Int) : plus p (-q.1, q.2) = minus p q := by
  unfold plus minus
  show low (p.1 * q.2 + -q.1 * p.2) (p.2 * q.2) = _
  rw [Int.neg_mul, ← Int.sub_eq_add_neg]
/-- the loop of the greatest common divisor -/
theorem gcd_step {m n : Int} (h1 : 0 ≤ m) (h2 : 0 < n) : Int.gcd n (m % n) = Int.gcd m n := by
  obtain ⟨a, rfl⟩ := Int.eq_ofNat_of_zero_le h1
  obtain ⟨b, rfl⟩ := Int.eq_ofNat_of_zero_le (Int.le_of_lt h2)
  show Nat.gcd b (((a : Int) % (b : Int)).natAbs) = Nat.gcd a b
  rw [← Int.natCast_emod, Int.natAbs_natCast, Nat.gcd_comm a b, Nat.gcd_rec b a, Nat.gcd_comm]
theorem gcd_end {m : Int} (h : 0 ≤ m) : (Int.gcd m 0 : Int) = m := by
  rw [Int.gcd_zero_right]
  omega
theorem gcd_abs (u l : Int) : Int.gcd (if u < 0 then -u else u) (if l < 0 then -l else l) = Int.gcd u l := by
  split <;> split <;> simp [Int.neg_gcd, Int.gcd_neg]
end M

/-! fractions as rational numbers -/
namespace M
def q (p : Int × Int) : Rat := Rat.divInt p.1 p.2
theorem red_ne {p : Int × Int} (h : Red p) : p.2 ≠ 0 := Int.ne_of_gt h.1
theorem q_low {u l : Int} (h : l ≠ 0) : q (low u l) = Rat.divInt u l := by
  obtain ⟨e1, e2⟩ := low_quot (u := u) h
  have z := Rat.divInt_mul_left (n := (low u l).1) (d := (low u l).2) (sg_ne (u := u) h)
  rw [← e1, ← e2] at z
  exact z.symm
theorem q_plus {a b : Int × Int} (ha : Red a) (hb : Red b) : q (plus a b) = q a + q b := by
  unfold plus
  rw [q_low (bot_ne ha hb)]
  exact (Rat.divInt_add_divInt _ _ (red_ne ha) (red_ne hb)).symm
theorem q_minus {a b : Int × Int} (ha : Red a) (hb : Red b) : q (minus a b) = q a - q b := by
  unfold minus
  rw [q_low (bot_ne ha hb)]
  exact (Rat.divInt_sub_divInt _ _ (red_ne ha) (red_ne hb)).symm
theorem q_times {a b : Int × Int} (ha : Red a) (hb : Red b) : q (times a b) = q a * q b := by
  unfold times
  rw [q_low (bot_ne ha hb)]
  exact (Rat.divInt_mul_divInt _ _).symm
theorem q_eq_iff {a b : Int × Int} (ha : Red a) (hb : Red b) : q a = q b ↔ a = b := by
  refine ⟨fun h => ?_, fun h => by rw [h]⟩
  have z := (Rat.divInt_eq_divInt_iff (red_ne ha) (red_ne hb)).mp h
  have e := low_of_red ha
  have e2 := low_of_red hb
  have c1 : Int.gcd a.1 a.2 = 1 := ha.2
  have d1 : a.2 ∣ b.2 := by
    have : a.2 ∣ a.1 * b.2 := ⟨b.1, by rw [z, Int.mul_comm]⟩
    have z2 := Int.dvd_gcd_mul_iff_dvd_mul.mpr this
    rwa [Int.gcd_comm, ha.2, Int.natCast_one, Int.one_mul] at z2
  have d2 : b.2 ∣ a.2 := by
    have : b.2 ∣ b.1 * a.2 := ⟨a.1, by rw [← z, Int.mul_comm]⟩
    have z2 := Int.dvd_gcd_mul_iff_dvd_mul.mpr this
    rwa [Int.gcd_comm, hb.2, Int.natCast_one, Int.one_mul] at z2
  have e3 : a.2 = b.2 := Int.dvd_antisymm (Int.le_of_lt ha.1) (Int.le_of_lt hb.1) d1 d2
  have e4 : a.1 = b.1 := by
    rw [e3] at z
    exact Int.eq_of_mul_eq_mul_right (red_ne hb) z
  exact Prod.ext e4 e3
theorem q_nonneg {a : Int × Int} (ha : Red a) : 0 ≤ q a ↔ 0 ≤ a.1 := Rat.divInt_nonneg_iff_of_pos_right ha.1
theorem q_zero {a : Int × Int} (ha : Red a) : q a = 0 ↔ a.1 = 0 := by
  have z := Rat.divInt_eq_divInt_iff (n₁ := a.1) (d₁ := a.2) (n₂ := 0) (d₂ := 1) (red_ne ha) (by decide)
  rw [Rat.zero_divInt] at z
  simpa [q] using z
theorem q_pos {a : Int × Int} (ha : Red a) : 0 < q a ↔ 0 < a.1 := by
  have h1 := q_nonneg ha
  have h2 := q_zero ha
  constructor
  · intro h
    have : 0 ≤ a.1 := h1.mp (by grind)
    have : a.1 ≠ 0 := fun e => by have := h2.mpr e; grind
    omega
  · intro h
    have : 0 ≤ q a := h1.mpr (by omega)
    have : q a ≠ 0 := fun e => by have := h2.mp e; omega
    grind
theorem q_neg {a : Int × Int} : q (-a.1, a.2) = -q a := (Rat.neg_divInt a.1 a.2).symm
theorem q_lt {a b : Int × Int} (ha : Red a) (hb : Red b) : q a < q b ↔ a.1 * b.2 < b.1 * a.2 := by
  have z : Rat.divInt (b.1 * a.2 - a.1 * b.2) (b.2 * a.2) = q b - q a := (Rat.divInt_sub_divInt _ _ (red_ne hb) (red_ne ha)).symm
  have hp : 0 < b.2 * a.2 := Int.mul_pos hb.1 ha.1
  have h1 := Rat.divInt_nonneg_iff_of_pos_right (a := b.1 * a.2 - a.1 * b.2) hp
  have h2 := Rat.divInt_nonneg_iff_of_pos_right (a := -(b.1 * a.2 - a.1 * b.2)) hp
  rw [← Rat.neg_divInt, z] at h2
  rw [z] at h1
  generalize b.1 * a.2 = m at *
  generalize a.1 * b.2 = n at *
  constructor
  · intro h
    have : ¬ (0 ≤ -(m - n)) := fun h3 => by have := h2.mpr h3; grind
    omega
  · intro h
    have : ¬ (0 ≤ -(q b - q a)) := fun h3 => by have := h2.mp h3; omega
    grind
theorem q_int (n : Int) : q (n, 1) = (n : Rat) := by
  show Rat.divInt n 1 = n
  rw [show Rat.divInt n 1 = mkRat n 1 from rfl, Rat.mkRat_one]
theorem q_01 : q (0, 1) = 0 := Rat.zero_divInt 1
theorem red_01 : Red (0, 1) := red_int 0
end M

namespace Mi
open PySem PySem.Spec PyProof.Rows L2
open PySem.W (Frag)
/-! ### values as trees -/
inductive D where
  | non | bl (b : Bool) | int (i : Int) | str (x : Str) | ty (n : String) | cls (c : Str) | pot
  | lst (xs : List D) | tup (xs : List D) | dct (ks : List Key) (ds : List D) | obj (c : Str) (ns : List Str) (ds : List D)
mutual
/-- v stands for the tree, by what H tells -/
def Rep (K : Frag) (pa : Addr) (H : Hp) : D → V → Prop
  | .non, v => v = .non
  | .bl b, v => v = .bl b
  | .int i, v => v = .int i
  | .str x, v => v = .str x
  | .ty n, v => v = .ty n
  | .cls c, v => v = .ref (He.ga K c)
  | .pot, v => v = .ref pa
  | .lst ds, v => ∃ a vs, v = .ref a ∧ H a = some (.lst vs) ∧ RepL K pa H ds vs
  | .tup ds, v => ∃ a vs, v = .ref a ∧ H a = some (.tup vs) ∧ RepL K pa H ds vs
  | .dct ks ds, v => ∃ a kvs, v = .ref a ∧ H a = some (.dK kvs) ∧ kvs.map (·.1) = ks ∧ RepL K pa H ds (kvs.map (·.2))
  | .obj c ns ds, v => ∃ a dx gs, v = .ref a ∧ H a = some (.ins (He.ga K c) dx gs) ∧ gs.map (·.1) = ns ∧ RepL K pa H ds (gs.map (·.2))
def RepL (K : Frag) (pa : Addr) (H : Hp) : List D → List V → Prop
  | [], vs => vs = []
  | d :: ds, vs => ∃ v ws, vs = v :: ws ∧ Rep K pa H d v ∧ RepL K pa H ds ws
end
/-- what stands in a cell that is written to -/
def RepC (K : Frag) (pa : Addr) (H : Hp) (d : D) (o : HO) : Prop :=
  match d with
  | .lst ds => ∃ vs, o = .lst vs ∧ RepL K pa H ds vs
  | .dct ks ds => ∃ kvs, o = .dK kvs ∧ kvs.map (·.1) = ks ∧ RepL K pa H ds (kvs.map (·.2))
  | .obj c ns ds => ∃ dx gs, o = .ins (He.ga K c) dx gs ∧ gs.map (·.1) = ns ∧ RepL K pa H ds (gs.map (·.2))
  | _ => False
section
variable {K : Frag} {pa : Addr} {H H' : Hp}
theorem same_sqt {a : Addr} {vs : List V} (e : Same H H') (h : SqT K H a vs) : SqT K H' a vs := Evl.ex_t e h
mutual
theorem Rep.up (e : Same H H') : ∀ {d : D} {v : V}, Rep K pa H d v → Rep K pa H' d v
  | .non, _, h => h
  | .bl _, _, h => h
  | .int _, _, h => h
  | .str _, _, h => h
  | .ty _, _, h => h
  | .cls _, _, h => h
  | .pot, _, h => h
  | .lst ds, _, h => by
    obtain ⟨a, vs, e1, h1, h2⟩ := h
    exact ⟨a, vs, e1, e _ _ h1, RepL.up e h2⟩
  | .tup ds, _, h => by
    obtain ⟨a, vs, e1, h1, h2⟩ := h
    exact ⟨a, vs, e1, e _ _ h1, RepL.up e h2⟩
  | .dct ks ds, _, h => by
    obtain ⟨a, vs, e1, h1, h2, h3⟩ := h
    exact ⟨a, vs, e1, e _ _ h1, h2, RepL.up e h3⟩
  | .obj c ns ds, _, h => by
    obtain ⟨a, dx, gs, e1, h1, h2, h3⟩ := h
    exact ⟨a, dx, gs, e1, e _ _ h1, h2, RepL.up e h3⟩
theorem RepL.up (e : Same H H') : ∀ {ds : List D} {vs : List V}, RepL K pa H ds vs → RepL K pa H' ds vs
  | [], _, h => h
  | d :: ds, _, h => by
    obtain ⟨v, ws, e1, h1, h2⟩ := h
    exact ⟨v, ws, e1, Rep.up e h1, RepL.up e h2⟩
end
theorem RepC.up (e : Same H H') {d : D} {o : HO} (h : RepC K pa H d o) : RepC K pa H' d o := by
  cases d with
  | lst ds => obtain ⟨vs, e1, h1⟩ := h; exact ⟨vs, e1, h1.up e⟩
  | dct ks ds => obtain ⟨kvs, e1, e2, h1⟩ := h; exact ⟨kvs, e1, e2, h1.up e⟩
  | obj c ns ds => obtain ⟨dx, gs, e1, e2, h1⟩ := h; exact ⟨dx, gs, e1, e2, h1.up e⟩
  | _ => exact h.elim
theorem RepL.len : ∀ {ds : List D} {vs : List V}, RepL K pa H ds vs → ds.length = vs.length
  | [], _, h => by cases (show _ = [] from h); rfl
  | d :: ds, _, h => by
    obtain ⟨v, ws, e1, h1, h2⟩ := h
    subst e1
    simp [h2.len]
theorem RepL.nil : RepL K pa H [] [] := rfl
theorem RepL.cons {d : D} {ds : List D} {v : V} {vs : List V} (h : Rep K pa H d v) (t : RepL K pa H ds vs) : RepL K pa H (d :: ds) (v :: vs) := ⟨v, vs, rfl, h, t⟩
theorem RepL.app : ∀ {ds es : List D} {vs ws : List V}, RepL K pa H ds vs → RepL K pa H es ws → RepL K pa H (ds ++ es) (vs ++ ws)
  | [], _, _, _, h, t => by cases (show _ = [] from h); exact t
  | d :: ds, _, _, _, h, t => by
    obtain ⟨v, ws, e1, h1, h2⟩ := h
    subst e1
    exact ⟨v, _, rfl, h1, h2.app t⟩
theorem RepL.get : ∀ {ds : List D} {vs : List V} {i : Nat} {d : D}, RepL K pa H ds vs → ds[i]? = some d → ∃ v, vs[i]? = some v ∧ Rep K pa H d v
  | [], _, _, _, h, e => by simp at e
  | d :: ds, _, 0, _, h, e => by
    obtain ⟨v, ws, e1, h1, h2⟩ := h
    subst e1
    simp at e
    subst e
    exact ⟨v, rfl, h1⟩
  | d :: ds, _, i + 1, x, h, e => by
    obtain ⟨v, ws, e1, h1, h2⟩ := h
    subst e1
    simp at e
    obtain ⟨u, h3, h4⟩ := h2.get e
    exact ⟨u, by simpa using h3, h4⟩
theorem RepL.get' : ∀ {ds : List D} {vs : List V} {i : Nat} {v : V}, RepL K pa H ds vs → vs[i]? = some v → ∃ d, ds[i]? = some d ∧ Rep K pa H d v := fun {ds vs i v} h e => by
  have hl := h.len
  have hi : i < vs.length := (List.getElem?_eq_some_iff.mp e).1
  have e2 : ds[i]? = some (ds[i]'(by omega)) := by simp [show i < ds.length by omega]
  obtain ⟨u, h3, h4⟩ := h.get e2
  rw [e] at h3
  cases h3
  exact ⟨_, e2, h4⟩
theorem RepL.set : ∀ {ds : List D} {vs : List V} {d : D} {v : V} (i : Nat), RepL K pa H ds vs → Rep K pa H d v → RepL K pa H (ds.set i d) (vs.set i v)
  | [], _, _, _, _, h, _ => by cases (show _ = [] from h); exact rfl
  | x :: ds, _, _, _, 0, h, r => by
    obtain ⟨u, ws, e1, h1, h2⟩ := h
    subst e1
    exact ⟨_, ws, rfl, r, h2⟩
  | x :: ds, _, _, _, i + 1, h, r => by
    obtain ⟨u, ws, e1, h1, h2⟩ := h
    subst e1
    exact ⟨u, _, rfl, h1, h2.set i r⟩
theorem RepL.take : ∀ {ds : List D} {vs : List V} (n : Nat), RepL K pa H ds vs → RepL K pa H (ds.take n) (vs.take n)
  | _, _, 0, _ => by simp [RepL]
  | [], _, _ + 1, h => by cases (show _ = [] from h); exact rfl
  | d :: ds, _, n + 1, h => by
    obtain ⟨v, ws, e1, h1, h2⟩ := h
    subst e1
    exact ⟨v, _, rfl, h1, h2.take n⟩
theorem RepL.drop : ∀ {ds : List D} {vs : List V} (n : Nat), RepL K pa H ds vs → RepL K pa H (ds.drop n) (vs.drop n)
  | _, _, 0, h => h
  | [], _, _ + 1, h => by cases (show _ = [] from h); exact rfl
  | d :: ds, _, n + 1, h => by
    obtain ⟨v, ws, e1, h1, h2⟩ := h
    subst e1
    exact h2.drop n
theorem RepL.rev : ∀ {ds : List D} {vs : List V}, RepL K pa H ds vs → RepL K pa H ds.reverse vs.reverse
  | [], _, h => by cases (show _ = [] from h); exact rfl
  | d :: ds, _, h => by
    obtain ⟨v, ws, e1, h1, h2⟩ := h
    subst e1
    rw [List.reverse_cons, List.reverse_cons]
    exact h2.rev.app (RepL.cons h1 .nil)
theorem RepL.erase : ∀ {ds : List D} {vs : List V} (n : Nat), RepL K pa H ds vs → RepL K pa H (ds.eraseIdx n) (vs.eraseIdx n)
  | [], _, _, h => by cases (show _ = [] from h); exact rfl
  | d :: ds, _, 0, h => by
    obtain ⟨v, ws, e1, h1, h2⟩ := h
    subst e1
    exact h2
  | d :: ds, _, n + 1, h => by
    obtain ⟨v, ws, e1, h1, h2⟩ := h
    subst e1
    exact ⟨v, _, rfl, h1, h2.erase n⟩
theorem RepL.cat : ∀ {ds es : List D} {vs : List V}, RepL K pa H (ds ++ es) vs → ∃ us ws, vs = us ++ ws ∧ RepL K pa H ds us ∧ RepL K pa H es ws
  | [], _, _, h => ⟨[], _, rfl, rfl, h⟩
  | d :: ds, es, _, h => by
    obtain ⟨v, ws, e1, h1, h2⟩ := h
    obtain ⟨us, zs, e2, h3, h4⟩ := RepL.cat h2
    subst e1
    subst e2
    exact ⟨v :: us, zs, rfl, ⟨v, us, rfl, h1, h3⟩, h4⟩
theorem RepL.ints : ∀ {ns : List Int} {vs : List V}, RepL K pa H (ns.map D.int) vs → vs = ns.map V.int
  | [], _, h => h
  | n :: ns, _, h => by
    obtain ⟨v, ws, e1, h1, h2⟩ := h
    rw [e1, show v = .int n from h1, RepL.ints h2]
    rfl
theorem RepL.strs : ∀ {ns : List Str} {vs : List V}, RepL K pa H (ns.map D.str) vs → vs = ns.map V.str
  | [], _, h => h
  | n :: ns, _, h => by
    obtain ⟨v, ws, e1, h1, h2⟩ := h
    rw [e1, show v = .str n from h1, RepL.strs h2]
    rfl
theorem RepL.bls : ∀ {ns : List Bool} {vs : List V}, RepL K pa H (ns.map D.bl) vs → vs = ns.map V.bl
  | [], _, h => h
  | n :: ns, _, h => by
    obtain ⟨v, ws, e1, h1, h2⟩ := h
    rw [e1, show v = .bl n from h1, RepL.bls h2]
    rfl
theorem RepL.ints' : ∀ {ns : List Int}, RepL K pa H (ns.map D.int) (ns.map V.int)
  | [] => rfl
  | n :: ns => ⟨_, _, rfl, rfl, RepL.ints'⟩
theorem RepL.strs' : ∀ {ns : List Str}, RepL K pa H (ns.map D.str) (ns.map V.str)
  | [] => rfl
  | n :: ns => ⟨_, _, rfl, rfl, RepL.strs'⟩
end
/-! ### what holds between statements -/
inductive Slot where
  | no | sh (d : D) | ow (l : Option Nat) (d : D)
structure S where
  g : List Slot
  p : Int × Int
structure Ex where
  c : Str
  ns : List Str
  ds : List D
inductive R (α : Type) where
  | ok (a : α) | ex (e : Ex) (s : S) | stuck
def R.bind {α β : Type} (x : R α) (f : α → R β) : R β := match x with
  | .ok a => f a
  | .ex e s => .ex e s
  | .stuck => .stuck
inductive Arg where
  | val (d : D) | bor (i : Nat)
def slotD : Slot → Option D
  | .sh d => some d
  | .ow _ d => some d
  | .no => none
def view (s : S) : Arg → Option D
  | .val d => some d
  | .bor i => (s.g[i]?).bind slotD
/-- what is known of the heap: Hs, what never changes; Fr, what others keep; ad, the cells that were lent -/
def PoolOk (Hs H : Hp) : Prop := ∀ b o, Hs b = some o → H b = some o ∨ ((∃ kvs, o = .dK kvs) ∧ ∃ ob, H b = some (.frz ob o))
structure Wd where
  K : Frag
  pa : Addr
  Fr : Hp
  ad : Nat → Addr
def SlotOk (W : Wd) (Hs H : Hp) (x : Slot) (v : Option (Option V)) : Prop :=
  match x with
  | .no => True
  | .sh d => ∃ u, v = some (some u) ∧ Rep W.K W.pa Hs d u
  | .ow l d => ∃ a, v = some (some (.ref a)) ∧ (∃ o, H a = some o ∧ RepC W.K W.pa Hs d o) ∧ Hs a = none ∧ W.Fr a = none ∧ a ≠ W.pa ∧ ∀ k, l = some k → a = W.ad k
structure SS (W : Wd) (Hs : Hp) (s : S) (σ : L2.St) (H : Hp) : Prop where
  len : s.g.length = σ.length
  pool : PoolOk Hs H
  fr : ∀ b o, W.Fr b = some o → H b = some o ∧ Hs b = none
  pt : H W.pa = some (.lst [.int s.p.1, .int s.p.2]) ∧ Hs W.pa = none ∧ W.Fr W.pa = none
  slot : ∀ (i : Nat) x, s.g[i]? = some x → SlotOk W Hs H x (σ[i]?)
  apart : ∀ (i j : Nat) l m d e a, s.g[i]? = some (.ow l d) → s.g[j]? = some (.ow m e) → i ≠ j → σ[i]? = some (some (.ref a)) → σ[j]? ≠ some (some (.ref a))
/-- more is known, nothing changed -/
structure Gr (Hs H Hs' H' : Hp) : Prop where
  s : Same Hs Hs'
  h : ∀ b o, H b = some o → H' b = some o
  pool : PoolOk Hs' H'
  new : ∀ b, Hs b = none → H b ≠ none → Hs' b = none
theorem Same.rfl' (H : Hp) : Same H H := fun _ _ h => h
theorem Same.trans' {H H1 H2 : Hp} (a : Same H H1) (b : Same H1 H2) : Same H H2 := fun c o h => b c o (a c o h)
theorem Gr.refl {Hs H : Hp} (h : PoolOk Hs H) : Gr Hs H Hs H := ⟨fun _ _ e => e, fun _ _ e => e, h, fun _ e _ => e⟩
section
variable {W : Wd} {Hs Hs' H H' : Hp} {s : S} {σ : L2.St}
theorem SS.grow (x : SS W Hs s σ H) (g : Gr Hs H Hs' H') : SS W Hs' s σ H' where
  len := x.len
  pool := g.pool
  fr := fun b o e => ⟨g.h _ _ (x.fr b o e).1, g.new b (x.fr b o e).2 (by rw [(x.fr b o e).1]; simp)⟩
  pt := ⟨g.h _ _ x.pt.1, g.new _ x.pt.2.1 (by rw [x.pt.1]; simp), x.pt.2.2⟩
  slot := fun i y e => by
    have z := x.slot i y e
    cases y with
    | no => trivial
    | sh d =>
      obtain ⟨u, h1, h2⟩ := z
      exact ⟨u, h1, h2.up g.s⟩
    | ow l d =>
      obtain ⟨a, h1, ⟨o, h2, h3⟩, h4, h5⟩ := z
      exact ⟨a, h1, ⟨o, g.h _ _ h2, h3.up g.s⟩, g.new _ h4 (by rw [h2]; simp), h5⟩
  apart := x.apart
theorem PoolOk.none_of {b : Addr} (x : PoolOk Hs H) (e : H b = none) : Hs b = none := by
  cases q : Hs b with
  | none => rfl
  | some o =>
    rcases x b o q with h | ⟨_, ob, h⟩ <;> rw [e] at h <;> cases h
/-- a new cell goes to the pool -/
theorem gr_new {p : Addr} {o : HO} (x : PoolOk Hs H) (hp : H p = none) : Gr Hs H (upd Hs p o) (upd H p o) := by
  have hs : Hs p = none := x.none_of hp
  refine ⟨fun b u e => ?_, fun b u e => ?_, fun b u e => ?_, fun b e1 e2 => ?_⟩
  · rw [upd_ne (ne_of_none e hs)]; exact e
  · rw [upd_ne (ne_of_none e hp)]; exact e
  · by_cases hb : b = p
    · subst hb; rw [upd_same] at e ⊢; cases e; exact .inl rfl
    · rw [upd_ne hb] at e ⊢; exact x b u e
  · rw [upd_ne (fun z => e2 (by rw [z]; exact hp))]; exact e1
theorem PoolOk.at_ {b : Addr} {o : HO} (x : PoolOk Hs H) (e : Hs b = some o) (hn : ∀ kvs, o ≠ .dK kvs) : H b = some o := by
  rcases x b o e with h | ⟨⟨kvs, h⟩, _⟩
  · exact h
  · exact absurd h (hn kvs)
theorem PoolOk.rd {b : Addr} {o : HO} (x : PoolOk Hs H) (e : Hs b = some o) : Rd H b o := by
  rcases x b o e with h | ⟨_, ob, h⟩
  · exact .inl h
  · exact .inr ⟨ob, h⟩
theorem PoolOk.sqt {K : Frag} {a : Addr} {vs : List V} (x : PoolOk Hs H) (h : SqT K Hs a vs) : SqT K H a vs := by
  rcases h with (h | ⟨ob, h⟩) | h
  · exact .inl (.inl (x.at_ h (by intro _ z; cases z)))
  · exact .inl (.inr ⟨ob, x.at_ h (by intro _ z; cases z)⟩)
  · exact .inr h
end
/-- the top cell as it stands now, what is within from the pool -/
def RepT (K : Frag) (pa : Addr) (Hs H : Hp) (d : D) (v : V) : Prop :=
  match d with
  | .lst ds => ∃ a vs, v = .ref a ∧ H a = some (.lst vs) ∧ RepL K pa Hs ds vs
  | .tup ds => ∃ a vs, v = .ref a ∧ H a = some (.tup vs) ∧ RepL K pa Hs ds vs
  | .dct ks ds => ∃ a kvs, v = .ref a ∧ Rd H a (.dK kvs) ∧ kvs.map (·.1) = ks ∧ RepL K pa Hs ds (kvs.map (·.2))
  | .obj c ns ds => ∃ a dx gs, v = .ref a ∧ H a = some (.ins (He.ga K c) dx gs) ∧ gs.map (·.1) = ns ∧ RepL K pa Hs ds (gs.map (·.2))
  | d => Rep K pa Hs d v
def ArgOk (W : Wd) (Hs : Hp) (σ : L2.St) (x : Arg) (v : V) : Prop :=
  match x with
  | .val d => Rep W.K W.pa Hs d v
  | .bor i => σ[i]? = some (some v)
theorem ArgOk.up {W : Wd} {Hs Hs' : Hp} {σ : L2.St} {x : Arg} {v : V} (e : Same Hs Hs') (h : ArgOk W Hs σ x v) : ArgOk W Hs' σ x v := by
  cases x with
  | val d => exact Rep.up e h
  | bor i => exact h
section
variable {W : Wd} {Hs Hs' H H' : Hp} {s : S} {σ : L2.St} {d : D} {v : V}
theorem Rep.t {K : Frag} {pa : Addr} (x : PoolOk Hs H) (h : Rep K pa Hs d v) : RepT K pa Hs H d v := by
  cases d with
  | lst ds => obtain ⟨a, vs, e, h1, h2⟩ := h; exact ⟨a, vs, e, x.at_ h1 (by intro _ z; cases z), h2⟩
  | tup ds => obtain ⟨a, vs, e, h1, h2⟩ := h; exact ⟨a, vs, e, x.at_ h1 (by intro _ z; cases z), h2⟩
  | dct ks ds => obtain ⟨a, kvs, e, h1, h2⟩ := h; exact ⟨a, kvs, e, x.rd h1, h2⟩
  | obj c ns ds => obtain ⟨a, dx, gs, e, h1, h2⟩ := h; exact ⟨a, dx, gs, e, x.at_ h1 (by intro _ z; cases z), h2⟩
  | _ => exact h
theorem ArgOk.t (x : SS W Hs s σ H) {y : Arg} (h : ArgOk W Hs σ y v) (e : view s y = some d) : RepT W.K W.pa Hs H d v := by
  cases y with
  | val d' =>
    cases (Option.some.inj e)
    exact Rep.t x.pool h
  | bor i =>
    have e' : (s.g[i]?).bind slotD = some d := e
    have h' : σ[i]? = some (some v) := h
    cases e1 : s.g[i]? with
    | none => rw [e1] at e'; cases e'
    | some z =>
      rw [e1] at e'
      have q := x.slot i z e1
      cases z with
      | no => cases e'
      | sh d' =>
        cases (show some d' = some d from e')
        obtain ⟨u, h1, h2⟩ := q
        rw [h'] at h1
        cases h1
        exact Rep.t x.pool h2
      | ow l d' =>
        cases (show some d' = some d from e')
        obtain ⟨a, h1, ⟨o, h2, h3⟩, _⟩ := q
        rw [h'] at h1
        cases h1
        cases d with
        | lst ds => obtain ⟨vs, e2, h4⟩ := h3; subst e2; exact ⟨a, vs, rfl, h2, h4⟩
        | dct ks ds => obtain ⟨vs, e2, e3, h4⟩ := h3; subst e2; exact ⟨a, vs, rfl, .inl h2, e3, h4⟩
        | obj c ns ds => obtain ⟨dx, gs, e2, e3, h4⟩ := h3; subst e2; exact ⟨a, dx, gs, rfl, h2, e3, h4⟩
        | _ => exact h3.elim
end
end Mi

namespace Mi
open PySem PySem.Spec PyProof.Rows L2
open PySem.W (Frag)
abbrev ME := S → R (Arg × S)
abbrev MF := S → R (D × S)
abbrev MT := S → R (Bool × S)
abbrev MA := S → R (List Arg × S)
abbrev MO := S → R (Option Int × S)
inductive Fl where
  | nx | rt (d : D) | bk | ct
abbrev MS := S → R (Fl × S)
def ofO {α : Type} : Option α → R α
  | some a => .ok a
  | none => .stuck
/-- the error in flight -/
def XRep (W : Wd) (Hs : Hp) (e : Ex) (cls : Value) (d : Option Addr) : Prop :=
  cls = .ref (He.ga W.K e.c) ∧ (e.ns = [] ∨ ∃ dd gs, d = some dd ∧ Hs dd = some (.xd gs) ∧ gs.map (·.1) = e.ns ∧ RepL W.K W.pa Hs e.ds (gs.map (·.2)))
def PostX (W : Wd) (E : XK) (Hs : Hp) (e : Ex) (s' : S) : Prop := ∀ σ' H' Hs' cls d, Same Hs Hs' → SS W Hs' s' σ' H' → XRep W Hs' e cls d → E cls d H'
def Post {α β : Type} (W : Wd) (E : XK) (Hs : Hp) (σ : L2.St) (Ok : α → S → Hp → Hp → β → Prop) (Q : β → Hp → Prop) (r : R (α × S)) : Prop := match r with
  | .ok (x, s') => ∀ v H' Hs', Same Hs Hs' → SS W Hs' s' σ H' → Ok x s' Hs' H' v → Q v H'
  | .ex e s' => PostX W E Hs e s'
  | .stuck => False
def okE (W : Wd) (σ : L2.St) : Arg → S → Hp → Hp → V → Prop := fun x _ Hs _ v => ArgOk W Hs σ x v
def okT : Bool → S → Hp → Hp → Bool → Prop := fun b _ _ _ v => v = b
def okO : Option Int → S → Hp → Hp → Option Int → Prop := fun b _ _ _ v => v = b
inductive ArgsOk (W : Wd) (Hs : Hp) (σ : L2.St) : List Arg → List V → Prop where
  | nil : ArgsOk W Hs σ [] []
  | cons {x v xs vs} : ArgOk W Hs σ x v → ArgsOk W Hs σ xs vs → ArgsOk W Hs σ (x :: xs) (v :: vs)
def okA (W : Wd) (σ : L2.St) : List Arg → S → Hp → Hp → List V → Prop := fun x _ Hs _ v => ArgsOk W Hs σ x v
/-- a cell of its own at a -/
structure Fresh (W : Wd) (s : S) (σ : L2.St) (Hs H : Hp) (a : Addr) (d : D) : Prop where
  at_ : ∃ o, H a = some o ∧ RepC W.K W.pa Hs d o
  np : Hs a = none
  nf : W.Fr a = none
  npa : a ≠ W.pa
  ns : ∀ (i : Nat) l e, s.g[i]? = some (.ow l e) → σ[i]? ≠ some (some (.ref a))
def okF (W : Wd) (σ : L2.St) : D → S → Hp → Hp → V → Prop := fun d s Hs H v => ∃ a, v = .ref a ∧ Fresh W s σ Hs H a d
def SndE (K : Frag) (E : XK) (t : TE) (m : ME) : Prop := ∀ (W : Wd) s σ H Hs (Q : VK), W.K = K → SS W Hs s σ H → Post W E Hs σ (okE W σ) Q (m s) → t σ H Q
def SndF (K : Frag) (E : XK) (t : TE) (m : MF) : Prop := ∀ (W : Wd) s σ H Hs (Q : VK), W.K = K → SS W Hs s σ H → Post W E Hs σ (okF W σ) Q (m s) → t σ H Q
def SndT (K : Frag) (E : XK) (t : TT) (m : MT) : Prop := ∀ (W : Wd) s σ H Hs (Q : Bool → Hp → Prop), W.K = K → SS W Hs s σ H → Post W E Hs σ okT Q (m s) → t σ H Q
def SndO (K : Frag) (E : XK) (t : TO) (m : MO) : Prop := ∀ (W : Wd) s σ H Hs (Q : Option Int → Hp → Prop), W.K = K → SS W Hs s σ H → Post W E Hs σ okO Q (m s) → t σ H Q
def SndA (K : Frag) (E : XK) (t : TA) (m : MA) : Prop := ∀ (W : Wd) s σ H Hs (Q : List V → Hp → Prop), W.K = K → SS W Hs s σ H → Post W E Hs σ (okA W σ) Q (m s) → t σ H Q
section
variable {W : Wd} {E : XK} {Hs Hs' H H' : Hp} {σ : L2.St} {s : S}
theorem PostX.up {e : Ex} {s' : S} (h : PostX W E Hs e s') (g : Same Hs Hs') : PostX W E Hs' e s' := fun σ' H1 Hs1 cls d g1 x r => h σ' H1 Hs1 cls d (Same.trans' g g1) x r
theorem Post.up {α β : Type} {Ok : α → S → Hp → Hp → β → Prop} {Q : β → Hp → Prop} {r : R (α × S)} (h : Post W E Hs σ Ok Q r) (g : Same Hs Hs') : Post W E Hs' σ Ok Q r := by
  cases r with
  | ok p => exact fun v H1 Hs1 g1 x o => h v H1 Hs1 (Same.trans' g g1) x o
  | ex e s' => exact PostX.up h g
  | stuck => exact h
/-- a part, then the rest -/
theorem Post.bind {α β γ δ : Type} {Ok : α → S → Hp → Hp → β → Prop} {Ok2 : γ → S → Hp → Hp → δ → Prop} {Q : β → Hp → Prop} {Q2 : δ → Hp → Prop} {r : R (α × S)} {f : α × S → R (γ × S)} (h : Post W E Hs σ Ok2 Q2 (r.bind f))
    (k : ∀ x s' v H' Hs', r = .ok (x, s') → Same Hs Hs' → SS W Hs' s' σ H' → Ok x s' Hs' H' v → Post W E Hs' σ Ok2 Q2 (f (x, s')) → Q v H') : Post W E Hs σ Ok Q r := by
  cases r with
  | ok p =>
    obtain ⟨x, s'⟩ := p
    exact fun v H1 Hs1 g x1 o => k x s' v H1 Hs1 rfl g x1 o (Post.up h g)
  | ex e s' => exact h
  | stuck => exact h
theorem Post.ofO {α γ δ : Type} {Ok2 : γ → S → Hp → Hp → δ → Prop} {Q2 : δ → Hp → Prop} {o : Option α} {f : α → R (γ × S)} (h : Post W E Hs σ Ok2 Q2 ((ofO o).bind f)) : ∃ a, o = some a ∧ Post W E Hs σ Ok2 Q2 (f a) := by
  cases o with
  | none => exact h.elim
  | some a => exact ⟨a, rfl, h⟩
end
/-! ### names, constants -/
def mVar (i : Nat) : ME := fun s => match s.g[i]? with
  | some (.sh d) => .ok (.val d, s)
  | some (.ow none d) => .ok (.val d, ⟨s.g.set i (.sh d), s.p⟩)
  | _ => .stuck
def mBor (i : Nat) : ME := fun s => match (s.g[i]?).bind slotD with
  | some _ => .ok (.bor i, s)
  | none => .stuck
def mC (d : D) : ME := fun s => .ok (.val d, s)
section
variable {K : Frag} {E : XK}
/-- the cell of a becomes part of the pool -/
theorem freeze {W : Wd} {Hs H : Hp} {s s2 : S} {σ : L2.St} {a : Addr} {o : HO} {d : D} (x : SS W Hs s σ H) (ho : H a = some o) (np : Hs a = none) (nf : W.Fr a = none) (npa : a ≠ W.pa) (r : RepC W.K W.pa Hs d o) (hp : s2.p = s.p) (hlen : s2.g.length = s.g.length)
    (sl : ∀ (i : Nat) y, s2.g[i]? = some y → (s.g[i]? = some y ∧ ∀ l e, y = .ow l e → σ[i]? ≠ some (some (.ref a))) ∨ (y = .sh d ∧ σ[i]? = some (some (.ref a))) ∨ y = .no) : Same Hs (upd Hs a o) ∧ SS W (upd Hs a o) s2 σ H ∧ Rep W.K W.pa (upd Hs a o) d (.ref a) := by
  have g : Same Hs (upd Hs a o) := fun b u e => by rw [upd_ne (ne_of_none e np)]; exact e
  have rep : Rep W.K W.pa (upd Hs a o) d (.ref a) := by
    cases d with
    | lst ds => obtain ⟨vs, e1, h1⟩ := r; subst e1; exact ⟨a, vs, rfl, upd_same, h1.up g⟩
    | dct ks ds => obtain ⟨vs, e1, e2, h1⟩ := r; subst e1; exact ⟨a, vs, rfl, upd_same, e2, h1.up g⟩
    | obj c ns ds => obtain ⟨dx, gs, e1, e2, h1⟩ := r; subst e1; exact ⟨a, dx, gs, rfl, upd_same, e2, h1.up g⟩
    | _ => exact r.elim
  refine ⟨g, ⟨by rw [hlen]; exact x.len, fun b u e => ?_, fun b u e => ?_, ?_, fun i y e => ?_, fun i j l m d1 d2 c e1 e2 hij s1 => ?_⟩, rep⟩
  · by_cases hb : b = a
    · subst hb; rw [upd_same] at e; cases e; exact .inl ho
    · rw [upd_ne hb] at e; exact x.pool b u e
  · have z := x.fr b u e
    refine ⟨z.1, ?_⟩
    rw [upd_ne (fun q => by rw [q, nf] at e; cases e)]
    exact z.2
  · rw [hp]
    exact ⟨x.pt.1, by rw [upd_ne (fun q => npa q.symm)]; exact x.pt.2.1, x.pt.2.2⟩
  · rcases sl i y e with ⟨h1, h2⟩ | ⟨h1, h2⟩ | h1
    · have z := x.slot i y h1
      cases y with
      | no => trivial
      | sh d' => obtain ⟨u, q1, q2⟩ := z; exact ⟨u, q1, q2.up g⟩
      | ow l d' =>
        obtain ⟨b, q1, ⟨o', q2, q3⟩, q4, q5⟩ := z
        refine ⟨b, q1, ⟨o', q2, q3.up g⟩, ?_, q5⟩
        rw [upd_ne (fun q => h2 l d' rfl (by rw [q1, q]))]
        exact q4
    · subst h1
      exact ⟨_, h2, rep⟩
    · subst h1
      trivial
  · rcases sl i _ e1 with ⟨h1, _⟩ | ⟨h1, _⟩ | h1
    · rcases sl j _ e2 with ⟨h3, _⟩ | ⟨h3, _⟩ | h3
      · exact x.apart i j l m d1 d2 c h1 h3 hij s1
      · cases h3
      · cases h3
    · cases h1
    · cases h1
theorem snd_var (i : Nat) : SndE K E (tVar i) (mVar i) := fun W s σ H Hs Q _ x h => by
  unfold mVar at h
  cases e : s.g[i]? with
  | none => rw [e] at h; exact h.elim
  | some y =>
    rw [e] at h
    have z := x.slot i y e
    cases y with
    | no => exact h.elim
    | sh d =>
      obtain ⟨u, q1, q2⟩ := z
      exact ⟨u, q1, h u H Hs (Same.rfl' _) x q2⟩
    | ow l d =>
      cases l with
      | some k => exact h.elim
      | none =>
        obtain ⟨a, q1, ⟨o, q2, q3⟩, q4, q5, q6, q7⟩ := z
        refine ⟨_, q1, ?_⟩
        obtain ⟨g, x2, r⟩ := freeze (s2 := ⟨s.g.set i (.sh d), s.p⟩) x q2 q4 q5 q6 q3 rfl (by simp) (fun j y e2 => by
          have e2 : (s.g.set i (.sh d))[j]? = some y := e2
          by_cases hj : i = j
          · subst hj
            have hi : i < s.g.length := (List.getElem?_eq_some_iff.mp e).1
            rw [List.getElem?_set_self hi] at e2
            cases e2
            exact .inr (.inl ⟨rfl, q1⟩)
          · rw [List.getElem?_set_ne hj] at e2
            refine .inl ⟨e2, fun l2 e3 ey => ?_⟩
            subst ey
            exact x.apart i j _ _ _ _ a e e2 hj q1)
        exact h _ H _ g x2 r
theorem snd_bor (i : Nat) : SndE K E (tVar i) (mBor i) := fun W s σ H Hs Q _ x h => by
  unfold mBor at h
  cases e : s.g[i]? with
  | none => rw [e] at h; exact h.elim
  | some y =>
    rw [e] at h
    have z := x.slot i y e
    cases y with
    | no => exact h.elim
    | sh d => obtain ⟨u, q1, q2⟩ := z; exact ⟨u, q1, h u H Hs (Same.rfl' _) x q1⟩
    | ow l d => obtain ⟨a, q1, _⟩ := z; exact ⟨_, q1, h _ H Hs (Same.rfl' _) x q1⟩
theorem snd_c {v : V} (d : D) (hv : ∀ pa H, Rep K pa H d v) : SndE K E (tC v) (mC d) := fun W s σ H Hs Q hK x h => h v H Hs (Same.rfl' _) x (by subst hK; exact hv _ _)
theorem snd_int {i : Int} : SndE K E (tC (.int i)) (mC (.int i)) := snd_c _ fun _ _ => rfl
theorem snd_bl {i : Bool} : SndE K E (tC (.bl i)) (mC (.bl i)) := snd_c _ fun _ _ => rfl
theorem snd_str {i : Str} : SndE K E (tC (.str i)) (mC (.str i)) := snd_c _ fun _ _ => rfl
theorem snd_non : SndE K E (tC .non) (mC .non) := snd_c _ fun _ _ => rfl
theorem snd_ty {n : String} : SndE K E (tC (.ty n)) (mC (.ty n)) := snd_c _ fun _ _ => rfl
theorem snd_cls {c : Str} : SndE K E (tC (.ref (He.ga K c))) (mC (.cls c)) := snd_c _ fun _ _ => rfl
/-- a new thing is kept for good -/
def fz (m : MF) : ME := fun s => (m s).bind fun p => .ok (.val p.1, p.2)
theorem snd_fz {t : TE} {m : MF} (h : SndF K E t m) : SndE K E t (fz m) := fun W s σ H Hs Q hK x q => by
  refine h W s σ H Hs Q hK x (Post.bind q fun d s' v H' Hs' _ g x' ok q' => ?_)
  obtain ⟨a, rfl, fr⟩ := ok
  obtain ⟨o, h1, h2⟩ := fr.at_
  obtain ⟨g2, x2, r⟩ := freeze (s2 := s') x' h1 fr.np fr.nf fr.npa h2 rfl rfl fun i y e => .inl ⟨e, fun l e2 ey => fr.ns i l e2 (by rw [e, ey])⟩
  exact q' _ H' _ g2 x2 r
/-! ### operators -/
def OpS (K : Frag) (r : R2) (f : D → D → Option D) : Prop := ∀ (pa : Addr) (Hs H : Hp) a b x y d (Q : VK), PoolOk Hs H → RepT K pa Hs H a x → RepT K pa Hs H b y → f a b = some d → (∀ v Hs' H', Gr Hs H Hs' H' → Rep K pa Hs' d v → Q v H') → r x y H Q
def UnS (K : Frag) (r : V → Hp → VK → Prop) (f : D → Option D) : Prop := ∀ (pa : Addr) (Hs H : Hp) a x d (Q : VK), PoolOk Hs H → RepT K pa Hs H a x → f a = some d → (∀ v Hs' H', Gr Hs H Hs' H' → Rep K pa Hs' d v → Q v H') → r x H Q
def mOp (f : D → D → Option D) (ma mb : ME) : ME := fun s => (ma s).bind fun p => (mb p.2).bind fun q => (ofO (view q.2 p.1)).bind fun a => (ofO (view q.2 q.1)).bind fun b => (ofO (f a b)).bind fun d => .ok (.val d, q.2)
def mUn (f : D → Option D) (ma : ME) : ME := fun s => (ma s).bind fun p => (ofO (view p.2 p.1)).bind fun a => (ofO (f a)).bind fun d => .ok (.val d, p.2)
theorem snd_op {r : R2} {f : D → D → Option D} {ta tb : TE} {ma mb : ME} (ho : OpS K r f) (ha : SndE K E ta ma) (hb : SndE K E tb mb) : SndE K E (tOp r ta tb) (mOp f ma mb) := fun W s σ H Hs Q hK x q => by
  refine ha W s σ H Hs _ hK x (Post.bind q fun xa s1 v H1 Hs1 _ g1 x1 o1 q1 => ?_)
  refine hb W s1 σ H1 Hs1 _ hK x1 (Post.bind q1 fun xb s2 w H2 Hs2 _ g2 x2 o2 q2 => ?_)
  obtain ⟨a, ea, q3⟩ := q2.ofO
  obtain ⟨b, eb, q4⟩ := q3.ofO
  obtain ⟨d, ed, q5⟩ := q4.ofO
  subst hK
  exact ho W.pa Hs2 H2 a b v w d Q x2.pool (ArgOk.t x2 (ArgOk.up g2 o1) ea) (ArgOk.t x2 o2 eb) ed fun u Hs' H' g r => q5 u H' Hs' g.s (x2.grow g) r
theorem snd_un {r : V → Hp → VK → Prop} {f : D → Option D} {ta : TE} {ma : ME} (ho : UnS K r f) (ha : SndE K E ta ma) : SndE K E (tUn r ta) (mUn f ma) := fun W s σ H Hs Q hK x q => by
  refine ha W s σ H Hs _ hK x (Post.bind q fun xa s1 v H1 Hs1 _ g1 x1 o1 q1 => ?_)
  obtain ⟨a, ea, q3⟩ := q1.ofO
  obtain ⟨d, ed, q5⟩ := q3.ofO
  subst hK
  exact ho W.pa Hs1 H1 a v d Q x1.pool (ArgOk.t x1 o1 ea) ed fun u Hs' H' g r => q5 u H' Hs' g.s (x1.grow g) r
/-! ### tests -/
def asB : D → Option Bool
  | .bl b => some b
  | _ => none
theorem asB_of {pa : Addr} {Hs H : Hp} {a : D} {v : V} {b : Bool} (h : asB a = some b) (r : RepT K pa Hs H a v) : v = .bl b := by
  cases a with
  | bl c => cases h; exact r
  | _ => cases h
def mTest (m : ME) : MT := fun s => (m s).bind fun p => (ofO ((view p.2 p.1).bind asB)).bind fun b => .ok (b, p.2)
theorem snd_test0 {t : TE} {m : ME} (h : SndE K E t m) : SndT K E (fun σ H Q => t σ H fun x H' => ∃ k, x = .bl k ∧ Q k H') (mTest m) := fun W s σ H Hs Q hK x q => by
  refine h W s σ H Hs _ hK x (Post.bind q fun xa s1 v H1 Hs1 _ g1 x1 o1 q1 => ?_)
  obtain ⟨b, eb, q2⟩ := q1.ofO
  cases ea : view s1 xa with
  | none => rw [ea] at eb; cases eb
  | some a =>
    rw [ea] at eb
    exact ⟨b, asB_of eb (ArgOk.t x1 o1 ea), q2 b H1 Hs1 (Same.rfl' _) x1 rfl⟩
theorem snd_test {t : TE} {m : ME} (h : SndE K E t m) : SndT K E (tTest t) (mTest m) := snd_test0 h
theorem snd_tb {t : TE} {m : ME} (h : SndE K E t m) : SndT K E (tB t) (mTest m) := snd_test0 h
def mAnd (m n : MT) : MT := fun s => (m s).bind fun p => if p.1 = true then n p.2 else .ok (false, p.2)
def mOr (m n : MT) : MT := fun s => (m s).bind fun p => if p.1 = true then .ok (true, p.2) else n p.2
def mNot (m : MT) : MT := fun s => (m s).bind fun p => .ok (!p.1, p.2)
theorem snd_and {t u : TT} {m n : MT} (h : SndT K E t m) (k : SndT K E u n) : SndT K E (tAnd t u) (mAnd m n) := fun W s σ H Hs Q hK x q => by
  refine h W s σ H Hs _ hK x (Post.bind q fun b s1 v H1 Hs1 _ g1 x1 o1 q1 => ?_)
  cases (show v = b from o1)
  cases b with
  | true => exact k W s1 σ H1 Hs1 Q hK x1 q1
  | false => exact q1 false H1 Hs1 (Same.rfl' _) x1 rfl
theorem snd_or {t u : TT} {m n : MT} (h : SndT K E t m) (k : SndT K E u n) : SndT K E (tOr t u) (mOr m n) := fun W s σ H Hs Q hK x q => by
  refine h W s σ H Hs _ hK x (Post.bind q fun b s1 v H1 Hs1 _ g1 x1 o1 q1 => ?_)
  cases (show v = b from o1)
  cases b with
  | false => exact k W s1 σ H1 Hs1 Q hK x1 q1
  | true => exact q1 true H1 Hs1 (Same.rfl' _) x1 rfl
theorem snd_not {t : TT} {m : MT} (h : SndT K E t m) : SndT K E (tNot t) (mNot m) := fun W s σ H Hs Q hK x q => by
  refine h W s σ H Hs _ hK x (Post.bind q fun b s1 v H1 Hs1 _ g1 x1 o1 q1 => ?_)
  cases (show v = b from o1)
  exact q1 _ H1 Hs1 (Same.rfl' _) x1 rfl
theorem snd_yes : SndT K E tYes (fun s => .ok (true, s)) := fun W s σ H Hs Q hK x q => q true H Hs (Same.rfl' _) x rfl
/-- as values -/
def mAndV (m n : ME) : ME := fun s => (mTest m s).bind fun p => if p.1 = true then n p.2 else .ok (.val (.bl false), p.2)
def mOrV (m n : ME) : ME := fun s => (mTest m s).bind fun p => if p.1 = true then .ok (.val (.bl true), p.2) else n p.2
def mNotV (m : ME) : ME := fun s => (mTest m s).bind fun p => .ok (.val (.bl (!p.1)), p.2)
theorem snd_andV {t u : TE} {m n : ME} (h : SndE K E t m) (k : SndE K E u n) : SndE K E (tAndV t u) (mAndV m n) := fun W s σ H Hs Q hK x q => by
  refine snd_test0 h W s σ H Hs (fun c H1 => if c = true then u σ H1 Q else Q (.bl false) H1) hK x (Post.bind q fun b s1 v H1 Hs1 _ g1 x1 o1 q1 => ?_)
  cases (show v = b from o1)
  cases b with
  | true => exact k W s1 σ H1 Hs1 Q hK x1 q1
  | false => exact q1 _ H1 Hs1 (Same.rfl' _) x1 rfl
theorem snd_orV {t u : TE} {m n : ME} (h : SndE K E t m) (k : SndE K E u n) : SndE K E (tOrV t u) (mOrV m n) := fun W s σ H Hs Q hK x q => by
  refine snd_test0 h W s σ H Hs (fun c H1 => if c = true then Q (.bl true) H1 else u σ H1 Q) hK x (Post.bind q fun b s1 v H1 Hs1 _ g1 x1 o1 q1 => ?_)
  cases (show v = b from o1)
  cases b with
  | false => exact k W s1 σ H1 Hs1 Q hK x1 q1
  | true => exact q1 _ H1 Hs1 (Same.rfl' _) x1 rfl
theorem snd_notV {t : TE} {m : ME} (h : SndE K E t m) : SndE K E (tNotV t) (mNotV m) := fun W s σ H Hs Q hK x q => by
  refine snd_test0 h W s σ H Hs (fun c H1 => Q (.bl (!c)) H1) hK x (Post.bind q fun b s1 v H1 Hs1 _ g1 x1 o1 q1 => ?_)
  cases (show v = b from o1)
  exact q1 _ H1 Hs1 (Same.rfl' _) x1 rfl
def mIf (c : MT) (m n : ME) : ME := fun s => (c s).bind fun p => if p.1 = true then m p.2 else n p.2
theorem snd_if {c : TT} {t u : TE} {mc : MT} {m n : ME} (hc : SndT K E c mc) (h : SndE K E t m) (k : SndE K E u n) : SndE K E (tIf c t u) (mIf mc m n) := fun W s σ H Hs Q hK x q => by
  refine hc W s σ H Hs _ hK x (Post.bind q fun b s1 v H1 Hs1 _ g1 x1 o1 q1 => ?_)
  cases (show v = b from o1)
  cases b with
  | true => exact h W s1 σ H1 Hs1 Q hK x1 q1
  | false => exact k W s1 σ H1 Hs1 Q hK x1 q1
/-! ### arguments -/
def mNil : MA := fun s => .ok ([], s)
def mCons (m : ME) (n : MA) : MA := fun s => (m s).bind fun p => (n p.2).bind fun q => .ok (p.1 :: q.1, q.2)
theorem snd_nil : SndA K E tNil mNil := fun W s σ H Hs Q hK x q => q [] H Hs (Same.rfl' _) x .nil
theorem ArgsOk.up {W : Wd} {Hs Hs' : Hp} {σ : L2.St} {xs : List Arg} {vs : List V} (e : Same Hs Hs') (h : ArgsOk W Hs σ xs vs) : ArgsOk W Hs' σ xs vs := by
  induction h with
  | nil => exact .nil
  | cons h _ ih => exact .cons (ArgOk.up e h) ih
theorem snd_cons {t : TE} {u : TA} {m : ME} {n : MA} (h : SndE K E t m) (k : SndA K E u n) : SndA K E (tCons t u) (mCons m n) := fun W s σ H Hs Q hK x q => by
  refine h W s σ H Hs _ hK x (Post.bind q fun xa s1 v H1 Hs1 _ g1 x1 o1 q1 => ?_)
  refine k W s1 σ H1 Hs1 _ hK x1 (Post.bind q1 fun xs s2 vs H2 Hs2 _ g2 x2 o2 q2 => ?_)
  exact q2 _ H2 Hs2 (Same.rfl' _) x2 (.cons (ArgOk.up g2 o1) o2)
/-- all of them seen -/
def views (s : S) : List Arg → Option (List D)
  | [] => some []
  | x :: xs => (view s x).bind fun d => (views s xs).map (d :: ·)
inductive RepTs (K : Frag) (pa : Addr) (Hs H : Hp) : List D → List V → Prop where
  | nil : RepTs K pa Hs H [] []
  | cons {d v ds vs} : RepT K pa Hs H d v → RepTs K pa Hs H ds vs → RepTs K pa Hs H (d :: ds) (v :: vs)
theorem ArgsOk.t {W : Wd} {Hs H : Hp} {s : S} {σ : L2.St} (x : SS W Hs s σ H) {xs : List Arg} {vs : List V} (h : ArgsOk W Hs σ xs vs) : ∀ {ds : List D}, views s xs = some ds → RepTs W.K W.pa Hs H ds vs := by
  induction h with
  | nil => intro ds e; cases e; exact .nil
  | @cons y v xs vs h _ ih =>
    intro ds e
    unfold views at e
    cases e1 : view s y with
    | none => rw [e1] at e; cases e
    | some d =>
      rw [e1] at e
      cases e2 : views s xs with
      | none => rw [e2] at e; cases e
      | some es =>
        rw [e2] at e
        cases e
        exact .cons (ArgOk.t x h e1) (ih e2)
/-- all of them for good: what is a cell of its own is frozen -/
def vals : List Arg → Option (List D)
  | [] => some []
  | .val d :: xs => (vals xs).map (d :: ·)
  | .bor _ :: _ => none
theorem ArgsOk.vals {W : Wd} {Hs : Hp} {σ : L2.St} {xs : List Arg} {vs : List V} (h : ArgsOk W Hs σ xs vs) : ∀ {ds : List D}, vals xs = some ds → RepL W.K W.pa Hs ds vs := by
  induction h with
  | nil => intro ds e; cases e; exact rfl
  | @cons y v xs vs h _ ih =>
    intro ds e
    cases y with
    | bor i => cases e
    | val d =>
      unfold Mi.vals at e
      cases e2 : Mi.vals xs with
      | none => rw [e2] at e; cases e
      | some es =>
        rw [e2] at e
        cases e
        exact ⟨v, vs, rfl, h, ih e2⟩
/-! ### displays, builtins -/
theorem fresh_new {W : Wd} {Hs H : Hp} {s : S} {σ : L2.St} {p : Addr} {o : HO} {d : D} (x : SS W Hs s σ H) (hp : H p = none) (r : RepC W.K W.pa Hs d o) : SS W Hs s σ (upd H p o) ∧ Fresh W s σ Hs (upd H p o) p d := by
  have ne : ∀ b u, H b = some u → b ≠ p := fun b u e => ne_of_none e hp
  refine ⟨⟨x.len, fun b u e => ?_, fun b u e => ?_, ?_, fun i y e => ?_, x.apart⟩, ⟨⟨o, upd_same, r⟩, x.pool.none_of hp, ?_, fun q => ?_, fun i l e h1 h2 => ?_⟩⟩
  · have hb : b ≠ p := fun q => by rw [q, x.pool.none_of hp] at e; cases e
    rw [upd_ne hb]
    exact x.pool b u e
  · have z := x.fr b u e
    exact ⟨by rw [upd_ne (ne b u z.1)]; exact z.1, z.2⟩
  · exact ⟨by rw [upd_ne (ne _ _ x.pt.1)]; exact x.pt.1, x.pt.2⟩
  · have z := x.slot i y e
    cases y with
    | no => trivial
    | sh d' => exact z
    | ow l d' =>
      obtain ⟨b, q1, ⟨o', q2, q3⟩, q4⟩ := z
      exact ⟨b, q1, ⟨o', by rw [upd_ne (ne _ _ q2)]; exact q2, q3⟩, q4⟩
  · cases q : W.Fr p with
    | none => rfl
    | some u =>
      have z := (x.fr p u q).1
      rw [hp] at z
      cases z
  · rw [q] at hp
    rw [x.pt.1] at hp
    cases hp
  · obtain ⟨b, q1, ⟨o', q2, _⟩, _⟩ := x.slot i _ h1
    rw [q1] at h2
    cases h2
    rw [hp] at q2
    cases q2
def mLst (m : MA) : MF := fun s => (m s).bind fun p => (ofO (vals p.1)).bind fun ds => if ds.length ≤ 100000 then .ok (.lst ds, p.2) else .stuck
def mTup (m : MA) : ME := fun s => (m s).bind fun p => (ofO (vals p.1)).bind fun ds => if ds.length ≤ 100000 then .ok (.val (.tup ds), p.2) else .stuck
theorem snd_lst {t : TA} {m : MA} (h : SndA K E t m) : SndF K E (tLst t) (mLst m) := fun W s σ H Hs Q hK x q => by
  refine h W s σ H Hs _ hK x (Post.bind q fun xs s1 vs H1 Hs1 _ g1 x1 o1 q1 => ?_)
  obtain ⟨ds, ed, q2⟩ := q1.ofO
  have r := o1.vals ed
  by_cases hl : ds.length ≤ 100000
  · rw [if_pos hl] at q2
    refine ⟨by rw [← r.len]; exact Evl.sz_of hl, fun p hp => ?_⟩
    obtain ⟨x2, fr⟩ := fresh_new (o := .lst vs) (d := .lst ds) x1 hp ⟨vs, rfl, r⟩
    exact q2 _ _ Hs1 (Same.rfl' _) x2 ⟨p, rfl, fr⟩
  · rw [if_neg hl] at q2
    exact q2.elim
theorem snd_tup {t : TA} {m : MA} (h : SndA K E t m) : SndE K E (tTup t) (mTup m) := fun W s σ H Hs Q hK x q => by
  refine h W s σ H Hs _ hK x (Post.bind q fun xs s1 vs H1 Hs1 _ g1 x1 o1 q1 => ?_)
  obtain ⟨ds, ed, q2⟩ := q1.ofO
  have r := o1.vals ed
  by_cases hl : ds.length ≤ 100000
  · rw [if_pos hl] at q2
    refine ⟨by rw [← r.len]; exact Evl.sz_of hl, fun p hp => ?_⟩
    have g := gr_new (o := .tup vs) x1.pool hp
    exact q2 _ _ _ g.s (x1.grow g) ⟨p, vs, rfl, upd_same, r.up g.s⟩
  · rw [if_neg hl] at q2
    exact q2.elim
def CallS (K : Frag) (r : List V → Hp → VK → Prop) (f : List D → Option D) : Prop := ∀ (pa : Addr) (Hs H : Hp) ds vs d (Q : VK), PoolOk Hs H → RepTs K pa Hs H ds vs → f ds = some d → (∀ v Hs' H', Gr Hs H Hs' H' → Rep K pa Hs' d v → Q v H') → r vs H Q
def mCB (f : List D → Option D) (m : MA) : ME := fun s => (m s).bind fun p => (ofO (views p.2 p.1)).bind fun ds => (ofO (f ds)).bind fun d => .ok (.val d, p.2)
theorem snd_cb {r : List V → Hp → VK → Prop} {f : List D → Option D} {t : TA} {m : MA} (hc : CallS K r f) (h : SndA K E t m) : SndE K E (tCB r t) (mCB f m) := fun W s σ H Hs Q hK x q => by
  refine h W s σ H Hs _ hK x (Post.bind q fun xs s1 vs H1 Hs1 _ g1 x1 o1 q1 => ?_)
  obtain ⟨ds, ed, q2⟩ := q1.ofO
  obtain ⟨d, e2, q3⟩ := q2.ofO
  subst hK
  exact hc W.pa Hs1 H1 ds vs d Q x1.pool (o1.t x1 ed) e2 fun u Hs' H' g r => q3 u H' Hs' g.s (x1.grow g) r
end
end Mi

namespace Mi
open PySem PySem.Spec PyProof.Rows L2
open PySem.W (Frag)
/-! ### statements -/
structure Keep (ws : List Nat) (σ σ' : L2.St) : Prop where
  len : σ'.length = σ.length
  at_ : ∀ i : Nat, i ∉ ws → σ'[i]? = σ[i]?
theorem Keep.refl {ws : List Nat} {σ : L2.St} : Keep ws σ σ := ⟨rfl, fun _ _ => rfl⟩
theorem Keep.trans {ws : List Nat} {σ σ1 σ2 : L2.St} (a : Keep ws σ σ1) (b : Keep ws σ1 σ2) : Keep ws σ σ2 := ⟨b.len.trans a.len, fun i h => (b.at_ i h).trans (a.at_ i h)⟩
theorem Keep.mono {ws us : List Nat} {σ σ1 : L2.St} (a : Keep ws σ σ1) (h : ∀ i ∈ ws, i ∈ us) : Keep us σ σ1 := ⟨a.len, fun i hi => a.at_ i fun z => hi (h i z)⟩
theorem Keep.set {i : Nat} {σ : L2.St} {v : Option V} : Keep [i] σ (σ.set i v) := ⟨List.length_set .., fun j h => by rw [List.getElem?_set_ne (fun e => h (by simp [e]))]⟩
def PostS (W : Wd) (E : XK) (Hs : Hp) (σ : L2.St) (ws : List Nat) (Dn : Ends) (r : R (Fl × S)) : Prop := match r with
  | .ok (.nx, s') => ∀ σ' H' Hs', Same Hs Hs' → Keep ws σ σ' → SS W Hs' s' σ' H' → Dn.nx σ' H'
  | .ok (.bk, s') => ∀ σ' H' Hs', Same Hs Hs' → Keep ws σ σ' → SS W Hs' s' σ' H' → Dn.bk σ' H'
  | .ok (.ct, s') => ∀ σ' H' Hs', Same Hs Hs' → Keep ws σ σ' → SS W Hs' s' σ' H' → Dn.ct σ' H'
  | .ok (.rt d, s') => ∀ v σ' H' Hs', Same Hs Hs' → SS W Hs' s' σ' H' → Rep W.K W.pa Hs' d v → Dn.rt v H'
  | .ex e s' => PostX W E Hs e s'
  | .stuck => False
def SndS (K : Frag) (E : XK) (ws : List Nat) (t : TS) (m : MS) : Prop := ∀ (W : Wd) s σ H Hs (Dn : Ends), W.K = K → SS W Hs s σ H → PostS W E Hs σ ws Dn (m s) → t Dn σ H
section
variable {K : Frag} {E : XK} {W : Wd} {Hs Hs' H H' : Hp} {σ σ' : L2.St} {s : S} {ws : List Nat}
theorem PostS.up {Dn : Ends} {r : R (Fl × S)} (h : PostS W E Hs σ ws Dn r) (g : Same Hs Hs') (k : Keep ws σ σ') : PostS W E Hs' σ' ws Dn r := by
  cases r with
  | ok p =>
    obtain ⟨f, s'⟩ := p
    cases f with
    | nx => exact fun σ2 H2 Hs2 g2 k2 x => h σ2 H2 Hs2 (Same.trans' g g2) (k.trans k2) x
    | bk => exact fun σ2 H2 Hs2 g2 k2 x => h σ2 H2 Hs2 (Same.trans' g g2) (k.trans k2) x
    | ct => exact fun σ2 H2 Hs2 g2 k2 x => h σ2 H2 Hs2 (Same.trans' g g2) (k.trans k2) x
    | rt d => exact fun v σ2 H2 Hs2 g2 x r => h v σ2 H2 Hs2 (Same.trans' g g2) x r
  | ex e s' => exact PostX.up h g
  | stuck => exact h
/-- an expression, then the rest -/
theorem PostS.bind {α β : Type} {Ok : α → S → Hp → Hp → β → Prop} {Q : β → Hp → Prop} {Dn : Ends} {r : R (α × S)} {f : α × S → R (Fl × S)} (h : PostS W E Hs σ ws Dn (r.bind f))
    (k : ∀ x s' v H' Hs', r = .ok (x, s') → Same Hs Hs' → SS W Hs' s' σ H' → Ok x s' Hs' H' v → PostS W E Hs' σ ws Dn (f (x, s')) → Q v H') : Post W E Hs σ Ok Q r := by
  cases r with
  | ok p =>
    obtain ⟨x, s'⟩ := p
    exact fun v H1 Hs1 g x1 o => k x s' v H1 Hs1 rfl g x1 o (PostS.up h g .refl)
  | ex e s' => exact h
  | stuck => exact h
theorem PostS.ofO {α : Type} {Dn : Ends} {o : Option α} {f : α → R (Fl × S)} (h : PostS W E Hs σ ws Dn ((ofO o).bind f)) : ∃ a, o = some a ∧ PostS W E Hs σ ws Dn (f a) := by
  cases o with
  | none => exact h.elim
  | some a => exact ⟨a, rfl, h⟩
theorem SndS.mono {us : List Nat} {t : TS} {m : MS} (h : SndS K E ws t m) (hw : ∀ i ∈ ws, i ∈ us) : SndS K E us t m := fun W s σ H Hs Dn hK x q => by
  refine h W s σ H Hs Dn hK x ?_
  cases e : m s with
  | ok p =>
    obtain ⟨f, s'⟩ := p
    rw [e] at q
    cases f with
    | nx => exact fun σ2 H2 Hs2 g2 k2 x => q σ2 H2 Hs2 g2 (k2.mono hw) x
    | bk => exact fun σ2 H2 Hs2 g2 k2 x => q σ2 H2 Hs2 g2 (k2.mono hw) x
    | ct => exact fun σ2 H2 Hs2 g2 k2 x => q σ2 H2 Hs2 g2 (k2.mono hw) x
    | rt d => exact q
  | ex e' s' => rw [e] at q; exact q
  | stuck => rw [e] at q; exact q
def sSkip : MS := fun s => .ok (.nx, s)
def sSeq (m n : MS) : MS := fun s => (m s).bind fun p => match p.1 with
  | .nx => n p.2
  | f => .ok (f, p.2)
theorem snd_skip : SndS K E [] tNext sSkip := fun W s σ H Hs Dn hK x q => q σ H Hs (Same.rfl' _) .refl x
theorem snd_seq {us : List Nat} {t u : TS} {m n : MS} (h : SndS K E ws t m) (k : SndS K E us u n) : SndS K E (ws ++ us) (tSeq t u) (sSeq m n) := fun W s σ H Hs Dn hK x q => by
  refine h W s σ H Hs { Dn with nx := u Dn } hK x ?_
  have q : PostS W E Hs σ (ws ++ us) Dn ((m s).bind fun p => match p.1 with
    | .nx => n p.2
    | f => .ok (f, p.2)) := q
  have mw : ∀ i ∈ ws, i ∈ ws ++ us := fun i hi => List.mem_append_left _ hi
  cases e : m s with
  | ok p =>
    obtain ⟨f, s'⟩ := p
    rw [e] at q
    cases f with
    | nx => exact fun σ2 H2 Hs2 g2 k2 x2 => (k.mono (fun i hi => List.mem_append_right _ hi)) W s' σ2 H2 Hs2 Dn hK x2 (PostS.up q g2 (k2.mono mw))
    | bk => exact fun σ2 H2 Hs2 g2 k2 x => q σ2 H2 Hs2 g2 (k2.mono mw) x
    | ct => exact fun σ2 H2 Hs2 g2 k2 x => q σ2 H2 Hs2 g2 (k2.mono mw) x
    | rt d => exact q
  | ex e' s' => rw [e] at q; exact q
  | stuck => rw [e] at q; exact q
def sExpr (m : ME) : MS := fun s => (m s).bind fun p => .ok (.nx, p.2)
theorem snd_expr {t : TE} {m : ME} (h : SndE K E t m) : SndS K E [] (tDrop t) (sExpr m) := fun W s σ H Hs Dn hK x q => by
  refine h W s σ H Hs _ hK x (PostS.bind q fun xa s1 v H1 Hs1 _ g1 x1 o1 q1 => ?_)
  exact q1 σ H1 Hs1 (Same.rfl' _) .refl x1
def sRet (m : ME) : MS := fun s => (m s).bind fun p => match p.1 with
  | .val d => .ok (.rt d, p.2)
  | .bor _ => .stuck
theorem snd_ret {t : TE} {m : ME} (h : SndE K E t m) : SndS K E [] (tRet t) (sRet m) := fun W s σ H Hs Dn hK x q => by
  refine h W s σ H Hs _ hK x (PostS.bind q fun xa s1 v H1 Hs1 _ g1 x1 o1 q1 => ?_)
  cases xa with
  | val d => exact q1 v σ H1 Hs1 (Same.rfl' _) x1 o1
  | bor i => exact q1.elim
def sRetN : MS := fun s => .ok (.rt .non, s)
theorem snd_retN : SndS K E [] tRetN sRetN := fun W s σ H Hs Dn hK x q => q .non σ H Hs (Same.rfl' _) x rfl
def sBreak : MS := fun s => .ok (.bk, s)
theorem snd_break : SndS K E [] tBreak sBreak := fun W s σ H Hs Dn hK x q => q σ H Hs (Same.rfl' _) .refl x
def sCont : MS := fun s => .ok (.ct, s)
theorem snd_cont : SndS K E [] tCont sCont := fun W s σ H Hs Dn hK x q => q σ H Hs (Same.rfl' _) .refl x
def sNever : MS := fun _ => .stuck
theorem snd_never : SndS K E [] tNever sNever := fun W s σ H Hs Dn hK x q => q.elim
def sIf (c : MT) (m n : MS) : MS := fun s => (c s).bind fun p => if p.1 = true then m p.2 else n p.2
theorem snd_ifS {us : List Nat} {c : TT} {t u : TS} {mc : MT} {m n : MS} (hc : SndT K E c mc) (h : SndS K E ws t m) (k : SndS K E us u n) : SndS K E (ws ++ us) (tIfS c t u) (sIf mc m n) := fun W s σ H Hs Dn hK x q => by
  refine hc W s σ H Hs _ hK x (PostS.bind q fun b s1 v H1 Hs1 _ g1 x1 o1 q1 => ?_)
  cases (show v = b from o1)
  cases b with
  | true => exact (h.mono (fun i hi => List.mem_append_left _ hi)) W s1 σ H1 Hs1 Dn hK x1 q1
  | false => exact (k.mono (fun i hi => List.mem_append_right _ hi)) W s1 σ H1 Hs1 Dn hK x1 q1
/-! ### stores -/
theorem ss_set {d : D} {v : V} (x : SS W Hs s σ H) (i : Nat) (r : Rep W.K W.pa Hs d v) : SS W Hs ⟨s.g.set i (.sh d), s.p⟩ (σ.set i (some v)) H where
  len := by simp [x.len]
  pool := x.pool
  fr := x.fr
  pt := x.pt
  slot := fun j y e => by
    have e : (s.g.set i (.sh d))[j]? = some y := e
    by_cases hj : i = j
    · subst hj
      have hi : i < s.g.length := by
        have := (List.getElem?_eq_some_iff.mp e).1
        simpa using this
      rw [List.getElem?_set_self hi] at e
      cases e
      exact ⟨v, by rw [List.getElem?_set_self (by rw [← x.len]; exact hi)], r⟩
    · rw [List.getElem?_set_ne hj] at e
      rw [List.getElem?_set_ne hj]
      exact x.slot j y e
  apart := fun j k l m d1 d2 a e1 e2 hjk s1 => by
    have e1 : (s.g.set i (.sh d))[j]? = some (.ow l d1) := e1
    have e2 : (s.g.set i (.sh d))[k]? = some (.ow m d2) := e2
    have h1 : i ≠ j := fun h => by
      subst h
      rw [List.getElem?_set_self (by have := (List.getElem?_eq_some_iff.mp e1).1; simpa using this)] at e1
      cases e1
    have h2 : i ≠ k := fun h => by
      subst h
      rw [List.getElem?_set_self (by have := (List.getElem?_eq_some_iff.mp e2).1; simpa using this)] at e2
      cases e2
    rw [List.getElem?_set_ne h1] at e1 s1
    rw [List.getElem?_set_ne h2] at e2 ⊢
    exact x.apart j k l m d1 d2 a e1 e2 hjk s1
theorem ss_setOwn {d : D} {a : Addr} (x : SS W Hs s σ H) (i : Nat) (f : Fresh W s σ Hs H a d) : SS W Hs ⟨s.g.set i (.ow none d), s.p⟩ (σ.set i (some (.ref a))) H where
  len := by simp [x.len]
  pool := x.pool
  fr := x.fr
  pt := x.pt
  slot := fun j y e => by
    have e : (s.g.set i (.ow none d))[j]? = some y := e
    by_cases hj : i = j
    · subst hj
      have hi : i < s.g.length := by
        have := (List.getElem?_eq_some_iff.mp e).1
        simpa using this
      rw [List.getElem?_set_self hi] at e
      cases e
      exact ⟨a, by rw [List.getElem?_set_self (by rw [← x.len]; exact hi)], f.at_, f.np, f.nf, f.npa, fun k z => nomatch z⟩
    · rw [List.getElem?_set_ne hj] at e
      rw [List.getElem?_set_ne hj]
      exact x.slot j y e
  apart := fun j k l m d1 d2 b e1 e2 hjk s1 => by
    have e1 : (s.g.set i (.ow none d))[j]? = some (.ow l d1) := e1
    have e2 : (s.g.set i (.ow none d))[k]? = some (.ow m d2) := e2
    by_cases h1 : i = j
    · subst h1
      have hi : i < s.g.length := by have := (List.getElem?_eq_some_iff.mp e1).1; simpa using this
      rw [List.getElem?_set_self (by rw [← x.len]; exact hi)] at s1
      cases s1
      rw [List.getElem?_set_ne hjk] at e2 ⊢
      exact f.ns k m d2 e2
    · rw [List.getElem?_set_ne h1] at e1 s1
      by_cases h2 : i = k
      · subst h2
        have hi : i < s.g.length := by have := (List.getElem?_eq_some_iff.mp e2).1; simpa using this
        rw [List.getElem?_set_self (by rw [← x.len]; exact hi)]
        intro z
        cases z
        exact f.ns j l d1 e1 s1
      · rw [List.getElem?_set_ne h2] at e2 ⊢
        exact x.apart j k l m d1 d2 b e1 e2 hjk s1
/-- a value to a target -/
abbrev MG := D → S → Option S
def SndG (K : Frag) (ws : List Nat) (g : TG) (m : MG) : Prop := ∀ (W : Wd) s σ H Hs d v s' (Q : L2.St → Hp → Prop), W.K = K → SS W Hs s σ H → Rep K W.pa Hs d v → m d s = some s' → (∀ σ', Keep ws σ σ' → SS W Hs s' σ' H → Q σ' H) → g v σ H Q
def SndGs (K : Frag) (ws : List Nat) (g : TGs) (m : List D → S → Option S) : Prop := ∀ (W : Wd) s σ H Hs ds vs s' (Q : L2.St → Hp → Prop), W.K = K → SS W Hs s σ H → RepL K W.pa Hs ds vs → m ds s = some s' → (∀ σ', Keep ws σ σ' → SS W Hs s' σ' H → Q σ' H) → g vs σ H Q
def gN (i : Nat) : MG := fun d s => some ⟨s.g.set i (.sh d), s.p⟩
def gTs (n : Nat) (m : List D → S → Option S) : MG := fun d s => match d with
  | .tup ds => if ds.length = n then m ds s else none
  | _ => none
def gsN : List D → S → Option S := fun ds s => match ds with
  | [] => some s
  | _ => none
def gsC (m : MG) (n : List D → S → Option S) : List D → S → Option S := fun ds s => match ds with
  | d :: ds => (m d s).bind fun s1 => n ds s1
  | [] => none
theorem snd_gn (i : Nat) : SndG K [i] (gName i) (gN i) := fun W s σ H Hs d v s' Q hK x r e k => by
  cases e
  exact k _ Keep.set (ss_set x i (hK ▸ r))
theorem snd_gsn : SndGs K [] gNil gsN := fun W s σ H Hs ds vs s' Q hK x r e k => by
  cases ds with
  | cons d ds => cases e
  | nil =>
    cases e
    exact ⟨r, k σ .refl x⟩
theorem snd_gsc {us : List Nat} {g : TG} {gs : TGs} {m : MG} {n : List D → S → Option S} (h : SndG K ws g m) (k : SndGs K us gs n) : SndGs K (ws ++ us) (gCons g gs) (gsC m n) := fun W s σ H Hs ds vs s' Q hK x r e q => by
  cases ds with
  | nil => cases e
  | cons d ds =>
    obtain ⟨v, ws', e1, r1, r2⟩ := r
    cases e2 : m d s with
    | none =>
      have e : (m d s).bind (fun s1 => n ds s1) = some s' := e
      rw [e2] at e
      cases e
    | some s1 =>
      have e : (m d s).bind (fun s1 => n ds s1) = some s' := e
      rw [e2] at e
      refine ⟨v, ws', e1, h W s σ H Hs d v s1 _ hK x r1 e2 fun σ1 k1 x1 => ?_⟩
      exact k W s1 σ1 H Hs ds ws' s' Q hK x1 r2 e fun σ2 k2 x2 => q σ2 ((k1.mono (fun i hi => List.mem_append_left _ hi)).trans (k2.mono (fun i hi => List.mem_append_right _ hi))) x2
theorem snd_gts {n : Nat} {gs : TGs} {m : List D → S → Option S} (h : SndGs K ws gs m) : SndG K ws (gTup K n gs) (gTs n m) := fun W s σ H Hs d v s' Q hK x r e k => by
  cases d with
  | tup ds =>
    obtain ⟨a, vs, e1, h1, h2⟩ := r
    have e : (if ds.length = n then m ds s else none) = some s' := e
    by_cases hl : ds.length = n
    · rw [if_pos hl] at e
      exact ⟨a, vs, e1, SqT.of (x.pool.at_ h1 (by intro _ z; cases z)), by rw [← h2.len]; exact hl, h W s σ H Hs ds vs s' Q hK x h2 e k⟩
    · rw [if_neg hl] at e
      cases e
  | _ => cases e
def sAsg (m : ME) (g : MG) : MS := fun s => (m s).bind fun p => match p.1 with
  | .val d => (ofO (g d p.2)).bind fun s' => .ok (.nx, s')
  | .bor _ => .stuck
theorem snd_asg {t : TE} {g : TG} {m : ME} {n : MG} (h : SndE K E t m) (k : SndG K ws g n) : SndS K E ws (tAsg t g) (sAsg m n) := fun W s σ H Hs Dn hK x q => by
  refine h W s σ H Hs _ hK x (PostS.bind q fun xa s1 v H1 Hs1 _ g1 x1 o1 q1 => ?_)
  cases xa with
  | bor i => exact q1.elim
  | val d =>
    obtain ⟨s2, e2, q2⟩ := q1.ofO
    exact k W s1 σ H1 Hs1 d v s2 _ hK x1 (hK ▸ o1) e2 fun σ' k2 x2 => q2 σ' H1 Hs1 (Same.rfl' _) k2 x2
/-- x = a new thing that will be written to -/
def sOwn (i : Nat) (m : MF) : MS := fun s => (m s).bind fun p => .ok (.nx, ⟨p.2.g.set i (.ow none p.1), p.2.p⟩)
theorem snd_own {t : TE} {m : MF} (i : Nat) (h : SndF K E t m) : SndS K E [i] (tAsg t (gName i)) (sOwn i m) := fun W s σ H Hs Dn hK x q => by
  refine h W s σ H Hs _ hK x (PostS.bind q fun d s1 v H1 Hs1 _ g1 x1 o1 q1 => ?_)
  obtain ⟨a, rfl, fr⟩ := o1
  exact q1 _ H1 Hs1 (Same.rfl' _) Keep.set (ss_setOwn x1 i fr)
def sPar (i j : Nat) (m : MA) : MS := fun s => (m s).bind fun p => match p.1 with
  | [.val a, .val b] => .ok (.nx, ⟨(p.2.g.set i (.sh a)).set j (.sh b), p.2.p⟩)
  | _ => .stuck
theorem snd_par {t : TA} {m : MA} (i j : Nat) (h : SndA K E t m) : SndS K E [i, j] (tPar i j t) (sPar i j m) := fun W s σ H Hs Dn hK x q => by
  refine h W s σ H Hs _ hK x (PostS.bind q fun xs s1 vs H1 Hs1 _ g1 x1 o1 q1 => ?_)
  cases o1 with
  | nil => exact q1.elim
  | @cons xa v xs vs h1 t1 =>
    cases t1 with
    | nil => cases xa <;> exact q1.elim
    | @cons xb w xs vs h2 t2 =>
      cases t2 with
      | cons => cases xa <;> cases xb <;> exact q1.elim
      | nil =>
        cases xa with
        | bor _ => exact q1.elim
        | val a =>
          cases xb with
          | bor _ => exact q1.elim
          | val b =>
            refine ⟨v, w, rfl, q1 _ H1 Hs1 (Same.rfl' _) ?_ (ss_set (ss_set x1 i h1) j h2)⟩
            exact (Keep.set.mono (by simp)).trans (Keep.set.mono (by simp))
/-! ### while -/
def whileF (c : MT) (b : MS) : Nat → S → R (Fl × S)
  | 0, _ => .stuck
  | n + 1, s => (c s).bind fun p => if p.1 = true then (b p.2).bind fun q => (match q.1 with
    | .nx => whileF c b n q.2
    | .ct => whileF c b n q.2
    | .bk => .ok (.nx, q.2)
    | .rt d => .ok (.rt d, q.2)) else .ok (.nx, p.2)
open Classical in
noncomputable def sWhile (c : MT) (b : MS) : MS := fun s => if h : ∃ n, whileF c b n s ≠ .stuck then whileF c b (choose h) s else .stuck
theorem whileF_up {c : MT} {b : MS} : ∀ {n : Nat} {s : S}, whileF c b n s ≠ .stuck → ∀ m, n ≤ m → whileF c b m s = whileF c b n s
  | 0, s, h, _, _ => absurd rfl h
  | n + 1, s, h, 0, hm => by omega
  | n + 1, s, h, m + 1, hm => by
    unfold whileF at h ⊢
    cases e : c s with
    | ok p =>
      rw [e] at h
      simp only [R.bind] at h ⊢
      by_cases hp : p.1 = true
      · rw [if_pos hp] at h
        rw [if_pos hp, if_pos hp]
        cases e2 : b p.2 with
        | ok q =>
          rw [e2] at h
          simp only at h ⊢
          cases e3 : q.1 with
          | nx => rw [e3] at h; exact whileF_up h m (by omega)
          | ct => rw [e3] at h; exact whileF_up h m (by omega)
          | bk => rfl
          | rt d => rfl
        | ex e' s' => rfl
        | stuck => rfl
      · rw [if_neg hp, if_neg hp]
    | ex e' s' => rfl
    | stuck => rfl
theorem sWhile_eq {c : MT} {b : MS} {n : Nat} {s : S} (h : whileF c b n s ≠ .stuck) : sWhile c b s = whileF c b n s := by
  have hx : ∃ n, whileF c b n s ≠ .stuck := ⟨n, h⟩
  unfold sWhile
  rw [dif_pos hx]
  have h2 := Classical.choose_spec hx
  generalize Classical.choose hx = k at h2
  rcases Nat.le_total n k with hk | hk
  · exact whileF_up h k hk
  · exact (whileF_up h2 n hk).symm
theorem sWhile_unfold {c : MT} {b : MS} {s : S} : sWhile c b s = (c s).bind fun p => if p.1 = true then (b p.2).bind fun q => (match q.1 with
    | .nx => sWhile c b q.2
    | .ct => sWhile c b q.2
    | .bk => .ok (.nx, q.2)
    | .rt d => .ok (.rt d, q.2)) else .ok (.nx, p.2) := by
  have st : ∀ s, (¬ ∃ n, whileF c b n s ≠ .stuck) → sWhile c b s = .stuck := fun s h => by unfold sWhile; rw [dif_neg h]
  have un : ∀ n, whileF c b (n + 1) s = (c s).bind fun p => if p.1 = true then (b p.2).bind fun q => (match q.1 with
    | .nx => whileF c b n q.2
    | .ct => whileF c b n q.2
    | .bk => .ok (.nx, q.2)
    | .rt d => .ok (.rt d, q.2)) else .ok (.nx, p.2) := fun n => by rfl
  cases e : c s with
  | stuck =>
    refine st s fun ⟨n, h⟩ => ?_
    cases n with
    | zero => exact h rfl
    | succ n => rw [un, e] at h; exact h rfl
  | ex e' s' =>
    have : whileF c b 1 s = .ex e' s' := by rw [un, e]; rfl
    rw [sWhile_eq (n := 1) (by rw [this]; simp), this]; rfl
  | ok p =>
    show _ = if p.1 = true then _ else _
    by_cases hp : p.1 = true
    · rw [if_pos hp]
      cases e2 : b p.2 with
      | stuck =>
        refine st s fun ⟨n, h⟩ => ?_
        cases n with
        | zero => exact h rfl
        | succ n => rw [un, e] at h; simp only [R.bind, if_pos hp, e2] at h; exact h rfl
      | ex e' s' =>
        have : whileF c b 1 s = .ex e' s' := by rw [un, e]; simp only [R.bind, if_pos hp, e2]
        rw [sWhile_eq (n := 1) (by rw [this]; simp), this]; rfl
      | ok q =>
        show _ = match q.1 with
          | .nx => sWhile c b q.2
          | .ct => sWhile c b q.2
          | .bk => .ok (.nx, q.2)
          | .rt d => .ok (.rt d, q.2)
        have un2 : ∀ n, whileF c b (n + 1) s = match q.1 with
          | .nx => whileF c b n q.2
          | .ct => whileF c b n q.2
          | .bk => .ok (.nx, q.2)
          | .rt d => .ok (.rt d, q.2) := fun n => by rw [un, e]; simp only [R.bind, if_pos hp, e2]
        have go : ∀ r : S, (∀ n, whileF c b (n + 1) s = whileF c b n r) → sWhile c b s = sWhile c b r := fun r hr => by
          by_cases hx : ∃ n, whileF c b n r ≠ .stuck
          · obtain ⟨n, hn⟩ := hx
            rw [sWhile_eq (n := n + 1) (by rw [hr]; exact hn), hr, sWhile_eq hn]
          · rw [st r hx]
            refine st s fun ⟨n, h⟩ => ?_
            cases n with
            | zero => exact h rfl
            | succ n => rw [hr] at h; exact hx ⟨n, h⟩
        cases e3 : q.1 with
        | nx => rw [e3] at un2; exact go _ un2
        | ct => rw [e3] at un2; exact go _ un2
        | bk => rw [e3] at un2; rw [sWhile_eq (n := 1) (by rw [un2]; simp), un2]
        | rt d => rw [e3] at un2; rw [sWhile_eq (n := 1) (by rw [un2]; simp), un2]
    · rw [if_neg hp]
      have : whileF c b 1 s = .ok (.nx, p.2) := by rw [un, e]; simp only [R.bind, if_neg hp]
      rw [sWhile_eq (n := 1) (by rw [this]; simp), this]
theorem snd_while {c : TT} {t : TS} {mc : MT} {mb : MS} (hc : SndT K E c mc) (hb : SndS K E ws t mb) : SndS K E ws (tWhile c t) (sWhile mc mb) := fun W s σ H Hs Dn hK x q => by
  have q : PostS W E Hs σ ws Dn (sWhile mc mb s) := q
  unfold sWhile at q
  by_cases hx : ∃ n, whileF mc mb n s ≠ .stuck
  · rw [dif_pos hx] at q
    generalize Classical.choose hx = n at q
    refine ⟨fun m σ1 H1 => ∃ s1 Hs1, Same Hs Hs1 ∧ Keep ws σ σ1 ∧ SS W Hs1 s1 σ1 H1 ∧ PostS W E Hs1 σ1 ws Dn (whileF mc mb m s1), ⟨n, s, Hs, Same.rfl' _, .refl, x, q⟩, ?_⟩
    rintro m σ1 H1 ⟨s1, Hs1, g1, k1, x1, q1⟩
    cases m with
    | zero => exact q1.elim
    | succ m =>
      refine hc W s1 σ1 H1 Hs1 _ hK x1 (PostS.bind q1 fun b s2 v H2 Hs2 _ g2 x2 o2 q2 => ?_)
      cases (show v = b from o2)
      cases b with
      | false => exact q2 σ1 H2 Hs2 (Same.rfl' _) .refl x2
      | true =>
        show ∃ N, _
        refine ⟨fun σ3 H3 => ∃ m', m' < m + 1 ∧ ∃ s3 Hs3, Same Hs Hs3 ∧ Keep ws σ σ3 ∧ SS W Hs3 s3 σ3 H3 ∧ PostS W E Hs3 σ3 ws Dn (whileF mc mb m' s3), fun _ _ z => z, ?_⟩
        refine hb W s2 σ1 H2 Hs2 _ hK x2 ?_
        have q3 : PostS W E Hs2 σ1 ws Dn ((mb s2).bind fun q => (match q.1 with
          | .nx => whileF mc mb m q.2
          | .ct => whileF mc mb m q.2
          | .bk => .ok (.nx, q.2)
          | .rt d => .ok (.rt d, q.2))) := q2
        cases e : mb s2 with
        | ok p =>
          obtain ⟨f, s3⟩ := p
          rw [e] at q3
          cases f with
          | nx => exact fun σ3 H3 Hs3 g3 k3 x3 => ⟨m, by omega, s3, Hs3, Same.trans' g1 (Same.trans' g2 g3), k1.trans k3, x3, PostS.up q3 g3 k3⟩
          | ct => exact fun σ3 H3 Hs3 g3 k3 x3 => ⟨m, by omega, s3, Hs3, Same.trans' g1 (Same.trans' g2 g3), k1.trans k3, x3, PostS.up q3 g3 k3⟩
          | bk => exact fun σ3 H3 Hs3 g3 k3 x3 => q3 σ3 H3 Hs3 g3 k3 x3
          | rt d => exact q3
        | ex e' s' => rw [e] at q3; exact q3
        | stuck => rw [e] at q3; exact q3
  · rw [dif_neg hx] at q
    exact q.elim
end
end Mi

namespace Mi
open PySem PySem.Spec PyProof.Rows L2
open PySem.W (Frag)
/-! ### what a loop walks -/
structure Src where
  items : List D
  gd : List (Nat × D)
abbrev MI := S → R (Src × S)
def hold (gd : List (Nat × D)) (s : S) : Prop := ∀ p ∈ gd, view s (.bor p.1) = some p.2
def SrcOk (W : Wd) (σ : L2.St) (Hs : Hp) (src : Src) (J : It) : Prop := ∀ (W' : Wd) s' σ' Hs' H', W'.K = W.K → W'.pa = W.pa → SS W' Hs' s' σ' H' → Same Hs Hs' → (∀ p ∈ src.gd, σ'[p.1]? = σ[p.1]?) → hold src.gd s' →
  (∀ i, i < src.items.length → J.go i H') ∧ J.stop src.items.length H' ∧ ∀ i x H'', i < src.items.length → J.yld i H' x H'' → ∃ Hs'' d, Gr Hs' H' Hs'' H'' ∧ src.items[i]? = some d ∧ Rep W.K W.pa Hs'' d x
def okI (W : Wd) (σ : L2.St) : Src → S → Hp → Hp → It → Prop := fun src _ Hs _ J => SrcOk W σ Hs src J
def SndI (K : Frag) (E : XK) (w : TI) (m : MI) : Prop := ∀ (W : Wd) s σ H Hs (Q : It → Hp → Prop), W.K = K → SS W Hs s σ H → Post W E Hs σ (okI W σ) Q (m s) → w σ H Q
/-- what stands behind an argument, and which slot must stay as it is -/
def argSeq (s : S) : Arg → Option (D × List (Nat × D))
  | .val d => some (d, [])
  | .bor i => match s.g[i]? with
    | some (.sh d) => some (d, [])
    | some (.ow _ d) => some (d, [(i, d)])
    | _ => none
def asL : D → Option (List D)
  | .lst ds => some ds
  | _ => none
def asT : D → Option (List D)
  | .tup ds => some ds
  | _ => none
def asS : D → Option Str
  | .str x => some x
  | _ => none
section
variable {K : Frag} {E : XK} {W : Wd} {Hs Hs' H H' : Hp} {σ σ' : L2.St} {s : S} {ws : List Nat}
theorem argSeq_lst {x : Arg} {v : V} {ds : List D} {gd : List (Nat × D)} (X : SS W Hs s σ H) (o : ArgOk W Hs σ x v) (e : argSeq s x = some (.lst ds, gd)) : ∃ a, v = .ref a ∧ (∃ vs, H a = some (.lst vs) ∧ RepL W.K W.pa Hs ds vs) ∧
    ∀ (W' : Wd) s' σ' Hs' H', W'.K = W.K → W'.pa = W.pa → SS W' Hs' s' σ' H' → Same Hs Hs' → (∀ p ∈ gd, σ'[p.1]? = σ[p.1]?) → hold gd s' → ∃ vs, H' a = some (.lst vs) ∧ RepL W.K W.pa Hs' ds vs := by
  have fix : ∀ {d : D}, d = .lst ds → Rep W.K W.pa Hs d v → gd = [] → ∃ a, v = .ref a ∧ (∃ vs, H a = some (.lst vs) ∧ RepL W.K W.pa Hs ds vs) ∧
    ∀ (W' : Wd) s' σ' Hs' H', W'.K = W.K → W'.pa = W.pa → SS W' Hs' s' σ' H' → Same Hs Hs' → (∀ p ∈ gd, σ'[p.1]? = σ[p.1]?) → hold gd s' → ∃ vs, H' a = some (.lst vs) ∧ RepL W.K W.pa Hs' ds vs := by
    rintro d rfl ⟨a, vs, e1, h1, h2⟩ _
    exact ⟨a, e1, ⟨vs, X.pool.at_ h1 (by intro _ z; cases z), h2⟩, fun W' s' σ' Hs' H' _ _ X' g _ _ => ⟨vs, X'.pool.at_ (g _ _ h1) (by intro _ z; cases z), h2.up g⟩⟩
  cases x with
  | val d =>
    have e := Option.some.inj e
    exact fix (congrArg Prod.fst e) o (congrArg Prod.snd e).symm
  | bor i =>
    have o : σ[i]? = some (some v) := o
    unfold argSeq at e
    dsimp only at e
    cases e1 : s.g[i]? with
    | none => rw [e1] at e; cases e
    | some y =>
      rw [e1] at e
      have z := X.slot i y e1
      cases y with
      | no => cases e
      | sh d =>
        have e := Option.some.inj e
        obtain ⟨u, q1, q2⟩ := z
        rw [o] at q1
        cases q1
        exact fix (congrArg Prod.fst e) q2 (congrArg Prod.snd e).symm
      | ow l d =>
        have e := Option.some.inj e
        obtain ⟨a, q1, ⟨ob, q2, q3⟩, q4⟩ := z
        rw [o] at q1
        cases q1
        have ed : d = .lst ds := congrArg Prod.fst e
        subst ed
        obtain ⟨vs, e2, h2⟩ := q3
        subst e2
        have eg : [(i, D.lst ds)] = gd := congrArg Prod.snd e
        subst eg
        refine ⟨a, rfl, ⟨vs, q2, h2⟩, fun W' s' σ' Hs' H' hK hpa X' g hk hh => ?_⟩
        have k1 := hk (i, .lst ds) (by simp)
        have h1 := hh (i, .lst ds) (by simp)
        have o1 : σ'[i]? = some (some (.ref a)) := k1.trans o
        have t := ArgOk.t X' (y := .bor i) (v := .ref a) o1 h1
        rw [hK, hpa] at t
        obtain ⟨a', us, e3, h3, h4⟩ := t
        cases e3
        exact ⟨us, h3, h4⟩
theorem argSeq_tup {x : Arg} {v : V} {ds : List D} {gd : List (Nat × D)} (X : SS W Hs s σ H) (o : ArgOk W Hs σ x v) (e : argSeq s x = some (.tup ds, gd)) : ∃ a vs, v = .ref a ∧ RepL W.K W.pa Hs ds vs ∧ SqT W.K Hs a vs := by
  have fix : ∀ {d : D}, d = .tup ds → Rep W.K W.pa Hs d v → ∃ a vs, v = .ref a ∧ RepL W.K W.pa Hs ds vs ∧ SqT W.K Hs a vs := by
    rintro d rfl ⟨a, vs, e1, h1, h2⟩
    exact ⟨a, vs, e1, h2, SqT.of h1⟩
  cases x with
  | val d => exact fix (congrArg Prod.fst (Option.some.inj e)) o
  | bor i =>
    have o : σ[i]? = some (some v) := o
    unfold argSeq at e
    dsimp only at e
    cases e1 : s.g[i]? with
    | none => rw [e1] at e; cases e
    | some y =>
      rw [e1] at e
      have z := X.slot i y e1
      cases y with
      | no => cases e
      | sh d =>
        obtain ⟨u, q1, q2⟩ := z
        rw [o] at q1
        cases q1
        exact fix (congrArg Prod.fst (Option.some.inj e)) q2
      | ow l d =>
        obtain ⟨a, q1, ⟨ob, q2, q3⟩, q4⟩ := z
        have ed : d = .tup ds := congrArg Prod.fst (Option.some.inj e)
        subst ed
        exact q3.elim
def iL (m : ME) : MI := fun s => (m s).bind fun p => (ofO (argSeq p.2 p.1)).bind fun q => (ofO (asL q.1)).bind fun ds => .ok (⟨ds, q.2⟩, p.2)
theorem asL_eq {d : D} {ds : List D} (h : asL d = some ds) : d = .lst ds := by cases d <;> cases h; rfl
theorem asT_eq {d : D} {ds : List D} (h : asT d = some ds) : d = .tup ds := by cases d <;> cases h; rfl
theorem asS_eq {d : D} {x : Str} (h : asS d = some x) : d = .str x := by cases d <;> cases h; rfl
theorem snd_il {t : TE} {m : ME} (h : SndE K E t m) : SndI K E (iList K t) (iL m) := fun W s σ H Hs Q hK x q => by
  refine h W s σ H Hs _ hK x (Post.bind q fun xa s1 v H1 Hs1 _ g1 x1 o1 q1 => ?_)
  obtain ⟨⟨d, gd⟩, e1, q2⟩ := q1.ofO
  obtain ⟨ds, e2, q3⟩ := q2.ofO
  cases asL_eq e2
  obtain ⟨a, rfl, ⟨vs, h1, h2⟩, st⟩ := argSeq_lst x1 o1 e1
  subst hK
  refine ⟨a, rfl, ⟨vs, SqL.of h1⟩, q3 _ H1 Hs1 (Same.rfl' _) x1 ?_⟩
  intro W' s' σ' Hs' H' hK hpa X' g hk hh
  obtain ⟨us, u1, u2⟩ := st W' s' σ' Hs' H' hK hpa X' g hk hh
  have hl := u2.len
  refine ⟨fun i hi => ?_, ⟨us, SqL.of u1, by rw [← hl]; exact Nat.le_refl _⟩, fun i y H'' hi yl => ?_⟩
  · have hi2 : i < us.length := by rw [← hl]; exact hi
    exact ⟨us, us[i], SqL.of u1, by simp [hi2]⟩
  · obtain ⟨e4, e5⟩ := yl
    subst e4
    obtain ⟨d, e6, r⟩ := u2.get' (e5 us (SqL.of u1))
    exact ⟨Hs', d, Gr.refl X'.pool, e6, r⟩
def iT (m : ME) : MI := fun s => (m s).bind fun p => (ofO (argSeq p.2 p.1)).bind fun q => (ofO (asT q.1)).bind fun ds => .ok (⟨ds, []⟩, p.2)
theorem snd_it {t : TE} {m : ME} (h : SndE K E t m) : SndI K E (iTup K t) (iT m) := fun W s σ H Hs Q hK x q => by
  refine h W s σ H Hs _ hK x (Post.bind q fun xa s1 v H1 Hs1 _ g1 x1 o1 q1 => ?_)
  obtain ⟨⟨d, gd⟩, e1, q2⟩ := q1.ofO
  obtain ⟨ds, e2, q3⟩ := q2.ofO
  cases asT_eq e2
  obtain ⟨a, vs, rfl, h1, h2⟩ := argSeq_tup x1 o1 e1
  subst hK
  refine ⟨a, rfl, ⟨vs, x1.pool.sqt h2⟩, q3 _ H1 Hs1 (Same.rfl' _) x1 ?_⟩
  intro W' s' σ' Hs' H' hK hpa X' g hk hh
  have u1 : SqT W.K H' a vs := X'.pool.sqt (same_sqt g h2)
  have u2 := h1.up g
  have hl := u2.len
  refine ⟨fun i hi => ?_, ⟨vs, u1, by rw [← hl]; exact Nat.le_refl _⟩, fun i y H'' hi yl => ?_⟩
  · have hi2 : i < vs.length := by rw [← hl]; exact hi
    exact ⟨vs, vs[i], u1, by simp [hi2]⟩
  · obtain ⟨e4, e5⟩ := yl
    subst e4
    obtain ⟨d, e6, r⟩ := u2.get' (e5 vs u1)
    exact ⟨Hs', d, Gr.refl X'.pool, e6, r⟩
def strItems (x : Str) : List D := x.cps.toList.map fun c => D.str ⟨#[c]⟩
def iS (m : ME) : MI := fun s => (m s).bind fun p => (ofO ((view p.2 p.1).bind asS)).bind fun x => .ok (⟨strItems x, []⟩, p.2)
theorem snd_is {t : TE} {m : ME} (h : SndE K E t m) : SndI K E (iStr t) (iS m) := fun W s σ H Hs Q hK x q => by
  refine h W s σ H Hs _ hK x (Post.bind q fun xa s1 v H1 Hs1 _ g1 x1 o1 q1 => ?_)
  obtain ⟨z, e1, q2⟩ := q1.ofO
  cases e2 : view s1 xa with
  | none => rw [e2] at e1; cases e1
  | some d =>
    rw [e2] at e1
    cases asS_eq e1
    have t := ArgOk.t x1 o1 e2
    refine ⟨z, t, q2 _ H1 Hs1 (Same.rfl' _) x1 ?_⟩
    intro W' s' σ' Hs' H' hK2 hpa X' g hk hh
    have hl : (strItems z).length = z.cps.size := by simp [strItems]
    refine ⟨fun i hi => by rw [hl] at hi; exact hi, by show z.cps.size ≤ (strItems z).length; omega, fun i y H'' hi yl => ?_⟩
    obtain ⟨e4, c, e5, e6⟩ := yl
    subst e4
    subst e6
    refine ⟨Hs', .str ⟨#[c]⟩, Gr.refl X'.pool, ?_, rfl⟩
    have e7 : z.cps.toList[i]? = some c := by simpa using e5
    simp [strItems, e7]
def rangeItems (lo : Int) (n : Nat) : List D := (List.range n).map fun (i : Nat) => D.int (lo + i)
def iR1 (m : MA) : MI := fun s => (m s).bind fun p => (ofO (views p.2 p.1)).bind fun ds => match ds with
  | [.int j] => if -1000000 ≤ j ∧ j ≤ 1000000 then .ok (⟨rangeItems 0 j.toNat, []⟩, p.2) else .stuck
  | _ => .stuck
def iR2 (m : MA) : MI := fun s => (m s).bind fun p => (ofO (views p.2 p.1)).bind fun ds => match ds with
  | [.int i, .int j] => if -1000000 ≤ i ∧ i ≤ 1000000 ∧ -1000000 ≤ j ∧ j ≤ 1000000 then .ok (⟨rangeItems i (j - i).toNat, []⟩, p.2) else .stuck
  | _ => .stuck
theorem src_range {lo : Int} {n : Nat} : SrcOk W σ Hs ⟨rangeItems lo n, []⟩ (Itr lo n) := by
  intro W' s' σ' Hs' H' hK2 hpa X' g hk hh
  have hl : (rangeItems lo n).length = n := by simp [rangeItems]
  refine ⟨fun i hi => by rw [hl] at hi; exact hi, by show n ≤ (rangeItems lo n).length; omega, fun i y H'' hi yl => ?_⟩
  obtain ⟨e4, e5⟩ := yl
  subst e4
  refine ⟨Hs', .int (lo + i), Gr.refl X'.pool, ?_, e5⟩
  rw [hl] at hi
  simp [rangeItems, hi]
theorem snd_ir1 {t : TA} {m : MA} (h : SndA K E t m) : SndI K E (iRng1 t) (iR1 m) := fun W s σ H Hs Q hK x q => by
  refine h W s σ H Hs _ hK x (Post.bind q fun xs s1 vs H1 Hs1 _ g1 x1 o1 q1 => ?_)
  obtain ⟨ds, e1, q2⟩ := q1.ofO
  have r := o1.t x1 e1
  cases r with
  | nil => exact q2.elim
  | @cons d v ds vs r1 r2 =>
    cases d with
    | int j =>
      cases r2 with
      | nil =>
        have q2 : Post W E Hs1 σ (okI W σ) Q (if -1000000 ≤ j ∧ j ≤ 1000000 then .ok (⟨rangeItems 0 j.toNat, []⟩, s1) else .stuck) := q2
        by_cases hj : -1000000 ≤ j ∧ j ≤ 1000000
        · rw [if_pos hj] at q2
          cases (show v = .int j from r1)
          exact ⟨j, rfl, by omega, by omega, q2 _ H1 Hs1 (Same.rfl' _) x1 src_range⟩
        · rw [if_neg hj] at q2
          exact q2.elim
      | cons => exact q2.elim
    | _ => exact q2.elim
theorem snd_ir2 {t : TA} {m : MA} (h : SndA K E t m) : SndI K E (iRng2 t) (iR2 m) := fun W s σ H Hs Q hK x q => by
  refine h W s σ H Hs _ hK x (Post.bind q fun xs s1 vs H1 Hs1 _ g1 x1 o1 q1 => ?_)
  obtain ⟨ds, e1, q2⟩ := q1.ofO
  have r := o1.t x1 e1
  cases r with
  | nil => exact q2.elim
  | @cons d v ds vs r1 r2 =>
    cases d with
    | int i =>
      cases r2 with
      | nil => exact q2.elim
      | @cons d w ds vs r3 r4 =>
        cases d with
        | int j =>
          cases r4 with
          | nil =>
            have q2 : Post W E Hs1 σ (okI W σ) Q (if -1000000 ≤ i ∧ i ≤ 1000000 ∧ -1000000 ≤ j ∧ j ≤ 1000000 then .ok (⟨rangeItems i (j - i).toNat, []⟩, s1) else .stuck) := q2
            by_cases hj : -1000000 ≤ i ∧ i ≤ 1000000 ∧ -1000000 ≤ j ∧ j ≤ 1000000
            · rw [if_pos hj] at q2
              cases (show v = .int i from r1)
              cases (show w = .int j from r3)
              exact ⟨i, j, rfl, by omega, q2 _ H1 Hs1 (Same.rfl' _) x1 src_range⟩
            · rw [if_neg hj] at q2
              exact q2.elim
          | cons => exact q2.elim
        | _ => exact q2.elim
    | _ => exact q2.elim
/-- enumerate, zip -/
def enumItems : Nat → List D → List D
  | _, [] => []
  | i, d :: ds => .tup [.int i, d] :: enumItems (i + 1) ds
theorem enum_len : ∀ {ds : List D} {i : Nat}, (enumItems i ds).length = ds.length
  | [], _ => rfl
  | d :: ds, i => by simp [enumItems, enum_len]
theorem enum_get : ∀ {ds : List D} {k i : Nat} {d : D}, ds[i]? = some d → (enumItems k ds)[i]? = some (.tup [.int ((k + i : Nat) : Int), d])
  | [], _, _, _, e => by simp at e
  | d :: ds, k, 0, x, e => by simp at e; subst e; rfl
  | d :: ds, k, i + 1, x, e => by
    simp at e
    have := enum_get (k := k + 1) e
    simp only [enumItems, List.getElem?_cons_succ]
    rw [this]
    congr 4
    omega
def iEn (m : MA) : MI := fun s => (m s).bind fun p => match p.1 with
  | [x] => (ofO (argSeq p.2 x)).bind fun q => (ofO (asL q.1)).bind fun ds => .ok (⟨enumItems 0 ds, q.2⟩, p.2)
  | _ => .stuck
theorem snd_ien {t : TA} {m : MA} (h : SndA K E t m) : SndI K E (iEnum K t) (iEn m) := fun W s σ H Hs Q hK x q => by
  refine h W s σ H Hs _ hK x (Post.bind q fun xs s1 vs H1 Hs1 _ g1 x1 o1 q1 => ?_)
  cases o1 with
  | nil => exact q1.elim
  | @cons xa v xs vs o1 o2 =>
    cases o2 with
    | cons => exact q1.elim
    | nil =>
      obtain ⟨⟨d, gd⟩, e1, q2⟩ := Post.ofO q1
      obtain ⟨ds, e2, q3⟩ := q2.ofO
      cases asL_eq e2
      obtain ⟨a, rfl, ⟨vs, h1, h2⟩, st⟩ := argSeq_lst x1 o1 e1
      subst hK
      refine ⟨a, vs, rfl, SqL.of h1, q3 _ H1 Hs1 (Same.rfl' _) x1 ?_⟩
      intro W' s' σ' Hs' H' hK hpa X' g hk hh
      obtain ⟨us, u1, u2⟩ := st W' s' σ' Hs' H' hK hpa X' g hk hh
      have hl := u2.len
      refine ⟨fun i hi => ?_, ⟨us, SqL.of u1, by show us.length ≤ (enumItems 0 ds).length; rw [enum_len, hl]; exact Nat.le_refl _⟩, fun i y H'' hi yl => ?_⟩
      · have hi2 : i < us.length := by
          have : i < (enumItems 0 ds).length := hi
          rw [enum_len] at this
          omega
        exact ⟨us, us[i], SqL.of u1, by simp [hi2]⟩
      · obtain ⟨T, z, e4, e5, e6, e7⟩ := yl
        obtain ⟨d, e8, r⟩ := u2.get' (e7 us (SqL.of u1))
        subst e4
        subst e6
        have gg := gr_new (o := .tup [.int (i : Nat), z]) X'.pool e5
        refine ⟨_, .tup [.int i, d], gg, ?_, ⟨T, _, rfl, upd_same, ⟨_, _, rfl, rfl, _, _, rfl, r.up gg.s, rfl⟩⟩⟩
        have := enum_get (k := 0) e8
        simpa using this
def zipItems : List D → List D → List D
  | a :: as, b :: bs => .tup [a, b] :: zipItems as bs
  | _, _ => []
theorem zip_len : ∀ {as bs : List D}, (zipItems as bs).length = min as.length bs.length
  | [], _ => by simp [zipItems]
  | _ :: _, [] => by simp [zipItems]
  | a :: as, b :: bs => by simp only [zipItems, List.length_cons, zip_len]; omega
theorem zip_get : ∀ {as bs : List D} {i : Nat} {a b : D}, as[i]? = some a → bs[i]? = some b → (zipItems as bs)[i]? = some (.tup [a, b])
  | [], _, _, _, _, e, _ => by simp at e
  | _ :: _, [], _, _, _, _, e => by simp at e
  | a :: as, b :: bs, 0, x, y, e, f => by simp at e f; subst e; subst f; rfl
  | a :: as, b :: bs, i + 1, x, y, e, f => by
    simp at e f
    simp only [zipItems, List.getElem?_cons_succ]
    exact zip_get e f
def iZ (m : MA) : MI := fun s => (m s).bind fun p => match p.1 with
  | [x, y] => (ofO (argSeq p.2 x)).bind fun q => (ofO (argSeq p.2 y)).bind fun r => (ofO (asL q.1)).bind fun ds => (ofO (asL r.1)).bind fun es => .ok (⟨zipItems ds es, q.2 ++ r.2⟩, p.2)
  | _ => .stuck
theorem snd_iz {t : TA} {m : MA} (h : SndA K E t m) : SndI K E (iZip K t) (iZ m) := fun W s σ H Hs Q hK x q => by
  refine h W s σ H Hs _ hK x (Post.bind q fun xs s1 vs H1 Hs1 _ g1 x1 o1 q1 => ?_)
  cases o1 with
  | nil => exact q1.elim
  | @cons xa v xs vs o1 o2 =>
    cases o2 with
    | nil => exact q1.elim
    | @cons xb w xs vs o2 o3 =>
      cases o3 with
      | cons => exact q1.elim
      | nil =>
        obtain ⟨⟨d, gd⟩, e1, q2⟩ := Post.ofO q1
        obtain ⟨⟨d2, gd2⟩, f1, q2⟩ := q2.ofO
        obtain ⟨ds, e2, q3⟩ := q2.ofO
        obtain ⟨es, f2, q3⟩ := q3.ofO
        cases asL_eq e2
        cases asL_eq f2
        obtain ⟨a, rfl, ⟨vs, h1, h2⟩, st⟩ := argSeq_lst x1 o1 e1
        obtain ⟨b, rfl, ⟨zs, i1, i2⟩, st2⟩ := argSeq_lst x1 o2 f1
        subst hK
        refine ⟨a, b, vs, zs, rfl, SqL.of h1, SqL.of i1, q3 _ H1 Hs1 (Same.rfl' _) x1 ?_⟩
        intro W' s' σ' Hs' H' hK hpa X' g hk hh
        obtain ⟨us, u1, u2⟩ := st W' s' σ' Hs' H' hK hpa X' g (fun p hp => hk p (List.mem_append_left _ hp)) (fun p hp => hh p (List.mem_append_left _ hp))
        obtain ⟨ts, t1, t2⟩ := st2 W' s' σ' Hs' H' hK hpa X' g (fun p hp => hk p (List.mem_append_right _ hp)) (fun p hp => hh p (List.mem_append_right _ hp))
        have hl := u2.len
        have tl := t2.len
        refine ⟨fun i hi => ?_, ⟨us, ts, SqL.of u1, SqL.of t1, by show us.length ≤ (zipItems ds es).length ∨ ts.length ≤ (zipItems ds es).length; rw [zip_len]; omega⟩, fun i y H'' hi yl => ?_⟩
        · have : i < (zipItems ds es).length := hi
          rw [zip_len] at this
          have hi2 : i < us.length := by omega
          have hi3 : i < ts.length := by omega
          exact ⟨us, ts, us[i], ts[i], SqL.of u1, SqL.of t1, by simp [hi2], by simp [hi3]⟩
        · obtain ⟨T, z, z2, e4, e5, e6, e7, e8⟩ := yl
          obtain ⟨d, e9, r⟩ := u2.get' (e7 us (SqL.of u1))
          obtain ⟨d2, e10, r2⟩ := t2.get' (e8 ts (SqL.of t1))
          subst e4
          subst e6
          have gg := gr_new (o := .tup [z, z2]) X'.pool e5
          exact ⟨_, .tup [d, d2], gg, zip_get e9 e10, ⟨T, _, rfl, upd_same, ⟨_, _, rfl, r.up gg.s, _, _, rfl, r2.up gg.s, rfl⟩⟩⟩
theorem PostS.ite {Dn : Ends} {c : Prop} {inst : Decidable c} {r : R (Fl × S)} (h : PostS W E Hs σ ws Dn (if c then r else .stuck)) : c ∧ PostS W E Hs σ ws Dn r := by
  by_cases hc : c
  · rw [if_pos hc] at h; exact ⟨hc, h⟩
  · rw [if_neg hc] at h; exact h.elim
theorem Post.ite {α β : Type} {Ok : α → S → Hp → Hp → β → Prop} {Q : β → Hp → Prop} {c : Prop} {inst : Decidable c} {r : R (α × S)} (h : Post W E Hs σ Ok Q (if c then r else .stuck)) : c ∧ Post W E Hs σ Ok Q r := by
  by_cases hc : c
  · rw [if_pos hc] at h; exact ⟨hc, h⟩
  · rw [if_neg hc] at h; exact h.elim
/-! ### for -/
open Classical in
noncomputable def forGo (gd : List (Nat × D)) (g : MG) (b : MS) : List D → S → R (Fl × S)
  | [], s => if hold gd s then .ok (.nx, s) else .stuck
  | d :: ds, s => if hold gd s then (ofO (g d s)).bind fun s1 => (b s1).bind fun q => (match q.1 with
    | .nx => forGo gd g b ds q.2
    | .ct => forGo gd g b ds q.2
    | .bk => .ok (.nx, q.2)
    | .rt r => .ok (.rt r, q.2)) else .stuck
noncomputable def sFor (ws : List Nat) (i : MI) (g : MG) (b : MS) : MS := fun s => (i s).bind fun p => if (p.1.gd.all fun q => !ws.contains q.1) = true then forGo p.1.gd g b p.1.items p.2 else .stuck
theorem snd_for {us : List Nat} {wi : TI} {g : TG} {t : TS} {mi : MI} {mg : MG} {mb : MS} (hi : SndI K E wi mi) (hg : SndG K us g mg) (hb : SndS K E ws t mb) : SndS K E (us ++ ws) (tFor wi g t) (sFor (us ++ ws) mi mg mb) := fun W s σ H Hs Dn hK x q => by
  refine hi W s σ H Hs _ hK x (PostS.bind q fun src s1 J H1 Hs1 _ g1 x1 o1 q1 => ?_)
  have q1 : PostS W E Hs1 σ (us ++ ws) Dn (if (src.gd.all fun q => !(us ++ ws).contains q.1) = true then forGo src.gd mg mb src.items s1 else .stuck) := q1
  obtain ⟨hgd, q1⟩ := PostS.ite q1
  have kg : ∀ σ', Keep (us ++ ws) σ σ' → ∀ p ∈ src.gd, σ'[p.1]? = σ[p.1]? := fun σ' k p hp => k.at_ p.1 (by
    have := List.all_eq_true.mp hgd p hp
    simpa using this)
  refine ⟨fun i m σ2 H2 => m = src.items.length - i ∧ i ≤ src.items.length ∧ ∃ s2 Hs2, Same Hs1 Hs2 ∧ Keep (us ++ ws) σ σ2 ∧ SS W Hs2 s2 σ2 H2 ∧ PostS W E Hs2 σ2 (us ++ ws) Dn (forGo src.gd mg mb (src.items.drop i) s2), ⟨_, rfl, Nat.zero_le _, s1, Hs1, Same.rfl' _, .refl, x1, q1⟩, ?_⟩
  rintro i m σ2 H2 ⟨rfl, hle, s2, Hs2, g2, k2, x2, q2⟩
  by_cases hlt : i < src.items.length
  · right
    rw [List.drop_eq_getElem_cons hlt] at q2
    unfold forGo at q2
    obtain ⟨hh, q2⟩ := PostS.ite q2
    obtain ⟨go, _, yl⟩ := o1 W s2 σ2 Hs2 H2 rfl rfl x2 g2 (kg σ2 k2) hh
    refine ⟨go i hlt, fun σ5 H5 => ∃ m', m' < src.items.length - i ∧ (m' = src.items.length - (i + 1) ∧ i + 1 ≤ src.items.length ∧ ∃ s5 Hs5, Same Hs1 Hs5 ∧ Keep (us ++ ws) σ σ5 ∧ SS W Hs5 s5 σ5 H5 ∧ PostS W E Hs5 σ5 (us ++ ws) Dn (forGo src.gd mg mb (src.items.drop (i + 1)) s5)), fun _ _ z => z, fun y H3 hy => ?_⟩
    obtain ⟨Hs3, d, g3, e3, r3⟩ := yl i y H3 hlt hy
    rw [List.getElem?_eq_getElem hlt] at e3
    cases e3
    obtain ⟨s4, e4, q4⟩ := PostS.ofO q2
    refine hg W s2 σ2 H3 Hs3 _ y s4 _ hK (x2.grow g3) (hK ▸ r3) e4 fun σ4 k4 x4 => ?_
    refine (hb.mono (us := us ++ ws) (fun i hi => List.mem_append_right _ hi)) W s4 σ4 H3 Hs3 _ hK x4 ?_
    have k24 : Keep (us ++ ws) σ2 σ4 := k4.mono (fun i hi => List.mem_append_left _ hi)
    have q5 := PostS.up q4 g3.s k24
    cases e5 : mb s4 with
    | ok p =>
      obtain ⟨f, s5⟩ := p
      rw [e5] at q5
      cases f with
      | nx => exact fun σ5 H5 Hs5 g5 k5 x5 => ⟨_, by omega, rfl, hlt, s5, Hs5, Same.trans' g2 (Same.trans' g3.s g5), k2.trans (k24.trans k5), x5, PostS.up q5 g5 k5⟩
      | ct => exact fun σ5 H5 Hs5 g5 k5 x5 => ⟨_, by omega, rfl, hlt, s5, Hs5, Same.trans' g2 (Same.trans' g3.s g5), k2.trans (k24.trans k5), x5, PostS.up q5 g5 k5⟩
      | bk => exact fun σ5 H5 Hs5 g5 k5 x5 => q5 σ5 H5 Hs5 g5 k5 x5
      | rt r => exact q5
    | ex e' s' => rw [e5] at q5; exact q5
    | stuck => rw [e5] at q5; exact q5
  · left
    have e : i = src.items.length := by omega
    subst e
    rw [List.drop_length] at q2
    unfold forGo at q2
    obtain ⟨hh, q2⟩ := PostS.ite q2
    obtain ⟨_, st, _⟩ := o1 W s2 σ2 Hs2 H2 rfl rfl x2 g2 (kg σ2 k2) hh
    exact ⟨st, q2 σ2 H2 Hs2 (Same.rfl' _) .refl x2⟩
end
end Mi

namespace Mi
open PySem PySem.Spec PyProof.Rows L2
open PySem.W (Frag)
/-! ### comprehensions -/
def wipeG (g : List Slot) (vs : List Nat) : List Slot := g.mapIdx fun i x => if vs.contains i then .no else x
def wipeS (s : S) (vs : List Nat) : S := ⟨wipeG s.g vs, s.p⟩
def backG (g g' : List Slot) (vs : List Nat) : List Slot := g'.mapIdx fun i x => if vs.contains i then (match g[i]? with
  | some (.sh d) => .sh d
  | _ => .no) else x
open Classical in
noncomputable def lcGo (gd : List (Nat × D)) (g : MG) (c : MT) (e : ME) (vs : List Nat) : List D → S → List D → R (List D × S)
  | [], s, acc => if hold gd s then .ok (acc, s) else .stuck
  | d :: ds, s, acc => if hold gd s then (ofO (g d s)).bind fun s1 => (c s1).bind fun p => if p.1 = true then (e p.2).bind fun q => (match q.1 with
    | .val y => if acc.length < 100000 then lcGo gd g c e vs ds (wipeS q.2 vs) (acc ++ [y]) else .stuck
    | .bor _ => .stuck) else lcGo gd g c e vs ds (wipeS p.2 vs) acc else .stuck
def noEx {α : Type} : R α → R α
  | .ok a => .ok a
  | _ => .stuck
noncomputable def mLc (i : MI) (g : MG) (c : MT) (e : ME) (vs : List Nat) : MF := fun s => (i s).bind fun p => if (p.1.gd.all fun q => !vs.contains q.1) = true then
  (noEx (lcGo p.1.gd g c e vs p.1.items (wipeS p.2 vs) [])).bind fun q => .ok (.lst q.1, ⟨backG p.2.g q.2.g vs, q.2.p⟩) else .stuck
theorem wipe_get (σ : L2.St) : ∀ (vs : List Nat) (i : Nat), (wipe σ vs)[i]? = if i ∈ vs ∧ i < σ.length then some none else σ[i]?
  | [], i => by simp [wipe]
  | v :: vs, i => by
    unfold wipe
    by_cases h : v = i
    · subst h
      by_cases hl : v < σ.length
      · rw [List.getElem?_set_self (by rw [wipe_length]; exact hl)]
        simp [hl]
      · rw [List.getElem?_eq_none (by simp [wipe_length]; omega)]
        simp [hl]
    · rw [List.getElem?_set_ne h, wipe_get σ vs i]
      simp [show ¬ i = v from fun e => h e.symm]
theorem wipe_same {σ σ2 : L2.St} {vs : List Nat} (k : Keep vs (wipe σ vs) σ2) : wipe σ2 vs = wipe σ vs := by
  have hl : σ2.length = σ.length := k.len.trans (wipe_length ..)
  apply List.ext_getElem?
  intro i
  rw [wipe_get, wipe_get, hl]
  by_cases h : i ∈ vs ∧ i < σ.length
  · rw [if_pos h, if_pos h]
  · rw [if_neg h, if_neg h]
    by_cases hv : i ∈ vs
    · have : σ.length ≤ i := Nat.le_of_not_lt fun q => h ⟨hv, q⟩
      rw [List.getElem?_eq_none (by omega), List.getElem?_eq_none this]
    · rw [k.at_ i hv, wipe_get, if_neg h]
section
variable {K : Frag} {E : XK} {W : Wd} {Hs Hs' H H' : Hp} {σ σ' : L2.St} {s : S} {ws vs : List Nat}
theorem wipeG_get {g : List Slot} {i : Nat} {x : Slot} (e : (wipeG g vs)[i]? = some x) : (i ∈ vs ∧ x = .no) ∨ (i ∉ vs ∧ g[i]? = some x) := by
  unfold wipeG at e
  rw [List.getElem?_mapIdx] at e
  cases e1 : g[i]? with
  | none => rw [e1] at e; cases e
  | some y =>
    rw [e1] at e
    by_cases h : i ∈ vs
    · left
      simp [h] at e
      exact ⟨h, e.symm⟩
    · right
      simp [h] at e
      exact ⟨h, by rw [e]⟩
theorem ss_wipe (x : SS W Hs s σ H) (vs : List Nat) : SS W Hs (wipeS s vs) (wipe σ vs) H where
  len := by simp [wipeS, wipeG, wipe_length, x.len]
  pool := x.pool
  fr := x.fr
  pt := x.pt
  slot := fun i y e => by
    rcases wipeG_get e with ⟨_, rfl⟩ | ⟨h1, h2⟩
    · trivial
    · rw [wipe_get, if_neg (fun z => h1 z.1)]
      exact x.slot i y h2
  apart := fun i j l m d1 d2 a e1 e2 hij s1 => by
    rcases wipeG_get e1 with ⟨_, q⟩ | ⟨h1, h2⟩
    · cases q
    rcases wipeG_get e2 with ⟨_, q⟩ | ⟨h3, h4⟩
    · cases q
    rw [wipe_get, if_neg (fun z => h1 z.1)] at s1
    rw [wipe_get, if_neg (fun z => h3 z.1)]
    exact x.apart i j l m d1 d2 a h2 h4 hij s1
/-- the slots of the block are as they were, what is else is as it is now -/
theorem ss_back {s2 : S} (x : SS W Hs s σ H) (g : Same Hs Hs') {W2 : Wd} (hK : W2.K = W.K) (hp : W2.pa = W.pa) (y : SS W2 Hs' s2 (wipe σ vs) H') : SS W2 Hs' ⟨backG s.g s2.g vs, s2.p⟩ σ H' where
  len := by
    have := y.len
    rw [wipe_length] at this
    simp [backG, this]
  pool := y.pool
  fr := y.fr
  pt := y.pt
  slot := fun i z e => by
    have e : (backG s.g s2.g vs)[i]? = some z := e
    unfold backG at e
    rw [List.getElem?_mapIdx] at e
    cases e1 : s2.g[i]? with
    | none => rw [e1] at e; cases e
    | some u =>
      rw [e1] at e
      by_cases h : i ∈ vs
      · simp [h] at e
        cases e2 : s.g[i]? with
        | none => rw [e2] at e; subst e; trivial
        | some w =>
          rw [e2] at e
          cases w with
          | no => subst e; trivial
          | ow l d => subst e; trivial
          | sh d =>
            subst e
            obtain ⟨v, q1, q2⟩ := x.slot i _ e2
            exact ⟨v, q1, by rw [hK, hp]; exact q2.up g⟩
      · simp [h] at e
        subst e
        have z := y.slot i u e1
        rw [wipe_get, if_neg (fun z => h z.1)] at z
        exact z
  apart := fun i j l m d1 d2 a e1 e2 hij s1 => by
    have key : ∀ {i : Nat} {l d}, (backG s.g s2.g vs)[i]? = some (.ow l d) → i ∉ vs ∧ s2.g[i]? = some (.ow l d) := fun {i l d} e => by
      unfold backG at e
      rw [List.getElem?_mapIdx] at e
      cases e1 : s2.g[i]? with
      | none => rw [e1] at e; cases e
      | some u =>
        rw [e1] at e
        by_cases h : i ∈ vs
        · simp [h] at e
          cases e2 : s.g[i]? with
          | none => rw [e2] at e; cases e
          | some w => rw [e2] at e; cases w <;> cases e
        · simp [h] at e
          exact ⟨h, by rw [e]⟩
    obtain ⟨h1, h2⟩ := key e1
    obtain ⟨h3, h4⟩ := key e2
    refine fun q => y.apart i j l m d1 d2 a h2 h4 hij ?_ ?_
    · rw [wipe_get, if_neg (fun z => h1 z.1)]; exact s1
    · rw [wipe_get, if_neg (fun z => h3 z.1)]; exact q
/-- a cell that others keep -/
theorem ss_frame {p : Addr} {o : HO} (x : SS W Hs s σ H) (hp : H p = none) : SS { W with Fr := upd W.Fr p o } Hs s σ (upd H p o) := by
  have ne : ∀ b u, H b = some u → b ≠ p := fun b u e => ne_of_none e hp
  refine ⟨x.len, fun b u e => ?_, fun b u e => ?_, ⟨?_, x.pt.2.1, ?_⟩, fun i y e => ?_, x.apart⟩
  · have hb : b ≠ p := fun q => by rw [q, x.pool.none_of hp] at e; cases e
    rw [upd_ne hb]
    exact x.pool b u e
  · have e : upd W.Fr p o b = some u := e
    by_cases hb : b = p
    · subst hb
      rw [upd_same] at e ⊢
      exact ⟨e, x.pool.none_of hp⟩
    · rw [upd_ne hb] at e ⊢
      exact x.fr b u e
  · show upd H p o W.pa = _
    rw [upd_ne (ne _ _ x.pt.1)]
    exact x.pt.1
  · show upd W.Fr p o W.pa = none
    rw [upd_ne (ne _ _ x.pt.1)]
    exact x.pt.2.2
  · have z := x.slot i y e
    cases y with
    | no => trivial
    | sh d' => exact z
    | ow l d' =>
      obtain ⟨b, q1, ⟨o', q2, q3⟩, q4, q5, q6⟩ := z
      refine ⟨b, q1, ⟨o', by rw [upd_ne (ne _ _ q2)]; exact q2, q3⟩, q4, ?_, q6⟩
      show upd W.Fr p o b = none
      rw [upd_ne (ne _ _ q2)]
      exact q5
/-- it is written to -/
theorem ss_frset {p : Addr} {o o' : HO} (x : SS { W with Fr := upd W.Fr p o } Hs s σ H) : SS { W with Fr := upd W.Fr p o' } Hs s σ (upd H p o') := by
  have hp := x.fr p o upd_same
  have nf : ∀ b, upd W.Fr p o b = none → b ≠ p ∧ W.Fr b = none := fun b e => by
    by_cases hb : b = p
    · subst hb; rw [upd_same] at e; cases e
    · rw [upd_ne hb] at e; exact ⟨hb, e⟩
  refine ⟨x.len, fun b u e => ?_, fun b u e => ?_, ⟨?_, x.pt.2.1, ?_⟩, fun i y e => ?_, x.apart⟩
  · have hb : b ≠ p := fun q => by rw [q, hp.2] at e; cases e
    rw [upd_ne hb]
    exact x.pool b u e
  · have e : upd W.Fr p o' b = some u := e
    by_cases hb : b = p
    · subst hb
      rw [upd_same] at e ⊢
      exact ⟨e, hp.2⟩
    · rw [upd_ne hb] at e ⊢
      exact x.fr b u (by show upd W.Fr p o b = some u; rw [upd_ne hb]; exact e)
  · have z := nf _ x.pt.2.2
    show upd H p o' W.pa = _
    rw [upd_ne z.1]
    exact x.pt.1
  · have z := nf _ x.pt.2.2
    show upd W.Fr p o' W.pa = none
    rw [upd_ne z.1]
    exact z.2
  · have z := x.slot i y e
    cases y with
    | no => trivial
    | sh d' => exact z
    | ow l d' =>
      obtain ⟨b, q1, ⟨o2, q2, q3⟩, q4, q5, q6⟩ := z
      have w := nf _ q5
      refine ⟨b, q1, ⟨o2, by rw [upd_ne w.1]; exact q2, q3⟩, q4, ?_, q6⟩
      show upd W.Fr p o' b = none
      rw [upd_ne w.1]
      exact w.2
/-- it becomes a cell of one's own -/
theorem ss_frout {p : Addr} {o : HO} {d : D} (x : SS { W with Fr := upd W.Fr p o } Hs s σ H) (h0 : W.Fr p = none) (r : RepC W.K W.pa Hs d o) : SS W Hs s σ H ∧ Fresh W s σ Hs H p d := by
  have hp := x.fr p o upd_same
  have nf : ∀ b, upd W.Fr p o b = none → b ≠ p ∧ W.Fr b = none := fun b e => by
    by_cases hb : b = p
    · subst hb; rw [upd_same] at e; cases e
    · rw [upd_ne hb] at e; exact ⟨hb, e⟩
  have z := nf _ x.pt.2.2
  refine ⟨⟨x.len, x.pool, fun b u e => ?_, ⟨x.pt.1, x.pt.2.1, z.2⟩, fun i y e => ?_, x.apart⟩, ⟨⟨o, hp.1, r⟩, hp.2, h0, fun q => z.1 q.symm, fun i l e h1 h2 => ?_⟩⟩
  · refine x.fr b u ?_
    show upd W.Fr p o b = some u
    rw [upd_ne (fun q => by rw [q, h0] at e; cases e)]
    exact e
  · have w := x.slot i y e
    cases y with
    | no => trivial
    | sh d' => exact w
    | ow l d' =>
      obtain ⟨b, q1, q2, q4, q5, q6⟩ := w
      exact ⟨b, q1, q2, q4, (nf _ q5).2, q6⟩
  · obtain ⟨b, q1, q2, q4, q5, q6⟩ := x.slot i _ h1
    rw [q1] at h2
    cases h2
    exact (nf _ q5).1 rfl
theorem snd_lc {us : List Nat} {wi : TI} {g : TG} {tt : TT} {te : TE} {mi : MI} {mg : MG} {mt : MT} {me : ME} (hi : SndI K E wi mi) (hg : SndG K us g mg) (ht : SndT K E0 tt mt) (he : SndE K E0 te me) (hus : ∀ i ∈ us, i ∈ vs) : SndF K E (tLc wi g tt te vs) (mLc mi mg mt me vs) := fun W s σ H Hs Q hK x q => by
  refine hi W s σ H Hs _ hK x (Post.bind q fun src s1 J H1 Hs1 _ g1 x1 o1 q1 => ?_)
  obtain ⟨hgd, q1⟩ := Post.ite q1
  have kg : ∀ p ∈ src.gd, p.1 ∉ vs := fun p hp => by
    have := List.all_eq_true.mp hgd p hp
    simpa using this
  intro Dl hD
  have f0 : W.Fr Dl = none := by
    cases e : W.Fr Dl with
    | none => rfl
    | some u =>
      have z := (x1.fr Dl u e).1
      rw [hD] at z
      cases z
  -- what the walk through the items is to give
  let Rest : List D → S → List D → Hp → Prop := fun ds s2 acc Hs2 => Post W E Hs2 σ (okF W σ) Q ((noEx (lcGo src.gd mg mt me vs ds s2 acc)).bind fun q => .ok (.lst q.1, ⟨backG s1.g q.2.g vs, q.2.p⟩))
  refine ⟨fun i m H2 => m = src.items.length - i ∧ i ≤ src.items.length ∧ ∃ s2 Hs2 acc ds, Same Hs1 Hs2 ∧ SS { W with Fr := upd W.Fr Dl (.lst acc) } Hs2 s2 (wipe σ vs) H2 ∧ RepL W.K W.pa Hs2 ds acc ∧ Rest (src.items.drop i) s2 ds Hs2, ⟨_, rfl, Nat.zero_le _, wipeS s1 vs, Hs1, [], [], Same.rfl' _, ss_frame (ss_wipe x1 vs) hD, rfl, q1⟩, ?_⟩
  rintro i m H2 ⟨rfl, hle, s2, Hs2, acc, ds, g2, x2, r2, q2⟩
  have kk : ∀ p ∈ src.gd, (wipe σ vs)[p.1]? = σ[p.1]? := fun p hp => by rw [wipe_get, if_neg (fun z => kg p hp z.1)]
  by_cases hlt : i < src.items.length
  · right
    have q2 : Rest (src.items.drop i) s2 ds Hs2 := q2
    simp only [Rest] at q2
    rw [List.drop_eq_getElem_cons hlt] at q2
    unfold lcGo at q2
    have split : ∀ {c : Prop} {ic : Decidable c} {r : R (List D × S)}, Post W E Hs2 σ (okF W σ) Q ((noEx (if c then r else .stuck)).bind fun q => .ok (.lst q.1, ⟨backG s1.g q.2.g vs, q.2.p⟩)) → c ∧ Post W E Hs2 σ (okF W σ) Q ((noEx r).bind fun q => .ok (.lst q.1, ⟨backG s1.g q.2.g vs, q.2.p⟩)) := fun {c ic r} h => by
      by_cases hc : c
      · rw [if_pos hc] at h; exact ⟨hc, h⟩
      · rw [if_neg hc] at h; exact h.elim
    obtain ⟨hh, q2⟩ := split q2
    obtain ⟨go, _, yl⟩ := o1 { W with Fr := upd W.Fr Dl (.lst acc) } s2 (wipe σ vs) Hs2 H2 rfl rfl x2 g2 kk hh
    refine ⟨go i hlt, fun H5 => ∃ m', m' < src.items.length - i ∧ (m' = src.items.length - (i + 1) ∧ i + 1 ≤ src.items.length ∧ ∃ s5 Hs5 acc ds, Same Hs1 Hs5 ∧ SS { W with Fr := upd W.Fr Dl (.lst acc) } Hs5 s5 (wipe σ vs) H5 ∧ RepL W.K W.pa Hs5 ds acc ∧ Rest (src.items.drop (i + 1)) s5 ds Hs5), fun _ z => z, fun y H3 hy => ?_⟩
    obtain ⟨Hs3, d, g3, e3, r3⟩ := yl i y H3 hlt hy
    rw [List.getElem?_eq_getElem hlt] at e3
    cases e3
    cases e4 : mg src.items[i] s2 with
    | none => rw [e4] at q2; exact q2.elim
    | some s4 =>
      rw [e4] at q2
      refine hg { W with Fr := upd W.Fr Dl (.lst acc) } s2 (wipe σ vs) H3 Hs3 _ y s4 _ hK (x2.grow g3) (hK ▸ r3) e4 fun σ4 k4 x4 => ?_
      have w4 : wipe σ4 vs = wipe σ vs := wipe_same (k4.mono hus)
      refine ⟨w4, ?_⟩
      refine ht { W with Fr := upd W.Fr Dl (.lst acc) } s4 σ4 H3 Hs3 _ hK x4 ?_
      cases e5 : mt s4 with
      | stuck =>
        have q2 : Post W E Hs2 σ (okF W σ) Q ((noEx ((mt s4).bind _)).bind _) := q2
        rw [e5] at q2
        exact q2.elim
      | ex e' s' =>
        have q2 : Post W E Hs2 σ (okF W σ) Q ((noEx ((mt s4).bind _)).bind _) := q2
        rw [e5] at q2
        exact q2.elim
      | ok pb =>
        have q2 : Post W E Hs2 σ (okF W σ) Q ((noEx ((mt s4).bind _)).bind _) := q2
        rw [e5] at q2
        obtain ⟨b, s5⟩ := pb
        intro b' H5 Hs5 g5 x5 ob
        cases (show b' = b from ob)
        cases b with
        | false =>
          show ∃ m', _
          refine ⟨_, by omega, rfl, hlt, wipeS s5 vs, Hs5, acc, ds, Same.trans' g2 (Same.trans' g3.s g5), ?_, (r2.up g3.s).up g5, ?_⟩
          · have := ss_wipe x5 vs
            rw [w4] at this
            exact this
          · exact Post.up q2 (Same.trans' g3.s g5)
        | true =>
          show te σ4 H5 _
          refine he { W with Fr := upd W.Fr Dl (.lst acc) } s5 σ4 H5 Hs5 _ hK x5 ?_
          cases e6 : me s5 with
          | stuck =>
            have q2 : Post W E Hs2 σ (okF W σ) Q ((noEx ((me s5).bind _)).bind _) := q2
            rw [e6] at q2
            exact q2.elim
          | ex e' s' =>
            have q2 : Post W E Hs2 σ (okF W σ) Q ((noEx ((me s5).bind _)).bind _) := q2
            rw [e6] at q2
            exact q2.elim
          | ok pa =>
            have q2 : Post W E Hs2 σ (okF W σ) Q ((noEx ((me s5).bind _)).bind _) := q2
            rw [e6] at q2
            obtain ⟨xa, s6⟩ := pa
            cases xa with
            | bor _ => exact q2.elim
            | val ya =>
              obtain ⟨hsz, q2⟩ := split q2
              intro z H6 Hs6 g6 x6 oz
              have fr6 := x6.fr Dl _ upd_same
              have gg : Same Hs2 Hs6 := Same.trans' g3.s (Same.trans' g5 g6)
              have r6 : RepL W.K W.pa Hs6 ds acc := r2.up gg
              refine ⟨acc, fr6.1, by rw [← r6.len]; exact Evl.sz_lt hsz, ?_⟩
              refine ⟨_, by omega, rfl, hlt, wipeS s6 vs, Hs6, acc ++ [z], ds ++ [ya], Same.trans' g2 gg, ?_, r6.app (RepL.cons oz rfl), Post.up q2 gg⟩
              have := ss_wipe (ss_frset (o' := .lst (acc ++ [z])) x6) vs
              rw [w4] at this
              exact this
  · left
    have e : i = src.items.length := by omega
    subst e
    have q2 : Rest (src.items.drop src.items.length) s2 ds Hs2 := q2
    simp only [Rest] at q2
    rw [List.drop_length] at q2
    unfold lcGo at q2
    by_cases hh : hold src.gd s2
    · rw [if_pos hh] at q2
      obtain ⟨_, st, _⟩ := o1 { W with Fr := upd W.Fr Dl (.lst acc) } s2 (wipe σ vs) Hs2 H2 rfl rfl x2 g2 kk hh
      refine ⟨st, ?_⟩
      have xb := ss_back (vs := vs) (s2 := s2) x1 g2 (W2 := { W with Fr := upd W.Fr Dl (.lst acc) }) rfl rfl x2
      obtain ⟨x3, fr⟩ := ss_frout (d := .lst ds) xb f0 ⟨acc, rfl, r2⟩
      exact q2 _ H2 Hs2 (Same.rfl' _) x3 ⟨Dl, rfl, fr⟩
    · rw [if_neg hh] at q2
      exact q2.elim
end
end Mi

namespace Mi
open PySem PySem.Spec PyProof.Rows L2
open PySem.W (Frag)
/-! ### defs -/
inductive FR where
  | ok (d : D) (outs : List Slot) (p : Int × Int) | ex (e : Ex) (outs : List Slot) (p : Int × Int) | stuck
abbrev Fn := List Slot → Int × Int → FR
def PostR (W : Wd) (Hs : Hp) (vs : List V) (Q : VK) (E : XK) (r : FR) : Prop := match r with
  | .ok d outs p => ∀ v H' Hs', Same Hs Hs' → SS W Hs' ⟨outs, p⟩ (vs.map some) H' → Rep W.K W.pa Hs' d v → Q v H'
  | .ex e outs p => ∀ H' Hs' cls dd, Same Hs Hs' → SS W Hs' ⟨outs, p⟩ (vs.map some) H' → XRep W Hs' e cls dd → E cls dd H'
  | .stuck => False
def spM (K : Frag) (n : Nat) (F : Fn) : Sp := fun vs H Q E => ∃ (W : Wd) (Hs : Hp) (args : List Slot) (p : Int × Int), W.K = K ∧ vs.length = n ∧ SS W Hs ⟨args, p⟩ (vs.map some) H ∧ PostR W Hs vs Q E (F args p)
def outsOf : List Slot → List Slot → Option (List Slot)
  | [], _ => some []
  | .ow l _ :: as, .ow l' d' :: gs => if l.isSome ∧ l = l' then (outsOf as gs).map (.ow l d' :: ·) else none
  | .ow _ _ :: _, _ => none
  | _ :: as, _ :: gs => (outsOf as gs).map (.no :: ·)
  | _ :: _, [] => none
def fnOf (n : Nat) (m : MS) : Fn := fun args p => match m ⟨args ++ List.replicate (n - args.length) .no, p⟩ with
  | .ok (.rt d, s') => (match outsOf args s'.g with
    | some os => .ok d os s'.p
    | none => .stuck)
  | .ok (.nx, s') => (match outsOf args s'.g with
    | some os => .ok .non os s'.p
    | none => .stuck)
  | .ex e s' => (match outsOf args s'.g with
    | some os => .ex e os s'.p
    | none => .stuck)
  | _ => .stuck
theorem outsOf_get : ∀ {as gs os : List Slot}, outsOf as gs = some os → os.length = as.length ∧ ∀ (i : Nat) y, os[i]? = some y → y = .no ∨ ∃ k d d', y = .ow (some k) d' ∧ as[i]? = some (.ow (some k) d) ∧ gs[i]? = some (.ow (some k) d')
  | [], gs, os, e => by
    cases (show some [] = some os from by simpa [outsOf] using e)
    exact ⟨rfl, fun i y h => by simp at h⟩
  | a :: as, gs, os, e => by
    have rest : ∀ {x : Slot} {gs' : List Slot} {os : List Slot}, (outsOf as gs').map (x :: ·) = some os → ∃ ot, outsOf as gs' = some ot ∧ os = x :: ot := fun {x gs' os} h => by
      cases e2 : outsOf as gs' with
      | none => rw [e2] at h; cases h
      | some ot => rw [e2] at h; cases h; exact ⟨ot, rfl, rfl⟩
    have plain : ∀ {gs' : List Slot} {g : Slot} {os : List Slot}, (outsOf as gs').map (.no :: ·) = some os → os.length = (a :: as).length ∧ ∀ (i : Nat) y, os[i]? = some y → y = .no ∨ ∃ k d d', y = .ow (some k) d' ∧ (a :: as)[i]? = some (.ow (some k) d) ∧ (g :: gs')[i]? = some (.ow (some k) d') := fun {gs' g os} h => by
      obtain ⟨ot, e1, rfl⟩ := rest h
      obtain ⟨h1, h2⟩ := outsOf_get e1
      refine ⟨by simp [h1], fun i y hy => ?_⟩
      cases i with
      | zero => simp at hy; exact .inl hy.symm
      | succ i =>
        simp at hy
        rcases h2 i y hy with z | ⟨k, d, d', z1, z2, z3⟩
        · exact .inl z
        · exact .inr ⟨k, d, d', z1, by simpa using z2, by simpa using z3⟩
    cases gs with
    | nil => cases a <;> simp [outsOf] at e
    | cons g gs =>
      cases a with
      | no => exact plain (by simpa [outsOf] using e)
      | sh d => exact plain (by simpa [outsOf] using e)
      | ow l d =>
        cases g with
        | no => simp [outsOf] at e
        | sh d => simp [outsOf] at e
        | ow l' d' =>
          have e : (if l.isSome ∧ l = l' then (outsOf as gs).map (.ow l d' :: ·) else none) = some os := by simpa only [outsOf] using e
          by_cases hc : l.isSome ∧ l = l'
          · rw [if_pos hc] at e
            obtain ⟨ot, e1, rfl⟩ := rest e
            obtain ⟨h1, h2⟩ := outsOf_get e1
            obtain ⟨hs, rfl⟩ := hc
            obtain ⟨k, rfl⟩ := Option.isSome_iff_exists.mp hs
            refine ⟨by simp [h1], fun i y hy => ?_⟩
            cases i with
            | zero => simp at hy; exact .inr ⟨k, d, d', hy.symm, rfl, rfl⟩
            | succ i =>
              simp at hy
              rcases h2 i y hy with z | ⟨k, d, d', z1, z2, z3⟩
              · exact .inl z
              · exact .inr ⟨k, d, d', z1, by simpa using z2, by simpa using z3⟩
          · rw [if_neg hc] at e; cases e
section
variable {K : Frag} {E : XK} {W : Wd} {Hs Hs' H H' : Hp} {σ σ' : L2.St} {s : S} {ws : List Nat}
/-- a def's slots: its arguments, the others empty -/
theorem ss_start {vs : List V} {N : List Str} {args : List Slot} {p : Int × Int} (x : SS W Hs ⟨args, p⟩ (vs.map some) H) : SS W Hs ⟨args ++ List.replicate (N.length - args.length) .no, p⟩ (L2.start N vs) H := by
  have hl : args.length = vs.length := by have := x.len; simpa using this
  have key : ∀ (i : Nat) y, (args ++ List.replicate (N.length - args.length) Slot.no)[i]? = some y → y = .no ∨ (i < args.length ∧ args[i]? = some y) := fun i y e => by
    by_cases h : i < args.length
    · rw [List.getElem?_append_left h] at e
      exact .inr ⟨h, e⟩
    · rw [List.getElem?_append_right (by omega)] at e
      have := List.mem_of_getElem? e
      simp at this
      exact .inl this.2
  have st : ∀ i, i < args.length → (L2.start N vs)[i]? = (vs.map some)[i]? := fun i h => by
    unfold L2.start
    rw [List.getElem?_append_left (by simp; omega)]
  refine ⟨by simp [L2.start, hl], x.pool, x.fr, x.pt, fun i y e => ?_, fun i j l m d e a e1 e2 hij s1 => ?_⟩
  · rcases key i y e with rfl | ⟨h1, h2⟩
    · trivial
    · rw [st i h1]
      exact x.slot i y h2
  · rcases key i _ e1 with z | ⟨h1, h2⟩
    · cases z
    rcases key j _ e2 with z | ⟨h3, h4⟩
    · cases z
    rw [st i h1] at s1
    rw [st j h3]
    exact x.apart i j l m d e a h2 h4 hij s1
theorem ss_outs {vs : List V} {N : List Str} {args outs : List Slot} {p : Int × Int} {s' : S} (x : SS W Hs ⟨args, p⟩ (vs.map some) H) (y : SS W Hs' s' σ' H') (e : outsOf args s'.g = some outs) : SS W Hs' ⟨outs, s'.p⟩ (vs.map some) H' := by
  obtain ⟨h1, h2⟩ := outsOf_get e
  have hl : args.length = vs.length := by have := x.len; simpa using this
  have adr : ∀ (i : Nat) k d d', args[i]? = some (.ow (some k) d) → s'.g[i]? = some (.ow (some k) d') → (vs.map some)[i]? = some (some (.ref (W.ad k))) ∧ σ'[i]? = some (some (.ref (W.ad k))) := fun i k d d' e1 e2 => by
    obtain ⟨a, q1, _, _, _, _, q⟩ := x.slot i _ e1
    obtain ⟨b, r1, _, _, _, _, r⟩ := y.slot i _ e2
    rw [q k rfl] at q1
    rw [r k rfl] at r1
    exact ⟨q1, r1⟩
  refine ⟨by simp [h1, hl], y.pool, y.fr, y.pt, fun i z ez => ?_, fun i j l m d e a e1 e2 hij s1 => ?_⟩
  · rcases h2 i z ez with rfl | ⟨k, d, d', rfl, e1, e2⟩
    · trivial
    · obtain ⟨a1, a2⟩ := adr i k d d' e1 e2
      obtain ⟨b, r1, r2⟩ := y.slot i _ e2
      rw [a2] at r1
      cases r1
      exact ⟨_, a1, r2⟩
  · rcases h2 i _ e1 with z | ⟨k, d1, d1', z1, e3, e4⟩
    · cases z
    rcases h2 j _ e2 with z | ⟨k', d2, d2', z2, e5, e6⟩
    · cases z
    obtain ⟨a1, a2⟩ := adr i k d1 d1' e3 e4
    obtain ⟨b1, b2⟩ := adr j k' d2 d2' e5 e6
    rw [a1] at s1
    cases s1
    rw [b1]
    intro q
    exact y.apart i j _ _ _ _ _ e4 e6 hij a2 (b2.trans q)
theorem body_ok {N : List Str} {vs : List V} {k : Nat} {Q : VK} {t : TS} {m : MS} (h : SndS K E ws t m) (q : spM K k (fnOf N.length m) vs H Q E) : t { nx := fun _ H' => Q .non H', rt := Q } (L2.start N vs) H := by
  obtain ⟨W, Hs, args, p, hK, _, x, q⟩ := q
  refine h W ⟨args ++ List.replicate (N.length - args.length) .no, p⟩ (L2.start N vs) H Hs _ hK (ss_start x) ?_
  unfold fnOf at q
  cases e : m ⟨args ++ List.replicate (N.length - args.length) .no, p⟩ with
  | stuck => rw [e] at q; exact q
  | ex e' s' =>
    rw [e] at q
    cases e2 : outsOf args s'.g with
    | none => simp only [e2] at q; exact q.elim
    | some os =>
      simp only [e2] at q
      exact fun σ' H' Hs' cls d g y r => q H' Hs' cls d g (ss_outs (N := N) x y e2) r
  | ok pr =>
    obtain ⟨f, s'⟩ := pr
    rw [e] at q
    cases f with
    | bk => exact q.elim
    | ct => exact q.elim
    | nx =>
      cases e2 : outsOf args s'.g with
      | none => simp only [e2] at q; exact q.elim
      | some os =>
        simp only [e2] at q
        exact fun σ' H' Hs' g _ y => q .non H' Hs' g (ss_outs (N := N) x y e2) rfl
    | rt d =>
      cases e2 : outsOf args s'.g with
      | none => simp only [e2] at q; exact q.elim
      | some os =>
        simp only [e2] at q
        exact fun v σ' H' Hs' g y r => q v H' Hs' g (ss_outs (N := N) x y e2) r
/-! ### calls -/
def mkSlot (g : List Slot) (k : Nat) : Arg → Slot
  | .val d => .sh d
  | .bor i => match g[i]? with
    | some (.sh d) => .sh d
    | some (.ow _ d) => .ow (some k) d
    | _ => .no
def slotsOf (g : List Slot) : Nat → List Arg → List Slot
  | _, [] => []
  | k, x :: xs => mkSlot g k x :: slotsOf g (k + 1) xs
def lents (g : List Slot) : List Arg → List Nat
  | [] => []
  | .val _ :: xs => lents g xs
  | .bor i :: xs => match g[i]? with
    | some (.ow _ _) => i :: lents g xs
    | _ => lents g xs
def takeBack (g : List Slot) : List Arg → List Slot → Option (List Slot)
  | [], [] => some g
  | .val _ :: xs, _ :: os => takeBack g xs os
  | .bor i :: xs, o :: os => match g[i]? with
    | some (.ow l _) => (match o with
      | .ow _ d' => takeBack (g.set i (.ow l d')) xs os
      | _ => none)
    | _ => takeBack g xs os
  | _, _ => none
def callF (F : Fn) (xs : List Arg) (s : S) : R (Arg × S) := if (lents s.g xs).Nodup then (match F (slotsOf s.g 0 xs) s.p with
  | .ok d outs p' => (ofO (takeBack s.g xs outs)).bind fun g => .ok (.val d, ⟨g, p'⟩)
  | .ex e outs p' => (ofO (takeBack s.g xs outs)).bind fun g => .ex e ⟨g, p'⟩
  | .stuck => .stuck) else .stuck
theorem slotsOf_get {g : List Slot} : ∀ {xs : List Arg} {k i : Nat} {y : Slot}, (slotsOf g k xs)[i]? = some y → ∃ x, xs[i]? = some x ∧ y = mkSlot g (k + i) x
  | [], _, _, _, e => by simp [slotsOf] at e
  | x :: xs, k, 0, y, e => by simp [slotsOf] at e; exact ⟨x, rfl, e.symm⟩
  | x :: xs, k, i + 1, y, e => by
    simp [slotsOf] at e
    obtain ⟨z, h1, h2⟩ := slotsOf_get e
    exact ⟨z, by simpa using h1, by rw [h2]; congr 1; omega⟩
theorem slotsOf_len {g : List Slot} : ∀ {xs : List Arg} {k : Nat}, (slotsOf g k xs).length = xs.length
  | [], _ => rfl
  | x :: xs, k => by simp [slotsOf, slotsOf_len]
theorem lents_mem {g : List Slot} : ∀ {xs : List Arg} {i : Nat} {l d}, .bor i ∈ xs → g[i]? = some (.ow l d) → i ∈ lents g xs
  | [], _, _, _, h, _ => by simp at h
  | .val e :: xs, i, l, d, h, hg => by
    have h : .bor i ∈ xs := by simpa using h
    exact lents_mem (xs := xs) h hg
  | .bor j :: xs, i, l, d, h, hg => by
    unfold lents
    rcases List.mem_cons.mp h with h | h
    · cases h
      rw [hg]
      exact List.mem_cons_self ..
    · cases e : g[j]? with
      | none => exact lents_mem (xs := xs) h hg
      | some y => cases y with
        | ow l d => exact List.mem_cons_of_mem _ (lents_mem (xs := xs) h hg)
        | _ => exact lents_mem (xs := xs) h hg
/-- no slot is lent twice -/
theorem lents_once {g : List Slot} : ∀ {xs : List Arg} {a b i : Nat} {l d}, (lents g xs).Nodup → xs[a]? = some (.bor i) → xs[b]? = some (.bor i) → g[i]? = some (.ow l d) → a = b
  | [], a, _, _, _, _, _, e, _, _ => by simp at e
  | x :: xs, 0, 0, _, _, _, _, _, _, _ => rfl
  | x :: xs, 0, b + 1, i, l, d, hn, e, f, hg => by
    simp at e f
    subst e
    unfold lents at hn
    rw [hg] at hn
    exact absurd (lents_mem (List.mem_of_getElem? f) hg) (List.nodup_cons.mp hn).1
  | x :: xs, a + 1, 0, i, l, d, hn, e, f, hg => by
    simp at e f
    subst f
    unfold lents at hn
    rw [hg] at hn
    exact absurd (lents_mem (List.mem_of_getElem? e) hg) (List.nodup_cons.mp hn).1
  | x :: xs, a + 1, b + 1, i, l, d, hn, e, f, hg => by
    simp at e f
    have hn2 : (lents g xs).Nodup := by
      cases x with
      | val e => exact hn
      | bor j =>
        unfold lents at hn
        cases q : g[j]? with
        | none => simp only [q] at hn; exact hn
        | some y => cases y with
          | ow l d => simp only [q] at hn; exact (List.nodup_cons.mp hn).2
          | no => simp only [q] at hn; exact hn
          | sh d => simp only [q] at hn; exact hn
    rw [lents_once hn2 e f hg]
theorem takeBack_get : ∀ {xs : List Arg} {os g g' : List Slot}, takeBack g xs os = some g' → g'.length = g.length ∧ ∀ (i : Nat) y, g'[i]? = some y → (g[i]? = some y ∧ ∀ l d, y = .ow l d → .bor i ∉ xs) ∨ ∃ (l : Option Nat) (d d' : D) (k : Nat) (m : Option Nat), y = .ow l d' ∧ g[i]? = some (.ow l d) ∧ xs[k]? = some (.bor i) ∧ os[k]? = some (.ow m d')
  | [], [], g, g', e => by
    cases (show some g = some g' from e)
    exact ⟨rfl, fun i y h => .inl ⟨h, fun l d _ => by simp⟩⟩
  | [], o :: os, g, g', e => by simp [takeBack] at e
  | .val x :: xs, [], g, g', e => by simp [takeBack] at e
  | .bor x :: xs, [], g, g', e => by simp [takeBack] at e
  | .val x :: xs, o :: os, g, g', e => by
    obtain ⟨h1, h2⟩ := takeBack_get (show takeBack g xs os = some g' from e)
    refine ⟨h1, fun i y hy => ?_⟩
    rcases h2 i y hy with ⟨z1, z2⟩ | ⟨l, d, d', k, m, z1, z2, z3, z4⟩
    · exact .inl ⟨z1, fun l d e => by simp [z2 l d e]⟩
    · exact .inr ⟨l, d, d', k + 1, m, z1, z2, by simpa using z3, by simpa using z4⟩
  | .bor j :: xs, o :: os, g, g', e => by
    unfold takeBack at e
    have pass : takeBack g xs os = some g' → (∀ l d, g[j]? ≠ some (.ow l d)) → g'.length = g.length ∧ ∀ (i : Nat) y, g'[i]? = some y → (g[i]? = some y ∧ ∀ l d, y = .ow l d → .bor i ∉ .bor j :: xs) ∨ ∃ (l : Option Nat) (d d' : D) (k : Nat) (m : Option Nat), y = .ow l d' ∧ g[i]? = some (.ow l d) ∧ (.bor j :: xs)[k]? = some (.bor i) ∧ (o :: os)[k]? = some (.ow m d') := fun e hj => by
      obtain ⟨h1, h2⟩ := takeBack_get e
      refine ⟨h1, fun i y hy => ?_⟩
      rcases h2 i y hy with ⟨z1, z2⟩ | ⟨l, d, d', k, m, z1, z2, z3, z4⟩
      · refine .inl ⟨z1, fun l d e => ?_⟩
        have := z2 l d e
        simp only [List.mem_cons, not_or]
        refine ⟨fun q => ?_, this⟩
        cases q
        rw [e] at z1
        exact hj l d z1
      · exact .inr ⟨l, d, d', k + 1, m, z1, z2, by simpa using z3, by simpa using z4⟩
    cases q : g[j]? with
    | none => simp only [q] at e; exact pass e (by simp [q])
    | some y =>
      cases y with
      | no => simp only [q] at e; exact pass e (by simp [q])
      | sh d => simp only [q] at e; exact pass e (by simp [q])
      | ow l d =>
        simp only [q] at e
        cases o with
        | no => cases e
        | sh d => cases e
        | ow m d' =>
          have hj : j < g.length := (List.getElem?_eq_some_iff.mp q).1
          obtain ⟨h1, h2⟩ := takeBack_get (show takeBack (g.set j (.ow l d')) xs os = some g' from e)
          refine ⟨by simpa using h1, fun i y hy => ?_⟩
          rcases h2 i y hy with ⟨z1, z2⟩ | ⟨l2, d2, d2', k, m2, z1, z2, z3, z4⟩
          · by_cases hi : j = i
            · subst hi
              rw [List.getElem?_set_self hj] at z1
              cases z1
              exact .inr ⟨l, d, d', 0, m, rfl, q, rfl, rfl⟩
            · rw [List.getElem?_set_ne hi] at z1
              refine .inl ⟨z1, fun l d e => ?_⟩
              simp only [List.mem_cons, not_or]
              exact ⟨fun q => by cases q; exact hi rfl, z2 l d e⟩
          · by_cases hi : j = i
            · subst hi
              rw [List.getElem?_set_self hj] at z2
              cases z2
              exact .inr ⟨l, d, d2', k + 1, m2, z1, q, by simpa using z3, by simpa using z4⟩
            · rw [List.getElem?_set_ne hi] at z2
              exact .inr ⟨l2, d2, d2', k + 1, m2, z1, z2, by simpa using z3, by simpa using z4⟩
theorem ArgsOk.len {xs : List Arg} {vs : List V} (h : ArgsOk W Hs σ xs vs) : xs.length = vs.length := by
  induction h with
  | nil => rfl
  | cons _ _ ih => simp [ih]
theorem ArgsOk.get {xs : List Arg} {vs : List V} (h : ArgsOk W Hs σ xs vs) : ∀ {i : Nat} {x : Arg}, xs[i]? = some x → ∃ v, vs[i]? = some v ∧ ArgOk W Hs σ x v := by
  induction h with
  | nil => intro i x e; simp at e
  | @cons y v xs vs h _ ih =>
    intro i x e
    cases i with
    | zero => simp at e; subst e; exact ⟨v, rfl, h⟩
    | succ i => simp at e; obtain ⟨w, h1, h2⟩ := ih e; exact ⟨w, by simpa using h1, h2⟩
open Classical in
theorem call_core {xs : List Arg} {vs : List V} (x : SS W Hs s σ H) (o : ArgsOk W Hs σ xs vs) (hn : (lents s.g xs).Nodup) : ∃ W' : Wd, W'.K = W.K ∧ W'.pa = W.pa ∧ SS W' Hs ⟨slotsOf s.g 0 xs, s.p⟩ (vs.map some) H ∧
    ∀ Hs' H' outs p' g', Same Hs Hs' → SS W' Hs' ⟨outs, p'⟩ (vs.map some) H' → takeBack s.g xs outs = some g' → SS W Hs' ⟨g', p'⟩ σ H' := by
  let P : Addr → Prop := fun b => ∃ (i : Nat) (l : Option Nat) (d : D), s.g[i]? = some (.ow l d) ∧ σ[i]? = some (some (.ref b)) ∧ .bor i ∉ xs
  let Fr' : Hp := fun b => if P b then H b else W.Fr b
  let ad' : Nat → Addr := fun k => match vs[k]? with
    | some (.ref a) => a
    | _ => W.pa
  have frP : ∀ b, P b → Fr' b = H b := fun b h => if_pos h
  have frN : ∀ b, ¬ P b → Fr' b = W.Fr b := fun b h => if_neg h
  have nP : ∀ b, W.Fr b ≠ none → ¬ P b := fun b h ⟨i, l, d, e1, e2, _⟩ => by
    obtain ⟨a, q1, _, _, q2, _⟩ := x.slot i _ e1
    rw [q1] at e2
    cases e2
    exact h q2
  have hvs : ∀ {i : Nat} {y : V}, vs[i]? = some y → (vs.map some)[i]? = some (some y) := fun {i y} e => by simp [e]
  refine ⟨⟨W.K, W.pa, Fr', ad'⟩, rfl, rfl, ⟨?_, x.pool, fun b u e => ?_, ⟨x.pt.1, x.pt.2.1, ?_⟩, fun k y e => ?_, fun k j l m d e a e1 e2 hij s1 => ?_⟩, ?_⟩
  · simp [slotsOf_len, o.len]
  · have e : Fr' b = some u := e
    by_cases h : P b
    · rw [frP b h] at e
      obtain ⟨i, l, d, e1, e2, _⟩ := h
      obtain ⟨a, q1, _, q2, _⟩ := x.slot i _ e1
      rw [q1] at e2
      cases e2
      exact ⟨e, q2⟩
    · rw [frN b h] at e
      exact x.fr b u e
  · show Fr' W.pa = none
    rw [frN _ ?_]
    · exact x.pt.2.2
    · rintro ⟨i, l, d, e1, e2, _⟩
      obtain ⟨a, q1, _, _, _, q2, _⟩ := x.slot i _ e1
      rw [q1] at e2
      cases e2
      exact q2 rfl
  · obtain ⟨xa, h1, rfl⟩ := slotsOf_get e
    obtain ⟨v, h2, h3⟩ := o.get h1
    rw [hvs h2]
    cases xa with
    | val d => exact ⟨v, rfl, h3⟩
    | bor i =>
      have h3 : σ[i]? = some (some v) := h3
      unfold mkSlot
      dsimp only
      cases q : s.g[i]? with
      | none => trivial
      | some y =>
        have z := x.slot i y q
        cases y with
        | no => trivial
        | sh d =>
          obtain ⟨u, z1, z2⟩ := z
          rw [h3] at z1
          cases z1
          exact ⟨_, rfl, z2⟩
        | ow l d =>
          obtain ⟨a, z1, z2, z3, z4, z5, z6⟩ := z
          rw [h3] at z1
          cases z1
          refine ⟨a, rfl, z2, z3, ?_, z5, fun k' hk => ?_⟩
          · show Fr' a = none
            rw [frN a ?_]
            · exact z4
            · rintro ⟨j, l', d', e1, e2, e3⟩
              have hij : i ≠ j := fun h => by subst h; exact e3 (List.mem_of_getElem? h1)
              exact x.apart i j _ _ _ _ a q e1 hij h3 e2
          · cases hk
            show a = (match vs[0 + k]? with
              | some (.ref a) => a
              | _ => W.pa)
            rw [Nat.zero_add, h2]
  · obtain ⟨xa, h1, f1⟩ := slotsOf_get e1
    obtain ⟨xb, h2, f2⟩ := slotsOf_get e2
    have lent : ∀ {k : Nat} {xa : Arg} {k' l d}, xs[k]? = some xa → Slot.ow l d = mkSlot s.g k' xa → ∃ (i : Nat) (l2 : Option Nat) (d2 : D), xa = .bor i ∧ s.g[i]? = some (.ow l2 d2) := fun {k xa k' l d} h f => by
      cases xa with
      | val d => cases f
      | bor i =>
        unfold mkSlot at f
        dsimp only at f
        cases q : s.g[i]? with
        | none => rw [q] at f; cases f
        | some y =>
          rw [q] at f
          cases y with
          | ow l2 d2 => exact ⟨i, l2, d2, rfl, q⟩
          | _ => cases f
    obtain ⟨i1, l1, d1, rfl, g1⟩ := lent h1 f1
    obtain ⟨i2, l2, d2, rfl, g2⟩ := lent h2 f2
    obtain ⟨v1, w1, w2⟩ := o.get h1
    obtain ⟨v2, w3, w4⟩ := o.get h2
    have w2 : σ[i1]? = some (some v1) := w2
    have w4 : σ[i2]? = some (some v2) := w4
    rw [hvs w1] at s1
    cases s1
    rw [hvs w3]
    intro z
    cases z
    have hne : i1 ≠ i2 := fun h => by
      subst h
      exact hij (lents_once hn h1 h2 g1)
    exact x.apart i1 i2 _ _ _ _ a g1 g2 hne w2 w4
  · intro Hs' H' outs p' g' gs y e
    obtain ⟨hl, hg⟩ := takeBack_get e
    have pt := y.pt
    refine ⟨by rw [show (S.mk g' p').g = g' from rfl, hl]; exact x.len, y.pool, fun b u e => ?_, ⟨pt.1, pt.2.1, x.pt.2.2⟩, fun i z ez => ?_, fun i j l m d e a e1 e2 hij s1 => ?_⟩
    · refine y.fr b u ?_
      show Fr' b = some u
      rw [frN b (nP b (by rw [e]; simp))]
      exact e
    · rcases hg i z ez with ⟨h1, h2⟩ | ⟨l, d, d', k, m, rfl, h1, h2, h3⟩
      · have w := x.slot i z h1
        cases z with
        | no => trivial
        | sh d => obtain ⟨u, w1, w2⟩ := w; exact ⟨u, w1, w2.up gs⟩
        | ow l d =>
          obtain ⟨a, w1, ⟨ob, w2, w3⟩, w4, w5⟩ := w
          have pa : P a := ⟨i, l, d, h1, w1, h2 l d rfl⟩
          have z := y.fr a ob (by show Fr' a = some ob; rw [frP a pa]; exact w2)
          exact ⟨a, w1, ⟨ob, z.1, w3.up gs⟩, z.2, w5⟩
      · obtain ⟨a, w1, _, w4, w5⟩ := x.slot i _ h1
        obtain ⟨v, u1, u2⟩ := o.get h2
        have u2 : σ[i]? = some (some v) := u2
        rw [w1] at u2
        cases u2
        obtain ⟨b, q1, q2, q3, q4⟩ := y.slot k _ h3
        rw [hvs u1] at q1
        cases q1
        exact ⟨a, w1, q2, q3, w5⟩
    · have own : ∀ {i : Nat} {l d}, g'[i]? = some (.ow l d) → ∃ d2, s.g[i]? = some (.ow l d2) := fun {i l d} e => by
        rcases hg i _ e with ⟨h1, _⟩ | ⟨l', d1, d', k, m, h0, h1, _⟩
        · exact ⟨d, h1⟩
        · cases h0; exact ⟨d1, h1⟩
      obtain ⟨d3, h3⟩ := own e1
      obtain ⟨d4, h4⟩ := own e2
      exact x.apart i j l m d3 d4 a h3 h4 hij s1
/-- the call of a def that keeps F -/
theorem snd_callF {F : Fn} {xs : List Arg} {vs : List V} {n : Nat} {Q : VK} (hK : W.K = K) (x : SS W Hs s σ H) (o : ArgsOk W Hs σ xs vs) (hlen : vs.length = n) (q : Post W E Hs σ (okE W σ) Q (callF F xs s)) : spM K n F vs H Q E := by
  obtain ⟨hn, q⟩ := Post.ite q
  obtain ⟨W', h1, h2, h3, h4⟩ := call_core x o hn
  refine ⟨W', Hs, slotsOf s.g 0 xs, s.p, h1.trans hK, hlen, h3, ?_⟩
  cases e : F (slotsOf s.g 0 xs) s.p with
  | stuck => rw [e] at q; exact q
  | ok d outs p' =>
    rw [e] at q
    obtain ⟨g, eg, q⟩ := Post.ofO q
    exact fun v H' Hs' gs y r => q v H' Hs' gs (h4 Hs' H' outs p' g gs y eg) (by rw [h1, h2] at r; exact r)
  | ex e' outs p' =>
    rw [e] at q
    obtain ⟨g, eg, q⟩ := Post.ofO q
    exact fun H' Hs' cls dd gs y r => q σ H' Hs' cls dd gs (h4 Hs' H' outs p' g gs y eg) (by unfold XRep at r ⊢; rw [h1, h2] at r; exact r)
def mCall (n : Nat) (F : Fn) (m : MA) : ME := fun s => (m s).bind fun p => if p.1.length = n then callF F p.1 p.2 else .stuck
theorem snd_call {n : Nat} {F : Fn} {t : TA} {m : MA} (h : SndA K E t m) : SndE K E (Z.tCl (spM K n F) E t) (mCall n F m) := fun W s σ H Hs Q hK x q => by
  refine h W s σ H Hs _ hK x (Post.bind q fun xs s1 vs H1 Hs1 _ g1 x1 o1 q1 => ?_)
  obtain ⟨hl, q1⟩ := Post.ite q1
  exact snd_callF hK x1 o1 (o1.len.symm.trans hl) q1
/-- o.m(..) -/
def asObj (c : Str) : D → Option (List Str)
  | .obj c' ns _ => if c' = c then some ns else none
  | _ => none
def mMeth (c : Str) (mn : Str) (n : Nat) (F : Fn) (mo : ME) (m : MA) : ME := fun s => (mo s).bind fun o => (ofO ((view o.2 o.1).bind (asObj c))).bind fun ns => if mn ∉ ns then (m o.2).bind fun p => if p.1.length + 1 = n then callF F (o.1 :: p.1) p.2 else .stuck else .stuck
theorem asObj_of {c : Str} {pa : Addr} {d : D} {ns : List Str} {v : V} (e : asObj c d = some ns) (r : RepT K pa Hs H d v) : ∃ a dx gs, v = .ref a ∧ H a = some (.ins (He.ga K c) dx gs) ∧ gs.map (·.1) = ns := by
  cases d with
  | obj c' ns' ds =>
    have e : (if c' = c then some ns' else none) = some ns := e
    by_cases h : c' = c
    · rw [if_pos h] at e
      cases e
      subst h
      obtain ⟨a, dx, gs, e1, h1, h2, h3⟩ := r
      exact ⟨a, dx, gs, e1, h1, h2⟩
    · rw [if_neg h] at e; cases e
  | _ => cases e
theorem lookup_none {gs : List (Str × V)} {f : Str} (h : f ∉ gs.map (·.1)) : gs.lookup f = none := by
  induction gs with
  | nil => rfl
  | cons p gs ih =>
    obtain ⟨k, v⟩ := p
    simp at h
    have hk : (f == k) = false := by
      cases q : (f == k) with
      | false => rfl
      | true => exact absurd (eq_of_beq q) h.1
    rw [List.lookup_cons, hk]
    exact ih (by simpa using h.2)
theorem snd_meth {c mn : Str} {n : Nat} {F : Fn} {to : TE} {t : TA} {mo : ME} {m : MA} (ho : SndE K E to mo) (h : SndA K E t m) : SndE K E (tMethR (He.ga K c) mn (spM K n F) E to t) (mMeth c mn n F mo m) := fun W s σ H Hs Q hK x q => by
  refine ho W s σ H Hs _ hK x (Post.bind q fun xo s1 v H1 Hs1 _ g1 x1 o1 q1 => ?_)
  obtain ⟨ns, e1, q1⟩ := Post.ofO q1
  obtain ⟨hm, q1⟩ := Post.ite q1
  cases e2 : view s1 xo with
  | none => rw [e2] at e1; cases e1
  | some d =>
    rw [e2] at e1
    have r := ArgOk.t x1 o1 e2
    rw [hK] at r
    obtain ⟨a, dx, gs, rfl, h1, h2⟩ := asObj_of e1 r
    refine ⟨a, dx, gs, rfl, h1, lookup_none (by rw [h2]; exact hm), ?_⟩
    refine h W s1 σ H1 Hs1 _ hK x1 (Post.bind q1 fun xs s2 vs H2 Hs2 _ g2 x2 o2 q2 => ?_)
    obtain ⟨hl, q2⟩ := Post.ite q2
    exact snd_callF hK x2 (.cons (ArgOk.up g2 o1) o2) (by simp [← o2.len]; exact hl) q2
/-- a property -/
def mProp (c : Str) (F : Fn) (mo : ME) : ME := fun s => (mo s).bind fun o => (ofO ((view o.2 o.1).bind (asObj c))).bind fun _ => noEx (callF F [o.1] o.2)
theorem post_noEx {Q : VK} {r : R (Arg × S)} (h : Post W E Hs σ (okE W σ) Q (noEx r)) {E' : XK} : Post W E' Hs σ (okE W σ) Q r := by
  cases r with
  | ok p => exact h
  | ex e s => exact h.elim
  | stuck => exact h
end
end Mi

namespace Mi
open PySem PySem.Spec PyProof.Rows L2
open PySem.W (Frag)
section
variable {K : Frag} {E : XK} {W : Wd} {Hs Hs' H H' : Hp} {σ σ' : L2.St} {s : S} {ws : List Nat}
theorem snd_prop {c : Str} {F : Fn} {to : TE} {mo : ME} (ho : SndE K E to mo) : SndE K E (Z.tPropR (He.ga K c) (spM K 1 F) E0 to) (mProp c F mo) := fun W s σ H Hs Q hK x q => by
  refine ho W s σ H Hs _ hK x (Post.bind q fun xo s1 v H1 Hs1 _ g1 x1 o1 q1 => ?_)
  obtain ⟨ns, e1, q1⟩ := Post.ofO q1
  cases e2 : view s1 xo with
  | none => rw [e2] at e1; cases e1
  | some d =>
    rw [e2] at e1
    have r := ArgOk.t x1 o1 e2
    rw [hK] at r
    obtain ⟨a, dx, gs, rfl, h1, h2⟩ := asObj_of e1 r
    exact ⟨a, dx, gs, rfl, h1, snd_callF hK x1 (.cons o1 .nil) rfl (post_noEx q1)⟩
/-- a new cell that nobody speaks of -/
theorem ss_new {p : Addr} {o : HO} (x : SS W Hs s σ H) (hp : H p = none) : SS W Hs s σ (upd H p o) := by
  have ne : ∀ b u, H b = some u → b ≠ p := fun b u e => ne_of_none e hp
  refine ⟨x.len, fun b u e => ?_, fun b u e => ?_, ?_, fun i y e => ?_, x.apart⟩
  · have hb : b ≠ p := fun q => by rw [q, x.pool.none_of hp] at e; cases e
    rw [upd_ne hb]
    exact x.pool b u e
  · have z := x.fr b u e
    exact ⟨by rw [upd_ne (ne b u z.1)]; exact z.1, z.2⟩
  · exact ⟨by rw [upd_ne (ne _ _ x.pt.1)]; exact x.pt.1, x.pt.2⟩
  · have z := x.slot i y e
    cases y with
    | no => trivial
    | sh d' => exact z
    | ow l d' =>
      obtain ⟨b, q1, ⟨o', q2, q3⟩, q4⟩ := z
      exact ⟨b, q1, ⟨o', by rw [upd_ne (ne _ _ q2)]; exact q2, q3⟩, q4⟩
theorem ss_push {a : Addr} {d : D} (x : SS W Hs s σ H) (f : Fresh W s σ Hs H a d) : SS W Hs ⟨s.g ++ [.ow none d], s.p⟩ (σ ++ [some (.ref a)]) H := by
  have key : ∀ (i : Nat) y, (s.g ++ [Slot.ow none d])[i]? = some y → (i < s.g.length ∧ s.g[i]? = some y) ∨ (i = s.g.length ∧ y = .ow none d) := fun i y e => by
    by_cases h : i < s.g.length
    · rw [List.getElem?_append_left h] at e
      exact .inl ⟨h, e⟩
    · rw [List.getElem?_append_right (by omega)] at e
      have h0 : i - s.g.length = 0 := by
        have := (List.getElem?_eq_some_iff.mp e).1
        simp at this
        omega
      rw [h0] at e
      simp at e
      exact .inr ⟨by omega, e.symm⟩
  have st : ∀ i, i < s.g.length → (σ ++ [some (V.ref a)])[i]? = σ[i]? := fun i h => List.getElem?_append_left (by rw [← x.len]; exact h)
  have en : (σ ++ [some (V.ref a)])[s.g.length]? = some (some (.ref a)) := by rw [x.len]; simp
  refine ⟨by simp [x.len], x.pool, x.fr, x.pt, fun i y e => ?_, fun i j l m d1 d2 b e1 e2 hij s1 => ?_⟩
  · rcases key i y e with ⟨h1, h2⟩ | ⟨rfl, rfl⟩
    · rw [st i h1]
      exact x.slot i y h2
    · rw [en]
      exact ⟨a, rfl, f.at_, f.np, f.nf, f.npa, fun k z => nomatch z⟩
  · rcases key i _ e1 with ⟨h1, h2⟩ | ⟨rfl, z⟩
    · rw [st i h1] at s1
      rcases key j _ e2 with ⟨h3, h4⟩ | ⟨rfl, z⟩
      · rw [st j h3]
        exact x.apart i j l m d1 d2 b h2 h4 hij s1
      · rw [en]
        intro q
        cases q
        exact f.ns i l d1 h2 s1
    · rw [en] at s1
      cases s1
      rcases key j _ e2 with ⟨h3, h4⟩ | ⟨rfl, z⟩
      · rw [st j h3]
        exact f.ns j m d2 h4
      · exact absurd rfl hij
theorem ss_take (n : Nat) (x : SS W Hs s σ H) : SS W Hs ⟨s.g.take n, s.p⟩ (σ.take n) H := by
  have key : ∀ (i : Nat) y, (s.g.take n)[i]? = some y → i < n ∧ s.g[i]? = some y := fun i y e => by
    rw [List.getElem?_take] at e
    by_cases h : i < n
    · rw [if_pos h] at e; exact ⟨h, e⟩
    · rw [if_neg h] at e; cases e
  have st : ∀ i, i < n → (σ.take n)[i]? = σ[i]? := fun i h => by rw [List.getElem?_take, if_pos h]
  refine ⟨by simp [x.len], x.pool, x.fr, x.pt, fun i y e => ?_, fun i j l m d1 d2 b e1 e2 hij s1 => ?_⟩
  · obtain ⟨h1, h2⟩ := key i y e
    rw [st i h1]
    exact x.slot i y h2
  · obtain ⟨h1, h2⟩ := key i _ e1
    obtain ⟨h3, h4⟩ := key j _ e2
    rw [st i h1] at s1
    rw [st j h3]
    exact x.apart i j l m d1 d2 b h2 h4 hij s1
theorem ArgsOk.push {xs : List Arg} {vs : List V} {v : Option V} (h : ArgsOk W Hs σ xs vs) : ArgsOk W Hs (σ ++ [v]) xs vs := by
  induction h with
  | nil => exact .nil
  | @cons y u xs vs h _ ih =>
    refine .cons ?_ ih
    cases y with
    | val d => exact h
    | bor i =>
      have h : σ[i]? = some (some u) := h
      show (σ ++ [v])[i]? = some (some u)
      rw [List.getElem?_append_left (List.getElem?_eq_some_iff.mp h).1]
      exact h
/-- C(..) -/
def mMake (c : Str) (n : Nat) (F : Fn) (m : MA) : ME := fun s => (m s).bind fun p => if p.1.length + 1 = n then (match callF F (.bor p.2.g.length :: p.1) ⟨p.2.g ++ [.ow none (.obj c [] [])], p.2.p⟩ with
  | .ok (.val .non, s2) => (match s2.g[p.2.g.length]? with
    | some (.ow none d) => .ok (.val d, ⟨s2.g.take p.2.g.length, s2.p⟩)
    | _ => .stuck)
  | .ex e s2 => .ex e ⟨s2.g.take p.2.g.length, s2.p⟩
  | _ => .stuck) else .stuck
theorem make_core {c : Str} {n : Nat} {F : Fn} {xs : List Arg} {vs : List V} {Q : VK} {x0 dx : Addr} (hK : W.K = K) (x : SS W Hs s σ H) (o : ArgsOk W Hs σ xs vs) (hl : xs.length + 1 = n) (hx : H x0 = none) (hdx : H dx = none) (hne : dx ≠ x0)
    (q : Post W E Hs σ (okE W σ) Q (match callF F (.bor s.g.length :: xs) ⟨s.g ++ [.ow none (.obj c [] [])], s.p⟩ with
      | .ok (.val .non, s2) => (match s2.g[s.g.length]? with
        | some (.ow none d) => .ok (.val d, ⟨s2.g.take s.g.length, s2.p⟩)
        | _ => .stuck)
      | .ex e s2 => .ex e ⟨s2.g.take s.g.length, s2.p⟩
      | _ => .stuck)) : spM K n F (V.ref x0 :: vs) (upd (upd H dx (.own x0)) x0 (.ins (He.ga K c) dx [])) (fun v H2 => v = .non ∧ Q (.ref x0) H2) E := by
  have x1 := ss_new (p := dx) (o := .own x0) x hdx
  have hx1 : upd H dx (.own x0) x0 = none := by rw [upd_ne (fun e => hne e.symm)]; exact hx
  obtain ⟨x2, fr⟩ := fresh_new (o := .ins (He.ga K c) dx []) (d := .obj c [] []) x1 hx1 ⟨dx, [], by rw [hK], rfl, rfl⟩
  have x3 := ss_push x2 fr
  have ln : σ.length = s.g.length := x.len.symm
  refine snd_callF (σ := σ ++ [some (.ref x0)]) (s := ⟨s.g ++ [.ow none (.obj c [] [])], s.p⟩) (xs := .bor s.g.length :: xs) hK x3 (.cons ?_ o.push) (by simp [← o.len]; exact hl) ?_
  · show (σ ++ [some (V.ref x0)])[s.g.length]? = some (some (.ref x0))
    rw [← ln]
    simp
  · cases e : callF F (.bor s.g.length :: xs) ⟨s.g ++ [.ow none (.obj c [] [])], s.p⟩ with
    | stuck => rw [e] at q; exact q
    | ex e' s2 =>
      rw [e] at q
      intro σ' H' Hs' cls d g y r
      exact q (σ'.take s.g.length) H' Hs' cls d g (ss_take _ y) r
    | ok pr =>
      obtain ⟨xa, s2⟩ := pr
      rw [e] at q
      cases xa with
      | bor i => exact q.elim
      | val d =>
        cases d with
        | non =>
          intro v H' Hs' g y r
          cases (show v = .non from r)
          refine ⟨rfl, ?_⟩
          dsimp only at q
          cases e2 : s2.g[s.g.length]? with
          | none => rw [e2] at q; exact q.elim
          | some z =>
            rw [e2] at q
            cases z with
            | no => exact q.elim
            | sh d => exact q.elim
            | ow l d =>
              cases l with
              | some k => exact q.elim
              | none =>
                obtain ⟨a, q1, ⟨ob, q2, q3⟩, q4, q5, q6, _⟩ := y.slot _ _ e2
                have q1 : (σ ++ [some (V.ref x0)])[s.g.length]? = some (some (.ref a)) := q1
                rw [← ln] at q1
                simp at q1
                subst q1
                have y2 := ss_take s.g.length y
                have et : (σ ++ [some (V.ref x0)]).take s.g.length = σ := by rw [← ln]; simp
                rw [et] at y2
                have sl : ∀ (i : Nat) (l' : Option Nat) (d' : D), (s2.g.take s.g.length)[i]? = some (.ow l' d') → σ[i]? ≠ some (some (.ref x0)) := fun i l' d' ez => by
                  rw [List.getElem?_take] at ez
                  by_cases hi : i < s.g.length
                  · rw [if_pos hi] at ez
                    intro w
                    refine y.apart i s.g.length _ _ _ _ x0 ez e2 (by omega) ?_ ?_
                    · rw [List.getElem?_append_left (by rw [ln]; exact hi)]
                      exact w
                    · rw [← ln]; simp
                  · rw [if_neg hi] at ez; cases ez
                obtain ⟨g2, y3, r3⟩ := freeze (s2 := ⟨s2.g.take s.g.length, s2.p⟩) y2 q2 q4 q5 q6 q3 rfl rfl (fun i z ez => .inl ⟨ez, fun l' d' hz => sl i l' d' (by rw [← hz]; exact ez)⟩)
                exact q _ H' _ (Same.trans' g g2) y3 r3
        | _ => exact q.elim
theorem snd_make {c : Str} {n : Nat} {F : Fn} {t : TA} {m : MA} (h : SndA K E t m) : SndE K E (StX.tMakeR (He.ga K c) (spM K n F) E t) (mMake c n F m) := fun W s σ H Hs Q hK x q => by
  refine h W s σ H Hs _ hK x (Post.bind q fun xs s1 vs H1 Hs1 _ g1 x1 o1 q1 => ?_)
  obtain ⟨hl, q1⟩ := Post.ite q1
  exact fun x0 dx hx hdx hne => make_core hK x1 o1 hl hx hdx hne q1
/-! ### fields -/
def fldAt (c : Str) (ns : List Str) (j : Nat) : D → Option D
  | .obj c' ns' ds => if c' = c ∧ ns' = ns then ds[j]? else none
  | _ => none
def mFld (c : Str) (ns : List Str) (j : Nat) (m : ME) : ME := fun s => (m s).bind fun p => (ofO ((view p.2 p.1).bind (fldAt c ns j))).bind fun d => .ok (.val d, p.2)
theorem lookup_at : ∀ {gs : List (Str × V)} {j : Nat} {f : Str} {v : V}, (gs.map (·.1)).Nodup → (gs.map (·.1))[j]? = some f → (gs.map (·.2))[j]? = some v → gs.lookup f = some v
  | [], _, _, _, _, e, _ => by simp at e
  | (k, w) :: gs, 0, f, v, hn, e, e2 => by
    simp at e e2
    subst e
    subst e2
    simp
  | (k, w) :: gs, j + 1, f, v, hn, e, e2 => by
    have hn2 := List.nodup_cons.mp hn
    have e' : (gs.map (·.1))[j]? = some f := by simpa using e
    have mem : f ∈ gs.map (·.1) := List.mem_of_getElem? e'
    have hk : (f == k) = false := by
      cases q : (f == k) with
      | false => rfl
      | true => exact absurd (eq_of_beq q ▸ mem) hn2.1
    rw [List.lookup_cons, hk]
    exact lookup_at hn2.2 e' (by simpa using e2)
theorem snd_fld {c f : Str} {ns : List Str} {j : Nat} {t : TE} {m : ME} (h : SndE K E t m) (cl : Cls K (He.ga K c)) (na : NoAttr K (He.ga K c) f) (hf : ns[j]? = some f) (hn : ns.Nodup) : SndE K E (tFld K t f) (mFld c ns j m) := fun W s σ H Hs Q hK x q => by
  refine h W s σ H Hs _ hK x (Post.bind q fun xo s1 v H1 Hs1 _ g1 x1 o1 q1 => ?_)
  obtain ⟨d, e1, q2⟩ := Post.ofO q1
  cases e2 : view s1 xo with
  | none => rw [e2] at e1; cases e1
  | some d0 =>
    rw [e2] at e1
    have r := ArgOk.t x1 o1 e2
    cases d0 with
    | obj c' ns' ds =>
      have e3 : (if c' = c ∧ ns' = ns then ds[j]? else none) = some d := e1
      by_cases hc : c' = c ∧ ns' = ns
      · rw [if_pos hc] at e3
        obtain ⟨rfl, rfl⟩ := hc
        obtain ⟨a, dx, gs, rfl, h1, h2, h3⟩ := r
        obtain ⟨u, h4, h5⟩ := h3.get e3
        subst hK
        exact ⟨a, _, dx, gs, u, rfl, h1, cl, na, lookup_at (by rw [h2]; exact hn) (by rw [h2]; exact hf) h4, q2 u H1 Hs1 (Same.rfl' _) x1 h5⟩
      · rw [if_neg hc] at e3; cases e3
    | _ => cases e1
/-- a cell of one's own is written to -/
theorem ss_cell {i : Nat} {l : Option Nat} {d d' : D} {a : Addr} {o' : HO} (x : SS W Hs s σ H) (e : s.g[i]? = some (.ow l d)) (ea : σ[i]? = some (some (.ref a))) (r : RepC W.K W.pa Hs d' o') : SS W Hs ⟨s.g.set i (.ow l d'), s.p⟩ σ (upd H a o') := by
  have hi : i < s.g.length := (List.getElem?_eq_some_iff.mp e).1
  obtain ⟨b, q1, ⟨o, q2, q3⟩, q4, q5, q6, q7⟩ := x.slot i _ e
  rw [ea] at q1
  cases q1
  have own : ∀ {j : Nat} {m e}, (s.g.set i (.ow l d'))[j]? = some (.ow m e) → (j = i ∧ m = l ∧ e = d') ∨ (j ≠ i ∧ s.g[j]? = some (.ow m e)) := fun {j m e'} h => by
    by_cases hj : i = j
    · subst hj
      rw [List.getElem?_set_self hi] at h
      cases h
      exact .inl ⟨rfl, rfl, rfl⟩
    · rw [List.getElem?_set_ne hj] at h
      exact .inr ⟨fun z => hj z.symm, h⟩
  refine ⟨by simp [x.len], fun b u eb => ?_, fun b u eb => ?_, ⟨?_, x.pt.2⟩, fun j y ey => ?_, fun j k m n d1 d2 b e1 e2 hjk s1 => ?_⟩
  · have hb : b ≠ a := fun z => by rw [z, q4] at eb; cases eb
    rw [upd_ne hb]
    exact x.pool b u eb
  · have hb : b ≠ a := fun z => by rw [z, q5] at eb; cases eb
    rw [upd_ne hb]
    exact x.fr b u eb
  · rw [upd_ne (fun z => q6 z.symm)]
    exact x.pt.1
  · have ey : (s.g.set i (.ow l d'))[j]? = some y := ey
    by_cases hj : i = j
    · subst hj
      rw [List.getElem?_set_self hi] at ey
      cases ey
      exact ⟨a, ea, ⟨o', upd_same, r⟩, q4, q5, q6, q7⟩
    · rw [List.getElem?_set_ne hj] at ey
      have z := x.slot j y ey
      cases y with
      | no => trivial
      | sh d => exact z
      | ow m d2 =>
        obtain ⟨b, z1, ⟨ob, z2, z3⟩, z4⟩ := z
        have hb : b ≠ a := fun w => x.apart i j _ _ _ _ a e ey hj ea (by rw [z1, w])
        exact ⟨b, z1, ⟨ob, by rw [upd_ne hb]; exact z2, z3⟩, z4⟩
  · have find : ∀ {j : Nat} {m e}, (s.g.set i (.ow l d'))[j]? = some (.ow m e) → ∃ m' e', s.g[j]? = some (.ow m' e') := fun {j m e'} h => by
      rcases own h with ⟨rfl, _⟩ | ⟨_, h⟩
      · exact ⟨_, _, e⟩
      · exact ⟨_, _, h⟩
    obtain ⟨m1, e1', h1⟩ := find e1
    obtain ⟨m2, e2', h2⟩ := find e2
    exact x.apart j k _ _ _ _ b h1 h2 hjk s1
def putD (f : Str) (d : D) : List Str → List D → List Str × List D
  | n :: ns, e :: es => if n = f then (n :: ns, d :: es) else ((n :: (putD f d ns es).1), (e :: (putD f d ns es).2))
  | ns, es => (ns ++ [f], es ++ [d])
theorem putD_ok {pa : Addr} {f : Str} {d : D} {v : V} (r : Rep K pa H d v) : ∀ {gs : List (Str × V)} {ds : List D}, RepL K pa H ds (gs.map (·.2)) → (putF f v gs).map (·.1) = (putD f d (gs.map (·.1)) ds).1 ∧ RepL K pa H (putD f d (gs.map (·.1)) ds).2 ((putF f v gs).map (·.2))
  | [], ds, h => by
    have : ds = [] := by
      have := h.len
      simpa using this
    subst this
    exact ⟨rfl, ⟨v, [], rfl, r, rfl⟩⟩
  | (k, w) :: gs, [], h => by
    have := h.len
    simp at this
  | (k, w) :: gs, e :: es, h => by
    obtain ⟨u, us, e1, h1, h2⟩ := h
    simp at e1
    obtain ⟨rfl, rfl⟩ := e1
    by_cases hk : k = f
    · simp only [putF, putD, List.map_cons, hk, if_true]
      exact ⟨trivial, ⟨v, _, rfl, r, h2⟩⟩
    · obtain ⟨i1, i2⟩ := putD_ok (f := f) r h2
      simp only [putF, putD, List.map_cons, if_neg hk]
      exact ⟨by rw [i1], ⟨w, _, rfl, h1, i2⟩⟩
def sFldSet (c f : Str) (i : Nat) (m : ME) : MS := fun s => (m s).bind fun p => match p.1 with
  | .val d => (match p.2.g[i]? with
    | some (.ow l (.obj c' ns ds)) => if c' = c ∧ ns.length < 1000 then .ok (.nx, ⟨p.2.g.set i (.ow l (.obj c (putD f d ns ds).1 (putD f d ns ds).2)), p.2.p⟩) else .stuck
    | _ => .stuck)
  | .bor _ => .stuck
theorem snd_fldSet {c f : Str} {i : Nat} {t : TE} {m : ME} (h : SndE K E t m) (cl : Cls K (He.ga K c)) (na : NoAttr K (He.ga K c) f) : SndS K E [] (sFld K (tVar i) t f) (sFldSet c f i m) := fun W s σ H Hs Dn hK x q => by
  refine h W s σ H Hs _ hK x (PostS.bind q fun xo s1 v H1 Hs1 _ g1 x1 o1 q1 => ?_)
  cases xo with
  | bor _ => exact q1.elim
  | val d =>
    dsimp only at q1
    cases e : s1.g[i]? with
    | none => rw [e] at q1; exact q1.elim
    | some y =>
      rw [e] at q1
      cases y with
      | no => exact q1.elim
      | sh d => exact q1.elim
      | ow l d0 =>
        cases d0 with
        | obj c' ns ds =>
          obtain ⟨hc, q1⟩ := PostS.ite q1
          obtain ⟨rfl, hl⟩ := hc
          obtain ⟨a, z1, ⟨ob, z2, z3⟩, z4⟩ := x1.slot i _ e
          obtain ⟨dx, gs, rfl, h2, h3⟩ := z3
          subst hK
          refine ⟨_, z1, a, _, dx, gs, rfl, z2, cl, na, ?_, ?_⟩
          · have := congrArg List.length h2
            simp at this
            omega
          · obtain ⟨i1, i2⟩ := putD_ok (f := f) (show Rep W.K W.pa Hs1 d v from o1) h3
            rw [h2] at i1 i2
            exact q1 σ _ Hs1 (Same.rfl' _) .refl (ss_cell x1 e z1 ⟨dx, _, rfl, i1, i2⟩)
        | _ => exact q1.elim
/-! ### lists that change -/
def MutS (K : Frag) (r : V → List V → Hp → VK → Prop) (f : List D → List D → Option (D × List D)) : Prop := ∀ (pa : Addr) (Hs H : Hp) a vs ds args us res ds' (Q : VK), PoolOk Hs H → H a = some (.lst vs) → RepL K pa Hs ds vs → RepL K pa Hs args us → f ds args = some (res, ds') →
  (∀ v vs', Rep K pa Hs res v → RepL K pa Hs ds' vs' → Q v (upd H a (.lst vs'))) → r (.ref a) us H Q
def mMut (i : Nat) (f : List D → List D → Option (D × List D)) (m : MA) : ME := fun s => match s.g[i]? with
  | some (.ow _ (.lst _)) => (m s).bind fun p => (ofO (vals p.1)).bind fun as => (match p.2.g[i]? with
    | some (.ow l (.lst ds)) => (ofO (f ds as)).bind fun r => .ok (.val r.1, ⟨p.2.g.set i (.ow l (.lst r.2)), p.2.p⟩)
    | _ => .stuck)
  | _ => .stuck
theorem snd_mut0 {i : Nat} {r : V → List V → Hp → VK → Prop} {f : List D → List D → Option (D × List D)} {t : TA} {m : MA} (hr : MutS K r f) (h : SndA K E t m) {s : S} (x : SS W Hs s σ H) (hK : W.K = K) {Q : VK} (q : Post W E Hs σ (okE W σ) Q (mMut i f m s)) : ∃ a, σ[i]? = some (some (.ref a)) ∧ (∃ xs, SqL K H a xs) ∧ t σ H fun xs H2 => r (.ref a) xs H2 Q := by
  unfold mMut at q
  cases e : s.g[i]? with
  | none => rw [e] at q; exact q.elim
  | some y =>
    rw [e] at q
    cases y with
    | no => exact q.elim
    | sh d => exact q.elim
    | ow l d0 =>
      cases d0 with
      | lst ds0 =>
        obtain ⟨a, z1, ⟨ob, z2, z3⟩, z4⟩ := x.slot i _ e
        obtain ⟨vs0, rfl, z5⟩ := z3
        refine ⟨a, z1, ⟨vs0, SqL.of z2⟩, ?_⟩
        refine h W s σ H Hs _ hK x (Post.bind q fun xs s1 us H1 Hs1 _ g1 x1 o1 q1 => ?_)
        obtain ⟨as, ea, q1⟩ := Post.ofO q1
        dsimp only at q1
        cases e2 : s1.g[i]? with
        | none => rw [e2] at q1; exact q1.elim
        | some y2 =>
          rw [e2] at q1
          cases y2 with
          | no => exact q1.elim
          | sh d => exact q1.elim
          | ow l2 d2 =>
            cases d2 with
            | lst ds =>
              obtain ⟨⟨res, ds'⟩, ef, q1⟩ := Post.ofO q1
              obtain ⟨b, w1, ⟨ob2, w2, w3⟩, w4⟩ := x1.slot i _ e2
              obtain ⟨vs, rfl, w5⟩ := w3
              rw [z1] at w1
              cases w1
              subst hK
              exact hr W.pa Hs1 H1 a vs ds as us res ds' Q x1.pool w2 w5 (o1.vals ea) ef fun v vs' rv rl => q1 v _ Hs1 (Same.rfl' _) (ss_cell x1 e2 z1 ⟨vs', rfl, rl⟩) rv
            | _ => exact q1.elim
      | _ => exact q.elim
theorem snd_mut {i : Nat} {r : V → List V → Hp → VK → Prop} {f : List D → List D → Option (D × List D)} {t : TA} {m : MA} (hr : MutS K r f) (h : SndA K E t m) : SndE K E (tBM K "list" r (tVar i) t) (mMut i f m) := fun W s σ H Hs Q hK x q => by
  obtain ⟨a, h1, h2, h3⟩ := snd_mut0 hr h x hK q
  exact ⟨_, h1, .inl ⟨rfl, h2⟩, h3⟩
theorem snd_mutz {i : Nat} {r : V → List V → Hp → VK → Prop} {f : List D → List D → Option (D × List D)} (hr : MutS K r f) : SndE K E (tBM0 K "list" r (tVar i)) (mMut i f mNil) := fun W s σ H Hs Q hK x q => by
  obtain ⟨a, h1, h2, h3⟩ := snd_mut0 hr snd_nil x hK q
  exact ⟨_, h1, .inl ⟨rfl, h2⟩, h3⟩
def fAppend (ds as : List D) : Option (D × List D) := match as with
  | [d] => if ds.length < 100000 then some (.non, ds ++ [d]) else none
  | _ => none
theorem mu_append : MutS K rAppend fAppend := fun pa Hs H a vs ds args us res ds' Q hp ha rl ra ef k => by
  match args, ef with
  | [d], ef =>
    have ef : (if ds.length < 100000 then some (D.non, ds ++ [d]) else none) = some (res, ds') := ef
    by_cases hl : ds.length < 100000
    · rw [if_pos hl] at ef
      cases ef
      obtain ⟨v, ws, rfl, h1, h2⟩ := ra
      cases (show ws = [] from h2)
      exact ⟨a, vs, v, rfl, rfl, ha, by rw [← rl.len]; exact Evl.sz_lt hl, k .non _ rfl (rl.app (RepL.cons h1 rfl))⟩
    · rw [if_neg hl] at ef; cases ef
def fClear0 (ds as : List D) : Option (D × List D) := match as with
  | [] => some (.non, [])
  | _ => none
theorem mu_clear : MutS K rClear fClear0 := fun pa Hs H a vs ds args us res ds' Q hp ha rl ra ef k => by
  match args, ef with
  | [], ef =>
    cases ef
    cases (show us = [] from ra)
    exact ⟨a, vs, rfl, rfl, ha, k .non _ rfl rfl⟩
def fRev (ds as : List D) : Option (D × List D) := match as with
  | [] => some (.non, ds.reverse)
  | _ => none
theorem mu_rev : MutS K rReverse fRev := fun pa Hs H a vs ds args us res ds' Q hp ha rl ra ef k => by
  match args, ef with
  | [], ef =>
    cases ef
    cases (show us = [] from ra)
    exact ⟨a, vs, rfl, rfl, ha, k .non _ rfl rl.rev⟩
def fPop (ds as : List D) : Option (D × List D) := match as with
  | [] => (ds[ds.length - 1]?).map fun d => (d, ds.dropLast)
  | _ => none
theorem mu_pop : MutS K rPop fPop := fun pa Hs H a vs ds args us res ds' Q hp ha rl ra ef k => by
  match args, ef with
  | [], ef =>
    have ef : (ds[ds.length - 1]?).map (fun d => (d, ds.dropLast)) = some (res, ds') := ef
    cases e : ds[ds.length - 1]? with
    | none => rw [e] at ef; cases ef
    | some d =>
      rw [e] at ef
      cases ef
      cases (show us = [] from ra)
      obtain ⟨v, h1, h2⟩ := rl.get e
      rw [rl.len] at h1
      refine ⟨a, vs, v, rfl, rfl, ha, h1, k v _ h2 ?_⟩
      rw [List.dropLast_eq_take, List.dropLast_eq_take, rl.len]
      exact rl.take _
def fPopAt (ds as : List D) : Option (D × List D) := match as with
  | [.int i] => if -1000000 ≤ i ∧ i ≤ 1000000 then (seqIndex? i ds.length).bind fun k => (ds[k]?).map fun d => (d, ds.eraseIdx k) else none
  | _ => none
theorem mu_popAt : MutS K rPopAt fPopAt := fun pa Hs H a vs ds args us res ds' Q hp ha rl ra ef k => by
  unfold fPopAt at ef
  split at ef
  · rename_i i
    by_cases hc : -1000000 ≤ i ∧ i ≤ 1000000
    · rw [if_pos hc] at ef
      cases e0 : seqIndex? i ds.length with
      | none => rw [e0] at ef; cases ef
      | some j =>
        rw [e0] at ef
        have ef : (ds[j]?).map (fun d => (d, ds.eraseIdx j)) = some (res, ds') := ef
        cases e : ds[j]? with
        | none => rw [e] at ef; cases ef
        | some d =>
          rw [e] at ef
          cases ef
          obtain ⟨v, ws, rfl, h1, h2⟩ := ra
          cases (show ws = [] from h2)
          cases (show v = .int i from h1)
          obtain ⟨u, h3, h4⟩ := rl.get e
          exact ⟨a, vs, i, j, u, rfl, rfl, ha, by omega, by omega, by rw [← rl.len]; exact e0, h3, k u _ h4 (rl.erase j)⟩
    · rw [if_neg hc] at ef; cases ef
  · cases ef
/-- xs.extend(ys): ys a list for good, another one than xs -/
def fExtend (ds as : List D) : Option (D × List D) := match as with
  | [.lst es] => if ds.length + es.length ≤ 100000 then some (.non, ds ++ es) else none
  | _ => none
theorem mu_extend : MutS K rExtend fExtend := fun pa Hs H a vs ds args us res ds' Q hp ha rl ra ef k => by
  unfold fExtend at ef
  split at ef
  · rename_i es
    by_cases hc : ds.length + es.length ≤ 100000
    · rw [if_pos hc] at ef
      cases ef
      obtain ⟨v, ws, rfl, h1, h2⟩ := ra
      cases (show ws = [] from h2)
      obtain ⟨b, zs, rfl, h3, h4⟩ := h1
      exact ⟨a, b, vs, zs, rfl, rfl, ha, hp.at_ h3 (by intro _ z; cases z), by rw [← rl.len, ← h4.len]; exact Evl.sz_of hc, k .non _ rfl (rl.app h4)⟩
    · rw [if_neg hc] at ef; cases ef
  · cases ef
/-- xs[i] = e -/
def asI : D → Option Int
  | .int i => some i
  | _ => none
theorem asI_eq {d : D} {i : Int} (h : asI d = some i) : d = .int i := by cases d <;> cases h; rfl
def asV : Arg → Option D
  | .val d => some d
  | .bor _ => none
theorem asV_eq {x : Arg} {d : D} (h : asV x = some d) : x = .val d := by cases x <;> cases h; rfl
def owL : Option Slot → Option (Option Nat × List D)
  | some (.ow l (.lst ds)) => some (l, ds)
  | _ => none
theorem owL_eq {y : Option Slot} {l ds} (h : owL y = some (l, ds)) : y = some (.ow l (.lst ds)) := by
  cases y with
  | none => cases h
  | some y =>
    cases y with
    | no => cases h
    | sh d => cases h
    | ow l' d => cases d <;> cases h; rfl
def sSetItem (i : Nat) (m mi : ME) : MS := fun s => (m s).bind fun p => (ofO (asV p.1)).bind fun d => (ofO (owL p.2.g[i]?)).bind fun _ => (mi p.2).bind fun q => (ofO ((view q.2 q.1).bind asI)).bind fun k => (ofO (owL q.2.g[i]?)).bind fun r =>
  (ofO (ixN r.2.length k)).bind fun j => .ok (.nx, ⟨q.2.g.set i (.ow r.1 (.lst (r.2.set j d))), q.2.p⟩)
theorem snd_setItem {i : Nat} {t ti : TE} {m mi : ME} (h : SndE K E t m) (hi : SndE K E ti mi) : SndS K E [] (tAsg t (gSub (tVar i) ti rSetL)) (sSetItem i m mi) := fun W s σ H Hs Dn hK x q => by
  refine h W s σ H Hs _ hK x (PostS.bind q fun xo s1 v H1 Hs1 _ g1 x1 o1 q1 => ?_)
  obtain ⟨d, ed, q2⟩ := PostS.ofO q1
  obtain ⟨⟨l0, ds0⟩, e0, q3⟩ := PostS.ofO q2
  cases asV_eq ed
  obtain ⟨a, z1, _⟩ := x1.slot i _ (owL_eq e0)
  refine ⟨_, z1, hi W s1 σ H1 Hs1 _ hK x1 (PostS.bind q3 fun xi s2 w H2 Hs2 _ g2 x2 o2 q4 => ?_)⟩
  obtain ⟨k, ek, q5⟩ := PostS.ofO q4
  obtain ⟨⟨l, ds⟩, e1, q6⟩ := PostS.ofO q5
  obtain ⟨j, ej, q7⟩ := PostS.ofO q6
  cases e2 : view s2 xi with
  | none => rw [e2] at ek; cases ek
  | some dk =>
    rw [e2] at ek
    cases asI_eq ek
    have r := ArgOk.t x2 o2 e2
    cases (show w = .int k from r)
    obtain ⟨b, w1, ⟨ob, w2, w3⟩, _⟩ := x2.slot i _ (owL_eq e1)
    obtain ⟨vs, rfl, w5⟩ := w3
    rw [z1] at w1
    cases w1
    refine ⟨a, vs, k, j, rfl, rfl, w2, by rw [← w5.len]; exact ej, ?_⟩
    exact q7 σ _ Hs2 (Same.rfl' _) .refl (ss_cell x2 (owL_eq e1) z1 ⟨_, rfl, w5.set j (Rep.up g2 (show Rep W.K W.pa Hs1 d v from o1))⟩)
end
end Mi

namespace Mi
open PySem PySem.Spec PyProof.Rows L2
open PySem.W (Frag)
section
variable {K : Frag} {E : XK} {W : Wd} {Hs Hs' H H' : Hp} {σ σ' : L2.St} {s : S} {ws : List Nat}
/-! ### whole numbers -/
def fI (g : Int → Int → D) : D → D → Option D
  | .int i, .int j => some (g i j)
  | _, _ => none
def fIc (c : Int → Int → Bool) (g : Int → Int → D) : D → D → Option D
  | .int i, .int j => if c i j = true then some (g i j) else none
  | _, _ => none
theorem fI_eq {g : Int → Int → D} {a b d : D} (h : fI g a b = some d) : ∃ i j, a = .int i ∧ b = .int j ∧ d = g i j := by
  cases a <;> cases b <;> first | (cases h; exact ⟨_, _, rfl, rfl, rfl⟩) | cases h
theorem fIc_eq {c : Int → Int → Bool} {g : Int → Int → D} {a b d : D} (h : fIc c g a b = some d) : ∃ i j, a = .int i ∧ b = .int j ∧ c i j = true ∧ d = g i j := by
  cases a with
  | int i =>
    cases b with
    | int j =>
      have h : (if c i j = true then some (g i j) else none) = some d := h
      by_cases hc : c i j = true
      · rw [if_pos hc] at h; cases h; exact ⟨i, j, rfl, rfl, hc, rfl⟩
      · rw [if_neg hc] at h; cases h
    | _ => cases h
  | _ => cases h
theorem os_I0 {gv : Int → Int → V} {gd : Int → Int → D} (hg : ∀ i j pa H, Rep K pa H (gd i j) (gv i j)) : OpS K (rI0 gv) (fI gd) := fun pa Hs H a b x y d Q hp ra rb e k => by
  obtain ⟨i, j, rfl, rfl, rfl⟩ := fI_eq e
  exact ⟨i, j, ra, rb, k _ Hs H (Gr.refl hp) (hg i j pa Hs)⟩
theorem os_I {C : Int → Int → Prop} {c : Int → Int → Bool} {gv : Int → Int → V} {gd : Int → Int → D} (hc : ∀ i j, c i j = true → C i j) (hg : ∀ i j pa H, Rep K pa H (gd i j) (gv i j)) : OpS K (rI C gv) (fIc c gd) := fun pa Hs H a b x y d Q hp ra rb e k => by
  obtain ⟨i, j, rfl, rfl, h, rfl⟩ := fIc_eq e
  exact ⟨i, j, ra, rb, hc i j h, k _ Hs H (Gr.refl hp) (hg i j pa Hs)⟩
abbrev fAdd : D → D → Option D := fI fun i j => .int (i + j)
abbrev fSub : D → D → Option D := fI fun i j => .int (i - j)
def cMul (i j : Int) : Bool := decide (i.natAbs.log2 + j.natAbs.log2 < 1000000)
abbrev fMul : D → D → Option D := fIc cMul fun i j => .int (i * j)
def cDiv (_ j : Int) : Bool := decide (j ≠ 0 ∧ j.natAbs.log2 < 9000)
abbrev fDiv : D → D → Option D := fIc cDiv fun i j => .int (i.fdiv j)
def cMod (_ j : Int) : Bool := decide (0 < j)
abbrev fMod : D → D → Option D := fIc cMod fun i j => .int (i % j)
def cPow (i j : Int) : Bool := decide (0 ≤ j ∧ j ≤ 1000000 ∧ i.natAbs < 2 ^ 64)
abbrev fPow : D → D → Option D := fIc cPow fun i j => .int (i ^ j.toNat)
theorem os_add : OpS K (rI0 fun i j => .int (i + j)) fAdd := os_I0 fun _ _ _ _ => rfl
theorem os_sub : OpS K (rI0 fun i j => .int (i - j)) fSub := os_I0 fun _ _ _ _ => rfl
theorem os_mul : OpS K (rI CMulW fun i j => .int (i * j)) fMul := os_I (fun i j h => of_decide_eq_true (p := i.natAbs.log2 + j.natAbs.log2 < 1000000) h) fun _ _ _ _ => rfl
theorem os_div : OpS K (rI Z.CDz fun i j => .int (i.fdiv j)) fDiv := os_I (fun i j h => of_decide_eq_true (p := j ≠ 0 ∧ j.natAbs.log2 < 9000) h) fun _ _ _ _ => rfl
theorem os_mod : OpS K (rI (fun _ j => 0 < j) fun i j => .int (i % j)) fMod := os_I (fun _ _ h => of_decide_eq_true h) fun _ _ _ _ => rfl
theorem os_pow : OpS K (rI CPow fun i j => .int (i ^ j.toNat)) fPow := os_I (fun i j h => of_decide_eq_true (p := 0 ≤ j ∧ j ≤ 1000000 ∧ i.natAbs < 2 ^ 64) h) fun _ _ _ _ => rfl
abbrev fLt : D → D → Option D := fI fun i j => .bl (decide (i < j))
abbrev fLe : D → D → Option D := fI fun i j => .bl (decide (i ≤ j))
abbrev fGt : D → D → Option D := fI fun i j => .bl (decide (j < i))
abbrev fGe : D → D → Option D := fI fun i j => .bl (decide (j ≤ i))
theorem os_lt : OpS K (rI0 fun i j => .bl (decide (i < j))) fLt := os_I0 fun _ _ _ _ => rfl
theorem os_le : OpS K (rI0 fun i j => .bl (decide (i ≤ j))) fLe := os_I0 fun _ _ _ _ => rfl
theorem os_gt : OpS K (rI0 fun i j => .bl (decide (j < i))) fGt := os_I0 fun _ _ _ _ => rfl
theorem os_ge : OpS K (rI0 fun i j => .bl (decide (j ≤ i))) fGe := os_I0 fun _ _ _ _ => rfl
def fNeg : D → Option D
  | .int i => some (.int (-i))
  | _ => none
theorem us_neg : UnS K (rU fun i => .int (-i)) fNeg := fun pa Hs H a x d Q hp ra e k => by
  cases a <;> first | (cases e; exact ⟨_, ra, k _ Hs H (Gr.refl hp) rfl⟩) | cases e
/-! a < b < c -/
def mChain (f g : D → D → Option D) (ma mb mc : ME) : ME := fun s => (ma s).bind fun p => (mb p.2).bind fun q => (ofO (view q.2 p.1)).bind fun a => (ofO (view q.2 q.1)).bind fun b => (ofO ((f a b).bind asB)).bind fun k => if k = true then
  (mc q.2).bind fun r => (ofO (view r.2 q.1)).bind fun b => (ofO (view r.2 r.1)).bind fun c => (ofO (g b c)).bind fun d => .ok (.val d, r.2) else .ok (.val (.bl false), q.2)
theorem snd_chain {r r' : R2} {f g : D → D → Option D} {ta tb tc : TE} {ma mb mc : ME} (hf : OpS K r f) (hg : OpS K r' g) (ha : SndE K E ta ma) (hb : SndE K E tb mb) (hc : SndE K E tc mc) : SndE K E (tChain r r' ta tb tc) (mChain f g ma mb mc) := fun W s σ H Hs Q hK x q => by
  refine ha W s σ H Hs _ hK x (Post.bind q fun xa s1 v H1 Hs1 _ g1 x1 o1 q1 => ?_)
  refine hb W s1 σ H1 Hs1 _ hK x1 (Post.bind q1 fun xb s2 w H2 Hs2 _ g2 x2 o2 q2 => ?_)
  obtain ⟨a, ea, q3⟩ := q2.ofO
  obtain ⟨b, eb, q4⟩ := q3.ofO
  obtain ⟨k, ek, q5⟩ := q4.ofO
  subst hK
  cases ef : f a b with
  | none => rw [ef] at ek; cases ek
  | some d =>
    rw [ef] at ek
    refine hf W.pa Hs2 H2 a b v w d _ x2.pool (ArgOk.t x2 (ArgOk.up g2 o1) ea) (ArgOk.t x2 o2 eb) ef fun u Hs3 H3 g3 r => ?_
    have x3 := x2.grow g3
    have hd : d = .bl k := by cases d <;> cases ek; rfl
    subst hd
    cases (show u = .bl k from r)
    refine ⟨k, rfl, ?_⟩
    have q5 := Post.up q5 g3.s
    cases k with
    | false => exact q5 _ H3 Hs3 (Same.rfl' _) x3 rfl
    | true =>
      refine hc W s2 σ H3 Hs3 _ rfl x3 (Post.bind q5 fun xc s4 z H4 Hs4 _ g4 x4 o4 q6 => ?_)
      obtain ⟨b2, eb2, q7⟩ := q6.ofO
      obtain ⟨c, ec, q8⟩ := q7.ofO
      obtain ⟨d, ed, q9⟩ := q8.ofO
      exact hg W.pa Hs4 H4 b2 c w z d Q x4.pool (ArgOk.t x4 (ArgOk.up g4 (ArgOk.up g3.s o2)) eb2) (ArgOk.t x4 o4 ec) ed fun u Hs' H' g r => q9 u H' Hs' g.s (x4.grow g) r
/-! ### data without own objects -/
mutual
def toP : D → Option PyData
  | .non => some .none
  | .bl b => some (.bool b)
  | .int i => some (.int i)
  | .str x => some (.str x)
  | .lst ds => (toPs ds).map .list
  | .tup ds => (toPs ds).map .tuple
  | _ => none
def toPs : List D → Option (List PyData)
  | [] => some []
  | d :: ds => (toP d).bind fun p => (toPs ds).map (p :: ·)
end
mutual
theorem dp_of {pa : Addr} (hp : PoolOk Hs H) : ∀ {d : D} {v : V} {p : PyData}, toP d = some p → Rep K pa Hs d v → Dp K H v p
  | .non, v, p, e, r => by cases e; cases (show v = _ from r); exact .non
  | .bl b, v, p, e, r => by cases e; cases (show v = _ from r); exact .bl b
  | .int i, v, p, e, r => by cases e; cases (show v = _ from r); exact .int i
  | .str i, v, p, e, r => by cases e; cases (show v = _ from r); exact .str i
  | .ty _, _, _, e, _ => by cases e
  | .cls _, _, _, e, _ => by cases e
  | .pot, _, _, e, _ => by cases e
  | .dct _ _, _, _, e, _ => by cases e
  | .obj _ _ _, _, _, e, _ => by cases e
  | .lst ds, v, p, e, r => by
    obtain ⟨a, vs, rfl, h1, h2⟩ := r
    unfold toP at e
    cases e2 : toPs ds with
    | none => rw [e2] at e; cases e
    | some ps =>
      rw [e2] at e
      cases e
      exact .lst (SqL.of (hp.at_ h1 (by intro _ z; cases z))) (dps_of hp e2 h2)
  | .tup ds, v, p, e, r => by
    obtain ⟨a, vs, rfl, h1, h2⟩ := r
    unfold toP at e
    cases e2 : toPs ds with
    | none => rw [e2] at e; cases e
    | some ps =>
      rw [e2] at e
      cases e
      exact .tup (SqT.of (hp.at_ h1 (by intro _ z; cases z))) (dps_of hp e2 h2)
theorem dps_of {pa : Addr} (hp : PoolOk Hs H) : ∀ {ds : List D} {vs : List V} {ps : List PyData}, toPs ds = some ps → RepL K pa Hs ds vs → DpAll K H vs ps
  | [], vs, ps, e, r => by cases e; cases (show vs = [] from r); exact .nil
  | d :: ds, vs, ps, e, r => by
    obtain ⟨v, ws, rfl, h1, h2⟩ := r
    unfold toPs at e
    cases e1 : toP d with
    | none => rw [e1] at e; cases e
    | some q =>
      rw [e1] at e
      cases e2 : toPs ds with
      | none => rw [e2] at e; cases e
      | some qs =>
        rw [e2] at e
        cases e
        exact .cons (dp_of hp e1 h1) (dps_of hp e2 h2)
end
theorem dpt_of {pa : Addr} (hp : PoolOk Hs H) {d : D} {v : V} {p : PyData} (e : toP d = some p) (r : RepT K pa Hs H d v) : Dp K H v p := by
  cases d with
  | lst ds =>
    obtain ⟨a, vs, rfl, h1, h2⟩ := r
    unfold toP at e
    cases e2 : toPs ds with
    | none => rw [e2] at e; cases e
    | some ps =>
      rw [e2] at e
      cases e
      exact .lst (SqL.of h1) (dps_of hp e2 h2)
  | tup ds =>
    obtain ⟨a, vs, rfl, h1, h2⟩ := r
    unfold toP at e
    cases e2 : toPs ds with
    | none => rw [e2] at e; cases e
    | some ps =>
      rw [e2] at e
      cases e
      exact .tup (SqT.of h1) (dps_of hp e2 h2)
  | non => exact dp_of (pa := pa) hp e r
  | bl _ => exact dp_of (pa := pa) hp e r
  | int _ => exact dp_of (pa := pa) hp e r
  | str _ => exact dp_of (pa := pa) hp e r
  | _ => cases e
def fEq (a b : D) : Option D := (toP a).bind fun p => (toP b).bind fun q => if SeqAt.shaped p = true ∧ SeqAt.shaped q = true then some (.bl (PyData.eqv p q)) else none
def fNe (a b : D) : Option D := (toP a).bind fun p => (toP b).bind fun q => if SeqAt.shaped p = true ∧ SeqAt.shaped q = true then some (.bl (!PyData.eqv p q)) else none
theorem fEq_eq {g : Bool → Bool} {a b d : D} (h : ((toP a).bind fun p => (toP b).bind fun q => if SeqAt.shaped p = true ∧ SeqAt.shaped q = true then some (.bl (g (PyData.eqv p q))) else none) = some d) : ∃ p q, toP a = some p ∧ toP b = some q ∧ SeqAt.shaped p = true ∧ SeqAt.shaped q = true ∧ d = .bl (g (PyData.eqv p q)) := by
  cases e1 : toP a with
  | none => rw [e1] at h; cases h
  | some p =>
    cases e2 : toP b with
    | none => rw [e1, e2] at h; cases h
    | some q =>
      rw [e1, e2] at h
      have h : (if SeqAt.shaped p = true ∧ SeqAt.shaped q = true then some (D.bl (g (PyData.eqv p q))) else none) = some d := h
      by_cases hc : SeqAt.shaped p = true ∧ SeqAt.shaped q = true
      · rw [if_pos hc] at h; cases h; exact ⟨p, q, rfl, rfl, hc.1, hc.2, rfl⟩
      · rw [if_neg hc] at h; cases h
theorem os_eq : OpS K (rEqD K) fEq := fun pa Hs H a b x y d Q hp ra rb e k => by
  obtain ⟨p, q, e1, e2, h1, h2, rfl⟩ := fEq_eq (g := id) e
  exact ⟨p, q, dpt_of hp e1 ra, dpt_of hp e2 rb, h1, h2, k _ Hs H (Gr.refl hp) rfl⟩
theorem os_ne : OpS K (rNeD K) fNe := fun pa Hs H a b x y d Q hp ra rb e k => by
  obtain ⟨p, q, e1, e2, h1, h2, rfl⟩ := fEq_eq (g := not) e
  exact ⟨p, q, dpt_of hp e1 ra, dpt_of hp e2 rb, h1, h2, k _ Hs H (Gr.refl hp) rfl⟩
def fIsN (a b : D) : Option D := match a, b with
  | .non, .non => some (.bl true)
  | .ty _, _ | .cls _, _ | .pot, _ => none
  | _, .non => some (.bl false)
  | _, _ => none
def fNotN (a b : D) : Option D := (fIsN a b).bind fun d => match d with
  | .bl b => some (.bl (!b))
  | _ => none
theorem isN_of {pa : Addr} {a : D} {x : V} {b : D} {k : Bool} (e : fIsN a b = some (.bl k)) (r : RepT K pa Hs H a x) : b = .non ∧ k = decide (x = .non) := by
  have no : ∀ {v : V}, v ≠ .non → false = decide (v = V.non) := fun {v} h => (decide_eq_false h).symm
  cases b <;> first | (cases a <;> cases e <;> done) | skip
  cases a <;> first | cases e | skip
  · exact ⟨rfl, by cases (show x = _ from r); exact (decide_eq_true rfl).symm⟩
  · exact ⟨rfl, by cases (show x = _ from r); exact no (by intro z; cases z)⟩
  · exact ⟨rfl, by cases (show x = _ from r); exact no (by intro z; cases z)⟩
  · exact ⟨rfl, by cases (show x = _ from r); exact no (by intro z; cases z)⟩
  · exact ⟨rfl, by obtain ⟨a, vs, rfl, _⟩ := r; exact no (by intro z; cases z)⟩
  · exact ⟨rfl, by obtain ⟨a, vs, rfl, _⟩ := r; exact no (by intro z; cases z)⟩
  · exact ⟨rfl, by obtain ⟨a, vs, rfl, _⟩ := r; exact no (by intro z; cases z)⟩
  · exact ⟨rfl, by obtain ⟨a, dx, vs, rfl, _⟩ := r; exact no (by intro z; cases z)⟩
theorem fIsN_bl {a b d : D} (e : fIsN a b = some d) : ∃ k, d = .bl k := by
  unfold fIsN at e
  split at e <;> cases e <;> exact ⟨_, rfl⟩
theorem os_isN : OpS K (fun x y H Q => y = .non ∧ Q (.bl (decide (x = .non))) H) fIsN := fun pa Hs H a b x y d Q hp ra rb e k => by
  obtain ⟨c, rfl⟩ := fIsN_bl e
  obtain ⟨rfl, rfl⟩ := isN_of e ra
  exact ⟨rb, k _ Hs H (Gr.refl hp) rfl⟩
theorem os_notN : OpS K (fun x y H Q => y = .non ∧ Q (.bl (!decide (x = .non))) H) fNotN := fun pa Hs H a b x y d Q hp ra rb e k => by
  unfold fNotN at e
  cases e1 : fIsN a b with
  | none => rw [e1] at e; cases e
  | some d1 =>
    rw [e1] at e
    obtain ⟨c, rfl⟩ := fIsN_bl e1
    cases e
    obtain ⟨rfl, rfl⟩ := isN_of e1 ra
    exact ⟨rb, k _ Hs H (Gr.refl hp) rfl⟩
/-! ### texts, lists -/
def fCatS : D → D → Option D
  | .str a, .str b => if a.length + b.length ≤ 100000 then some (.str (a ++ b)) else none
  | _, _ => none
theorem os_catS : OpS K (fun x y H Q => ∃ i j, x = .str i ∧ y = .str j ∧ i.length + j.length ≤ sizeLine ∧ Q (.str (i ++ j)) H) fCatS := fun pa Hs H a b x y d Q hp ra rb e k => by
  cases a with
  | str i =>
    cases b with
    | str j =>
      have e : (if i.length + j.length ≤ 100000 then some (D.str (i ++ j)) else none) = some d := e
      by_cases hc : i.length + j.length ≤ 100000
      · rw [if_pos hc] at e
        cases e
        exact ⟨i, j, ra, rb, Evl.sz_of hc, k _ Hs H (Gr.refl hp) rfl⟩
      · rw [if_neg hc] at e; cases e
    | _ => cases e
  | _ => cases e
/-- a new list comes of it -/
def OpF (K : Frag) (r : R2) (f : D → D → Option D) : Prop := ∀ (pa : Addr) (Hs H : Hp) a b x y d (Q : VK), PoolOk Hs H → RepT K pa Hs H a x → RepT K pa Hs H b y → f a b = some d → (∀ p o, H p = none → RepC K pa Hs d o → Q (.ref p) (upd H p o)) → r x y H Q
def mOpF (f : D → D → Option D) (ma mb : ME) : MF := fun s => (ma s).bind fun p => (mb p.2).bind fun q => (ofO (view q.2 p.1)).bind fun a => (ofO (view q.2 q.1)).bind fun b => (ofO (f a b)).bind fun d => .ok (d, q.2)
theorem snd_opF {r : R2} {f : D → D → Option D} {ta tb : TE} {ma mb : ME} (ho : OpF K r f) (ha : SndE K E ta ma) (hb : SndE K E tb mb) : SndF K E (tOp r ta tb) (mOpF f ma mb) := fun W s σ H Hs Q hK x q => by
  refine ha W s σ H Hs _ hK x (Post.bind q fun xa s1 v H1 Hs1 _ g1 x1 o1 q1 => ?_)
  refine hb W s1 σ H1 Hs1 _ hK x1 (Post.bind q1 fun xb s2 w H2 Hs2 _ g2 x2 o2 q2 => ?_)
  obtain ⟨a, ea, q3⟩ := q2.ofO
  obtain ⟨b, eb, q4⟩ := q3.ofO
  obtain ⟨d, ed, q5⟩ := q4.ofO
  subst hK
  refine ho W.pa Hs2 H2 a b v w d Q x2.pool (ArgOk.t x2 (ArgOk.up g2 o1) ea) (ArgOk.t x2 o2 eb) ed fun p o hp r => ?_
  obtain ⟨x3, fr⟩ := fresh_new x2 hp r
  exact q5 _ _ Hs2 (Same.rfl' _) x3 ⟨p, rfl, fr⟩
def fCat : D → D → Option D
  | .lst a, .lst b => if a.length + b.length ≤ 100000 then some (.lst (a ++ b)) else none
  | _, _ => none
theorem of_cat : OpF K rCat fCat := fun pa Hs H a b x y d Q hp ra rb e k => by
  cases a with
  | lst i =>
    cases b with
    | lst j =>
      have e : (if i.length + j.length ≤ 100000 then some (D.lst (i ++ j)) else none) = some d := e
      by_cases hc : i.length + j.length ≤ 100000
      · rw [if_pos hc] at e
        cases e
        obtain ⟨l, xs, rfl, h1, h2⟩ := ra
        obtain ⟨m, ys, rfl, h3, h4⟩ := rb
        exact ⟨l, m, xs, ys, rfl, rfl, h1, h3, by rw [← h2.len, ← h4.len]; exact Evl.sz_of hc, fun p hp => k p _ hp ⟨_, rfl, h2.app h4⟩⟩
      · rw [if_neg hc] at e; cases e
    | _ => cases e
  | _ => cases e
def repD (xs : List D) (n : Nat) : List D := (List.replicate n xs).flatten
theorem RepL.rep {pa : Addr} {ds : List D} {vs : List V} (h : RepL K pa Hs ds vs) : ∀ n, RepL K pa Hs (repD ds n) ((List.replicate n vs).flatten)
  | 0 => rfl
  | n + 1 => by
    unfold repD
    rw [List.replicate_succ, List.replicate_succ, List.flatten_cons, List.flatten_cons]
    exact h.app (h.rep n)
def fRep : D → D → Option D
  | .lst a, .int k => if -1000000 ≤ k ∧ k ≤ 1000000 ∧ a.length * k.toNat ≤ 100000 then some (.lst (repD a k.toNat)) else none
  | _, _ => none
theorem of_rep : OpF K rRep fRep := fun pa Hs H a b x y d Q hp ra rb e k => by
  cases a with
  | lst i =>
    cases b with
    | int j =>
      have e : (if -1000000 ≤ j ∧ j ≤ 1000000 ∧ i.length * j.toNat ≤ 100000 then some (D.lst (repD i j.toNat)) else none) = some d := e
      by_cases hc : -1000000 ≤ j ∧ j ≤ 1000000 ∧ i.length * j.toNat ≤ 100000
      · rw [if_pos hc] at e
        cases e
        obtain ⟨l, xs, rfl, h1, h2⟩ := ra
        exact ⟨l, j, xs, rfl, rb, h1, by omega, by omega, by rw [← h2.len]; exact Evl.sz_of hc.2.2, fun p hp => k p _ hp ⟨_, rfl, h2.rep _⟩⟩
      · rw [if_neg hc] at e; cases e
    | _ => cases e
  | _ => cases e
/-! ### items, slices -/
theorem RepL.atI {pa : Addr} {ds : List D} {vs : List V} {i : Int} {d : D} (h : RepL K pa Hs ds vs) (e : L2.atI ds i = some d) : ∃ v, L2.atI vs i = some v ∧ Rep K pa Hs d v := by
  unfold L2.atI at e ⊢
  rw [← h.len]
  cases e1 : ixN ds.length i with
  | none => rw [e1] at e; cases e
  | some j =>
    rw [e1] at e
    exact h.get e
def fIxL : D → D → Option D
  | .lst a, .int k => atI a k
  | _, _ => none
def fIxT : D → D → Option D
  | .tup a, .int k => atI a k
  | _, _ => none
def fIxS : D → D → Option D
  | .str z, .int k => if z.length ≤ 100000 then (atI z.cps.toList k).map fun c => .str ⟨#[c]⟩ else none
  | _, _ => none
theorem os_ixL : OpS K (rIxL K) fIxL := fun pa Hs H a b x y d Q hp ra rb e k => by
  cases a with
  | lst ds =>
    cases b with
    | int j =>
      obtain ⟨l, xs, rfl, h1, h2⟩ := ra
      obtain ⟨v, h3, h4⟩ := h2.atI (show atI ds j = some d from e)
      exact ⟨l, xs, j, v, rfl, rb, SqL.of h1, h3, k v Hs H (Gr.refl hp) h4⟩
    | _ => cases e
  | _ => cases e
theorem os_ixT : OpS K (rIxT K) fIxT := fun pa Hs H a b x y d Q hp ra rb e k => by
  cases a with
  | tup ds =>
    cases b with
    | int j =>
      obtain ⟨l, xs, rfl, h1, h2⟩ := ra
      obtain ⟨v, h3, h4⟩ := h2.atI (show atI ds j = some d from e)
      exact ⟨l, xs, j, v, rfl, rb, SqT.of h1, h3, k v Hs H (Gr.refl hp) h4⟩
    | _ => cases e
  | _ => cases e
theorem os_ixS : OpS K rIxS fIxS := fun pa Hs H a b x y d Q hp ra rb e k => by
  cases a with
  | str z =>
    cases b with
    | int j =>
      have e : (if z.length ≤ 100000 then (atI z.cps.toList j).map (fun c => D.str ⟨#[c]⟩) else none) = some d := e
      by_cases hc : z.length ≤ 100000
      · rw [if_pos hc] at e
        cases e1 : atI z.cps.toList j with
        | none => rw [e1] at e; cases e
        | some c =>
          rw [e1] at e
          cases e
          exact ⟨z, j, c, ra, rb, Evl.sz_of hc, e1, k _ Hs H (Gr.refl hp) rfl⟩
      · rw [if_neg hc] at e; cases e
    | _ => cases e
  | _ => cases e
def mNo : MO := fun s => .ok (none, s)
def mPart (m : ME) : MO := fun s => (m s).bind fun p => (ofO ((view p.2 p.1).bind asI)).bind fun i => .ok (some i, p.2)
theorem snd_no : SndO K E tNoPart mNo := fun W s σ H Hs Q hK x q => q none H Hs (Same.rfl' _) x rfl
theorem snd_part {t : TE} {m : ME} (h : SndE K E t m) : SndO K E (tPart t) (mPart m) := fun W s σ H Hs Q hK x q => by
  refine h W s σ H Hs _ hK x (Post.bind q fun xa s1 v H1 Hs1 _ g1 x1 o1 q1 => ?_)
  obtain ⟨i, ei, q2⟩ := q1.ofO
  cases e2 : view s1 xa with
  | none => rw [e2] at ei; cases ei
  | some d =>
    rw [e2] at ei
    cases asI_eq ei
    exact ⟨i, ArgOk.t x1 o1 e2, q2 _ H1 Hs1 (Same.rfl' _) x1 rfl⟩
def cutD {α : Type} (xs : List α) (lo hi : Option Int) : List α := (xs.drop (HT.sIx xs.length 0 lo)).take (HT.sIx xs.length xs.length hi - HT.sIx xs.length 0 lo)
theorem RepL.cut {pa : Addr} {ds : List D} {vs : List V} (h : RepL K pa Hs ds vs) (lo hi : Option Int) : RepL K pa Hs (cutD ds lo hi) (cutV vs lo hi) := by
  unfold cutD cutV
  rw [h.len]
  exact (h.drop _).take _
/-- xs[a:b] of a list: a new one -/
def mSlL (m : ME) (lo hi : MO) : MF := fun s => (m s).bind fun p => (lo p.2).bind fun q => (hi q.2).bind fun r => (ofO ((view r.2 p.1).bind asL)).bind fun ds => .ok (.lst (cutD ds q.1 r.1), r.2)
theorem snd_slL {t : TE} {tl th : TO} {m : ME} {lo hi : MO} (h : SndE K E t m) (hl : SndO K E tl lo) (hh : SndO K E th hi) : SndF K E (tSl (rSlL K) t tl th) (mSlL m lo hi) := fun W s σ H Hs Q hK x q => by
  refine h W s σ H Hs _ hK x (Post.bind q fun xa s1 v H1 Hs1 _ g1 x1 o1 q1 => ?_)
  refine hl W s1 σ H1 Hs1 _ hK x1 (Post.bind q1 fun a s2 a' H2 Hs2 _ g2 x2 o2 q2 => ?_)
  refine hh W s2 σ H2 Hs2 _ hK x2 (Post.bind q2 fun b s3 b' H3 Hs3 _ g3 x3 o3 q3 => ?_)
  cases (show a' = a from o2)
  cases (show b' = b from o3)
  obtain ⟨ds, ed, q4⟩ := q3.ofO
  cases e2 : view s3 xa with
  | none => rw [e2] at ed; cases ed
  | some d =>
    rw [e2] at ed
    cases asL_eq ed
    obtain ⟨l, vs, rfl, h1, h2⟩ := ArgOk.t x3 (ArgOk.up (Same.trans' g2 g3) o1) e2
    refine ⟨l, vs, rfl, SqL.of h1, fun p hp => ?_⟩
    obtain ⟨x4, fr⟩ := fresh_new (o := .lst (cutV vs a b)) (d := .lst (cutD ds a b)) x3 hp ⟨_, rfl, h2.cut a b⟩
    exact q4 _ _ Hs3 (Same.rfl' _) x4 ⟨p, rfl, fr⟩
def mSlT (m : ME) (lo hi : MO) : ME := fun s => (m s).bind fun p => (lo p.2).bind fun q => (hi q.2).bind fun r => (ofO ((view r.2 p.1).bind asT)).bind fun ds => if ¬ (HT.sIx ds.length 0 q.1 = 0 ∧ HT.sIx ds.length ds.length r.1 = ds.length) then .ok (.val (.tup (cutD ds q.1 r.1)), r.2) else .stuck
theorem snd_slT {t : TE} {tl th : TO} {m : ME} {lo hi : MO} (h : SndE K E t m) (hl : SndO K E tl lo) (hh : SndO K E th hi) : SndE K E (tSl (rSlT K) t tl th) (mSlT m lo hi) := fun W s σ H Hs Q hK x q => by
  refine h W s σ H Hs _ hK x (Post.bind q fun xa s1 v H1 Hs1 _ g1 x1 o1 q1 => ?_)
  refine hl W s1 σ H1 Hs1 _ hK x1 (Post.bind q1 fun a s2 a' H2 Hs2 _ g2 x2 o2 q2 => ?_)
  refine hh W s2 σ H2 Hs2 _ hK x2 (Post.bind q2 fun b s3 b' H3 Hs3 _ g3 x3 o3 q3 => ?_)
  cases (show a' = a from o2)
  cases (show b' = b from o3)
  obtain ⟨ds, ed, q4⟩ := q3.ofO
  obtain ⟨hc, q5⟩ := Post.ite q4
  cases e2 : view s3 xa with
  | none => rw [e2] at ed; cases ed
  | some d =>
    rw [e2] at ed
    cases asT_eq ed
    obtain ⟨l, vs, rfl, h1, h2⟩ := ArgOk.t x3 (ArgOk.up (Same.trans' g2 g3) o1) e2
    subst hK
    refine ⟨l, vs, rfl, SqT.of h1, by rw [← h2.len]; exact hc, fun p hp => ?_⟩
    have g := gr_new (o := .tup (cutV vs a b)) x3.pool hp
    exact q5 _ _ _ g.s (x3.grow g) ⟨p, _, rfl, upd_same, (h2.cut a b).up g.s⟩
def mSlS (m : ME) (lo hi : MO) : ME := fun s => (m s).bind fun p => (lo p.2).bind fun q => (hi q.2).bind fun r => (ofO ((view r.2 p.1).bind asS)).bind fun z => if z.length ≤ 100000 then .ok (.val (.str (cutS z q.1 r.1)), r.2) else .stuck
theorem snd_slS {t : TE} {tl th : TO} {m : ME} {lo hi : MO} (h : SndE K E t m) (hl : SndO K E tl lo) (hh : SndO K E th hi) : SndE K E (tSl rSlS t tl th) (mSlS m lo hi) := fun W s σ H Hs Q hK x q => by
  refine h W s σ H Hs _ hK x (Post.bind q fun xa s1 v H1 Hs1 _ g1 x1 o1 q1 => ?_)
  refine hl W s1 σ H1 Hs1 _ hK x1 (Post.bind q1 fun a s2 a' H2 Hs2 _ g2 x2 o2 q2 => ?_)
  refine hh W s2 σ H2 Hs2 _ hK x2 (Post.bind q2 fun b s3 b' H3 Hs3 _ g3 x3 o3 q3 => ?_)
  cases (show a' = a from o2)
  cases (show b' = b from o3)
  obtain ⟨z, ed, q4⟩ := q3.ofO
  obtain ⟨hc, q5⟩ := Post.ite q4
  cases e2 : view s3 xa with
  | none => rw [e2] at ed; cases ed
  | some d =>
    rw [e2] at ed
    cases asS_eq ed
    exact ⟨z, ArgOk.t x3 (ArgOk.up (Same.trans' g2 g3) o1) e2, Evl.sz_of hc, q5 _ _ Hs3 (Same.rfl' _) x3 rfl⟩
/-! ### builtins -/
theorem RepTs.one {pa : Addr} {d : D} {vs : List V} (h : RepTs K pa Hs H [d] vs) : ∃ v, vs = [v] ∧ RepT K pa Hs H d v := by
  cases h with
  | cons h t => cases t; exact ⟨_, rfl, h⟩
theorem RepTs.two {pa : Addr} {d e : D} {vs : List V} (h : RepTs K pa Hs H [d, e] vs) : ∃ v w, vs = [v, w] ∧ RepT K pa Hs H d v ∧ RepT K pa Hs H e w := by
  cases h with
  | cons h t => cases t with
    | cons h2 t2 => cases t2; exact ⟨_, _, rfl, h, h2⟩
def f1 (f : D → Option D) : List D → Option D
  | [d] => f d
  | _ => none
theorem f1_eq {f : D → Option D} {ds : List D} {d : D} (h : f1 f ds = some d) : ∃ a, ds = [a] ∧ f a = some d := by
  match ds, h with
  | [a], h => exact ⟨a, rfl, h⟩
def fLen : D → Option D
  | .lst ds => some (.int ds.length)
  | .tup ds => some (.int ds.length)
  | .str z => if z.length ≤ 100000 then some (.int z.length) else none
  | _ => none
theorem cs_len : CallS K (fun xs H Q => ∃ x n, xs = [x] ∧ LenV K x H n ∧ Q (.int n) H) (f1 fLen) := fun pa Hs H ds vs d Q hp rs e0 k => by
  obtain ⟨a, rfl, e⟩ := f1_eq e0
  obtain ⟨v, rfl, r⟩ := rs.one
  cases a with
  | lst ds =>
    cases e
    obtain ⟨l, us, rfl, h1, h2⟩ := r
    exact ⟨_, _, rfl, .inl ⟨us, SqL.of h1, h2.len⟩, k _ Hs H (Gr.refl hp) rfl⟩
  | tup ds =>
    cases e
    obtain ⟨l, us, rfl, h1, h2⟩ := r
    exact ⟨_, _, rfl, .inr ⟨us, SqT.of h1, h2.len⟩, k _ Hs H (Gr.refl hp) rfl⟩
  | str z =>
    have e : (if z.length ≤ 100000 then some (D.int z.length) else none) = some d := e
    by_cases hc : z.length ≤ 100000
    · rw [if_pos hc] at e
      cases e
      cases (show v = _ from r)
      exact ⟨_, _, rfl, ⟨Evl.sz_of hc, rfl⟩, k _ Hs H (Gr.refl hp) rfl⟩
    · rw [if_neg hc] at e; cases e
  | _ => cases e
def fAbs : D → Option D
  | .int i => some (.int (if i < 0 then -i else i))
  | _ => none
theorem cs_abs : CallS K (fun xs H Q => ∃ i, xs = [.int i] ∧ Q (.int (if i < 0 then -i else i)) H) (f1 fAbs) := fun pa Hs H ds vs d Q hp rs e0 k => by
  obtain ⟨a, rfl, e⟩ := f1_eq e0
  obtain ⟨v, rfl, r⟩ := rs.one
  cases a with
  | int i =>
    cases e
    cases (show v = _ from r)
    exact ⟨i, rfl, k _ Hs H (Gr.refl hp) rfl⟩
  | _ => cases e
def f2 (f : D → D → Option D) : List D → Option D
  | [a, b] => f a b
  | _ => none
theorem f2_eq {f : D → D → Option D} {ds : List D} {d : D} (h : f2 f ds = some d) : ∃ a b, ds = [a, b] ∧ f a b = some d := by
  match ds, h with
  | [a, b], h => exact ⟨a, b, rfl, h⟩
theorem cs_max2 : CallS K (fun xs H Q => ∃ i j, xs = [.int i, .int j] ∧ Q (.int (if j > i then j else i)) H) (f2 (fI fun i j => .int (if j > i then j else i))) := fun pa Hs H ds vs d Q hp rs e0 k => by
  obtain ⟨a, b, rfl, e⟩ := f2_eq e0
  obtain ⟨v, w, rfl, r1, r2⟩ := rs.two
  obtain ⟨i, j, rfl, rfl, rfl⟩ := fI_eq e
  cases (show v = _ from r1)
  cases (show w = _ from r2)
  exact ⟨i, j, rfl, k _ Hs H (Gr.refl hp) rfl⟩
theorem cs_min2 : CallS K (fun xs H Q => ∃ i j, xs = [.int i, .int j] ∧ Q (.int (if j < i then j else i)) H) (f2 (fI fun i j => .int (if j < i then j else i))) := fun pa Hs H ds vs d Q hp rs e0 k => by
  obtain ⟨a, b, rfl, e⟩ := f2_eq e0
  obtain ⟨v, w, rfl, r1, r2⟩ := rs.two
  obtain ⟨i, j, rfl, rfl, rfl⟩ := fI_eq e
  cases (show v = _ from r1)
  cases (show w = _ from r2)
  exact ⟨i, j, rfl, k _ Hs H (Gr.refl hp) rfl⟩
def fInt : D → Option D
  | .int i => some (.int i)
  | .bl b => some (.int (if b then 1 else 0))
  | _ => none
theorem cs_int : CallS K (fun xs H Q => (∃ i, xs = [.int i] ∧ Q (.int i) H) ∨ ∃ k, xs = [.bl k] ∧ Q (.int (if k then 1 else 0)) H) (f1 fInt) := fun pa Hs H ds vs d Q hp rs e0 k => by
  obtain ⟨a, rfl, e⟩ := f1_eq e0
  obtain ⟨v, rfl, r⟩ := rs.one
  cases a with
  | int i =>
    cases e
    cases (show v = _ from r)
    exact .inl ⟨i, rfl, k _ Hs H (Gr.refl hp) rfl⟩
  | bl i =>
    cases e
    cases (show v = _ from r)
    exact .inr ⟨i, rfl, k _ Hs H (Gr.refl hp) rfl⟩
  | _ => cases e
def fStrI : D → Option D
  | .int i => if i.natAbs.log2 < 1920 then some (.str (toString i)) else none
  | _ => none
theorem cs_strI : CallS K (fun xs H Q => ∃ i, xs = [.int i] ∧ i.natAbs.log2 < 1920 ∧ Q (.str (toString i)) H) (f1 fStrI) := fun pa Hs H ds vs d Q hp rs e0 k => by
  obtain ⟨a, rfl, e⟩ := f1_eq e0
  obtain ⟨v, rfl, r⟩ := rs.one
  cases a with
  | int i =>
    have e : (if i.natAbs.log2 < 1920 then some (D.str (toString i)) else none) = some d := e
    by_cases hc : i.natAbs.log2 < 1920
    · rw [if_pos hc] at e
      cases e
      cases (show v = _ from r)
      exact ⟨i, rfl, hc, k _ Hs H (Gr.refl hp) rfl⟩
    · rw [if_neg hc] at e; cases e
  | _ => cases e
/-- lists of one kind -/
def allB : List D → Option (List Bool)
  | [] => some []
  | .bl b :: ds => (allB ds).map (b :: ·)
  | _ => none
def allI : List D → Option (List Int)
  | [] => some []
  | .int b :: ds => (allI ds).map (b :: ·)
  | _ => none
def allS : List D → Option (List Str)
  | [] => some []
  | .str b :: ds => (allS ds).map (b :: ·)
  | _ => none
theorem allB_eq : ∀ {ds : List D} {bs : List Bool}, allB ds = some bs → ds = bs.map D.bl
  | [], bs, e => by cases e; rfl
  | d :: ds, bs, e => by
    cases d with
    | bl b =>
      have e : (allB ds).map (b :: ·) = some bs := e
      cases e2 : allB ds with
      | none => rw [e2] at e; cases e
      | some cs => rw [e2] at e; cases e; rw [allB_eq e2]; rfl
    | _ => cases e
theorem allI_eq : ∀ {ds : List D} {bs : List Int}, allI ds = some bs → ds = bs.map D.int
  | [], bs, e => by cases e; rfl
  | d :: ds, bs, e => by
    cases d with
    | int b =>
      have e : (allI ds).map (b :: ·) = some bs := e
      cases e2 : allI ds with
      | none => rw [e2] at e; cases e
      | some cs => rw [e2] at e; cases e; rw [allI_eq e2]; rfl
    | _ => cases e
theorem allS_eq : ∀ {ds : List D} {bs : List Str}, allS ds = some bs → ds = bs.map D.str
  | [], bs, e => by cases e; rfl
  | d :: ds, bs, e => by
    cases d with
    | str b =>
      have e : (allS ds).map (b :: ·) = some bs := e
      cases e2 : allS ds with
      | none => rw [e2] at e; cases e
      | some cs => rw [e2] at e; cases e; rw [allS_eq e2]; rfl
    | _ => cases e
theorem allB_map : ∀ (bs : List Bool), allB (bs.map D.bl) = some bs
  | [] => rfl
  | b :: bs => by simp [allB, allB_map bs]
theorem allI_map : ∀ (bs : List Int), allI (bs.map D.int) = some bs
  | [] => rfl
  | b :: bs => by simp [allI, allI_map bs]
theorem allS_map : ∀ (bs : List Str), allS (bs.map D.str) = some bs
  | [] => rfl
  | b :: bs => by simp [allS, allS_map bs]
def fAll (d : D) : Option D := ((asL d).bind allB).map fun bs => .bl (bs.all id)
def fAny (d : D) : Option D := ((asL d).bind allB).map fun bs => .bl (bs.any id)
def fSum (d : D) : Option D := ((asL d).bind allI).map fun bs => .int bs.sum
theorem lst_of {α : Type} {f : List D → Option (List α)} {g : List α → D} {a d : D} (e : ((asL a).bind f).map g = some d) : ∃ ds bs, a = .lst ds ∧ f ds = some bs ∧ d = g bs := by
  cases e1 : asL a with
  | none => rw [e1] at e; cases e
  | some ds =>
    rw [e1] at e
    cases e2 : f ds with
    | none => simp [e2] at e
    | some bs => simp [e2] at e; exact ⟨ds, bs, asL_eq e1, e2, e.symm⟩
theorem cs_all : CallS K (rAll K) (f1 fAll) := fun pa Hs H ds vs d Q hp rs e0 k => by
  obtain ⟨a, rfl, e⟩ := f1_eq e0
  obtain ⟨v, rfl, r⟩ := rs.one
  obtain ⟨ds, bs, rfl, e2, rfl⟩ := lst_of e
  obtain ⟨l, us, rfl, h1, h2⟩ := r
  cases allB_eq e2
  cases h2.bls
  exact ⟨l, bs, rfl, SqL.of h1, k _ Hs H (Gr.refl hp) rfl⟩
theorem cs_any : CallS K (rAny K) (f1 fAny) := fun pa Hs H ds vs d Q hp rs e0 k => by
  obtain ⟨a, rfl, e⟩ := f1_eq e0
  obtain ⟨v, rfl, r⟩ := rs.one
  obtain ⟨ds, bs, rfl, e2, rfl⟩ := lst_of e
  obtain ⟨l, us, rfl, h1, h2⟩ := r
  cases allB_eq e2
  cases h2.bls
  exact ⟨l, bs, rfl, SqL.of h1, k _ Hs H (Gr.refl hp) rfl⟩
theorem cs_sum : CallS K (rSum K) (f1 fSum) := fun pa Hs H ds vs d Q hp rs e0 k => by
  obtain ⟨a, rfl, e⟩ := f1_eq e0
  obtain ⟨v, rfl, r⟩ := rs.one
  obtain ⟨ds, bs, rfl, e2, rfl⟩ := lst_of e
  obtain ⟨l, us, rfl, h1, h2⟩ := r
  cases allI_eq e2
  cases h2.ints
  exact ⟨l, bs, rfl, SqL.of h1, k _ Hs H (Gr.refl hp) rfl⟩
/-- max, min of a list of whole numbers -/
def fMax (d : D) : Option D := match (asL d).bind allI with
  | some (b :: bs) => some (.int (bs.foldl max b))
  | _ => none
def fMin (d : D) : Option D := match (asL d).bind allI with
  | some (b :: bs) => some (.int (bs.foldl min b))
  | _ => none
theorem foldl_max : ∀ (bs : List Int) (b : Int), bs.foldl max b ∈ b :: bs ∧ ∀ y ∈ b :: bs, y ≤ bs.foldl max b
  | [], b => by simp
  | c :: bs, b => by
    obtain ⟨h1, h2⟩ := foldl_max bs (max b c)
    rw [List.foldl_cons]
    refine ⟨?_, fun y hy => ?_⟩
    · rcases List.mem_cons.mp h1 with h | h
      · rw [h]
        rcases Int.le_total b c with q | q
        · rw [Int.max_eq_right q]; simp
        · rw [Int.max_eq_left q]; simp
      · simp [h]
    · have hm := h2 (max b c) (by simp)
      rcases List.mem_cons.mp hy with rfl | hy
      · exact Int.le_trans (Int.le_max_left ..) hm
      · rcases List.mem_cons.mp hy with rfl | hy
        · exact Int.le_trans (Int.le_max_right ..) hm
        · exact h2 y (List.mem_cons_of_mem _ hy)
theorem foldl_min : ∀ (bs : List Int) (b : Int), bs.foldl min b ∈ b :: bs ∧ ∀ y ∈ b :: bs, bs.foldl min b ≤ y
  | [], b => by simp
  | c :: bs, b => by
    obtain ⟨h1, h2⟩ := foldl_min bs (min b c)
    rw [List.foldl_cons]
    refine ⟨?_, fun y hy => ?_⟩
    · rcases List.mem_cons.mp h1 with h | h
      · rw [h]
        rcases Int.le_total b c with q | q
        · rw [Int.min_eq_left q]; simp
        · rw [Int.min_eq_right q]; simp
      · simp [h]
    · have hm := h2 (min b c) (by simp)
      rcases List.mem_cons.mp hy with rfl | hy
      · exact Int.le_trans hm (Int.min_le_left ..)
      · rcases List.mem_cons.mp hy with rfl | hy
        · exact Int.le_trans hm (Int.min_le_right ..)
        · exact h2 y (List.mem_cons_of_mem _ hy)
theorem cs_max : CallS K (rMax K) (f1 fMax) := fun pa Hs H ds vs d Q hp rs e0 k => by
  obtain ⟨a, rfl, e⟩ := f1_eq e0
  obtain ⟨v, rfl, r⟩ := rs.one
  unfold fMax at e
  split at e
  · rename_i b bs eb
    cases e
    cases e1 : asL a with
    | none => rw [e1] at eb; cases eb
    | some ds =>
      rw [e1] at eb
      cases asL_eq e1
      obtain ⟨l, us, rfl, h1, h2⟩ := r
      cases allI_eq (show allI ds = some (b :: bs) from eb)
      have h3 := h2.ints
      subst h3
      refine ⟨l, b :: bs, rfl, SqL.of h1, by simp, fun m hm hle => ?_⟩
      have z := foldl_max bs b
      have : m = bs.foldl max b := Int.le_antisymm (z.2 m hm) (hle _ z.1)
      subst this
      exact k _ Hs H (Gr.refl hp) rfl
  · cases e
theorem cs_min : CallS K (rMin K) (f1 fMin) := fun pa Hs H ds vs d Q hp rs e0 k => by
  obtain ⟨a, rfl, e⟩ := f1_eq e0
  obtain ⟨v, rfl, r⟩ := rs.one
  unfold fMin at e
  split at e
  · rename_i b bs eb
    cases e
    cases e1 : asL a with
    | none => rw [e1] at eb; cases eb
    | some ds =>
      rw [e1] at eb
      cases asL_eq e1
      obtain ⟨l, us, rfl, h1, h2⟩ := r
      cases allI_eq (show allI ds = some (b :: bs) from eb)
      have h3 := h2.ints
      subst h3
      refine ⟨l, b :: bs, rfl, SqL.of h1, by simp, fun m hm hle => ?_⟩
      have z := foldl_min bs b
      have : m = bs.foldl min b := Int.le_antisymm (hle _ z.1) (z.2 m hm)
      subst this
      exact k _ Hs H (Gr.refl hp) rfl
  · cases e
/-- list(x), tuple(x) -/
def CallFr (K : Frag) (r : List V → Hp → VK → Prop) (f : List D → Option D) : Prop := ∀ (pa : Addr) (Hs H : Hp) ds vs d (Q : VK), PoolOk Hs H → RepTs K pa Hs H ds vs → f ds = some d → (∀ p o, H p = none → RepC K pa Hs d o → Q (.ref p) (upd H p o)) → r vs H Q
def mCBF (f : List D → Option D) (m : MA) : MF := fun s => (m s).bind fun p => (ofO (views p.2 p.1)).bind fun ds => (ofO (f ds)).bind fun d => .ok (d, p.2)
theorem snd_cbF {r : List V → Hp → VK → Prop} {f : List D → Option D} {t : TA} {m : MA} (hc : CallFr K r f) (h : SndA K E t m) : SndF K E (tCB r t) (mCBF f m) := fun W s σ H Hs Q hK x q => by
  refine h W s σ H Hs _ hK x (Post.bind q fun xs s1 vs H1 Hs1 _ g1 x1 o1 q1 => ?_)
  obtain ⟨ds, ed, q2⟩ := q1.ofO
  obtain ⟨d, e2, q3⟩ := q2.ofO
  subst hK
  refine hc W.pa Hs1 H1 ds vs d Q x1.pool (o1.t x1 ed) e2 fun p o hp r => ?_
  obtain ⟨x3, fr⟩ := fresh_new x1 hp r
  exact q3 _ _ Hs1 (Same.rfl' _) x3 ⟨p, rfl, fr⟩
def fList : D → Option D
  | .lst ds => some (.lst ds)
  | .tup ds => some (.lst ds)
  | _ => none
theorem cf_list : CallFr K (fun xs H Q => ∃ p ys, xs = [.ref p] ∧ (SqL K H p ys ∨ SqT K H p ys) ∧ ∀ l, H l = none → Q (.ref l) (upd H l (.lst ys))) (f1 fList) := fun pa Hs H ds vs d Q hp rs e0 k => by
  obtain ⟨a, rfl, e⟩ := f1_eq e0
  obtain ⟨v, rfl, r⟩ := rs.one
  cases a with
  | lst ds =>
    cases e
    obtain ⟨l, us, rfl, h1, h2⟩ := r
    exact ⟨l, us, rfl, .inl (SqL.of h1), fun p hp => k p _ hp ⟨us, rfl, h2⟩⟩
  | tup ds =>
    cases e
    obtain ⟨l, us, rfl, h1, h2⟩ := r
    exact ⟨l, us, rfl, .inr (SqT.of h1), fun p hp => k p _ hp ⟨us, rfl, h2⟩⟩
  | _ => cases e
def fTuple : D → Option D
  | .lst ds => some (.tup ds)
  | _ => none
theorem cs_tuple : CallS K (fun xs H Q => ∃ p ys, xs = [.ref p] ∧ ((SqL K H p ys ∧ ∀ l, H l = none → Q (.ref l) (upd H l (.tup ys))) ∨ (SqT K H p ys ∧ Q (.ref p) H))) (f1 fTuple) := fun pa Hs H ds vs d Q hp rs e0 k => by
  obtain ⟨a, rfl, e⟩ := f1_eq e0
  obtain ⟨v, rfl, r⟩ := rs.one
  cases a with
  | lst ds =>
    cases e
    obtain ⟨l, us, rfl, h1, h2⟩ := r
    refine ⟨l, us, rfl, .inl ⟨SqL.of h1, fun p hn => ?_⟩⟩
    have g := gr_new (o := .tup us) hp hn
    exact k _ _ _ g ⟨p, _, rfl, upd_same, h2.up g.s⟩
  | _ => cases e
/-- repr of data without own objects -/
def fRepr (d : D) : Option D := (toP d).bind fun p => match d with
  | .lst _ => if p.showable = true ∧ p.depth ≤ 60 ∧ p.shown.length ≤ 100000 then some (.str p.shown) else none
  | .tup _ => if p.showable = true ∧ p.depth ≤ 60 ∧ p.shown.length ≤ 100000 then some (.str p.shown) else none
  | _ => none
theorem cs_repr : CallS K (Z.rReprD K) (f1 fRepr) := fun pa Hs H ds vs d Q hp rs e0 k => by
  obtain ⟨a, rfl, e⟩ := f1_eq e0
  obtain ⟨v, rfl, r⟩ := rs.one
  unfold fRepr at e
  cases e1 : toP a with
  | none => rw [e1] at e; cases e
  | some p =>
    rw [e1] at e
    have go : ∀ {l : Addr}, v = .ref l → (if p.showable = true ∧ p.depth ≤ 60 ∧ p.shown.length ≤ 100000 then some (D.str p.shown) else none) = some d → Z.rReprD K [v] H Q := fun {l} hv e => by
      by_cases hc : p.showable = true ∧ p.depth ≤ 60 ∧ p.shown.length ≤ 100000
      · rw [if_pos hc] at e
        cases e
        have dp := dpt_of hp e1 r
        rw [hv] at dp ⊢
        exact ⟨l, p, rfl, dp, hc.1, hc.2.1, Evl.sz_of hc.2.2, k _ Hs H (Gr.refl hp) rfl⟩
      · rw [if_neg hc] at e; cases e
    cases a with
    | lst ds => have r2 := r; obtain ⟨l, us, hl, _⟩ := r2; exact go hl e
    | tup ds => have r2 := r; obtain ⟨l, us, hl, _⟩ := r2; exact go hl e
    | _ => cases e
/-- sep.join(..) -/
def mJoin (mo m : ME) : ME := fun s => (mo s).bind fun o => (ofO ((view o.2 o.1).bind asS)).bind fun a => (m o.2).bind fun p => (ofO (((view p.2 p.1).bind asL).bind allS)).bind fun ys => if (ys.map (·.length)).sum + ys.length * a.length ≤ 16777216 then .ok (.val (.str (Txt.join a ys)), p.2) else .stuck
theorem snd_join {to te : TE} {mo m : ME} (ho : SndE K E to mo) (h : SndE K E te m) : SndE K E (tM1 (fun x xs H Q => ∃ a p, ∃ ys : List Str, x = .str a ∧ xs = [.ref p] ∧ (SqL K H p (ys.map V.str) ∨ SqT K H p (ys.map V.str)) ∧ (ys.map (·.length)).sum + ys.length * a.length ≤ 16777216 ∧ Q (.str (Txt.join a ys)) H) to te) (mJoin mo m) := fun W s σ H Hs Q hK x q => by
  refine ho W s σ H Hs _ hK x (Post.bind q fun xo s1 v H1 Hs1 _ g1 x1 o1 q1 => ?_)
  obtain ⟨a, ea, q2⟩ := q1.ofO
  cases e1 : view s1 xo with
  | none => rw [e1] at ea; cases ea
  | some d =>
    rw [e1] at ea
    cases asS_eq ea
    cases (show v = .str a from ArgOk.t x1 o1 e1)
    refine ⟨⟨a, rfl⟩, ?_⟩
    refine h W s1 σ H1 Hs1 _ hK x1 (Post.bind q2 fun xa s2 w H2 Hs2 _ g2 x2 o2 q3 => ?_)
    obtain ⟨ys, ey, q4⟩ := q3.ofO
    obtain ⟨hc, q5⟩ := Post.ite q4
    cases e2 : view s2 xa with
    | none => rw [e2] at ey; cases ey
    | some d2 =>
      rw [e2] at ey
      have ey : (asL d2).bind allS = some ys := ey
      cases e3 : asL d2 with
      | none => rw [e3] at ey; cases ey
      | some ds =>
        rw [e3] at ey
        cases asL_eq e3
        obtain ⟨l, us, rfl, h1, h2⟩ := ArgOk.t x2 o2 e2
        cases allS_eq (show allS ds = some ys from ey)
        cases h2.strs
        exact ⟨a, l, ys, rfl, rfl, .inl (SqL.of h1), hc, q5 _ H2 Hs2 (Same.rfl' _) x2 rfl⟩
/-- f-strings -/
def fFmt : D → Option D
  | .str y => if y.length ≤ 100000 then some (.str y) else none
  | .int i => if i.natAbs.log2 < 1920 then some (.str (toString i)) else none
  | _ => none
theorem snd_fmt {t : TE} {m : ME} (h : SndE K E t m) : SndE K E (tFmt t) (mUn fFmt m) := snd_un (r := fun x H1 Q => (∃ y : Str, x = .str y ∧ y.length ≤ sizeLine ∧ Q (.str y) H1) ∨ ∃ i : Int, x = .int i ∧ i.natAbs.log2 < 1920 ∧ Q (.str (toString i)) H1) (fun pa Hs H a x d Q hp ra e k => by
  cases a with
  | str y =>
    have e : (if y.length ≤ 100000 then some (D.str y) else none) = some d := e
    by_cases hc : y.length ≤ 100000
    · rw [if_pos hc] at e
      cases e
      exact .inl ⟨y, ra, Evl.sz_of hc, k _ Hs H (Gr.refl hp) rfl⟩
    · rw [if_neg hc] at e; cases e
  | int i =>
    have e : (if i.natAbs.log2 < 1920 then some (D.str (toString i)) else none) = some d := e
    by_cases hc : i.natAbs.log2 < 1920
    · rw [if_pos hc] at e
      cases e
      exact .inr ⟨i, ra, hc, k _ Hs H (Gr.refl hp) rfl⟩
    · rw [if_neg hc] at e; cases e
  | _ => cases e) h
def mJs : List ME → Str → S → R (Arg × S)
  | [], acc, s => .ok (.val (.str acc), s)
  | m :: ms, acc, s => (m s).bind fun p => (ofO ((view p.2 p.1).bind asS)).bind fun y => if (acc ++ y).length ≤ 100000 then mJs ms (acc ++ y) p.2 else .stuck
inductive SndJ (K : Frag) (E : XK) : List TE → List ME → Prop where
  | nil : SndJ K E [] []
  | cons {t m ts ms} : SndE K E t m → SndJ K E ts ms → SndJ K E (t :: ts) (m :: ms)
theorem snd_js {ts : List TE} {ms : List ME} (h : SndJ K E ts ms) : ∀ (acc : Str) (W : Wd) s σ H Hs (Q : VK), W.K = K → SS W Hs s σ H → Post W E Hs σ (okE W σ) Q (mJs ms acc s) → tJs ts acc σ H fun out H1 => Q (.str out) H1 := by
  induction h with
  | nil => exact fun acc W s σ H Hs Q hK x q => q _ H Hs (Same.rfl' _) x rfl
  | @cons t m ts ms h _ ih =>
    intro acc W s σ H Hs Q hK x q
    refine h W s σ H Hs _ hK x (Post.bind q fun xo s1 v H1 Hs1 _ g1 x1 o1 q1 => ?_)
    obtain ⟨y, ea, q2⟩ := q1.ofO
    obtain ⟨hc, q3⟩ := Post.ite q2
    cases e1 : view s1 xo with
    | none => rw [e1] at ea; cases ea
    | some d =>
      rw [e1] at ea
      cases asS_eq ea
      exact ⟨y, ArgOk.t x1 o1 e1, Evl.sz_of hc, ih (acc ++ y) W s1 σ H1 Hs1 Q hK x1 q3⟩
theorem snd_joined {ts : List TE} {ms : List ME} (h : SndJ K E ts ms) : SndE K E (fun σ H Q => tJs ts Str.empty σ H fun out H1 => Q (.str out) H1) (mJs ms Str.empty) := fun W s σ H Hs Q hK x q => snd_js h Str.empty W s σ H Hs Q hK x q
end
end Mi

namespace Mi
open PySem PySem.Spec PyProof.Rows L2
open PySem.W (Frag)
/-! ### classes that are known -/
abbrev tys : List String := Z.blts
structure Known (K : Frag) (cs : List Str) : Prop where
  oc : PySem.W.specialIn K (.builtin "object.__class__") "__get__" = some (some (.builtin "getset_descriptor.__get__"))
  ot : PySem.W.takesIn K (.builtin "object.__class__") = some true
  cl : ∀ c ∈ cs, Cls K (He.ga K c)
  ca : ∀ c ∈ cs, PySem.W.findIn K (.ref (He.ga K c)) "__class__" = some (some (.builtin "object.__class__"))
  cm : ∀ c ∈ cs, PySem.W.mroIn K (He.ga K c) (.type "object") = some true
  kk : ∀ c ∈ cs, ∀ c' ∈ cs, PySem.W.kitOne K (.ref (He.ga K c)) (.ref (He.ga K c')) = some (decide (c = c'))
  kt : ∀ c ∈ cs, ∀ T ∈ tys, PySem.W.kitOne K (.ref (He.ga K c)) (.type T) = some false
  kb : ∀ c ∈ cs, ∀ T ∈ tys, PySem.W.kitOne K (.type T) (.ref (He.ga K c)) = some false
  nf : ∀ c ∈ cs, ∀ c' ∈ cs, PySem.W.notFirst K (He.ga K c) (.ref (He.ga K c')) = true
def knownB (K : Frag) (cs : List Str) : Bool :=
  (decide (PySem.W.specialIn K (.builtin "object.__class__") "__get__" = some (some (.builtin "getset_descriptor.__get__"))) && decide (PySem.W.takesIn K (.builtin "object.__class__") = some true)) &&
  (cs.all fun c => (((He.Fa.cls c).ok K && decide (PySem.W.findIn K (.ref (He.ga K c)) "__class__" = some (some (.builtin "object.__class__")))) && decide (PySem.W.mroIn K (He.ga K c) (.type "object") = some true)) &&
    ((cs.all fun c' => decide (PySem.W.kitOne K (.ref (He.ga K c)) (.ref (He.ga K c')) = some (decide (c = c')))) && (tys.all fun T => decide (PySem.W.kitOne K (.ref (He.ga K c)) (.type T) = some false) && decide (PySem.W.kitOne K (.type T) (.ref (He.ga K c)) = some false)) &&
      cs.all fun c' => PySem.W.notFirst K (He.ga K c) (.ref (He.ga K c'))))
theorem known_of {K : Frag} {cs : List Str} (h : knownB K cs = true) : Known K cs := by
  unfold knownB at h
  simp only [Bool.and_eq_true, List.all_eq_true, decide_eq_true_eq] at h
  obtain ⟨⟨h1, h2⟩, h3⟩ := h
  exact ⟨h1, h2, fun c hc => He.cls_ok (h3 c hc).1.1.1, fun c hc => (h3 c hc).1.1.2, fun c hc => (h3 c hc).1.2, fun c hc c' hc' => (h3 c hc).2.1.1 c' hc', fun c hc T hT => ((h3 c hc).2.1.2 T hT).1, fun c hc T hT => ((h3 c hc).2.1.2 T hT).2, fun c hc c' hc' => (h3 c hc).2.2 c' hc'⟩
def blt : D → Option String
  | .non => some "NoneType"
  | .bl _ => some "bool"
  | .int _ => some "int"
  | .str _ => some "str"
  | .lst _ => some "list"
  | .tup _ => some "tuple"
  | .dct _ _ => some "dict"
  | _ => none
def clsOf (cs : List Str) : D → Option Str
  | .obj c _ _ => if c ∈ cs then some c else none
  | _ => none
section
variable {K : Frag} {E : XK} {W : Wd} {Hs Hs' H H' : Hp} {σ σ' : L2.St} {s : S} {ws : List Nat} {cs : List Str}
theorem blt_mem {d : D} {T : String} (h : blt d = some T) : T ∈ tys := by
  cases d <;> cases h <;> decide
theorem blt_ty {pa : Addr} {d : D} {v : V} {T : String} (h : blt d = some T) (r : RepT K pa Hs H d v) : TyX K H v (.type T) := by
  cases d with
  | non => cases h; cases (show v = _ from r); exact .base .non
  | bl b => cases h; cases (show v = _ from r); exact .base (.bl b)
  | int b => cases h; cases (show v = _ from r); exact .base (.int b)
  | str b => cases h; cases (show v = _ from r); exact .base (.str b)
  | lst ds => cases h; obtain ⟨a, vs, rfl, h1, _⟩ := r; exact .base (.lst h1)
  | tup ds => cases h; obtain ⟨a, vs, rfl, h1, _⟩ := r; exact .base (.tup h1)
  | dct ks ds =>
    cases h
    obtain ⟨a, kvs, rfl, h1, _⟩ := r
    rcases h1 with h1 | ⟨o, h1⟩
    · exact .base (.dK h1)
    · exact .fDict h1
  | _ => cases h
theorem blt_of {pa : Addr} {d : D} {v : V} {T : String} (h : blt d = some T) (r : RepT K pa Hs H d v) : Z.TyL K H v T := by
  cases d with
  | non => cases h; cases (show v = _ from r); exact .inl (.non)
  | bl b => cases h; cases (show v = _ from r); exact .inl (.bl b)
  | int b => cases h; cases (show v = _ from r); exact .inl (.int b)
  | str b => cases h; cases (show v = _ from r); exact .inl (.str b)
  | lst ds => cases h; obtain ⟨a, vs, rfl, h1, _⟩ := r; exact .inl (.lst h1)
  | tup ds => cases h; obtain ⟨a, vs, rfl, h1, _⟩ := r; exact .inl (.tup h1)
  | dct ks ds =>
    cases h
    obtain ⟨a, kvs, rfl, h1, _⟩ := r
    rcases h1 with h1 | ⟨o, h1⟩
    · exact .inl (.dK h1)
    · exact .inr ⟨rfl, a, o, kvs, rfl, h1⟩
  | _ => cases h
theorem cls_ty (kn : Known K cs) {pa : Addr} {d : D} {v : V} {c : Str} (h : clsOf cs d = some c) (r : RepT K pa Hs H d v) : TyX K H v (.ref (He.ga K c)) ∧ c ∈ cs := by
  cases d with
  | obj c' ns ds =>
    have h : (if c' ∈ cs then some c' else none) = some c := h
    by_cases hc : c' ∈ cs
    · rw [if_pos hc] at h
      cases h
      obtain ⟨a, dx, gs, rfl, h1, _⟩ := r
      exact ⟨.base (.ins h1 (kn.cl _ hc) (kn.ca _ hc) kn.oc kn.ot (kn.cm _ hc)), hc⟩
    · rw [if_neg hc] at h; cases h
  | _ => cases h
/-! ### isinstance -/
def isiB (T T' : String) : Bool := decide (T = T') || (decide (T = "bool") && decide (T' = "int"))
theorem kit_all : ∀ T ∈ tys, ∀ T' ∈ tys, kitB T T' = some (isiB T T') := by decide +kernel
def fIsi (cs : List Str) : List D → Option D
  | [a, .ty T'] => if T' ∈ tys then (match blt a with
    | some T => some (.bl (isiB T T'))
    | none => (clsOf cs a).map fun _ => .bl false) else none
  | [a, .cls c'] => if c' ∈ cs then (match blt a with
    | some _ => some (.bl false)
    | none => (clsOf cs a).map fun c => .bl (decide (c = c'))) else none
  | _ => none
theorem cs_isi (kn : Known K cs) : CallS K (rIsi K) (fIsi cs) := fun pa Hs H ds vs d Q hp rs e k => by
  unfold fIsi at e
  split at e
  · rename_i a T'
    obtain ⟨v, w, rfl, r1, r2⟩ := rs.two
    cases (show w = .ty T' from r2)
    by_cases hT : T' ∈ tys
    · rw [if_pos hT] at e
      cases e1 : blt a with
      | some T =>
        rw [e1] at e
        cases e
        exact ⟨v, _, _, _, _, rfl, .ty T', blt_ty e1 r1, kit_ty (kit_all T (blt_mem e1) T' hT), k _ Hs H (Gr.refl hp) rfl⟩
      | none =>
        rw [e1] at e
        cases e2 : clsOf cs a with
        | none => rw [e2] at e; cases e
        | some c =>
          rw [e2] at e
          cases e
          obtain ⟨t1, t2⟩ := cls_ty kn e2 r1
          exact ⟨v, _, _, _, _, rfl, .ty T', t1, kn.kt c t2 T' hT, k _ Hs H (Gr.refl hp) rfl⟩
    · rw [if_neg hT] at e; cases e
  · rename_i a c'
    obtain ⟨v, w, rfl, r1, r2⟩ := rs.two
    cases (show w = .ref (He.ga K c') from r2)
    by_cases hT : c' ∈ cs
    · rw [if_pos hT] at e
      cases e1 : blt a with
      | some T =>
        rw [e1] at e
        cases e
        exact ⟨v, _, _, _, _, rfl, .own _, blt_ty e1 r1, kn.kb c' hT T (blt_mem e1), k _ Hs H (Gr.refl hp) rfl⟩
      | none =>
        rw [e1] at e
        cases e2 : clsOf cs a with
        | none => rw [e2] at e; cases e
        | some c =>
          rw [e2] at e
          cases e
          obtain ⟨t1, t2⟩ := cls_ty kn e2 r1
          exact ⟨v, _, _, _, _, rfl, .own _, t1, kn.kk c t2 c' hT, k _ Hs H (Gr.refl hp) rfl⟩
    · rw [if_neg hT] at e; cases e
  · cases e
/-! ### own operators -/
/-- what is asked of the built-in types about an operator -/
def rightB (K : Frag) (c : Str) (nm : String) : Bool := tys.all fun T => ((PySem.W.findIn K (.type T) (PySem.dunder nm)).isSome && (PySem.W.findIn K (.type T) (dunderR nm)).isSome) && decide (PySem.W.subIn K (.type T) (.ref (He.ga K c)) = some false)
def okRight (c : Str) (d : D) : Bool := (blt d).isSome || (asObj c d).isSome
theorem right_of {c : Str} {nm : String} (h : rightB K c nm = true) {pa : Addr} {d : D} {v : V} (hd : okRight c d = true) (r : RepT K pa Hs H d v) : Z.RightOk K (He.ga K c) nm H v := by
  unfold okRight at hd
  cases e1 : blt d with
  | some T =>
    have z := List.all_eq_true.mp h T (blt_mem e1)
    simp only [Bool.and_eq_true, decide_eq_true_eq] at z
    obtain ⟨⟨z1, z2⟩, z3⟩ := z
    obtain ⟨fo, q1⟩ := Option.isSome_iff_exists.mp z1
    obtain ⟨ro, q2⟩ := Option.isSome_iff_exists.mp z2
    exact .inr ⟨T, fo, ro, blt_ty e1 r, q1, q2, z3⟩
  | none =>
    rw [e1] at hd
    cases e2 : asObj c d with
    | none => rw [e2] at hd; cases hd
    | some ns =>
      obtain ⟨a, dx, gs, rfl, h1, _⟩ := asObj_of e2 r
      exact .inl ⟨a, dx, gs, rfl, h1⟩
def mOwnL (c : Str) (F : Fn) (ma mb : ME) : ME := fun s => (ma s).bind fun p => (mb p.2).bind fun q => (ofO ((view q.2 p.1).bind (asObj c))).bind fun _ => (ofO (view q.2 q.1)).bind fun b => if okRight c b = true then callF F [p.1, q.1] q.2 else .stuck
theorem snd_ownL {c : Str} {nm : String} {F : Fn} {ta tb : TE} {ma mb : ME} (hr : rightB K c nm = true) (ha : SndE K E ta ma) (hb : SndE K E tb mb) : SndE K E (tOp (Z.rOwnL K (He.ga K c) nm (spM K 2 F) E) ta tb) (mOwnL c F ma mb) := fun W s σ H Hs Q hK x q => by
  refine ha W s σ H Hs _ hK x (Post.bind q fun xa s1 v H1 Hs1 _ g1 x1 o1 q1 => ?_)
  refine hb W s1 σ H1 Hs1 _ hK x1 (Post.bind q1 fun xb s2 w H2 Hs2 _ g2 x2 o2 q2 => ?_)
  obtain ⟨ns, e1, q3⟩ := q2.ofO
  obtain ⟨b, e2, q4⟩ := q3.ofO
  obtain ⟨hc, q5⟩ := Post.ite q4
  cases e3 : view s2 xa with
  | none => rw [e3] at e1; cases e1
  | some d =>
    rw [e3] at e1
    have r1 := ArgOk.t x2 (ArgOk.up g2 o1) e3
    have r2 := ArgOk.t x2 o2 e2
    rw [hK] at r1 r2
    obtain ⟨a, dx, gs, rfl, h1, _⟩ := asObj_of e1 r1
    exact ⟨a, dx, gs, rfl, h1, right_of hr hc r2, snd_callF hK x2 (.cons (ArgOk.up g2 o1) (.cons o2 .nil)) rfl q5⟩
def mOwnR (c : Str) (F : Fn) (ma mb : ME) : ME := fun s => (ma s).bind fun p => (mb p.2).bind fun q => (ofO ((view q.2 p.1).bind asI)).bind fun _ => (ofO ((view q.2 q.1).bind (asObj c))).bind fun _ => callF F [q.1, p.1] q.2
theorem snd_ownR {c : Str} {F : Fn} {ta tb : TE} {ma mb : ME} (ha : SndE K E ta ma) (hb : SndE K E tb mb) : SndE K E (tOp (Z.rOwnR (He.ga K c) (spM K 2 F) E) ta tb) (mOwnR c F ma mb) := fun W s σ H Hs Q hK x q => by
  refine ha W s σ H Hs _ hK x (Post.bind q fun xa s1 v H1 Hs1 _ g1 x1 o1 q1 => ?_)
  refine hb W s1 σ H1 Hs1 _ hK x1 (Post.bind q1 fun xb s2 w H2 Hs2 _ g2 x2 o2 q2 => ?_)
  obtain ⟨i, e1, q3⟩ := q2.ofO
  obtain ⟨ns, e2, q4⟩ := q3.ofO
  cases e3 : view s2 xa with
  | none => rw [e3] at e1; cases e1
  | some d =>
    rw [e3] at e1
    cases asI_eq e1
    cases e4 : view s2 xb with
    | none => rw [e4] at e2; cases e2
    | some d2 =>
      rw [e4] at e2
      have r1 := ArgOk.t x2 (ArgOk.up g2 o1) e3
      have r2 := ArgOk.t x2 o2 e4
      rw [hK] at r2
      obtain ⟨a, dx, gs, rfl, h1, _⟩ := asObj_of e2 r2
      exact ⟨i, a, dx, gs, r1, rfl, h1, snd_callF hK x2 (.cons o2 (.cons (ArgOk.up g2 o1) .nil)) rfl q4⟩
def mOwn1 (c : Str) (F : Fn) (ma : ME) : ME := fun s => (ma s).bind fun p => (ofO ((view p.2 p.1).bind (asObj c))).bind fun _ => callF F [p.1] p.2
theorem snd_own1 {c : Str} {F : Fn} {ta : TE} {ma : ME} (ha : SndE K E ta ma) : SndE K E (tUn (Z.rNeg (He.ga K c) (spM K 1 F) E) ta) (mOwn1 c F ma) := fun W s σ H Hs Q hK x q => by
  refine ha W s σ H Hs _ hK x (Post.bind q fun xa s1 v H1 Hs1 _ g1 x1 o1 q1 => ?_)
  obtain ⟨ns, e1, q2⟩ := q1.ofO
  cases e3 : view s1 xa with
  | none => rw [e3] at e1; cases e1
  | some d =>
    rw [e3] at e1
    have r1 := ArgOk.t x1 o1 e3
    rw [hK] at r1
    obtain ⟨a, dx, gs, rfl, h1, _⟩ := asObj_of e1 r1
    exact ⟨a, dx, gs, rfl, h1, snd_callF hK x1 (.cons o1 .nil) rfl q2⟩
/-- str(o), repr(o) -/
def onlyStr (r : R (Arg × S)) : R (Arg × S) := match r with
  | .ok (.val (.str y), s) => .ok (.val (.str y), s)
  | .ex e s => .ex e s
  | _ => .stuck
theorem post_str {Q : VK} {r : R (Arg × S)} (h : Post W E Hs σ (okE W σ) Q (onlyStr r)) : Post W E Hs σ (okE W σ) (fun z H' => ∃ y, z = .str y ∧ Q z H') r := by
  cases r with
  | stuck => exact h
  | ex e s => exact h
  | ok p =>
    obtain ⟨xa, s'⟩ := p
    cases xa with
    | bor i => exact h.elim
    | val d =>
      cases d with
      | str y =>
        intro v H' Hs' g x r
        exact ⟨y, r, h v H' Hs' g x r⟩
      | _ => exact h.elim
def mStrO (c : Str) (F : Fn) (m : MA) : ME := fun s => (m s).bind fun p => match p.1 with
  | [x] => (ofO ((view p.2 x).bind (asObj c))).bind fun _ => onlyStr (callF F [x] p.2)
  | _ => .stuck
theorem snd_strO {c : Str} {F : Fn} {t : TA} {m : MA} (h : SndA K E t m) : SndE K E (tCB (Z.rStrO (He.ga K c) (spM K 1 F) E) t) (mStrO c F m) := fun W s σ H Hs Q hK x q => by
  refine h W s σ H Hs _ hK x (Post.bind q fun xs s1 vs H1 Hs1 _ g1 x1 o1 q1 => ?_)
  cases o1 with
  | nil => exact q1.elim
  | @cons xa v xs vs o1 o2 =>
    cases o2 with
    | cons => exact q1.elim
    | nil =>
      obtain ⟨ns, e1, q2⟩ := Post.ofO q1
      cases e3 : view s1 xa with
      | none => rw [e3] at e1; cases e1
      | some d =>
        rw [e3] at e1
        have r1 := ArgOk.t x1 o1 e3
        rw [hK] at r1
        obtain ⟨a, dx, gs, rfl, h1, _⟩ := asObj_of e1 r1
        exact ⟨a, dx, gs, rfl, h1, snd_callF hK x1 (.cons o1 .nil) rfl (post_str q2)⟩
/-! ### == and != by the class's own -/
def okLeft (d : D) : Bool := (blt d).isSome
def mEqO (cs : List Str) (c : Str) (F : Fn) (ma mb : ME) : ME := fun s => (ma s).bind fun p => (mb p.2).bind fun q => (ofO (view q.2 p.1)).bind fun a => (ofO (view q.2 q.1)).bind fun b =>
  if (asObj c a).isSome = true then (if ((blt b).isSome || (clsOf cs b).isSome) = true then callF F [p.1, q.1] q.2 else .stuck) else if (asObj c b).isSome = true ∧ okLeft a = true then callF F [q.1, p.1] q.2 else .stuck
theorem eqo_left (kn : Known K cs) {c : Str} (hc : c ∈ cs) {pa : Addr} {b : D} {w : V} (h : ((blt b).isSome || (clsOf cs b).isSome) = true) (r : RepT K pa Hs H b w) : ∃ t, TyX K H w t ∧ PySem.W.notFirst K (He.ga K c) t = true := by
  cases e1 : blt b with
  | some T => exact ⟨_, blt_ty e1 r, Z.nf_blt (blt_mem e1)⟩
  | none =>
    rw [e1] at h
    cases e2 : clsOf cs b with
    | none => rw [e2] at h; cases h
    | some c' =>
      obtain ⟨t1, t2⟩ := cls_ty kn e2 r
      exact ⟨_, t1, kn.nf c hc c' t2⟩
theorem snd_eqO {c : Str} {F : Fn} {ta tb : TE} {ma mb : ME} (kn : Known K cs) (hc : c ∈ cs) (ha : SndE K E ta ma) (hb : SndE K E tb mb) : SndE K E (tOp (Z.rEqO K (He.ga K c) (spM K 2 F) E) ta tb) (mEqO cs c F ma mb) := fun W s σ H Hs Q hK x q => by
  refine ha W s σ H Hs _ hK x (Post.bind q fun xa s1 v H1 Hs1 _ g1 x1 o1 q1 => ?_)
  refine hb W s1 σ H1 Hs1 _ hK x1 (Post.bind q1 fun xb s2 w H2 Hs2 _ g2 x2 o2 q2 => ?_)
  obtain ⟨a, ea, q3⟩ := q2.ofO
  obtain ⟨b, eb, q4⟩ := q3.ofO
  have o1 := ArgOk.up g2 o1
  have r1 := ArgOk.t x2 o1 ea
  have r2 := ArgOk.t x2 o2 eb
  rw [hK] at r1 r2
  by_cases h1 : (asObj c a).isSome = true
  · rw [if_pos h1] at q4
    obtain ⟨h2, q5⟩ := Post.ite q4
    obtain ⟨ns, e1⟩ := Option.isSome_iff_exists.mp h1
    obtain ⟨l, dx, gs, rfl, h3, _⟩ := asObj_of e1 r1
    obtain ⟨t, t1, t2⟩ := eqo_left kn hc h2 r2
    exact .inl ⟨l, dx, gs, t, rfl, h3, t1, t2, snd_callF hK x2 (.cons o1 (.cons o2 .nil)) rfl q5⟩
  · rw [if_neg h1] at q4
    obtain ⟨⟨h2, h3⟩, q5⟩ := Post.ite q4
    obtain ⟨ns, e1⟩ := Option.isSome_iff_exists.mp h2
    obtain ⟨l, dx, gs, rfl, h4, _⟩ := asObj_of e1 r2
    unfold okLeft at h3
    cases e2 : blt a with
    | none => rw [e2] at h3; cases h3
    | some T =>
      rw [e2] at h3
      exact .inr ⟨l, dx, gs, T, rfl, h4, blt_of e2 r1, blt_mem e2, snd_callF hK x2 (.cons o2 (.cons o1 .nil)) rfl q5⟩
/-- the same with two classes that have an == of their own -/
def mEqO2 (cs : List Str) (c c2 : Str) (F F2 : Fn) (ma mb : ME) : ME := fun s => (ma s).bind fun p => (mb p.2).bind fun q => (ofO (view q.2 p.1)).bind fun a => (ofO (view q.2 q.1)).bind fun b =>
  if (asObj c a).isSome = true then (if ((blt b).isSome || (clsOf cs b).isSome) = true then callF F [p.1, q.1] q.2 else .stuck) else if (asObj c2 a).isSome = true then (if ((blt b).isSome || (clsOf cs b).isSome) = true then callF F2 [p.1, q.1] q.2 else .stuck) else
  if (asObj c b).isSome = true ∧ okLeft a = true then callF F [q.1, p.1] q.2 else if (asObj c2 b).isSome = true ∧ okLeft a = true then callF F2 [q.1, p.1] q.2 else .stuck
theorem snd_eqO2 {c c2 : Str} {F F2 : Fn} {ta tb : TE} {ma mb : ME} (kn : Known K cs) (hc : c ∈ cs) (hc2 : c2 ∈ cs) (ha : SndE K E ta ma) (hb : SndE K E tb mb) : SndE K E (tOp (fun x y H Q => Z.rEqO K (He.ga K c) (spM K 2 F) E x y H Q ∨ Z.rEqO K (He.ga K c2) (spM K 2 F2) E x y H Q) ta tb) (mEqO2 cs c c2 F F2 ma mb) := fun W s σ H Hs Q hK x q => by
  refine ha W s σ H Hs _ hK x (Post.bind q fun xa s1 v H1 Hs1 _ g1 x1 o1 q1 => ?_)
  refine hb W s1 σ H1 Hs1 _ hK x1 (Post.bind q1 fun xb s2 w H2 Hs2 _ g2 x2 o2 q2 => ?_)
  obtain ⟨a, ea, q3⟩ := q2.ofO
  obtain ⟨b, eb, q4⟩ := q3.ofO
  have o1 := ArgOk.up g2 o1
  have r1 := ArgOk.t x2 o1 ea
  have r2 := ArgOk.t x2 o2 eb
  rw [hK] at r1 r2
  have left : ∀ {c : Str} {F : Fn}, c ∈ cs → (asObj c a).isSome = true → Post W E Hs2 σ (okE W σ) Q (if ((blt b).isSome || (clsOf cs b).isSome) = true then callF F [xa, xb] s2 else .stuck) → Z.rEqO K (He.ga K c) (spM K 2 F) E v w H2 Q := fun {c F} hc h1 q4 => by
    obtain ⟨h2, q5⟩ := Post.ite q4
    obtain ⟨ns, e1⟩ := Option.isSome_iff_exists.mp h1
    obtain ⟨l, dx, gs, rfl, h3, _⟩ := asObj_of e1 r1
    obtain ⟨t, t1, t2⟩ := eqo_left kn hc h2 r2
    exact .inl ⟨l, dx, gs, t, rfl, h3, t1, t2, snd_callF hK x2 (.cons o1 (.cons o2 .nil)) rfl q5⟩
  have right : ∀ {c : Str} {F : Fn}, (asObj c b).isSome = true → okLeft a = true → Post W E Hs2 σ (okE W σ) Q (callF F [xb, xa] s2) → Z.rEqO K (He.ga K c) (spM K 2 F) E v w H2 Q := fun {c F} h2 h3 q5 => by
    obtain ⟨ns, e1⟩ := Option.isSome_iff_exists.mp h2
    obtain ⟨l, dx, gs, rfl, h4, _⟩ := asObj_of e1 r2
    unfold okLeft at h3
    cases e2 : blt a with
    | none => rw [e2] at h3; cases h3
    | some T => exact .inr ⟨l, dx, gs, T, rfl, h4, blt_of e2 r1, blt_mem e2, snd_callF hK x2 (.cons o2 (.cons o1 .nil)) rfl q5⟩
  by_cases h1 : (asObj c a).isSome = true
  · rw [if_pos h1] at q4
    exact .inl (left hc h1 q4)
  · rw [if_neg h1] at q4
    by_cases h2 : (asObj c2 a).isSome = true
    · rw [if_pos h2] at q4
      exact .inr (left hc2 h2 q4)
    · rw [if_neg h2] at q4
      by_cases h3 : (asObj c b).isSome = true ∧ okLeft a = true
      · rw [if_pos h3] at q4
        exact .inl (right h3.1 h3.2 q4)
      · rw [if_neg h3] at q4
        obtain ⟨h4, q5⟩ := Post.ite q4
        exact .inr (right h4.1 h4.2 q5)
def onlyNot (r : R (Arg × S)) : R (Arg × S) := match r with
  | .ok (.val (.bl y), s) => .ok (.val (.bl (!y)), s)
  | .ex e s => .ex e s
  | _ => .stuck
theorem post_not {Q : VK} {r : R (Arg × S)} (h : Post W E Hs σ (okE W σ) Q (onlyNot r)) : Post W E Hs σ (okE W σ) (fun z H' => ∃ b, z = .bl b ∧ Q (.bl (!b)) H') r := by
  cases r with
  | stuck => exact h
  | ex e s => exact h
  | ok p =>
    obtain ⟨xa, s'⟩ := p
    cases xa with
    | bor i => exact h.elim
    | val d =>
      cases d with
      | bl y =>
        intro v H' Hs' g x r
        exact ⟨y, r, h _ H' Hs' g x rfl⟩
      | _ => exact h.elim
def mNeO (cs : List Str) (c : Str) (F : Fn) (ma mb : ME) : ME := fun s => (ma s).bind fun p => (mb p.2).bind fun q => (ofO (view q.2 p.1)).bind fun a => (ofO (view q.2 q.1)).bind fun b =>
  if (asObj c a).isSome = true ∧ ((blt b).isSome || (clsOf cs b).isSome) = true then onlyNot (callF F [p.1, q.1] q.2) else .stuck
theorem snd_neO {c : Str} {F : Fn} {ta tb : TE} {ma mb : ME} (kn : Known K cs) (hc : c ∈ cs) (ha : SndE K E ta ma) (hb : SndE K E tb mb) : SndE K E (tOp (Z.rNeO K (He.ga K c) (spM K 2 F) E) ta tb) (mNeO cs c F ma mb) := fun W s σ H Hs Q hK x q => by
  refine ha W s σ H Hs _ hK x (Post.bind q fun xa s1 v H1 Hs1 _ g1 x1 o1 q1 => ?_)
  refine hb W s1 σ H1 Hs1 _ hK x1 (Post.bind q1 fun xb s2 w H2 Hs2 _ g2 x2 o2 q2 => ?_)
  obtain ⟨a, ea, q3⟩ := q2.ofO
  obtain ⟨b, eb, q4⟩ := q3.ofO
  have o1 := ArgOk.up g2 o1
  have r1 := ArgOk.t x2 o1 ea
  have r2 := ArgOk.t x2 o2 eb
  rw [hK] at r1 r2
  obtain ⟨⟨h1, h2⟩, q5⟩ := Post.ite q4
  obtain ⟨ns, e1⟩ := Option.isSome_iff_exists.mp h1
  obtain ⟨l, dx, gs, rfl, h3, _⟩ := asObj_of e1 r1
  obtain ⟨t, t1, t2⟩ := eqo_left kn hc h2 r2
  exact ⟨l, dx, gs, t, rfl, h3, t1, t2, snd_callF hK x2 (.cons o1 (.cons o2 .nil)) rfl (post_not q5)⟩
/-! ### class methods, stars, defaults, keywords -/
def mCMeth (c : Str) (n : Nat) (F : Fn) (m : MA) : ME := fun s => (m s).bind fun p => if p.1.length + 1 = n then callF F (.val (.cls c) :: p.1) p.2 else .stuck
theorem snd_cmeth {c : Str} {n : Nat} {F : Fn} {t : TA} {m : MA} (h : SndA K E t m) : SndE K E (ClX.tCMeth (He.ga K c) (spM K n F) E (tC (.ref (He.ga K c))) t) (mCMeth c n F m) := fun W s σ H Hs Q hK x q => by
  refine ⟨rfl, h W s σ H Hs _ hK x (Post.bind q fun xs s1 vs H1 Hs1 _ g1 x1 o1 q1 => ?_)⟩
  obtain ⟨hl, q2⟩ := Post.ite q1
  exact snd_callF hK x1 (.cons (by rw [← hK]; exact rfl) o1) (by simp [← o1.len]; exact hl) q2
def asSeq : D → Option (List D)
  | .lst ds => some ds
  | .tup ds => some ds
  | _ => none
def mStar (m : ME) (n : MA) : MA := fun s => (m s).bind fun p => (ofO ((view p.2 p.1).bind asSeq)).bind fun ds => (n p.2).bind fun q => .ok (ds.map Arg.val ++ q.1, q.2)
theorem ArgsOk.app {xs ys : List Arg} {vs ws : List V} (h : ArgsOk W Hs σ xs vs) (k : ArgsOk W Hs σ ys ws) : ArgsOk W Hs σ (xs ++ ys) (vs ++ ws) := by
  induction h with
  | nil => exact k
  | cons h _ ih => exact .cons h ih
theorem ArgsOk.of_vals : ∀ {ds : List D} {vs : List V}, RepL W.K W.pa Hs ds vs → ArgsOk W Hs σ (ds.map Arg.val) vs
  | [], vs, h => by cases (show vs = [] from h); exact .nil
  | d :: ds, vs, h => by
    obtain ⟨v, us, rfl, h1, h2⟩ := h
    exact .cons h1 (ArgsOk.of_vals h2)
theorem snd_star {t : TE} {u : TA} {m : ME} {n : MA} (h : SndE K E t m) (k : SndA K E u n) : SndA K E (StX.tStar K t u) (mStar m n) := fun W s σ H Hs Q hK x q => by
  refine h W s σ H Hs _ hK x (Post.bind q fun xa s1 v H1 Hs1 _ g1 x1 o1 q1 => ?_)
  obtain ⟨ds, e1, q2⟩ := q1.ofO
  cases e2 : view s1 xa with
  | none => rw [e2] at e1; cases e1
  | some d =>
    rw [e2] at e1
    have r := ArgOk.t x1 o1 e2
    have go : ∀ {a : Addr} {vs : List V}, v = .ref a → (SqT K H1 a vs ∨ SqL K H1 a vs) → RepL W.K W.pa Hs1 ds vs → ∃ p xs, v = V.ref p ∧ (SqT K H1 p xs ∨ SqL K H1 p xs) ∧ u σ H1 fun ys H2 => Q (xs ++ ys) H2 := fun {a vs} ev hs rl => by
      refine ⟨a, vs, ev, hs, ?_⟩
      refine k W s1 σ H1 Hs1 _ hK x1 (Post.bind q2 fun xs s2 ws H2 Hs2 _ g2 x2 o2 q3 => ?_)
      exact q3 _ H2 Hs2 (Same.rfl' _) x2 ((ArgsOk.of_vals (rl.up g2)).app o2)
    cases d with
    | lst es => cases e1; obtain ⟨a, vs, ev, h1, h2⟩ := r; exact go ev (.inr (SqL.of h1)) h2
    | tup es => cases e1; obtain ⟨a, vs, ev, h1, h2⟩ := r; exact go ev (.inl (SqT.of h1)) h2
    | _ => cases e1
/-- def f(a, .., *v) -/
def allSh : List Slot → Option (List D)
  | [] => some []
  | .sh d :: xs => (allSh xs).map (d :: ·)
  | _ => none
def starF (n : Nat) (F : Fn) : Fn := fun args p => match allSh (args.drop n) with
  | some ds => if n ≤ args.length ∧ ds.length ≤ 100000 then (match F (args.take n ++ [.sh (.tup ds)]) p with
    | .ok d outs p' => if outs.length = n + 1 then .ok d (outs.take n ++ List.replicate (args.length - n) .no) p' else .stuck
    | .ex e outs p' => if outs.length = n + 1 then .ex e (outs.take n ++ List.replicate (args.length - n) .no) p' else .stuck
    | .stuck => .stuck) else .stuck
  | none => .stuck
theorem allSh_get : ∀ {xs : List Slot} {ds : List D}, allSh xs = some ds → xs = ds.map Slot.sh
  | [], ds, e => by cases e; rfl
  | x :: xs, ds, e => by
    cases x with
    | sh d =>
      have e : (allSh xs).map (d :: ·) = some ds := e
      cases e2 : allSh xs with
      | none => rw [e2] at e; cases e
      | some es => rw [e2] at e; cases e; rw [allSh_get e2]; rfl
    | _ => cases e
theorem star_ok {n m : Nat} {F : Fn} {vs : List V} {Q : VK} {ps : List Str} (hn : ps.length = n) (h : spM K m (starF n F) vs H Q E) : ∃ ws rest, vs = ws ++ rest ∧ ws.length = ps.length ∧ rest.length ≤ sizeLine ∧ ∀ p, H p = Option.none → spM K (n + 1) F (ws ++ [V.ref p]) (upd H p (.tup rest)) Q E := by
  obtain ⟨W, Hs, args, pt, hK, hl, x, q⟩ := h
  have la : args.length = vs.length := by have := x.len; simpa using this
  unfold starF at q
  cases e : allSh (args.drop n) with
  | none => rw [e] at q; exact q.elim
  | some ds =>
    rw [e] at q
    dsimp only at q
    by_cases hc : n ≤ args.length ∧ ds.length ≤ 100000
    · rw [if_pos hc] at q
      have es := allSh_get e
      have ld : ds.length = args.length - n := by
        have := congrArg List.length es
        simp at this
        omega
      refine ⟨vs.take n, vs.drop n, (List.take_append_drop n vs).symm, by simp; omega, Evl.sz_of (by simp; omega), fun p hp => ?_⟩
      have rl : RepL W.K W.pa Hs ds (vs.drop n) := by
        have gen : ∀ (ds : List D) (us : List V), ds.length = us.length → (∀ (i : Nat) d, ds[i]? = some d → ∃ u, us[i]? = some u ∧ Rep W.K W.pa Hs d u) → RepL W.K W.pa Hs ds us := by
          intro ds
          induction ds with
          | nil => intro us hl _; cases us with
            | nil => exact rfl
            | cons => simp at hl
          | cons d ds ih => intro us hl hh; cases us with
            | nil => simp at hl
            | cons u us =>
              obtain ⟨u', e1, r⟩ := hh 0 d rfl
              simp at e1
              subst e1
              exact ⟨u, us, rfl, r, ih us (by simpa using hl) fun i d' e' => by have := hh (i + 1) d' (by simpa using e'); simpa using this⟩
        refine gen ds _ (by simp; omega) fun i d ed => ?_
        have ei : args[n + i]? = some (.sh d) := by
          have : (args.drop n)[i]? = some (.sh d) := by rw [es]; simp [ed]
          simpa using this
        obtain ⟨u, h1, h2⟩ := x.slot _ _ ei
        refine ⟨u, ?_, h2⟩
        have : (vs.map some)[n + i]? = some (some u) := h1
        simp at this
        simpa using this
      have g := gr_new (o := .tup (vs.drop n)) x.pool hp
      have x2 := x.grow g
      have rt : Rep W.K W.pa (upd Hs p (.tup (vs.drop n))) (.tup ds) (.ref p) := ⟨p, _, rfl, upd_same, rl.up g.s⟩
      have lt : (args.take n).length = n := by simp; omega
      have lv : (vs.take n).length = n := by simp; omega
      have key : ∀ (i : Nat) y, (args.take n ++ [Slot.sh (.tup ds)])[i]? = some y → (i < n ∧ args[i]? = some y) ∨ (i = n ∧ y = .sh (.tup ds)) := fun i y ey => by
        by_cases hi : i < n
        · rw [List.getElem?_append_left (by omega), List.getElem?_take, if_pos hi] at ey
          exact .inl ⟨hi, ey⟩
        · rw [List.getElem?_append_right (by omega), lt] at ey
          have h0 : i - n = 0 := by
            have := (List.getElem?_eq_some_iff.mp ey).1
            simp at this
            omega
          rw [h0] at ey
          simp at ey
          exact .inr ⟨by omega, ey.symm⟩
      have sv : ∀ i, i < n → ((vs.take n ++ [V.ref p]).map some)[i]? = (vs.map some)[i]? := fun i hi => by
        rw [List.map_append, List.getElem?_append_left (by simp; omega), List.map_take, List.getElem?_take, if_pos hi]
      have sn : ((vs.take n ++ [V.ref p]).map some)[n]? = some (some (.ref p)) := by
        rw [List.map_append, List.getElem?_append_right (by simp; omega)]
        rw [List.length_map, lv, Nat.sub_self]
        rfl
      refine ⟨W, _, args.take n ++ [.sh (.tup ds)], pt, hK, by simp; omega, ⟨by simp; omega, x2.pool, x2.fr, x2.pt, fun i y ey => ?_, fun i j l mm d1 d2 a e1 e2 hij s1 => ?_⟩, ?_⟩
      · rcases key i y ey with ⟨hi, h1⟩ | ⟨rfl, rfl⟩
        · rw [sv i hi]; exact x2.slot i y h1
        · rw [sn]; exact ⟨_, rfl, rt⟩
      · rcases key i _ e1 with ⟨hi, h1⟩ | ⟨_, z⟩
        · rcases key j _ e2 with ⟨hj, h2⟩ | ⟨_, z⟩
          · rw [sv i hi] at s1
            rw [sv j hj]
            exact x2.apart i j l mm d1 d2 a h1 h2 hij s1
          · cases z
        · cases z
      · -- back
        have back : ∀ {outs : List Slot} {p' : Int × Int} {Hs' H' : Hp}, outs.length = n + 1 → SS W Hs' ⟨outs, p'⟩ ((vs.take n ++ [V.ref p]).map some) H' → SS W Hs' ⟨outs.take n ++ List.replicate (args.length - n) .no, p'⟩ (vs.map some) H' := fun {outs p' Hs' H'} lo y => by
          have lo2 : (outs.take n).length = n := by simp; omega
          have key2 : ∀ (i : Nat) z, (outs.take n ++ List.replicate (args.length - n) Slot.no)[i]? = some z → (i < n ∧ outs[i]? = some z) ∨ z = .no := fun i z ez => by
            by_cases hi : i < n
            · rw [List.getElem?_append_left (by omega), List.getElem?_take, if_pos hi] at ez
              exact .inl ⟨hi, ez⟩
            · rw [List.getElem?_append_right (by omega)] at ez
              have := List.mem_of_getElem? ez
              simp at this
              exact .inr this.2
          refine ⟨by simp; omega, y.pool, y.fr, y.pt, fun i z ez => ?_, fun i j l mm d1 d2 a e1 e2 hij s1 => ?_⟩
          · rcases key2 i z ez with ⟨hi, h1⟩ | rfl
            · have w := y.slot i z h1
              rw [sv i hi] at w
              exact w
            · trivial
          · rcases key2 i _ e1 with ⟨hi, h1⟩ | z
            · rcases key2 j _ e2 with ⟨hj, h2⟩ | z
              · rw [← sv i hi] at s1
                rw [← sv j hj]
                exact y.apart i j l mm d1 d2 a h1 h2 hij s1
              · cases z
            · cases z
        cases eF : F (args.take n ++ [.sh (.tup ds)]) pt with
        | stuck => rw [eF] at q; exact q
        | ok d outs p' =>
          rw [eF] at q
          dsimp only at q
          by_cases ho : outs.length = n + 1
          · rw [if_pos ho] at q
            exact fun v H' Hs' g' y r => q v H' Hs' (Same.trans' g.s g') (back ho y) r
          · rw [if_neg ho] at q; exact q.elim
        | ex e' outs p' =>
          rw [eF] at q
          dsimp only at q
          by_cases ho : outs.length = n + 1
          · rw [if_pos ho] at q
            exact fun H' Hs' cls dd g' y r => q H' Hs' cls dd (Same.trans' g.s g') (back ho y) r
          · rw [if_neg ho] at q; exact q.elim
    · rw [if_neg hc] at q; exact q.elim
/-- a default that is a whole number -/
def dfltF (i : Int) (F : Fn) : Fn := fun args p => match F (args ++ [.sh (.int i)]) p with
  | .ok d outs p' => if outs.length = args.length + 1 then .ok d (outs.take args.length) p' else .stuck
  | .ex e outs p' => if outs.length = args.length + 1 then .ex e (outs.take args.length) p' else .stuck
  | .stuck => .stuck
theorem dflt_ok {m : Nat} {F : Fn} {vs : List V} {Q : VK} {i : Int} (h : spM K m (dfltF i F) vs H Q E) : spM K (m + 1) F (vs ++ [.int i]) H Q E := by
  obtain ⟨W, Hs, args, pt, hK, hl, x, q⟩ := h
  have la : args.length = vs.length := by have := x.len; simpa using this
  have key : ∀ (k : Nat) y, (args ++ [Slot.sh (.int i)])[k]? = some y → (k < args.length ∧ args[k]? = some y) ∨ (k = args.length ∧ y = .sh (.int i)) := fun k y ey => by
    by_cases hi : k < args.length
    · rw [List.getElem?_append_left hi] at ey
      exact .inl ⟨hi, ey⟩
    · rw [List.getElem?_append_right (by omega)] at ey
      have h0 : k - args.length = 0 := by
        have := (List.getElem?_eq_some_iff.mp ey).1
        simp at this
        omega
      rw [h0] at ey
      simp at ey
      exact .inr ⟨by omega, ey.symm⟩
  have sv : ∀ k, k < args.length → ((vs ++ [V.int i]).map some)[k]? = (vs.map some)[k]? := fun k hk => by
    rw [List.map_append, List.getElem?_append_left (by simp; omega)]
  refine ⟨W, Hs, args ++ [.sh (.int i)], pt, hK, by simp [hl], ⟨by simp [la], x.pool, x.fr, x.pt, fun k y ey => ?_, fun k j l mm d1 d2 a e1 e2 hij s1 => ?_⟩, ?_⟩
  · rcases key k y ey with ⟨hi, h1⟩ | ⟨rfl, rfl⟩
    · rw [sv k hi]; exact x.slot k y h1
    · refine ⟨.int i, ?_, rfl⟩
      rw [List.map_append, la]
      simp
  · rcases key k _ e1 with ⟨hi, h1⟩ | ⟨_, z⟩
    · rcases key j _ e2 with ⟨hj, h2⟩ | ⟨_, z⟩
      · rw [sv k hi] at s1
        rw [sv j hj]
        exact x.apart k j l mm d1 d2 a h1 h2 hij s1
      · cases z
    · cases z
  · have back : ∀ {outs : List Slot} {p' : Int × Int} {Hs' H' : Hp}, outs.length = args.length + 1 → SS W Hs' ⟨outs, p'⟩ ((vs ++ [V.int i]).map some) H' → SS W Hs' ⟨outs.take args.length, p'⟩ (vs.map some) H' := fun {outs p' Hs' H'} lo y => by
      have := ss_take args.length y
      rw [List.map_append, List.take_left' (by simp; omega)] at this
      exact this
    unfold dfltF at q
    cases eF : F (args ++ [.sh (.int i)]) pt with
    | stuck => rw [eF] at q; exact q
    | ok d outs p' =>
      rw [eF] at q
      dsimp only at q
      by_cases ho : outs.length = args.length + 1
      · rw [if_pos ho] at q
        exact fun v H' Hs' g' y r => q v H' Hs' g' (back ho y) r
      · rw [if_neg ho] at q; exact q.elim
    | ex e' outs p' =>
      rw [eF] at q
      dsimp only at q
      by_cases ho : outs.length = args.length + 1
      · rw [if_pos ho] at q
        exact fun H' Hs' cls dd g' y r => q H' Hs' cls dd g' (back ho y) r
      · rw [if_neg ho] at q; exact q.elim
/-- keywords: the places of the parameters among what is told -/
def perm (is : List Nat) (xs : List Arg) : List Arg := is.map fun i => xs.getD i (.val .non)
theorem ArgsOk.perm {xs : List Arg} {vs : List V} (h : ArgsOk W Hs σ xs vs) : ∀ {is : List Nat}, (∀ i ∈ is, i < xs.length) → ArgsOk W Hs σ (Mi.perm is xs) (is.map fun i => vs.getD i .non)
  | [], _ => .nil
  | i :: is, hi => by
    have h0 : i < xs.length := hi i (by simp)
    have e : xs[i]? = some xs[i] := List.getElem?_eq_getElem h0
    obtain ⟨v, h1, h2⟩ := h.get e
    have e1 : xs.getD i (.val .non) = xs[i] := by rw [List.getD_eq_getElem?_getD, e]; rfl
    have e2 : vs.getD i .non = v := by rw [List.getD_eq_getElem?_getD, h1]; rfl
    show ArgsOk W Hs σ (xs.getD i (.val .non) :: Mi.perm is xs) (vs.getD i .non :: is.map fun i => vs.getD i .non)
    rw [e1, e2]
    exact .cons h2 (h.perm fun j hj => hi j (by simp [hj]))
def mMethK (c mn : Str) (is : List Nat) (n : Nat) (F : Fn) (mo : ME) (m : MA) : ME := fun s => (mo s).bind fun o => (ofO ((view o.2 o.1).bind (asObj c))).bind fun ns => if mn ∉ ns then (m o.2).bind fun p => if p.1.length = is.length ∧ is.length + 1 = n ∧ (is.all fun i => decide (i < p.1.length)) = true then callF F (o.1 :: perm is p.1) p.2 else .stuck else .stuck
theorem snd_methK {c mn : Str} {is : List Nat} {ks : List Str} {n : Nat} {F : Fn} {to : TE} {t : TA} {mo : ME} {m : MA} (hk : ks.length = is.length) (ho : SndE K E to mo) (h : SndA K E t m) : SndE K E (Z.tMethK (He.ga K c) mn ks (fun vs zs H Q E => spM K n F (vs ++ is.map fun i => zs.getD i .non) H Q E) E to t) (mMethK c mn is n F mo m) := fun W s σ H Hs Q hK x q => by
  refine ho W s σ H Hs _ hK x (Post.bind q fun xo s1 v H1 Hs1 _ g1 x1 o1 q1 => ?_)
  obtain ⟨ns, e1, q2⟩ := Post.ofO q1
  obtain ⟨hm, q3⟩ := Post.ite q2
  cases e2 : view s1 xo with
  | none => rw [e2] at e1; cases e1
  | some d =>
    rw [e2] at e1
    have r := ArgOk.t x1 o1 e2
    rw [hK] at r
    obtain ⟨a, dx, gs, rfl, h1, h2⟩ := asObj_of e1 r
    refine ⟨a, dx, gs, rfl, h1, lookup_none (by rw [h2]; exact hm), ?_⟩
    refine h W s1 σ H1 Hs1 _ hK x1 (Post.bind q3 fun xs s2 vs H2 Hs2 _ g2 x2 o2 q4 => ?_)
    obtain ⟨⟨l1, l2, l3⟩, q5⟩ := Post.ite q4
    refine ⟨by rw [← o2.len, hk]; exact l1, ?_⟩
    exact snd_callF (xs := xo :: perm is xs) hK x2 (.cons (ArgOk.up g2 o1) (o2.perm fun i hi => of_decide_eq_true (List.all_eq_true.mp l3 i hi))) (by simp; exact l2) q5
def mCallK (is : List Nat) (n : Nat) (F : Fn) (m : MA) : ME := fun s => (m s).bind fun p => if p.1.length = is.length ∧ is.length = n ∧ (is.all fun i => decide (i < p.1.length)) = true then callF F (perm is p.1) p.2 else .stuck
theorem snd_callK {is : List Nat} {ks : List Str} {n : Nat} {F : Fn} {t : TA} {m : MA} (hk : ks.length = is.length) (h : SndA K E t m) : SndE K E (Z.tClK ks (fun vs zs H Q E => spM K n F (vs ++ is.map fun i => zs.getD i .non) H Q E) E t) (mCallK is n F m) := fun W s σ H Hs Q hK x q => by
  refine h W s σ H Hs _ hK x (Post.bind q fun xs s2 vs H2 Hs2 _ g2 x2 o2 q4 => ?_)
  obtain ⟨⟨l1, l2, l3⟩, q5⟩ := Post.ite q4
  refine ⟨by rw [← o2.len, hk]; exact l1, ?_⟩
  exact snd_callF (xs := perm is xs) hK x2 (o2.perm fun i hi => of_decide_eq_true (List.all_eq_true.mp l3 i hi)) (by simp; exact l2) q5
end
end Mi

namespace Mi
open PySem PySem.Spec PyProof.Rows L2
open PySem.W (Frag)
abbrev fMax2 : D → D → Option D := fI fun i j => .int (if j > i then j else i)
abbrev fMin2 : D → D → Option D := fI fun i j => .int (if j < i then j else i)
/-! ### trees that hold nothing but data and objects of known classes -/
mutual
def plain (cs : List Str) : D → Bool
  | .non => true
  | .bl _ => true
  | .int _ => true
  | .str _ => true
  | .lst ds => plains cs ds
  | .tup ds => plains cs ds
  | .obj c _ ds => decide (c ∈ cs) && plains cs ds
  | _ => false
def plains (cs : List Str) : List D → Bool
  | [] => true
  | d :: ds => plain cs d && plains cs ds
end
section
variable {K : Frag} {E : XK} {W : Wd} {Hs Hs' H H' : Hp} {σ σ' : L2.St} {s : S} {ws : List Nat} {cs : List Str} {pa : Addr}
theorem Known.inj (kn : Known K cs) {c c' : Str} (h : c ∈ cs) (h' : c' ∈ cs) (e : He.ga K c = He.ga K c') : c = c' := by
  have h1 := kn.kk c h c' h'
  have h2 := kn.kk c h c h
  rw [← e] at h1
  rw [h1] at h2
  have h3 := Option.some.inj h2
  rw [decide_eq_true (rfl : c = c)] at h3
  exact of_decide_eq_true h3
mutual
theorem rep_inj (kn : Known K cs) : ∀ {a d : D} {v : V}, plain cs a = true → plain cs d = true → Rep K pa Hs a v → Rep K pa Hs d v → a = d
  | .ty _, _, _, h, _, _, _ => by simp [plain] at h
  | .cls _, _, _, h, _, _, _ => by simp [plain] at h
  | .pot, _, _, h, _, _, _ => by simp [plain] at h
  | .dct _ _, _, _, h, _, _, _ => by simp [plain] at h
  | _, .ty _, _, _, h, _, _ => by simp [plain] at h
  | _, .cls _, _, _, h, _, _ => by simp [plain] at h
  | _, .pot, _, _, h, _, _ => by simp [plain] at h
  | _, .dct _ _, _, _, h, _, _ => by simp [plain] at h
  | .non, .non, _, _, _, _, _ => rfl
  | .non, .bl _, _, _, _, r, q => by cases (show _ = _ from r); cases (show _ = _ from q)
  | .non, .int _, _, _, _, r, q => by cases (show _ = _ from r); cases (show _ = _ from q)
  | .non, .str _, _, _, _, r, q => by cases (show _ = _ from r); cases (show _ = _ from q)
  | .non, .lst _, _, _, _, r, q => by cases (show _ = _ from r); obtain ⟨_, _, z, _⟩ := q; cases z
  | .non, .tup _, _, _, _, r, q => by cases (show _ = _ from r); obtain ⟨_, _, z, _⟩ := q; cases z
  | .non, .obj _ _ _, _, _, _, r, q => by cases (show _ = _ from r); obtain ⟨_, _, _, z, _⟩ := q; cases z
  | .bl _, .non, _, _, _, r, q => by cases (show _ = _ from r); cases (show _ = _ from q)
  | .bl _, .bl _, _, _, _, r, q => by cases (show _ = _ from r); cases (show _ = _ from q); rfl
  | .bl _, .int _, _, _, _, r, q => by cases (show _ = _ from r); cases (show _ = _ from q)
  | .bl _, .str _, _, _, _, r, q => by cases (show _ = _ from r); cases (show _ = _ from q)
  | .bl _, .lst _, _, _, _, r, q => by cases (show _ = _ from r); obtain ⟨_, _, z, _⟩ := q; cases z
  | .bl _, .tup _, _, _, _, r, q => by cases (show _ = _ from r); obtain ⟨_, _, z, _⟩ := q; cases z
  | .bl _, .obj _ _ _, _, _, _, r, q => by cases (show _ = _ from r); obtain ⟨_, _, _, z, _⟩ := q; cases z
  | .int _, .non, _, _, _, r, q => by cases (show _ = _ from r); cases (show _ = _ from q)
  | .int _, .bl _, _, _, _, r, q => by cases (show _ = _ from r); cases (show _ = _ from q)
  | .int _, .int _, _, _, _, r, q => by cases (show _ = _ from r); cases (show _ = _ from q); rfl
  | .int _, .str _, _, _, _, r, q => by cases (show _ = _ from r); cases (show _ = _ from q)
  | .int _, .lst _, _, _, _, r, q => by cases (show _ = _ from r); obtain ⟨_, _, z, _⟩ := q; cases z
  | .int _, .tup _, _, _, _, r, q => by cases (show _ = _ from r); obtain ⟨_, _, z, _⟩ := q; cases z
  | .int _, .obj _ _ _, _, _, _, r, q => by cases (show _ = _ from r); obtain ⟨_, _, _, z, _⟩ := q; cases z
  | .str _, .non, _, _, _, r, q => by cases (show _ = _ from r); cases (show _ = _ from q)
  | .str _, .bl _, _, _, _, r, q => by cases (show _ = _ from r); cases (show _ = _ from q)
  | .str _, .int _, _, _, _, r, q => by cases (show _ = _ from r); cases (show _ = _ from q)
  | .str _, .str _, _, _, _, r, q => by cases (show _ = _ from r); cases (show _ = _ from q); rfl
  | .str _, .lst _, _, _, _, r, q => by cases (show _ = _ from r); obtain ⟨_, _, z, _⟩ := q; cases z
  | .str _, .tup _, _, _, _, r, q => by cases (show _ = _ from r); obtain ⟨_, _, z, _⟩ := q; cases z
  | .str _, .obj _ _ _, _, _, _, r, q => by cases (show _ = _ from r); obtain ⟨_, _, _, z, _⟩ := q; cases z
  | .lst _, .non, _, _, _, r, q => by obtain ⟨_, _, rfl, _⟩ := r; cases (show _ = _ from q)
  | .lst _, .bl _, _, _, _, r, q => by obtain ⟨_, _, rfl, _⟩ := r; cases (show _ = _ from q)
  | .lst _, .int _, _, _, _, r, q => by obtain ⟨_, _, rfl, _⟩ := r; cases (show _ = _ from q)
  | .lst _, .str _, _, _, _, r, q => by obtain ⟨_, _, rfl, _⟩ := r; cases (show _ = _ from q)
  | .lst ds, .lst es, _, h, h', r, q => by
    obtain ⟨a, vs, rfl, h1, h2⟩ := r
    obtain ⟨b, us, z, h3, h4⟩ := q
    cases z
    rw [h1] at h3
    cases h3
    rw [reps_inj kn (by simpa [plain] using h) (by simpa [plain] using h') h2 h4]
  | .lst _, .tup _, _, _, _, r, q => by obtain ⟨_, _, rfl, h1, _⟩ := r; obtain ⟨_, _, z, h2, _⟩ := q; cases z; rw [h1] at h2; cases h2
  | .lst _, .obj _ _ _, _, _, _, r, q => by obtain ⟨_, _, rfl, h1, _⟩ := r; obtain ⟨_, _, _, z, h2, _⟩ := q; cases z; rw [h1] at h2; cases h2
  | .tup _, .non, _, _, _, r, q => by obtain ⟨_, _, rfl, _⟩ := r; cases (show _ = _ from q)
  | .tup _, .bl _, _, _, _, r, q => by obtain ⟨_, _, rfl, _⟩ := r; cases (show _ = _ from q)
  | .tup _, .int _, _, _, _, r, q => by obtain ⟨_, _, rfl, _⟩ := r; cases (show _ = _ from q)
  | .tup _, .str _, _, _, _, r, q => by obtain ⟨_, _, rfl, _⟩ := r; cases (show _ = _ from q)
  | .tup _, .lst _, _, _, _, r, q => by obtain ⟨_, _, rfl, h1, _⟩ := r; obtain ⟨_, _, z, h2, _⟩ := q; cases z; rw [h1] at h2; cases h2
  | .tup ds, .tup es, _, h, h', r, q => by
    obtain ⟨a, vs, rfl, h1, h2⟩ := r
    obtain ⟨b, us, z, h3, h4⟩ := q
    cases z
    rw [h1] at h3
    cases h3
    rw [reps_inj kn (by simpa [plain] using h) (by simpa [plain] using h') h2 h4]
  | .tup _, .obj _ _ _, _, _, _, r, q => by obtain ⟨_, _, rfl, h1, _⟩ := r; obtain ⟨_, _, _, z, h2, _⟩ := q; cases z; rw [h1] at h2; cases h2
  | .obj _ _ _, .non, _, _, _, r, q => by obtain ⟨_, _, _, rfl, _⟩ := r; cases (show _ = _ from q)
  | .obj _ _ _, .bl _, _, _, _, r, q => by obtain ⟨_, _, _, rfl, _⟩ := r; cases (show _ = _ from q)
  | .obj _ _ _, .int _, _, _, _, r, q => by obtain ⟨_, _, _, rfl, _⟩ := r; cases (show _ = _ from q)
  | .obj _ _ _, .str _, _, _, _, r, q => by obtain ⟨_, _, _, rfl, _⟩ := r; cases (show _ = _ from q)
  | .obj _ _ _, .lst _, _, _, _, r, q => by obtain ⟨_, _, _, rfl, h1, _⟩ := r; obtain ⟨_, _, z, h2, _⟩ := q; cases z; rw [h1] at h2; cases h2
  | .obj _ _ _, .tup _, _, _, _, r, q => by obtain ⟨_, _, _, rfl, h1, _⟩ := r; obtain ⟨_, _, z, h2, _⟩ := q; cases z; rw [h1] at h2; cases h2
  | .obj c ns ds, .obj c' ns' es, _, h, h', r, q => by
    obtain ⟨a, dx, gs, rfl, h1, h2, h3⟩ := r
    obtain ⟨b, dy, us, z, h4, h5, h6⟩ := q
    cases z
    rw [h1] at h4
    have e := HO.ins.inj (Option.some.inj h4)
    obtain ⟨e1, e2, e3⟩ := e
    subst e3
    simp only [plain, Bool.and_eq_true, decide_eq_true_eq] at h h'
    have ec := kn.inj h.1 h'.1 e1
    rw [reps_inj kn h.2 h'.2 h3 h6, ec, ← h2, ← h5]
theorem reps_inj (kn : Known K cs) : ∀ {ds es : List D} {vs : List V}, plains cs ds = true → plains cs es = true → RepL K pa Hs ds vs → RepL K pa Hs es vs → ds = es
  | [], [], _, _, _, _, _ => rfl
  | [], e :: es, vs, _, _, r, q => by cases (show vs = [] from r); obtain ⟨_, _, z, _⟩ := q; cases z
  | d :: ds, [], vs, _, _, r, q => by cases (show vs = [] from q); obtain ⟨_, _, z, _⟩ := r; cases z
  | d :: ds, e :: es, _, h, h', r, q => by
    obtain ⟨v, vs, rfl, h1, h2⟩ := r
    obtain ⟨u, us, z, h3, h4⟩ := q
    cases z
    simp only [plains, Bool.and_eq_true] at h h'
    rw [rep_inj kn h.1 h'.1 h1 h3, reps_inj kn h.2 h'.2 h2 h4]
end
/-! ### the pool without dicts -/
def undct (Hs : Hp) : Hp := fun b => match Hs b with
  | some (.dK _) => none
  | o => o
theorem undct_some {b : Addr} {o : HO} (h : Hs b = some o) (hn : ∀ kvs, o ≠ .dK kvs) : undct Hs b = some o := by
  unfold undct
  rw [h]
  cases o with
  | dK kvs => exact absurd rfl (hn kvs)
  | _ => rfl
theorem of_undct {b : Addr} {o : HO} (h : undct Hs b = some o) : Hs b = some o ∧ ∀ kvs, o ≠ .dK kvs := by
  unfold undct at h
  cases e : Hs b with
  | none => rw [e] at h; cases h
  | some u =>
    rw [e] at h
    cases u with
    | dK kvs => cases h
    | _ => cases h; exact ⟨rfl, fun _ z => by cases z⟩
mutual
theorem rep_undct : ∀ {d : D} {v : V}, plain cs d = true → Rep K pa Hs d v → Rep K pa (undct Hs) d v
  | .non, _, _, r => r
  | .bl _, _, _, r => r
  | .int _, _, _, r => r
  | .str _, _, _, r => r
  | .ty _, _, h, _ => by simp [plain] at h
  | .cls _, _, h, _ => by simp [plain] at h
  | .pot, _, h, _ => by simp [plain] at h
  | .dct _ _, _, h, _ => by simp [plain] at h
  | .lst ds, _, h, r => by
    obtain ⟨a, vs, e, h1, h2⟩ := r
    exact ⟨a, vs, e, undct_some h1 (fun _ z => by cases z), reps_undct (by simpa [plain] using h) h2⟩
  | .tup ds, _, h, r => by
    obtain ⟨a, vs, e, h1, h2⟩ := r
    exact ⟨a, vs, e, undct_some h1 (fun _ z => by cases z), reps_undct (by simpa [plain] using h) h2⟩
  | .obj c ns ds, _, h, r => by
    obtain ⟨a, dx, gs, e, h1, h2, h3⟩ := r
    simp only [plain, Bool.and_eq_true] at h
    exact ⟨a, dx, gs, e, undct_some h1 (fun _ z => by cases z), h2, reps_undct h.2 h3⟩
theorem reps_undct : ∀ {ds : List D} {vs : List V}, plains cs ds = true → RepL K pa Hs ds vs → RepL K pa (undct Hs) ds vs
  | [], _, _, r => r
  | d :: ds, _, h, r => by
    obtain ⟨v, vs, e, h1, h2⟩ := r
    simp only [plains, Bool.and_eq_true] at h
    exact ⟨v, vs, e, rep_undct h.1 h1, reps_undct h.2 h2⟩
end
/-! ### == within lists -/
/-- what a class's own == tells, purely -/
structure EqFn (cs : List Str) (c : Str) (F : Fn) (R : D → D → Option Bool) : Prop where
  pure : ∀ a d b p, R a d = some b → F [.sh a, .sh d] p = .ok (.bl b) [.no, .no] p
  obj : ∀ a d b, R a d = some b → (asObj c a).isSome = true ∧ (asObj c d).isSome = true ∧ plain cs a = true ∧ plain cs d = true
  same : ∀ a b, R a a = some b → b = true
/-- where such a comparison may be asked -/
def Dq (K : Frag) (R : D → D → Option Bool) : Z.Eqb := fun x y H b => ∃ (pa : Addr) (Hs : Hp) (p : Int × Int) (a d : D), PoolOk Hs H ∧ H pa = some (.lst [.int p.1, .int p.2]) ∧ Hs pa = none ∧ Rep K pa Hs a x ∧ Rep K pa Hs d y ∧ R a d = some b
theorem mon_Dq {R : D → D → Option Bool} : Z.MonB (Dq K R) := fun x y H H' b ex d => by
  obtain ⟨pa, Hs, p, a, d, h1, h2, h3⟩ := d
  exact ⟨pa, Hs, p, a, d, fun b o e => (h1 b o e).elim (fun z => .inl (ex _ _ z)) fun ⟨z, ob, w⟩ => .inr ⟨z, ob, ex _ _ w⟩, ex _ _ h2, h3⟩
theorem own_known {c : Str} {d : D} (hc : c ∈ cs) (h : (asObj c d).isSome = true) : ((blt d).isSome || (clsOf cs d).isSome) = true := by
  cases d with
  | obj c' ns ds =>
    have h : (if c' = c then some ns else none).isSome = true := h
    by_cases e : c' = c
    · subst e
      simp [clsOf, hc]
    · rw [if_neg e] at h; cases h
  | _ => cases h
theorem eqB_Dq {X : Cx} {n : Nat} {c : Str} {F : Fn} {R : D → D → Option Bool} {f : Addr} (kn : Known X.K cs) (hc : c ∈ cs) (ec : Z.EqC X.K (He.ga X.K c) f) (G : FnR X.prog X.w X.K X.mg X.base (L2.CX X.prog X.w) n f (spM X.K 2 F)) (ef : EqFn cs c F R) : Z.EqB X n (Dq X.K R) := by
  have rc := Z.rcB_ins (X := X) (E := E0) (R := fun a y H b => Dq X.K R (.ref a) y H b) ec G passL (fun l y H b Q hR k => by
    obtain ⟨pa, Hs, p, a, d, h1, h2, h3, h4, h5, h6⟩ := hR
    obtain ⟨ho, ht, p1, p2⟩ := ef.obj a d b h6
    let Hz := undct Hs
    let Fr : Hp := fun b => if Hz b = none ∧ b ≠ pa then H b else none
    have nd : ∀ b o, Hz b = some o → H b = some o := fun b o e => by
      obtain ⟨e1, e2⟩ := of_undct e
      exact h1.at_ e1 e2
    have zpa : Hz pa = none := by
      show undct Hs pa = none
      unfold undct
      rw [h3]
    have frs : ∀ b o, Fr b = some o → H b = some o ∧ Hz b = none ∧ b ≠ pa := fun b o e => by
      have e : (if Hz b = none ∧ b ≠ pa then H b else none) = some o := e
      by_cases hq : Hz b = none ∧ b ≠ pa
      · rw [if_pos hq] at e; exact ⟨e, hq⟩
      · rw [if_neg hq] at e; cases e
    refine ⟨⟨X.K, pa, Fr, fun _ => 0⟩, Hz, [.sh a, .sh d], p, rfl, rfl, ⟨rfl, fun b o e => .inl (nd b o e), fun b o e => ⟨(frs b o e).1, (frs b o e).2.1⟩, ⟨h2, zpa, ?_⟩, fun i z ez => ?_, fun i j l m d1 d2 a' e1 e2 hij s1 => ?_⟩, ?_⟩
    · show (if Hz pa = none ∧ pa ≠ pa then H pa else none) = none
      rw [if_neg (fun q => q.2 rfl)]
    · match i, ez with
      | 0, ez => cases ez; exact ⟨_, rfl, rep_undct p1 h4⟩
      | 1, ez => cases ez; exact ⟨_, rfl, rep_undct p2 h5⟩
    · match i, e1 with
      | 0, e1 => cases e1
      | 1, e1 => cases e1
    · rw [ef.pure a d b p h6]
      intro v H' Hs' g x r
      cases (show v = .bl b from r)
      refine k H' fun b o e => ?_
      by_cases hb : b = pa
      · rw [hb] at e ⊢
        rw [h2] at e
        cases e
        exact x.pt.1
      · cases q : Hz b with
        | none => exact (x.fr b o (by show (if Hz b = none ∧ b ≠ pa then H b else none) = some o; rw [if_pos ⟨q, hb⟩]; exact e)).1
        | some o' =>
          have := nd b o' q
          rw [e] at this
          cases this
          exact x.pool.at_ (g _ _ q) (of_undct q).2)
  have rc2 : Z.RcB X n (Dq X.K R) := fun A pins s σ H x y u v b sb I rx ry dd => by
    have dd2 := dd
    obtain ⟨pa, Hs, p, a, d, h1, h2, h3, h4, h5, h6⟩ := dd2
    obtain ⟨ho, ht, p1, p2⟩ := ef.obj a d b h6
    obtain ⟨ns, e1⟩ := Option.isSome_iff_exists.mp ho
    obtain ⟨l, dx, gs, e2, q1, _⟩ := asObj_of e1 (Rep.t h1 h4)
    subst e2
    obtain ⟨t, t1, t2⟩ := eqo_left kn hc (own_known hc ht) (Rep.t h1 h5)
    exact rc A pins s σ H _ _ u v b sb I rx ry ⟨l, dx, gs, t, rfl, q1, t1, t2, dd⟩
  refine rc2.eqB fun x y H b dd => ?_
  obtain ⟨pa, Hs, p, a, d, h1, h2, h3, h4, h5, h6⟩ := dd
  obtain ⟨ho, ht, p1, p2⟩ := ef.obj a d b h6
  obtain ⟨ns, e1⟩ := Option.isSome_iff_exists.mp ho
  obtain ⟨l, dx, gs, e2, q1, _⟩ := asObj_of e1 (Rep.t h1 h4)
  obtain ⟨ns', e3⟩ := Option.isSome_iff_exists.mp ht
  obtain ⟨l', dx', gs', e4, q2, _⟩ := asObj_of e3 (Rep.t h1 h5)
  refine ⟨l, l', e2, e4, fun hl => ?_⟩
  subst hl
  rw [e2] at h4
  rw [e4] at h5
  have := rep_inj kn p1 p2 h4 h5
  subst this
  exact ef.same a b h6
/-- operators that ask in the middle of a def -/
def OpW (K : Frag) (r : R2) (f : D → D → Option D) : Prop := ∀ (W : Wd) s σ (Hs H : Hp) a b x y d (Q : VK), W.K = K → SS W Hs s σ H → RepT K W.pa Hs H a x → RepT K W.pa Hs H b y → f a b = some d → (∀ v Hs' H', Gr Hs H Hs' H' → Rep K W.pa Hs' d v → Q v H') → r x y H Q
theorem snd_opW {r : R2} {f : D → D → Option D} {ta tb : TE} {ma mb : ME} (ho : OpW K r f) (ha : SndE K E ta ma) (hb : SndE K E tb mb) : SndE K E (tOp r ta tb) (mOp f ma mb) := fun W s σ H Hs Q hK x q => by
  refine ha W s σ H Hs _ hK x (Post.bind q fun xa s1 v H1 Hs1 _ g1 x1 o1 q1 => ?_)
  refine hb W s1 σ H1 Hs1 _ hK x1 (Post.bind q1 fun xb s2 w H2 Hs2 _ g2 x2 o2 q2 => ?_)
  obtain ⟨a, ea, q3⟩ := q2.ofO
  obtain ⟨b, eb, q4⟩ := q3.ofO
  obtain ⟨d, ed, q5⟩ := q4.ofO
  subst hK
  exact ho W s2 σ Hs2 H2 a b v w d Q rfl x2 (ArgOk.t x2 (ArgOk.up g2 o1) ea) (ArgOk.t x2 o2 eb) ed fun u Hs' H' g r => q5 u H' Hs' g.s (x2.grow g) r
/-- a rule's heap that has all that was -/
theorem gr_ext (x : PoolOk Hs H) (e : Ext H H') : Gr Hs H Hs H' := ⟨fun _ _ z => z, e, fun b o h => (x b o h).elim (fun z => .inl (e _ _ z)) fun ⟨z, ob, w⟩ => .inr ⟨z, ob, e _ _ w⟩, fun _ z _ => z⟩
theorem dq_of {R : D → D → Option Bool} {a d : D} {x y : V} {b : Bool} (X : SS W Hs s σ H) (h1 : Rep W.K W.pa Hs a x) (h2 : Rep W.K W.pa Hs d y) (e : R a d = some b) : Dq W.K R x y H b := ⟨W.pa, Hs, s.p, a, d, X.pool, X.pt.1, X.pt.2.1, h1, h2, e⟩
def zipR (R : D → D → Option Bool) : List D → List D → Option (List Bool)
  | a :: as, b :: bs => (R a b).bind fun c => (zipR R as bs).map (c :: ·)
  | _, _ => some []
def fEqL (R : D → D → Option Bool) : D → D → Option D
  | .lst as, .lst bs => if as.length = bs.length then (zipR R as bs).map fun cs => .bl (cs.all id) else some (.bl false)
  | _, _ => none
theorem zipR_get {R : D → D → Option Bool} : ∀ {as bs : List D} {cs : List Bool}, zipR R as bs = some cs → as.length = bs.length → cs.length = as.length ∧ ∀ (i : Nat) a b, as[i]? = some a → bs[i]? = some b → R a b = some (cs.getD i true)
  | [], [], cs, e, _ => by cases e; exact ⟨rfl, fun i a b h => by simp at h⟩
  | [], _ :: _, _, _, h => by simp at h
  | _ :: _, [], _, _, h => by simp at h
  | a :: as, b :: bs, cs, e, hl => by
    unfold zipR at e
    cases e1 : R a b with
    | none => rw [e1] at e; cases e
    | some c =>
      rw [e1] at e
      have e : (zipR R as bs).map (c :: ·) = some cs := e
      cases e2 : zipR R as bs with
      | none => rw [e2] at e; cases e
      | some ds =>
        rw [e2] at e
        cases e
        obtain ⟨h1, h2⟩ := zipR_get e2 (by simpa using hl)
        refine ⟨by simp [h1], fun i x y hx hy => ?_⟩
        cases i with
        | zero => simp at hx hy; subst hx; subst hy; exact e1
        | succ i => simp at hx hy; exact h2 i x y hx hy
theorem allF_get : ∀ (cs : List Bool) (k n : Nat) (e : Nat → Bool), (∀ i, i < cs.length → e (n + i) = cs.getD i true) → k = cs.length → Z.allF e k n = cs.all id
  | [], _, n, e, _, rfl => rfl
  | c :: cs, _, n, e, h, rfl => by
    have h0 := h 0 (by simp)
    simp at h0
    show (e n && Z.allF e cs.length (n + 1)) = _
    rw [h0, allF_get cs cs.length (n + 1) e (fun i hi => by rw [show n + 1 + i = n + (i + 1) by omega]; exact h (i + 1) (by simp; exact hi)) rfl]
    rfl
theorem anyF_get : ∀ (cs : List Bool) (k n : Nat) (e : Nat → Bool), (∀ i, i < cs.length → e (n + i) = cs.getD i true) → k = cs.length → Z.anyF e k n = cs.any id
  | [], _, n, e, _, rfl => rfl
  | c :: cs, _, n, e, h, rfl => by
    have h0 := h 0 (by simp)
    simp at h0
    show (e n || Z.anyF e cs.length (n + 1)) = _
    rw [h0, anyF_get cs cs.length (n + 1) e (fun i hi => by rw [show n + 1 + i = n + (i + 1) by omega]; exact h (i + 1) (by simp; exact hi)) rfl]
    rfl
theorem ow_eqL {R : D → D → Option Bool} : OpW K (fun x y H Q => Z.rEqB (Z.DListB (Dq K R)) x y H Q ∨ Z.rEqN K x y H Q) (fEqL R) := fun W s σ Hs H a b x y d Q hK X ra rb e k => by
  cases a with
  | lst as =>
    cases b with
    | lst bs =>
      obtain ⟨l, vs, rfl, h1, h2⟩ := ra
      obtain ⟨m, us, rfl, h3, h4⟩ := rb
      have e : (if as.length = bs.length then (zipR R as bs).map (fun cs => D.bl (cs.all id)) else some (.bl false)) = some d := e
      by_cases hl : as.length = bs.length
      · rw [if_pos hl] at e
        cases e1 : zipR R as bs with
        | none => rw [e1] at e; cases e
        | some cs =>
          rw [e1] at e
          cases e
          obtain ⟨z1, z2⟩ := zipR_get e1 hl
          refine .inl ⟨_, ⟨l, m, vs, us, fun i => cs.getD i true, rfl, rfl, h1, h3, by rw [← h2.len, ← h4.len]; exact hl, fun i p q ep eq => ?_, rfl⟩, fun H' ex => k _ Hs H' (gr_ext X.pool ex) ?_⟩
          · obtain ⟨a, ea, r1⟩ := h2.get' ep
            obtain ⟨b, eb, r2⟩ := h4.get' eq
            subst hK
            exact dq_of X r1 r2 (z2 i a b ea eb)
          · show V.bl _ = V.bl _
            rw [allF_get cs _ 0 _ (fun i _ => by simp) (by rw [← h2.len]; exact z1.symm)]
      · rw [if_neg hl] at e
        cases e
        exact .inr ⟨l, m, vs, us, rfl, rfl, SqL.of h1, SqL.of h3, by rw [← h2.len, ← h4.len]; exact hl, k _ Hs H (Gr.refl X.pool) rfl⟩
    | _ => cases e
  | _ => cases e
/-- x in l -/
def mapR (R : D → D → Option Bool) (x : D) : List D → Option (List Bool)
  | [] => some []
  | a :: as => (R a x).bind fun c => (mapR R x as).map (c :: ·)
theorem mapR_get {R : D → D → Option Bool} {x : D} : ∀ {as : List D} {cs : List Bool}, mapR R x as = some cs → cs.length = as.length ∧ ∀ (i : Nat) a, as[i]? = some a → R a x = some (cs.getD i true)
  | [], cs, e => by cases e; exact ⟨rfl, fun i a h => by simp at h⟩
  | a :: as, cs, e => by
    unfold mapR at e
    cases e1 : R a x with
    | none => rw [e1] at e; cases e
    | some c =>
      rw [e1] at e
      have e : (mapR R x as).map (c :: ·) = some cs := e
      cases e2 : mapR R x as with
      | none => rw [e2] at e; cases e
      | some ds =>
        rw [e2] at e
        cases e
        obtain ⟨h1, h2⟩ := mapR_get e2
        refine ⟨by simp [h1], fun i y hx => ?_⟩
        cases i with
        | zero => simp at hx; subst hx; exact e1
        | succ i => simp at hx; exact h2 i y hx
def fInL (R : D → D → Option Bool) (x : D) : D → Option D
  | .lst as => (mapR R x as).map fun cs => .bl (cs.any id)
  | _ => none
/-- x in l, l.index(x) with an own == -/
def mInO (R : D → D → Option Bool) (ma mb : ME) : ME := fun s => (ma s).bind fun p => (ofO (asV p.1)).bind fun x => (mb p.2).bind fun q => (ofO (view q.2 q.1)).bind fun l => (ofO (fInL R x l)).bind fun d => .ok (.val d, q.2)
theorem snd_inO {R : D → D → Option Bool} {ta tb : TE} {ma mb : ME} (ha : SndE K E ta ma) (hb : SndE K E tb mb) : SndE K E (tOp (Z.rInO (Dq K R)) ta tb) (mInO R ma mb) := fun W s σ H Hs Q hK x q => by
  refine ha W s σ H Hs _ hK x (Post.bind q fun xa s1 v H1 Hs1 _ g1 x1 o1 q1 => ?_)
  obtain ⟨a, ea, q2⟩ := q1.ofO
  cases asV_eq ea
  refine hb W s1 σ H1 Hs1 _ hK x1 (Post.bind q2 fun xb s2 w H2 Hs2 _ g2 x2 o2 q3 => ?_)
  obtain ⟨b, eb, q4⟩ := q3.ofO
  obtain ⟨d, ed, q5⟩ := q4.ofO
  have r2 := ArgOk.t x2 o2 eb
  cases b with
  | lst as =>
    obtain ⟨l, vs, rfl, h1, h2⟩ := r2
    have ed : (mapR R a as).map (fun cs => D.bl (cs.any id)) = some d := ed
    cases e1 : mapR R a as with
    | none => rw [e1] at ed; cases ed
    | some cs =>
      rw [e1] at ed
      cases ed
      obtain ⟨z1, z2⟩ := mapR_get e1
      have ra : Rep W.K W.pa Hs2 a v := Rep.up g2 o1
      refine ⟨l, vs, fun i => cs.getD i true, rfl, h1, fun i p ep => ?_, fun H' ex => ?_⟩
      · obtain ⟨b, eb, r1⟩ := h2.get' ep
        subst hK
        exact dq_of x2 r1 ra (z2 i b eb)
      · rw [anyF_get cs _ 0 _ (fun i _ => by simp) (by rw [← h2.len]; exact z1.symm)]
        exact q5 _ H' Hs2 (Same.rfl' _) (x2.grow (gr_ext x2.pool ex)) rfl
  | _ => cases ed
def idxB : List Bool → Option Nat
  | [] => none
  | b :: bs => if b = true then some 0 else (idxB bs).map (· + 1)
theorem idxB_get : ∀ {bs : List Bool} {j : Nat}, idxB bs = some j → j < bs.length ∧ bs.getD j true = true ∧ ∀ m, m < j → bs.getD m true = false
  | [], _, e => by cases e
  | b :: bs, j, e => by
    unfold idxB at e
    cases b with
    | true =>
      have e : some 0 = some j := e
      cases e
      exact ⟨by simp, rfl, fun m hm => by omega⟩
    | false =>
      have e : (idxB bs).map (· + 1) = some j := e
      cases e1 : idxB bs with
      | none => rw [e1] at e; cases e
      | some k =>
        rw [e1] at e
        cases e
        obtain ⟨h1, h2, h3⟩ := idxB_get e1
        refine ⟨by simp; exact h1, h2, fun m hm => ?_⟩
        cases m with
        | zero => rfl
        | succ m =>
          have hm : m + 1 < k + 1 := hm
          exact h3 m (by omega)
def mIdxO (R : D → D → Option Bool) (mo ma : ME) : ME := fun s => (mo s).bind fun o => (ofO ((view o.2 o.1).bind asL)).bind fun _ => (ma o.2).bind fun p => (ofO (asV p.1)).bind fun x => (ofO ((view p.2 o.1).bind asL)).bind fun l => (ofO ((mapR R x l).bind idxB)).bind fun j => .ok (.val (.int (j : Nat)), p.2)
theorem snd_idxO {R : D → D → Option Bool} {to ta : TE} {mo ma : ME} (ho : SndE K E to mo) (ha : SndE K E ta ma) : SndE K E (tBM K "list" (Z.rIndexO (Dq K R)) to (tCons ta tNil)) (mIdxO R mo ma) := fun W s σ H Hs Q hK x q => by
  refine ho W s σ H Hs _ hK x (Post.bind q fun xo s1 v H1 Hs1 _ g1 x1 o1 q1 => ?_)
  obtain ⟨l0, e0, q2⟩ := q1.ofO
  have e00 : ∃ d, view s1 xo = some d ∧ asL d = some l0 := by
    cases ev : view s1 xo with
    | none => rw [ev] at e0; cases e0
    | some d => rw [ev] at e0; exact ⟨d, rfl, e0⟩
  obtain ⟨d0, e01, e02⟩ := e00
  cases asL_eq e02
  obtain ⟨l, vs0, rfl, h01, _⟩ := ArgOk.t x1 o1 e01
  refine ⟨.inl ⟨rfl, vs0, SqL.of h01⟩, ?_⟩
  refine ha W s1 σ H1 Hs1 _ hK x1 (Post.bind q2 fun xa s2 w H2 Hs2 _ g2 x2 o2 q3 => ?_)
  obtain ⟨a, ea, q4⟩ := q3.ofO
  cases asV_eq ea
  obtain ⟨as, e1, q5⟩ := q4.ofO
  obtain ⟨j, ej, q6⟩ := q5.ofO
  cases ev : view s2 xo with
  | none => rw [ev] at e1; cases e1
  | some d =>
    rw [ev] at e1
    cases asL_eq (show asL d = some as from e1)
    obtain ⟨l', vs, e3, h1, h2⟩ := ArgOk.t x2 (ArgOk.up g2 o1) ev
    cases e3
    cases em : mapR R a as with
    | none => rw [em] at ej; cases ej
    | some cs =>
      rw [em] at ej
      obtain ⟨z1, z2⟩ := mapR_get em
      obtain ⟨y1, y2, y3⟩ := idxB_get (show idxB cs = some j from ej)
      refine ⟨l, w, vs, fun i => cs.getD i true, j, rfl, rfl, h1, fun i p ep => ?_, by rw [← h2.len]; omega, y2, y3, fun H' ex => ?_⟩
      · obtain ⟨b, eb, r1⟩ := h2.get' ep
        subst hK
        exact dq_of x2 r1 o2 (z2 i b eb)
      · exact q6 _ H' Hs2 (Same.rfl' _) (x2.grow (gr_ext x2.pool ex)) rfl
/-- the same of data -/
def fInD (x l : D) : Option D := (toP x).bind fun p => (toP l).bind fun q => match q with
  | .list ps => if SeqAt.shaped p = true ∧ SeqAt.shaped (.list ps) = true then some (.bl (ps.any fun z => PyData.eqv z p)) else none
  | _ => none
theorem os_inD : OpS K (rInD K) fInD := fun pa Hs H a b x y d Q hp ra rb e k => by
  unfold fInD at e
  cases e1 : toP a with
  | none => rw [e1] at e; cases e
  | some p =>
    rw [e1] at e
    cases e2 : toP b with
    | none => rw [e2] at e; cases e
    | some q =>
      rw [e2] at e
      cases q with
      | list ps =>
        have e : (if SeqAt.shaped p = true ∧ SeqAt.shaped (.list ps) = true then some (D.bl (ps.any fun z => PyData.eqv z p)) else none) = some d := e
        by_cases hc : SeqAt.shaped p = true ∧ SeqAt.shaped (.list ps) = true
        · rw [if_pos hc] at e
          cases e
          exact ⟨p, ps, dpt_of hp e1 ra, dpt_of hp e2 rb, hc.1, hc.2, k _ Hs H (Gr.refl hp) rfl⟩
        · rw [if_neg hc] at e; cases e
      | _ => cases e
def firstP (p : PyData) (ps : List PyData) : Option Nat := idxB (ps.map fun z => PyData.eqv z p)
/-- l.index(x) of data -/
def fIndexD (l x : D) : Option D := (toP l).bind fun q => (toP x).bind fun p => match q with
  | .list ps => if SeqAt.shaped p = true ∧ SeqAt.shaped (.list ps) = true then (firstP p ps).map fun j => .int (j : Nat) else none
  | _ => none
def mIdxD (mo ma : ME) : ME := fun s => (mo s).bind fun o => (ofO ((view o.2 o.1).bind asL)).bind fun _ => (ma o.2).bind fun p => (ofO (view p.2 o.1)).bind fun l => (ofO (view p.2 p.1)).bind fun x => (ofO (fIndexD l x)).bind fun d => .ok (.val d, p.2)
theorem snd_idxD {to ta : TE} {mo ma : ME} (ho : SndE K E to mo) (ha : SndE K E ta ma) : SndE K E (tBM K "list" (rIndexD K) to (tCons ta tNil)) (mIdxD mo ma) := fun W s σ H Hs Q hK x q => by
  refine ho W s σ H Hs _ hK x (Post.bind q fun xo s1 v H1 Hs1 _ g1 x1 o1 q1 => ?_)
  obtain ⟨l0, e0, q2⟩ := q1.ofO
  have e00 : ∃ d, view s1 xo = some d ∧ asL d = some l0 := by
    cases ev : view s1 xo with
    | none => rw [ev] at e0; cases e0
    | some d => rw [ev] at e0; exact ⟨d, rfl, e0⟩
  obtain ⟨d0, e01, e02⟩ := e00
  cases asL_eq e02
  obtain ⟨l, vs0, rfl, h01, _⟩ := ArgOk.t x1 o1 e01
  refine ⟨.inl ⟨rfl, vs0, SqL.of h01⟩, ?_⟩
  refine ha W s1 σ H1 Hs1 _ hK x1 (Post.bind q2 fun xa s2 w H2 Hs2 _ g2 x2 o2 q3 => ?_)
  obtain ⟨ld, e1, q4⟩ := q3.ofO
  obtain ⟨xd, e2, q5⟩ := q4.ofO
  obtain ⟨d, e3, q6⟩ := q5.ofO
  have r1 := ArgOk.t x2 (ArgOk.up g2 o1) e1
  have r2 := ArgOk.t x2 o2 e2
  unfold fIndexD at e3
  cases f1 : toP ld with
  | none => rw [f1] at e3; cases e3
  | some qd =>
    rw [f1] at e3
    cases f2 : toP xd with
    | none => rw [f2] at e3; cases e3
    | some p =>
      rw [f2] at e3
      cases qd with
      | list ps =>
        have e3 : (if SeqAt.shaped p = true ∧ SeqAt.shaped (.list ps) = true then (firstP p ps).map (fun j => D.int (j : Nat)) else none) = some d := e3
        by_cases hc : SeqAt.shaped p = true ∧ SeqAt.shaped (.list ps) = true
        · rw [if_pos hc] at e3
          cases e4 : firstP p ps with
          | none => rw [e4] at e3; cases e3
          | some j =>
            rw [e4] at e3
            cases e3
            obtain ⟨y1, y2, y3⟩ := idxB_get (show idxB (ps.map fun z => PyData.eqv z p) = some j from e4)
            have hj : j < ps.length := by simpa using y1
            have dl := dpt_of x2.pool f1 r1
            have dx := dpt_of x2.pool f2 r2
            subst hK
            refine ⟨l, w, p, ps, j, ps[j], rfl, rfl, dl, dx, hc.2, hc.1, by simp [hj], ?_, fun m z hm hz => ?_, q6 _ H2 Hs2 (Same.rfl' _) x2 rfl⟩
            · simpa [hj] using y2
            · have := y3 m hm
              simp [hz] at this
              exact this
        · rw [if_neg hc] at e3; cases e3
      | _ => cases e3
def fInSign : D → D → Option D
  | .str x, .str z => match x.cps.toList with
    | [c] => some (.bl (decide (c ∈ z.cps.toList)))
    | _ => none
  | _, _ => none
theorem os_inSign : OpS K (fun x y H Q => ∃ (c : Nat) (z : Str), x = .str ⟨#[c]⟩ ∧ y = .str z ∧ Q (.bl (decide (c ∈ z.cps.toList))) H) fInSign := fun pa Hs H a b x y d Q hp ra rb e k => by
  unfold fInSign at e
  split at e
  · rename_i u z
    split at e
    · rename_i c hc
      cases e
      have eu : u = ⟨#[c]⟩ := by
        cases u with
        | mk cps =>
          congr 1
          apply Array.toList_inj.mp
          exact hc
      subst eu
      exact ⟨c, z, ra, rb, k _ Hs H (Gr.refl hp) rfl⟩
    · cases e
  · cases e
/-! ### two names at once, one of them a list that changes -/
theorem fresh_set {d : D} {a : Addr} {i : Nat} {e : D} {v : V} (f : Fresh W s σ Hs H a d) : Fresh W ⟨s.g.set i (.sh e), s.p⟩ (σ.set i (some v)) Hs H a d := by
  refine ⟨f.at_, f.np, f.nf, f.npa, fun j l e' h1 => ?_⟩
  have h1 : (s.g.set i (.sh e))[j]? = some (.ow l e') := h1
  by_cases hj : i = j
  · subst hj
    rw [List.getElem?_set_self (by have := (List.getElem?_eq_some_iff.mp h1).1; simpa using this)] at h1
    cases h1
  · rw [List.getElem?_set_ne hj] at h1 ⊢
    exact f.ns j l e' h1
/-- a cell of one's own is put aside -/
theorem ss_frin {a : Addr} {d : D} {o : HO} (x : SS W Hs s σ H) (f : Fresh W s σ Hs H a d) (ho : H a = some o) : SS { W with Fr := upd W.Fr a o } Hs s σ H := by
  refine ⟨x.len, x.pool, fun b u e => ?_, ⟨x.pt.1, x.pt.2.1, ?_⟩, fun i y e => ?_, x.apart⟩
  · have e : upd W.Fr a o b = some u := e
    by_cases hb : b = a
    · subst hb; rw [upd_same] at e; cases e; exact ⟨ho, f.np⟩
    · rw [upd_ne hb] at e; exact x.fr b u e
  · show upd W.Fr a o W.pa = none
    rw [upd_ne (fun z => f.npa z.symm)]
    exact x.pt.2.2
  · have z := x.slot i y e
    cases y with
    | no => trivial
    | sh d' => exact z
    | ow l d' =>
      obtain ⟨b, q1, q2, q4, q5, q6⟩ := z
      refine ⟨b, q1, q2, q4, ?_, q6⟩
      show upd W.Fr a o b = none
      rw [upd_ne (fun z => f.ns i l d' e (by rw [q1, z]))]
      exact q5
theorem PostS.bindF {α β : Type} {Ok : Wd → α → S → Hp → Hp → β → Prop} {Q : β → Hp → Prop} {Dn : Ends} {r : R (α × S)} {f : α × S → R (Fl × S)} {a : Addr} {o : HO} {d : D} (h : PostS W E Hs σ ws Dn (r.bind f)) (h0 : W.Fr a = none) (rc : RepC W.K W.pa Hs d o)
    (k : ∀ x s' v H' Hs', Same Hs Hs' → SS W Hs' s' σ H' → Fresh W s' σ Hs' H' a d → Ok { W with Fr := upd W.Fr a o } x s' Hs' H' v → PostS W E Hs' σ ws Dn (f (x, s')) → Q v H') : Post { W with Fr := upd W.Fr a o } E Hs σ (Ok { W with Fr := upd W.Fr a o }) Q r := by
  cases r with
  | ok p =>
    obtain ⟨x, s'⟩ := p
    intro v H1 Hs1 g x1 ok
    obtain ⟨x2, fr⟩ := ss_frout (d := d) x1 h0 (rc.up g)
    exact k x s' v H1 Hs1 g x2 fr ok (PostS.up h g .refl)
  | ex e s' =>
    intro σ' H' Hs' cls dd g x1 r
    exact h σ' H' Hs' cls dd g (ss_frout (d := d) x1 h0 (rc.up g)).1 r
  | stuck => exact h
theorem keep2 {i j : Nat} {v w : Option V} : Keep [i, j] σ ((σ.set i v).set j w) := (Keep.set.mono (by simp)).trans (Keep.set.mono (by simp))
theorem set_comm' {α : Type} {l : List α} {i j : Nat} {a b : α} (h : i ≠ j) : (l.set i a).set j b = (l.set j b).set i a := by
  rw [List.set_comm _ _ h]
def sParFE (i j : Nat) (m : MF) (n : ME) : MS := fun s => (m s).bind fun p => (n p.2).bind fun q => (ofO (asV q.1)).bind fun e => .ok (.nx, ⟨(q.2.g.set j (.sh e)).set i (.ow none p.1), q.2.p⟩)
theorem snd_parFE {ta tb : TE} {m : MF} {n : ME} (i j : Nat) (hij : i ≠ j) (ha : SndF K E ta m) (hb : SndE K E tb n) : SndS K E [i, j] (tPar i j (tCons ta (tCons tb tNil))) (sParFE i j m n) := fun W s σ H Hs Dn hK x q => by
  refine ha W s σ H Hs _ hK x (PostS.bind q fun d s1 v H1 Hs1 _ g1 x1 o1 q1 => ?_)
  obtain ⟨a, rfl, fr⟩ := o1
  obtain ⟨o, ho, hr⟩ := fr.at_
  refine hb { W with Fr := upd W.Fr a o } s1 σ H1 Hs1 _ hK (ss_frin x1 fr ho) (PostS.bindF (Ok := fun W => okE W σ) q1 fr.nf hr fun xb s2 w H2 Hs2 g2 x2 fr2 o2 q2 => ?_)
  obtain ⟨e, ee, q3⟩ := PostS.ofO q2
  cases asV_eq ee
  refine ⟨_, _, rfl, ?_⟩
  have y := ss_setOwn (ss_set x2 j (show Rep W.K W.pa Hs2 e w from o2)) i (fresh_set fr2)
  show Dn.nx ((σ.set i (some (V.ref a))).set j (some w)) H2
  rw [set_comm' hij]
  exact q3 _ H2 Hs2 (Same.rfl' _) (by rw [← set_comm' hij]; exact keep2) y
def sParEF (i j : Nat) (m : ME) (n : MF) : MS := fun s => (m s).bind fun p => (ofO (asV p.1)).bind fun e => (n p.2).bind fun q => .ok (.nx, ⟨(q.2.g.set i (.sh e)).set j (.ow none q.1), q.2.p⟩)
theorem snd_parEF {ta tb : TE} {m : ME} {n : MF} (i j : Nat) (hij : i ≠ j) (ha : SndE K E ta m) (hb : SndF K E tb n) : SndS K E [i, j] (tPar i j (tCons ta (tCons tb tNil))) (sParEF i j m n) := fun W s σ H Hs Dn hK x q => by
  refine ha W s σ H Hs _ hK x (PostS.bind q fun xa s1 v H1 Hs1 _ g1 x1 o1 q1 => ?_)
  obtain ⟨e, ee, q2⟩ := PostS.ofO q1
  cases asV_eq ee
  refine hb W s1 σ H1 Hs1 _ hK x1 (PostS.bind q2 fun d s2 w H2 Hs2 _ g2 x2 o2 q3 => ?_)
  obtain ⟨a, rfl, fr⟩ := o2
  refine ⟨_, _, rfl, ?_⟩
  have y := ss_setOwn (ss_set x2 i (Rep.up g2 (show Rep W.K W.pa Hs1 e v from o1))) j (fresh_set fr)
  exact q3 _ H2 Hs2 (Same.rfl' _) keep2 y
theorem fresh_apart {d e : D} {a b : Addr} {i : Nat} (f : Fresh W s σ Hs H a d) (g : Fresh W s σ Hs H b e) (h : a ≠ b) : Fresh W ⟨s.g.set i (.ow none e), s.p⟩ (σ.set i (some (.ref b))) Hs H a d := by
  refine ⟨f.at_, f.np, f.nf, f.npa, fun j l e' h1 => ?_⟩
  have h1 : (s.g.set i (.ow none e))[j]? = some (.ow l e') := h1
  by_cases hj : i = j
  · subst hj
    intro z
    have hi : i < σ.length := by
      have := (List.getElem?_eq_some_iff.mp z).1
      simpa using this
    rw [List.getElem?_set_self hi] at z
    cases z
    exact h rfl
  · rw [List.getElem?_set_ne hj] at h1 ⊢
    exact f.ns j l e' h1
def sParFF (i j : Nat) (m n : MF) : MS := fun s => (m s).bind fun p => (n p.2).bind fun q => .ok (.nx, ⟨(q.2.g.set i (.ow none p.1)).set j (.ow none q.1), q.2.p⟩)
theorem snd_parFF {ta tb : TE} {m n : MF} (i j : Nat) (hij : i ≠ j) (ha : SndF K E ta m) (hb : SndF K E tb n) : SndS K E [i, j] (tPar i j (tCons ta (tCons tb tNil))) (sParFF i j m n) := fun W s σ H Hs Dn hK x q => by
  refine ha W s σ H Hs _ hK x (PostS.bind q fun d s1 v H1 Hs1 _ g1 x1 o1 q1 => ?_)
  obtain ⟨a, rfl, fr⟩ := o1
  obtain ⟨o, ho, hr⟩ := fr.at_
  refine hb { W with Fr := upd W.Fr a o } s1 σ H1 Hs1 _ hK (ss_frin x1 fr ho) (PostS.bindF (Ok := fun W => okF W σ) q1 fr.nf hr fun e s2 w H2 Hs2 g2 x2 fr2 o2 q2 => ?_)
  obtain ⟨b, rfl, fb⟩ := o2
  have hab : a ≠ b := fun z => by
    have := fb.nf
    rw [← z] at this
    have : upd W.Fr a o a = none := this
    rw [upd_same] at this
    cases this
  have fb2 : Fresh W s2 σ Hs2 H2 b e := ⟨fb.at_, fb.np, by have := fb.nf; have : upd W.Fr a o b = none := this; rw [upd_ne (fun z => hab z.symm)] at this; exact this, fb.npa, fb.ns⟩
  refine ⟨_, _, rfl, ?_⟩
  have y := ss_setOwn (ss_setOwn x2 i fr2) j (fresh_apart fb2 fr2 (fun z => hab z.symm))
  exact q2 _ H2 Hs2 (Same.rfl' _) keep2 y
def sPar3 (i j l : Nat) (m : MA) : MS := fun s => (m s).bind fun p => match p.1 with
  | [.val a, .val b, .val c] => .ok (.nx, ⟨((p.2.g.set i (.sh a)).set j (.sh b)).set l (.sh c), p.2.p⟩)
  | _ => .stuck
theorem snd_par3 {t : TA} {m : MA} (i j l : Nat) (h : SndA K E t m) : SndS K E [i, j, l] (tPar3 i j l t) (sPar3 i j l m) := fun W s σ H Hs Dn hK x q => by
  refine h W s σ H Hs _ hK x (PostS.bind q fun xs s1 vs H1 Hs1 _ g1 x1 o1 q1 => ?_)
  dsimp only at q1
  split at q1
  · rename_i a b c
    cases o1 with
    | cons h1 t1 => cases t1 with
      | cons h2 t2 => cases t2 with
        | cons h3 t3 =>
          cases t3
          refine ⟨_, _, _, rfl, q1 _ H1 Hs1 (Same.rfl' _) ?_ (ss_set (ss_set (ss_set x1 i h1) j h2) l h3)⟩
          exact ((Keep.set.mono (by simp)).trans (Keep.set.mono (by simp))).trans (Keep.set.mono (by simp))
  · exact q1.elim
end
end Mi

namespace Z
open PySem PySem.Spec PyProof.Rows L2
open PySem.W (Frag)
section
variable {X : Cx} {K : Frag}
theorem eqNK (hK : X.K = K) (hu : X.A.units < cLine) : OpR X (compareOp .Eq) (rEqN K) := by
  subst hK; exact op_eqN hu
theorem maxK (hK : X.K = K) (hc : X.calm = true) : CallR X (.builtin "max") (rMax K) := by
  subst hK; exact cr_max hc
theorem minK (hK : X.K = K) (hc : X.calm = true) : CallR X (.builtin "min") (rMin K) := by
  subst hK; exact cr_min hc
theorem piZipK {e e2 : Expr} {ta : TA} {p pos tpos : Pos} {elts : List Expr} {kk : Nat} (hK : X.K = K) (hg : Gl X "zip") (hm : X.mg "zip" = none) (ha : PA X [e, e2] ta)
    (hs : starEach [e, e2] X.env = (false, eval e X.env) :: starEach [e2] X.env := by rfl) (hpl : (backTo pos (starEach [e2] X.env)).any (·.1) = false := by rfl) :
    PI X (.Tuple elts kk tpos) (.Call (.Name "zip" p) [e, e2] [] pos) (iZip K ta) := by
  subst hK; exact pi_zip hg hm ha hs hpl
theorem piEnumK {e : Expr} {ta : TA} {p pos tpos : Pos} {elts : List Expr} {kk : Nat} (hK : X.K = K) (hg : Gl X "enumerate") (hm : X.mg "enumerate" = none) (ha : PA X [e] ta) (hs : starEach [e] X.env = [(false, eval e X.env)] := by rfl) :
    PI X (.Tuple elts kk tpos) (.Call (.Name "enumerate" p) [e] [] pos) (iEnum K ta) := by
  subst hK; exact pi_enum hg hm ha hs
end
end Z
namespace Mi
open PySem PySem.Spec PyProof.Rows L2
open PySem.W (Frag)
section
variable {K : Frag} {E : XK} {W : Wd} {Hs Hs' H H' : Hp} {σ σ' : L2.St} {s : S} {ws : List Nat}
theorem ss_pot (x : SS W Hs s σ H) (p : Int × Int) : SS W Hs ⟨s.g, p⟩ σ (upd H W.pa (.lst [.int p.1, .int p.2])) := by
  refine ⟨x.len, fun b u e => ?_, fun b u e => ?_, ⟨upd_same, x.pt.2⟩, fun i y e => ?_, x.apart⟩
  · rw [upd_ne (fun z => by rw [z, x.pt.2.1] at e; cases e)]
    exact x.pool b u e
  · rw [upd_ne (fun z => by rw [z, x.pt.2.2] at e; cases e)]
    exact x.fr b u e
  · have z := x.slot i y e
    cases y with
    | no => trivial
    | sh d' => exact z
    | ow l d' =>
      obtain ⟨b, q1, ⟨o, q2, q3⟩, q4, q5, q6, q7⟩ := z
      exact ⟨b, q1, ⟨o, by rw [upd_ne q6]; exact q2, q3⟩, q4, q5, q6, q7⟩
theorem ss_none (x : SS W Hs s σ H) : SS W Hs ⟨List.replicate s.g.length .no, s.p⟩ σ H := by
  have key : ∀ (i : Nat) y, (List.replicate s.g.length Slot.no)[i]? = some y → y = .no := fun i y e => by
    have := List.mem_of_getElem? e
    simp at this
    exact this.2
  refine ⟨by simp [x.len], x.pool, x.fr, x.pt, fun i y e => by rw [key i y e]; trivial, fun i j l m d e a e1 => by cases key i _ e1⟩
/-- a law's own part, from its mirror -/
theorem right_ok {F : Fn} {pot : Int × Int → Prop} (hF : ∀ p, pot p → ∃ outs p', F [.sh .pot] p = .ok (.bl true) outs p' ∧ pot p' ∧ outs = [.no]) {p : Addr} {x y : Int} {Q : VK} (hp : H p = some (.lst [.int x, .int y])) (h0 : pot (x, y))
    (k : ∀ H', (∀ b o, b ≠ p → H b = some o → H' b = some o) → (∃ x y : Int, H' p = some (.lst [.int x, .int y]) ∧ pot (x, y)) → Q (.bl true) H') : spM K 1 F [.ref p] H Q E := by
  obtain ⟨outs, p', e, h1, rfl⟩ := hF (x, y) h0
  refine ⟨⟨K, p, fun b => if b = p then none else H b, fun _ => 0⟩, fun _ => none, [.sh .pot], (x, y), rfl, rfl, ⟨rfl, (fun b o z => by cases z), fun b o z => ?_, ⟨hp, rfl, if_pos rfl⟩, fun i z ez => ?_, fun i j l m d1 d2 a e1 => ?_⟩, ?_⟩
  · have z : (if b = p then none else H b) = some o := z
    by_cases hb : b = p
    · rw [if_pos hb] at z; cases z
    · rw [if_neg hb] at z; exact ⟨z, rfl⟩
  · match i, ez with
    | 0, ez => cases ez; exact ⟨_, rfl, rfl⟩
  · match i, e1 with
    | 0, e1 => cases e1
  · rw [e]
    intro v H' Hs' g z r
    cases (show v = .bl true from r)
    exact k H' (fun b o hb eb => (z.fr b o (by show (if b = p then none else H b) = some o; rw [if_neg hb]; exact eb)).1) ⟨p'.1, p'.2, z.pt.1, h1⟩
/-- {} -/
def mD0 : MF := fun s => .ok (.dct [] [], s)
theorem snd_d0 : SndF K E (fun _ H Q => ∀ d, H d = none → Q (.ref d) (upd H d (.dK []))) mD0 := fun W s σ H Hs Q hK x q => fun p hp => by
  obtain ⟨x2, fr⟩ := fresh_new (o := .dK []) (d := .dct [] []) x hp ⟨[], rfl, rfl, rfl⟩
  exact q _ _ Hs (Same.rfl' _) x2 ⟨p, rfl, fr⟩
/-- == of plain values -/
def scV : D → Option V
  | .non => some .non
  | .bl b => some (.bl b)
  | .int i => some (.int i)
  | .str x => some (.str x)
  | _ => none
theorem scV_of {pa : Addr} {d : D} {v u : V} (e : scV d = some u) (r : RepT K pa Hs H d v) : v = u := by
  cases d <;> first | (cases e; exact r) | cases e
def fEqS (a b : D) : Option D := (scV a).bind fun x => (scV b).bind fun y => if scal x y = true then some (.bl (decide (x = y))) else none
def fNeS (a b : D) : Option D := (scV a).bind fun x => (scV b).bind fun y => if scal x y = true then some (.bl (!decide (x = y))) else none
theorem scal_eq {g : Bool → Bool} {a b d : D} (h : ((scV a).bind fun x => (scV b).bind fun y => if scal x y = true then some (D.bl (g (decide (x = y)))) else none) = some d) : ∃ x y, scV a = some x ∧ scV b = some y ∧ scal x y = true ∧ d = .bl (g (decide (x = y))) := by
  cases e1 : scV a with
  | none => rw [e1] at h; cases h
  | some x =>
    cases e2 : scV b with
    | none => rw [e1, e2] at h; cases h
    | some y =>
      rw [e1, e2] at h
      have h : (if scal x y = true then some (D.bl (g (decide (x = y)))) else none) = some d := h
      by_cases hc : scal x y = true
      · rw [if_pos hc] at h; cases h; exact ⟨x, y, rfl, rfl, hc, rfl⟩
      · rw [if_neg hc] at h; cases h
theorem os_eqS : OpS K rEq fEqS := fun pa Hs H a b x y d Q hp ra rb e k => by
  obtain ⟨u, v, e1, e2, h1, rfl⟩ := scal_eq (g := id) e
  cases scV_of e1 ra
  cases scV_of e2 rb
  exact ⟨h1, k _ Hs H (Gr.refl hp) rfl⟩
theorem os_neS : OpS K rNe fNeS := fun pa Hs H a b x y d Q hp ra rb e k => by
  obtain ⟨u, v, e1, e2, h1, rfl⟩ := scal_eq (g := not) e
  cases scV_of e1 ra
  cases scV_of e2 rb
  exact ⟨h1, k _ Hs H (Gr.refl hp) rfl⟩
@[simp] theorem fEqS_int (i j : Int) : fEqS (.int i) (.int j) = some (.bl (decide (i = j))) := by simp [fEqS, scV, scal]
@[simp] theorem fNeS_int (i j : Int) : fNeS (.int i) (.int j) = some (.bl (!decide (i = j))) := by simp [fNeS, scV, scal]
@[simp] theorem fEqS_str (i j : Str) : fEqS (.str i) (.str j) = some (.bl (decide (i = j))) := by simp [fEqS, scV, scal]
@[simp] theorem fNeS_str (i j : Str) : fNeS (.str i) (.str j) = some (.bl (!decide (i = j))) := by simp [fNeS, scV, scal]
@[simp] theorem fEqS_bl (i j : Bool) : fEqS (.bl i) (.bl j) = some (.bl (decide (i = j))) := by simp [fEqS, scV, scal]
@[simp] theorem fNeS_bl (i j : Bool) : fNeS (.bl i) (.bl j) = some (.bl (!decide (i = j))) := by simp [fNeS, scV, scal]
end
end Mi

namespace Mi
open PySem PySem.Spec PyProof.Rows L2
/-! ### evaluation, for simp -/
@[simp] theorem bind_ok {α β : Type} (a : α) (f : α → R β) : (R.ok a).bind f = f a := rfl
@[simp] theorem bind_ex {α β : Type} (e : Ex) (s : S) (f : α → R β) : (R.ex e s : R α).bind f = .ex e s := rfl
@[simp] theorem bind_stuck {α β : Type} (f : α → R β) : (R.stuck : R α).bind f = .stuck := rfl
@[simp] theorem ofO_some {α : Type} (a : α) : ofO (some a) = .ok a := rfl
@[simp] theorem ofO_none {α : Type} : ofO (none : Option α) = .stuck := rfl
@[simp] theorem view_val (s : S) (d : D) : view s (.val d) = some d := rfl
@[simp] theorem view_bor (s : S) (i : Nat) : view s (.bor i) = (s.g[i]?).bind slotD := rfl
@[simp] theorem slotD_sh (d : D) : slotD (.sh d) = some d := rfl
@[simp] theorem slotD_ow (l : Option Nat) (d : D) : slotD (.ow l d) = some d := rfl
theorem bind_ite {α β : Type} {c : Prop} [Decidable c] (x y : R α) (f : α → R β) : (if c then x else y).bind f = if c then x.bind f else y.bind f := by
  by_cases h : c <;> simp [h]
theorem shaped_flat {p : PyData} (h : p.canLay0 = true) (h2 : p.depth ≤ 64) : SeqAt.shaped p = true := by
  unfold SeqAt.shaped
  rw [h, decide_eq_true h2] <;> rfl
@[simp] theorem shaped_int (i : Int) : SeqAt.shaped (.int i) = true := rfl
@[simp] theorem shaped_bool (i : Bool) : SeqAt.shaped (.bool i) = true := rfl
@[simp] theorem shaped_none : SeqAt.shaped .none = true := rfl
@[simp] theorem toP_int (i : Int) : toP (.int i) = some (.int i) := rfl
@[simp] theorem toP_bl (i : Bool) : toP (.bl i) = some (.bool i) := rfl
@[simp] theorem toP_str (i : Str) : toP (.str i) = some (.str i) := rfl
@[simp] theorem toP_non : toP .non = some .none := rfl
@[simp] theorem fEq_int (i j : Int) : fEq (.int i) (.int j) = some (.bl (decide (i = j))) := by
  simp [fEq, PyData.eqv, Bool.beq_eq_decide_eq]
@[simp] theorem fNe_int (i j : Int) : fNe (.int i) (.int j) = some (.bl (!decide (i = j))) := by
  simp [fNe, PyData.eqv, Bool.beq_eq_decide_eq]
@[simp] theorem fEq_bl (i j : Bool) : fEq (.bl i) (.bl j) = some (.bl (decide (i = j))) := by
  cases i <;> cases j <;> rfl
@[simp] theorem fNe_bl (i j : Bool) : fNe (.bl i) (.bl j) = some (.bl (!decide (i = j))) := by
  cases i <;> cases j <;> rfl
@[simp] theorem atI_zero {α : Type} (a : α) (as : List α) : atI (a :: as) 0 = some a := by
  simp [atI, ixN]
end Mi
namespace Mi
open PySem PySem.Spec PyProof.Rows L2
@[simp] theorem tys_int : "int" ∈ tys := by decide
@[simp] theorem tys_bool : "bool" ∈ tys := by decide
@[simp] theorem tys_str : "str" ∈ tys := by decide
@[simp] theorem tys_list : "list" ∈ tys := by decide
@[simp] theorem tys_tuple : "tuple" ∈ tys := by decide
@[simp] theorem tys_dict : "dict" ∈ tys := by decide
@[simp] theorem tys_NoneType : "NoneType" ∈ tys := by decide
/-! ### loops by what holds between turns -/
theorem while_ind {c : MT} {b : MS} (Inv Post : S → Prop) (μ : S → Nat) (step : ∀ s, Inv s → (∃ s1, c s = .ok (false, s1) ∧ Post s1) ∨ ∃ s1 s2, c s = .ok (true, s1) ∧ b s1 = .ok (.nx, s2) ∧ Inv s2 ∧ μ s2 < μ s) :
    ∀ {s : S}, Inv s → ∃ s', sWhile c b s = .ok (.nx, s') ∧ Post s' := by
  have go : ∀ (n : Nat) (s : S), μ s ≤ n → Inv s → ∃ s', sWhile c b s = .ok (.nx, s') ∧ Post s' := by
    intro n
    induction n with
    | zero =>
      intro s hn hi
      rcases step s hi with ⟨s1, e, h⟩ | ⟨s1, s2, _, _, _, h⟩
      · exact ⟨s1, by rw [sWhile_unfold, e]; simp, h⟩
      · omega
    | succ n ih =>
      intro s hn hi
      rcases step s hi with ⟨s1, e, h⟩ | ⟨s1, s2, e1, e2, h2, h⟩
      · exact ⟨s1, by rw [sWhile_unfold, e]; simp, h⟩
      · obtain ⟨s', e3, h3⟩ := ih s2 (by omega) h2
        refine ⟨s', ?_, h3⟩
        rw [sWhile_unfold, e1]
        simp [e2, e3]
  exact fun {s} h => go (μ s) s (Nat.le_refl _) h
theorem for_ind {gd : List (Nat × D)} {g : MG} {b : MS} (Inv : List D → S → Prop) (hh : ∀ ds s, Inv ds s → hold gd s) (step : ∀ d ds s, Inv (d :: ds) s → ∃ s1 s2, g d s = some s1 ∧ (b s1 = .ok (.nx, s2) ∨ b s1 = .ok (.ct, s2)) ∧ Inv ds s2) :
    ∀ {items : List D} {s : S}, Inv items s → ∃ s', forGo gd g b items s = .ok (.nx, s') ∧ Inv [] s'
  | [], s, h => ⟨s, by unfold forGo; rw [if_pos (hh _ _ h)], h⟩
  | d :: ds, s, h => by
    obtain ⟨s1, s2, e1, e2, h2⟩ := step d ds s h
    obtain ⟨s', e3, h3⟩ := for_ind Inv hh step h2
    refine ⟨s', ?_, h3⟩
    unfold forGo
    rw [if_pos (hh _ _ h), e1]
    rcases e2 with e2 | e2 <;> simp [e2, e3]
/-- one turn of a comprehension -/
def stepLc (g : MG) (c : MT) (e : ME) (vs : List Nat) (d : D) (s : S) : R (Option D × S) := (ofO (g d s)).bind fun s1 => (c s1).bind fun p => if p.1 = true then (e p.2).bind fun q => (ofO (asV q.1)).bind fun y => .ok (some y, wipeS q.2 vs) else .ok (none, wipeS p.2 vs)
theorem lcGo_step {gd : List (Nat × D)} {g : MG} {c : MT} {e : ME} {vs : List Nat} {d : D} {ds acc : List D} {s : S} (hh : hold gd s) {o : Option D} {s' : S} (h : stepLc g c e vs d s = .ok (o, s')) (hz : acc.length < 100000) : lcGo gd g c e vs (d :: ds) s acc = lcGo gd g c e vs ds s' (acc ++ o.toList) := by
  conv => lhs; unfold lcGo
  rw [if_pos hh]
  unfold stepLc at h
  cases e1 : g d s with
  | none => rw [e1] at h; simp at h
  | some s1 =>
    rw [e1] at h
    simp only [ofO_some, bind_ok] at h ⊢
    cases e2 : c s1 with
    | stuck => rw [e2] at h; simp at h
    | ex e' s'' => rw [e2] at h; simp at h
    | ok p =>
      rw [e2] at h
      simp only [bind_ok] at h ⊢
      by_cases hp : p.1 = true
      · rw [if_pos hp] at h
        rw [if_pos hp]
        cases e3 : e p.2 with
        | stuck => rw [e3] at h; simp at h
        | ex e' s'' => rw [e3] at h; simp at h
        | ok q =>
          rw [e3] at h
          simp only [bind_ok] at h ⊢
          cases e4 : q.1 with
          | bor i => rw [e4] at h; simp [asV] at h
          | val y =>
            rw [e4] at h
            simp [asV] at h
            obtain ⟨rfl, rfl⟩ := h
            simp [hz]
      · rw [if_neg hp] at h
        rw [if_neg hp]
        simp at h
        obtain ⟨rfl, rfl⟩ := h
        simp
inductive All2 {α β : Type} (P : α → β → Prop) : List α → List β → Prop where
  | nil : All2 P [] []
  | cons {a b as bs} : P a b → All2 P as bs → All2 P (a :: as) (b :: bs)
theorem lc_ind {gd : List (Nat × D)} {g : MG} {c : MT} {e : ME} {vs : List Nat} (Inv : S → Prop) (P : D → Option D → Prop) (hh : ∀ s, Inv s → hold gd s) : ∀ {items : List D}, (∀ d ∈ items, ∀ s, Inv s → ∃ o s', stepLc g c e vs d s = .ok (o, s') ∧ P d o ∧ Inv s') → ∀ {s : S} {acc : List D}, Inv s → acc.length + items.length ≤ 100000 →
    ∃ os s', lcGo gd g c e vs items s acc = .ok (acc ++ os.flatMap Option.toList, s') ∧ All2 P items os ∧ Inv s'
  | [], _, s, acc, hi, _ => ⟨[], s, by unfold lcGo; rw [if_pos (hh s hi)]; simp, .nil, hi⟩
  | d :: ds, h, s, acc, hi, hz => by
    obtain ⟨o, s1, e1, p1, i1⟩ := h d (by simp) s hi
    have hl : o.toList.length ≤ 1 := by cases o <;> simp
    obtain ⟨os, s2, e2, p2, i2⟩ := lc_ind Inv P hh (items := ds) (fun d' hd => h d' (by simp [hd])) (acc := acc ++ o.toList) i1 (by simp at hz ⊢; omega)
    refine ⟨o :: os, s2, ?_, .cons p1 p2, i2⟩
    rw [lcGo_step (hh s hi) e1 (by simp at hz; omega), e2]
    simp
/-- a comprehension without a test -/
theorem lc_all {gd : List (Nat × D)} {g : MG} {c : MT} {e : ME} {vs : List Nat} (Inv : S → Prop) (P : D → D → Prop) (hh : ∀ s, Inv s → hold gd s) {items : List D} (h : ∀ d ∈ items, ∀ s, Inv s → ∃ o s', stepLc g c e vs d s = .ok (some o, s') ∧ P d o ∧ Inv s') {s : S} (hi : Inv s) (hz : items.length ≤ 100000) :
    ∃ os s', lcGo gd g c e vs items s [] = .ok (os, s') ∧ All2 P items os ∧ Inv s' := by
  obtain ⟨os, s', e1, p, i⟩ := lc_ind (acc := []) Inv (fun d o => ∃ y, o = some y ∧ P d y) hh (fun d hd s hs => by
    obtain ⟨o, s', e, p, i⟩ := h d hd s hs
    exact ⟨some o, s', e, ⟨o, rfl, p⟩, i⟩) hi (by simpa using hz)
  refine ⟨_, s', by simpa using e1, ?_, i⟩
  clear e1 hz h
  induction p with
  | nil => exact .nil
  | cons hp _ ih =>
    obtain ⟨y, rfl, q⟩ := hp
    exact .cons q ih
theorem All2.map_eq {α β : Type} {f : α → β} {as : List α} {bs : List β} (h : All2 (fun a b => b = f a) as bs) : bs = as.map f := by
  induction h with
  | nil => rfl
  | cons h _ ih => rw [h, ih]; rfl
theorem All2.len {α β : Type} {P : α → β → Prop} {as : List α} {bs : List β} (h : All2 P as bs) : bs.length = as.length := by
  induction h with
  | nil => rfl
  | cons _ _ ih => simp [ih]
theorem All2.imp {α β : Type} {P Q : α → β → Prop} {as : List α} {bs : List β} (h : All2 P as bs) (f : ∀ a b, a ∈ as → P a b → Q a b) : All2 Q as bs := by
  induction h with
  | nil => exact .nil
  | cons hp _ ih => exact .cons (f _ _ (by simp) hp) (ih fun a b ha => f a b (by simp [ha]))
/-- a pure comprehension: its list, nothing changes -/
theorem lc_pure {gd : List (Nat × D)} {g : MG} {c : MT} {e : ME} {vs : List Nat} {s : S} (f : D → D) (hh : hold gd s) {items : List D} (h : ∀ d ∈ items, stepLc g c e vs d s = .ok (some (f d), s)) (hz : items.length ≤ 100000) : lcGo gd g c e vs items s [] = .ok (items.map f, s) := by
  obtain ⟨os, s', e1, p, i⟩ := lc_all (gd := gd) (g := g) (c := c) (e := e) (vs := vs) (fun s1 => s1 = s) (fun a b => b = f a) (fun s1 h1 => h1 ▸ hh) (items := items) (fun d hd s1 h1 => ⟨f d, s1, by rw [h1]; exact h d hd, rfl, h1⟩) rfl hz
  rw [e1, p.map_eq, i]
/-- with a test -/
theorem lc_filter {gd : List (Nat × D)} {g : MG} {c : MT} {e : ME} {vs : List Nat} {s : S} (f : D → Option D) (hh : hold gd s) {items : List D} (h : ∀ d ∈ items, stepLc g c e vs d s = .ok (f d, s)) (hz : items.length ≤ 100000) : lcGo gd g c e vs items s [] = .ok (items.filterMap f, s) := by
  obtain ⟨os, s', e1, p, i⟩ := lc_ind (gd := gd) (g := g) (c := c) (e := e) (vs := vs) (acc := []) (fun s1 => s1 = s) (fun a b => b = f a) (fun s1 h1 => h1 ▸ hh) (items := items) (fun d hd s1 h1 => ⟨f d, s1, by rw [h1]; exact h d hd, rfl, h1⟩) rfl (by simpa using hz)
  rw [e1, p.map_eq, i]
  congr 2
  clear e1 p hz h
  induction items with
  | nil => rfl
  | cons a as ih =>
    rw [List.map_cons, List.flatMap_cons, List.filterMap_cons]
    cases f a <;> simp at ih ⊢ <;> exact ih
end Mi

namespace Mi
open PySem PySem.Spec PyProof.Rows L2
/-! ### data that can be shown, and how long its text is -/
def shw (d : D) : Str := ((toP d).getD .none).shown
def Sm (n dp : Nat) (d : D) : Prop := ∃ p, toP d = some p ∧ p.showable = true ∧ p.depth ≤ dp ∧ p.shown.length ≤ n
theorem Sm.mono {n m dp dq : Nat} {d : D} (h : Sm n dp d) (h1 : n ≤ m) (h2 : dp ≤ dq) : Sm m dq d := by
  obtain ⟨p, a, b, c, e⟩ := h
  exact ⟨p, a, b, by omega, by omega⟩
theorem sm_non : Sm 5 0 .non := ⟨.none, rfl, rfl, Nat.le_refl _, by decide +kernel⟩
theorem sm_bl (b : Bool) : Sm 5 0 (.bl b) := ⟨.bool b, rfl, rfl, Nat.le_refl _, by cases b <;> decide +kernel⟩
theorem sm_int {i : Int} {n : Nat} (h : i.natAbs < 2 ^ n) (h0 : 0 < n := by decide) (h1 : n ≤ 1900 := by decide) : Sm (n + 1) 0 (.int i) := by
  have lg : i.natAbs.log2 < n := PySem.Flt.log2_lt_of h0 h
  refine ⟨.int i, rfl, decide_eq_true (by omega), Nat.le_refl _, ?_⟩
  have e := PySem.int_text_length_le (k := n) h0 lg
  show (Str.ofString (toString i)).length ≤ _
  rw [PySem.ofString_length]
  exact e
theorem sm_str {x : Str} {n : Nat} (h : Z.Okc x) (hn : x.length ≤ n) : Sm (10 * n + 2) 0 (.str x) := ⟨.str x, rfl, rfl, Nat.le_refl _, Z.rep_le h hn⟩
theorem sms {n dp : Nat} : ∀ {ds : List D}, (∀ d ∈ ds, Sm n dp d) → ∃ ps, toPs ds = some ps ∧ PyData.showableAll ps = true ∧ PyData.depthAll ps ≤ dp ∧ ((PyData.shownAll ps).map (·.length)).sum ≤ ds.length * n ∧ (PyData.shownAll ps).length = ds.length
  | [], _ => ⟨[], rfl, rfl, Nat.zero_le _, by simp [PyData.shownAll], rfl⟩
  | d :: ds, h => by
    obtain ⟨ps, a1, a2, a3, a4, a5⟩ := sms (ds := ds) fun x hx => h x (by simp [hx])
    obtain ⟨p, b1, b2, b3, b4⟩ := h d (by simp)
    refine ⟨p :: ps, by simp [toPs, a1, b1], by simp [PyData.showableAll, a2, b2], by simp only [PyData.depthAll]; omega, ?_, by simp [PyData.shownAll, a5]⟩
    simp only [PyData.shownAll, List.map_cons, List.sum_cons, List.length_cons, Nat.succ_mul]
    omega
theorem sm_lst {n dp : Nat} {ds : List D} (h : ∀ d ∈ ds, Sm n dp d) : Sm (ds.length * (n + 2) + 3) (dp + 1) (.lst ds) := by
  obtain ⟨ps, a1, a2, a3, a4, a5⟩ := sms h
  refine ⟨.list ps, by simp [toP, a1], by simpa [PyData.showable] using a2, by simp only [PyData.depth]; omega, ?_⟩
  have z := listText_len_le (PyData.shownAll ps)
  have e : ds.length * (n + 2) = ds.length * n + 2 * ds.length := by rw [Nat.mul_add]; omega
  simp only [PyData.shown]
  omega
theorem sm_tup {n dp : Nat} {ds : List D} (h : ∀ d ∈ ds, Sm n dp d) : Sm (ds.length * (n + 2) + 3) (dp + 1) (.tup ds) := by
  obtain ⟨ps, a1, a2, a3, a4, a5⟩ := sms h
  refine ⟨.tuple ps, by simp [toP, a1], by simpa [PyData.showable] using a2, by simp only [PyData.depth]; omega, ?_⟩
  have z := tupleText_len_le (PyData.shownAll ps)
  have e : ds.length * (n + 2) = ds.length * n + 2 * ds.length := by rw [Nat.mul_add]; omega
  simp only [PyData.shown]
  omega
theorem repr_lst {ds : List D} {n dp : Nat} (h : Sm n dp (.lst ds)) (h1 : n ≤ 100000 := by decide) (h2 : dp ≤ 60 := by decide) : fRepr (.lst ds) = some (.str (shw (.lst ds))) := by
  obtain ⟨p, a, b, c, e⟩ := h
  unfold fRepr shw
  rw [a]
  exact if_pos ⟨b, by omega, by omega⟩
theorem repr_tup {ds : List D} {n dp : Nat} (h : Sm n dp (.tup ds)) (h1 : n ≤ 100000 := by decide) (h2 : dp ≤ 60 := by decide) : fRepr (.tup ds) = some (.str (shw (.tup ds))) := by
  obtain ⟨p, a, b, c, e⟩ := h
  unfold fRepr shw
  rw [a]
  exact if_pos ⟨b, by omega, by omega⟩
/-- plain leaves -/
def leafB : D → Bool
  | .non => true
  | .bl _ => true
  | .int i => decide (i.natAbs < 2 ^ 1000)
  | _ => false
theorem sm_leaf {d : D} (h : leafB d = true) : Sm 1001 0 d := by
  cases d <;> first | cases h | skip
  · exact sm_non.mono (by decide) (Nat.le_refl _)
  · exact (sm_bl _).mono (by decide) (Nat.le_refl _)
  · exact sm_int (of_decide_eq_true h)
theorem repr_leaves {ds : List D} (h : ds.all leafB = true) (hl : ds.length ≤ 90) : fRepr (.lst ds) = some (.str (shw (.lst ds))) := by
  refine repr_lst (n := 90 * 1003 + 3) ((sm_lst fun d hd => sm_leaf (List.all_eq_true.mp h d hd)).mono ?_ (Nat.le_refl _)) (by decide) (by decide)
  have := Nat.mul_le_mul_right 1003 hl
  omega
/-! ### trees of integers -/
mutual
def intB : D → Bool
  | .int _ => true
  | .lst ds => intsB ds
  | .tup ds => intsB ds
  | _ => false
def intsB : List D → Bool
  | [] => true
  | d :: ds => intB d && intsB ds
end
mutual
def dep : D → Nat
  | .lst ds => deps ds + 1
  | .tup ds => deps ds + 1
  | _ => 0
def deps : List D → Nat
  | [] => 0
  | d :: ds => max (dep d) (deps ds)
end
mutual
theorem int_lay : ∀ {d : D}, intB d = true → ∃ p, toP d = some p ∧ p.canLay0 = true ∧ p.depth = dep d
  | .int i, _ => ⟨.int i, rfl, rfl, rfl⟩
  | .lst ds, h => by
    obtain ⟨ps, a, b, c⟩ := ints_lay (ds := ds) (by simpa [intB] using h)
    exact ⟨.list ps, by simp [toP, a], by simpa [PyData.canLay0] using b, by simp [PyData.depth, dep, c]⟩
  | .tup ds, h => by
    obtain ⟨ps, a, b, c⟩ := ints_lay (ds := ds) (by simpa [intB] using h)
    exact ⟨.tuple ps, by simp [toP, a], by simpa [PyData.canLay0] using b, by simp [PyData.depth, dep, c]⟩
  | .non, h => by simp [intB] at h
  | .bl _, h => by simp [intB] at h
  | .str _, h => by simp [intB] at h
  | .ty _, h => by simp [intB] at h
  | .cls _, h => by simp [intB] at h
  | .pot, h => by simp [intB] at h
  | .dct _ _, h => by simp [intB] at h
  | .obj _ _ _, h => by simp [intB] at h
theorem ints_lay : ∀ {ds : List D}, intsB ds = true → ∃ ps, toPs ds = some ps ∧ PyData.canLayAll0 ps = true ∧ PyData.depthAll ps = deps ds
  | [], _ => ⟨[], rfl, rfl, rfl⟩
  | d :: ds, h => by
    simp only [intsB, Bool.and_eq_true] at h
    obtain ⟨p, a, b, c⟩ := int_lay h.1
    obtain ⟨ps, a2, b2, c2⟩ := ints_lay h.2
    exact ⟨p :: ps, by simp [toPs, a, a2], by simp [PyData.canLayAll0, b, b2], by simp [PyData.depthAll, deps, c, c2]⟩
end
mutual
theorem int_eqv : ∀ {d e : D} {p q : PyData}, intB d = true → intB e = true → toP d = some p → toP e = some q → (PyData.eqv p q = true ↔ d = e)
  | .int i, e, p, q, _, he, h1, h2 => by
    cases h1
    cases e <;> first | (simp [intB] at he; done) | skip
    · cases h2; simp [PyData.eqv]
    · simp only [toP, Option.map_eq_some_iff] at h2; obtain ⟨_, _, rfl⟩ := h2; simp [PyData.eqv]
    · simp only [toP, Option.map_eq_some_iff] at h2; obtain ⟨_, _, rfl⟩ := h2; simp [PyData.eqv]
  | .lst ds, e, p, q, hd, he, h1, h2 => by
    simp only [toP, Option.map_eq_some_iff] at h1
    obtain ⟨ps, e1, rfl⟩ := h1
    cases e <;> first | (simp [intB] at he; done) | skip
    · cases h2; simp [PyData.eqv]
    · simp only [toP, Option.map_eq_some_iff] at h2
      obtain ⟨qs, e2, rfl⟩ := h2
      simp only [PyData.eqv, D.lst.injEq]
      exact ints_eqv (by simpa [intB] using hd) (by simpa [intB] using he) e1 e2
    · simp only [toP, Option.map_eq_some_iff] at h2; obtain ⟨_, _, rfl⟩ := h2; simp [PyData.eqv]
  | .tup ds, e, p, q, hd, he, h1, h2 => by
    simp only [toP, Option.map_eq_some_iff] at h1
    obtain ⟨ps, e1, rfl⟩ := h1
    cases e <;> first | (simp [intB] at he; done) | skip
    · cases h2; simp [PyData.eqv]
    · simp only [toP, Option.map_eq_some_iff] at h2; obtain ⟨_, _, rfl⟩ := h2; simp [PyData.eqv]
    · simp only [toP, Option.map_eq_some_iff] at h2
      obtain ⟨qs, e2, rfl⟩ := h2
      simp only [PyData.eqv, D.tup.injEq]
      exact ints_eqv (by simpa [intB] using hd) (by simpa [intB] using he) e1 e2
  | .non, _, _, _, h, _, _, _ => by simp [intB] at h
  | .bl _, _, _, _, h, _, _, _ => by simp [intB] at h
  | .str _, _, _, _, h, _, _, _ => by simp [intB] at h
  | .ty _, _, _, _, h, _, _, _ => by simp [intB] at h
  | .cls _, _, _, _, h, _, _, _ => by simp [intB] at h
  | .pot, _, _, _, h, _, _, _ => by simp [intB] at h
  | .dct _ _, _, _, _, h, _, _, _ => by simp [intB] at h
  | .obj _ _ _, _, _, _, h, _, _, _ => by simp [intB] at h
theorem ints_eqv : ∀ {ds es : List D} {ps qs : List PyData}, intsB ds = true → intsB es = true → toPs ds = some ps → toPs es = some qs → (PyData.eqvAll ps qs = true ↔ ds = es)
  | [], [], ps, qs, _, _, h1, h2 => by cases h1; cases h2; simp [PyData.eqvAll]
  | [], e :: es, ps, qs, _, he, h1, h2 => by
    cases h1
    simp only [intsB, Bool.and_eq_true] at he
    obtain ⟨q, a, _⟩ := int_lay he.1
    obtain ⟨qs', a2, _⟩ := ints_lay he.2
    simp [toPs, a, a2] at h2
    subst h2
    simp [PyData.eqvAll]
  | d :: ds, [], ps, qs, hd, _, h1, h2 => by
    cases h2
    simp only [intsB, Bool.and_eq_true] at hd
    obtain ⟨q, a, _⟩ := int_lay hd.1
    obtain ⟨qs', a2, _⟩ := ints_lay hd.2
    simp [toPs, a, a2] at h1
    subst h1
    simp [PyData.eqvAll]
  | d :: ds, e :: es, ps, qs, hd, he, h1, h2 => by
    simp only [intsB, Bool.and_eq_true] at hd he
    obtain ⟨p, a, _⟩ := int_lay hd.1
    obtain ⟨ps', a2, _⟩ := ints_lay hd.2
    obtain ⟨q, b, _⟩ := int_lay he.1
    obtain ⟨qs', b2, _⟩ := ints_lay he.2
    simp [toPs, a, a2] at h1
    simp [toPs, b, b2] at h2
    subst h1 h2
    have z1 := int_eqv hd.1 he.1 a b
    have z2 := ints_eqv hd.2 he.2 a2 b2
    simp only [PyData.eqvAll, Bool.and_eq_true, List.cons.injEq, z1, z2]
end
noncomputable instance decEqOf (a b : D) : Decidable (a = b) := Classical.propDecidable _
theorem int_shaped {d : D} {p : PyData} (h : intB d = true) (hd : dep d ≤ 64) (e : toP d = some p) : SeqAt.shaped p = true := by
  obtain ⟨q, a, b, c⟩ := int_lay h
  rw [e] at a
  cases a
  exact shaped_flat b (by omega)
theorem fEq_ints {a b : D} (ha : intB a = true) (hb : intB b = true) (da : dep a ≤ 64) (db : dep b ≤ 64) : fEq a b = some (.bl (decide (a = b))) := by
  obtain ⟨p, e1, _⟩ := int_lay ha
  obtain ⟨q, e2, _⟩ := int_lay hb
  have z := int_eqv ha hb e1 e2
  unfold fEq
  rw [e1, e2]
  show (if _ then _ else _) = _
  rw [if_pos ⟨int_shaped ha da e1, int_shaped hb db e2⟩]
  congr 2
  by_cases h : a = b
  · rw [decide_eq_true h]; exact z.mpr h
  · rw [decide_eq_false h]; exact Bool.eq_false_iff.mpr fun t => h (z.mp t)
theorem fNe_ints {a b : D} (ha : intB a = true) (hb : intB b = true) (da : dep a ≤ 64) (db : dep b ≤ 64) : fNe a b = some (.bl (!decide (a = b))) := by
  obtain ⟨p, e1, _⟩ := int_lay ha
  obtain ⟨q, e2, _⟩ := int_lay hb
  have z := int_eqv ha hb e1 e2
  unfold fNe
  rw [e1, e2]
  show (if _ then _ else _) = _
  rw [if_pos ⟨int_shaped ha da e1, int_shaped hb db e2⟩]
  congr 3
  by_cases h : a = b
  · rw [decide_eq_true h]; exact z.mpr h
  · rw [decide_eq_false h]; exact Bool.eq_false_iff.mpr fun t => h (z.mp t)
theorem toPs_any {x : D} {p : PyData} (hx : intB x = true) (ex : toP x = some p) : ∀ {ds : List D} {ps : List PyData}, intsB ds = true → toPs ds = some ps → (ps.map fun z => PyData.eqv z p) = ds.map fun d => decide (d = x)
  | [], ps, _, e => by cases e; rfl
  | d :: ds, ps, h, e => by
    simp only [intsB, Bool.and_eq_true] at h
    obtain ⟨q, a, _⟩ := int_lay h.1
    obtain ⟨qs, a2, _⟩ := ints_lay h.2
    simp [toPs, a, a2] at e
    subst e
    rw [List.map_cons, List.map_cons, toPs_any hx ex h.2 a2]
    congr 1
    have z := int_eqv h.1 hx a ex
    by_cases c : d = x
    · rw [decide_eq_true c]; exact z.mpr c
    · rw [decide_eq_false c]; exact Bool.eq_false_iff.mpr fun t => c (z.mp t)
theorem fInD_ints {x : D} {ds : List D} (hx : intB x = true) (hd : intsB ds = true) (dx : dep x ≤ 64) (dd : deps ds ≤ 63) : fInD x (.lst ds) = some (.bl ((ds.map fun d => decide (d = x)).any id)) := by
  obtain ⟨p, e1, _⟩ := int_lay hx
  obtain ⟨ps, e2, b, c⟩ := ints_lay hd
  have z := toPs_any hx e1 hd e2
  unfold fInD
  rw [e1]
  have e3 : toP (.lst ds) = some (.list ps) := by simp [toP, e2]
  rw [e3]
  show (if _ then _ else _) = _
  rw [if_pos ⟨int_shaped hx dx e1, shaped_flat (by simpa [PyData.canLay0] using b) (by simp only [PyData.depth]; omega)⟩, ← z]
  simp [List.any_map]
theorem fIndexD_ints {x : D} {ds : List D} (hx : intB x = true) (hd : intsB ds = true) (dx : dep x ≤ 64) (dd : deps ds ≤ 63) : fIndexD (.lst ds) x = (idxB (ds.map fun d => decide (d = x))).map fun j => .int (j : Nat) := by
  obtain ⟨p, e1, _⟩ := int_lay hx
  obtain ⟨ps, e2, b, c⟩ := ints_lay hd
  have z := toPs_any hx e1 hd e2
  unfold fIndexD
  rw [e1]
  have e3 : toP (.lst ds) = some (.list ps) := by simp [toP, e2]
  rw [e3]
  show (if _ then _ else _) = _
  rw [if_pos ⟨int_shaped hx dx e1, shaped_flat (by simpa [PyData.canLay0] using b) (by simp only [PyData.depth]; omega)⟩]
  unfold firstP
  rw [z]
theorem idxB_ex {bs : List Bool} (h : true ∈ bs) : ∃ j, idxB bs = some j ∧ j < bs.length := by
  induction bs with
  | nil => cases h
  | cons b bs ih =>
    cases b with
    | true => exact ⟨0, rfl, by simp⟩
    | false =>
      obtain ⟨j, e, hj⟩ := ih (by simpa using h)
      exact ⟨j + 1, by simp [idxB, e], by simp; omega⟩
end Mi

namespace Mi
open PySem PySem.Spec PyProof.Rows L2
/-! ### comprehensions and loops over a list that is told by another one -/
section
variable {α : Type} {gd : List (Nat × D)} {g : MG} {c : MT} {e : ME} {vs : List Nat}
theorem lc_mapf' (h : α → D) (f : α → Option D) {s : S} (hh : hold gd s) : ∀ {ps : List α}, (∀ a ∈ ps, stepLc g c e vs (h a) s = .ok (f a, s)) → ∀ {acc : List D}, acc.length + ps.length ≤ 100000 → lcGo gd g c e vs (ps.map h) s acc = .ok (acc ++ ps.filterMap f, s)
  | [], _, acc, _ => by simp [lcGo, hh]
  | a :: ps, hs, acc, hz => by
    rw [List.map_cons, lcGo_step hh (hs a (by simp)) (by simp at hz; omega), lc_mapf' h f hh (fun b hb => hs b (by simp [hb])) (by simp at hz ⊢; cases f a <;> simp <;> omega), List.filterMap_cons]
    cases f a <;> simp
theorem lc_mapf (h : α → D) (f : α → Option D) {s : S} (hh : hold gd s) {ps : List α} (hs : ∀ a ∈ ps, stepLc g c e vs (h a) s = .ok (f a, s)) (hz : ps.length ≤ 100000) : lcGo gd g c e vs (ps.map h) s [] = .ok (ps.filterMap f, s) := by
  rw [lc_mapf' h f hh hs (by simpa using hz), List.nil_append]
theorem lc_mapp (h f : α → D) {s : S} (hh : hold gd s) {ps : List α} (hs : ∀ a ∈ ps, stepLc g c e vs (h a) s = .ok (some (f a), s)) (hz : ps.length ≤ 100000) : lcGo gd g c e vs (ps.map h) s [] = .ok (ps.map f, s) := by
  rw [lc_mapf h (fun a => some (f a)) hh hs hz, List.filterMap_eq_map']
theorem lc_mapx' (Inv : S → Prop) (h f : α → D) (hh : ∀ s, Inv s → hold gd s) : ∀ {ps : List α}, (∀ a ∈ ps, ∀ s, Inv s → ∃ s', stepLc g c e vs (h a) s = .ok (some (f a), s') ∧ Inv s') → ∀ {acc : List D} {s : S}, Inv s → acc.length + ps.length ≤ 100000 → ∃ s', lcGo gd g c e vs (ps.map h) s acc = .ok (acc ++ ps.map f, s') ∧ Inv s'
  | [], _, acc, s, hi, _ => ⟨s, by simp [lcGo, hh s hi], hi⟩
  | a :: ps, hs, acc, s, hi, hz => by
    obtain ⟨s1, e1, i1⟩ := hs a (by simp) s hi
    obtain ⟨s2, e2, i2⟩ := lc_mapx' Inv h f hh (ps := ps) (fun b hb => hs b (by simp [hb])) (acc := acc ++ [f a]) i1 (by simp at hz ⊢; omega)
    refine ⟨s2, ?_, i2⟩
    rw [List.map_cons, lcGo_step (hh s hi) e1 (by simp at hz; omega)]
    simp only [Option.toList]
    rw [e2]
    simp
theorem lc_mapx (Inv : S → Prop) (h f : α → D) (hh : ∀ s, Inv s → hold gd s) {ps : List α} (hs : ∀ a ∈ ps, ∀ s, Inv s → ∃ s', stepLc g c e vs (h a) s = .ok (some (f a), s') ∧ Inv s') {s : S} (hi : Inv s) (hz : ps.length ≤ 100000) : ∃ s', lcGo gd g c e vs (ps.map h) s [] = .ok (ps.map f, s') ∧ Inv s' := by
  obtain ⟨s', e1, i1⟩ := lc_mapx' (acc := []) Inv h f hh hs hi (by simpa using hz)
  exact ⟨s', by simpa using e1, i1⟩
/-- a for over it -/
theorem for_map {b : MS} (Inv : S → Prop) (h : α → D) (hh : ∀ s, Inv s → hold gd s) : ∀ {ps : List α}, (∀ a ∈ ps, ∀ s, Inv s → ∃ s1 s2, g (h a) s = some s1 ∧ (b s1 = .ok (.nx, s2) ∨ b s1 = .ok (.ct, s2)) ∧ Inv s2) → ∀ {s : S}, Inv s → ∃ s', forGo gd g b (ps.map h) s = .ok (.nx, s') ∧ Inv s'
  | [], _, s, hi => ⟨s, by simp [forGo, hh s hi], hi⟩
  | a :: ps, hs, s, hi => by
    obtain ⟨s1, s2, e1, e2, i2⟩ := hs a (by simp) s hi
    obtain ⟨s3, e3, i3⟩ := for_map Inv h hh (ps := ps) (fun b hb => hs b (by simp [hb])) i2
    refine ⟨s3, ?_, i3⟩
    rw [List.map_cons]
    unfold forGo
    rw [if_pos (hh s hi), e1]
    rcases e2 with e2 | e2 <;> simp [e2, e3]
end
theorem zip_map {α : Type} (f g : α → D) : ∀ ps : List α, zipItems (ps.map f) (ps.map g) = ps.map fun a => .tup [f a, g a]
  | [] => rfl
  | a :: ps => by simp [zipItems, zip_map f g ps]
theorem enum_map {α : Type} (f : α → D) : ∀ (ps : List α) (k : Nat), ∃ qs : List (Nat × α), enumItems k (ps.map f) = qs.map (fun q => .tup [.int (q.1 : Nat), f q.2]) ∧ ∀ q ∈ qs, k ≤ q.1 ∧ ps[q.1 - k]? = some q.2
  | [], k => ⟨[], rfl, by simp⟩
  | a :: ps, k => by
    obtain ⟨qs, e, h⟩ := enum_map f ps (k + 1)
    refine ⟨(k, a) :: qs, by simp [enumItems, e], fun q hq => ?_⟩
    rcases List.mem_cons.mp hq with rfl | hq
    · exact ⟨Nat.le_refl _, by simp⟩
    · obtain ⟨h1, h2⟩ := h q hq
      refine ⟨by omega, ?_⟩
      rw [show q.1 - k = (q.1 - (k + 1)) + 1 by omega]
      simpa using h2
theorem cut_map {α : Type} (f : α → D) (ps : List α) (lo hi : Option Int) : cutD (ps.map f) lo hi = (cutD ps lo hi).map f := by
  simp [cutD, List.map_take, List.map_drop]
theorem atI_last {α : Type} (xs : List α) (x : α) : atI (xs ++ [x]) (-1) = some x := by
  simp [atI, ixN]
  rw [if_pos (by omega)]
  have : (-1 + ((xs.length : Int) + 1)).toNat = xs.length := by omega
  simp [this]
theorem atI_map {α β : Type} (f : α → β) (ps : List α) (i : Nat) (a : α) (h : ps[i]? = some a) : atI (ps.map f) (i : Int) = some (f a) := atI_nat (by simp [h])
theorem allB_bl {α : Type} (f : α → Bool) : ∀ ps : List α, allB (ps.map fun a => .bl (f a)) = some (ps.map f)
  | [] => rfl
  | a :: ps => by simp [allB, allB_bl f ps]
theorem mapR_map {α : Type} {R : D → D → Option Bool} {x : D} (f : α → D) (b : α → Bool) : ∀ {ps : List α}, (∀ a ∈ ps, R (f a) x = some (b a)) → mapR R x (ps.map f) = some (ps.map b)
  | [], _ => rfl
  | a :: ps, h => by simp [mapR, h a (by simp), mapR_map f b (ps := ps) (fun c hc => h c (by simp [hc]))]
theorem intsB_map {α : Type} {f : α → D} (h : ∀ a, intB (f a) = true) : ∀ ps : List α, intsB (ps.map f) = true
  | [] => rfl
  | a :: ps => by simp [intsB, h a, intsB_map h ps]
theorem deps_map {α : Type} {f : α → D} {n : Nat} (h : ∀ a, dep (f a) ≤ n) : ∀ ps : List α, deps (ps.map f) ≤ n
  | [] => Nat.zero_le _
  | a :: ps => by have := h a; have := deps_map h ps; simp only [List.map_cons, deps]; omega
theorem range0 (n : Nat) : rangeItems 0 n = (List.range n).map fun (i : Nat) => D.int (i : Int) := by simp [rangeItems]
end Mi

namespace Z
open PySem PySem.Spec PyProof.Rows L2
open PySem.W (Frag)
/-! ### slices with a step -/
def pickL {α : Type} (xs : List α) (lo hi st : Option Int) : List α := (sliceRange (sliceBounds lo hi st xs.length).1 (sliceBounds lo hi st xs.length).2.1 (sliceBounds lo hi st xs.length).2.2).filterMap (xs[·]?)
theorem vals_pick {xs : List V} {us : List Value} (r : Vals xs us) : ∀ ns : List Nat, Vals (ns.filterMap (xs[·]?)) (ns.filterMap (us[·]?))
  | [] => .nil
  | n :: ns => by
    rw [List.filterMap_cons, List.filterMap_cons]
    cases e : xs[n]? with
    | none =>
      have : us[n]? = none := by
        rw [List.getElem?_eq_none_iff] at e ⊢
        rw [← r.length]
        exact e
      rw [this]
      exact vals_pick r ns
    | some x =>
      obtain ⟨u, e2, r2⟩ := r.get e
      rw [e2]
      exact .cons r2 (vals_pick r ns)
theorem vals_pickL {xs : List V} {us : List Value} (r : Vals xs us) (lo hi st : Option Int) : Vals (pickL xs lo hi st) (pickL us lo hi st) := by
  unfold pickL
  rw [r.length]
  exact vals_pick r _
theorem pick_len {us : List Value} (lo hi st : Option Int) : (pickL us lo hi st).length ≤ us.length := by
  have := slicePick_size_le us.toArray lo hi st
  unfold slicePick at this
  simp only [List.size_toArray] at this
  unfold pickL
  simpa using this
section
variable {X : Cx} {e st : Expr} {te : TE} {lo hi : Option Expr} {tl th ts : TO} {pos p2 : Pos} {K : Frag}
def tSlS (r : V → Option Int → Option Int → Option Int → Hp → VK → Prop) (te : TE) (tl th ts : TO) : TE := fun σ H Q => te σ H fun x H1 => tl σ H1 fun l H2 => th σ H2 fun u H3 => ts σ H3 fun c H4 => r x l u c H4 Q
def rSlSL (K : Frag) : V → Option Int → Option Int → Option Int → Hp → VK → Prop := fun x lo hi st H Q => ∃ a xs, x = .ref a ∧ SqL K H a xs ∧ st ≠ some 0 ∧ ∀ p, H p = none → Q (.ref p) (upd H p (.lst (pickL xs lo hi st)))
theorem pe_sliceS (hK : X.K = K) (he : PE X e te) (hl : PO X lo tl) (hu : PO X hi th) (hs : PO X (some st) ts) : PE X (.Subscript e (.Slice lo hi (some st) p2) pos) (tSlS (rSlSL K) te tl th ts) := by
  subst hK
  refine ⟨fun pins s σ H Q I h => ?_⟩
  refine Subscript_ (thn (he.run pins s σ H _ I h) fun v s1 ⟨x, H1, I1, r1, q1⟩ => ?_)
  refine wpAny_Slice (thn (hl.run pins s1 σ H1 _ I1 q1) fun vl s2 ⟨l, H2, I2, pl, q2⟩ => thn (hu.run pins s2 σ H2 _ I2 q2) fun vu s3 ⟨u, H3, I3, pu, q3⟩ => ?_)
  refine thn (hs.run pins s3 σ H3 _ I3 q3) fun vs s4 ⟨c, H4, I4, ps, q4⟩ => ?_
  have I5 : Inv X pins σ H4 { s4 with heap := s4.heap.push { cls := .type "slice", data := .fields #[vl, vu, vs] } } := I4.kept (t' := s4.toks) fun b ob q => Heap.get?_push_of_some _ q
  obtain ⟨a, xs, rfl, hx, h0, q⟩ := q4
  cases r1
  obtain ⟨its, r, ht, hz⟩ := I5.list hx
  have hlen := r.length
  show wpAny (model X.prog X.w) X.A (subscriptTail e (.Slice lo hi (some st) p2) (.ref a) (.ref s4.heap.objs.size)) (EP X pins σ Q) X.xe { s4 with heap := s4.heap.push { cls := .type "slice", data := .fields #[vl, vu, vs] } }
  refine tail_any (ops := [.ref a, .ref s4.heap.objs.size]) ht.isList.typeIs slot_list_getitem.lookup ?_ (by with_unfolding_all rfl)
  refine wpAny_getItem_list_slice ht.isList (Heap.IsSliceOf.new ..) pl pu ps h0 ?_ (by rw [List.size_toArray] <;> omega)
  refine ⟨.ref _, _, I5.laid (t' := s4.toks) (o := .lst (pickL xs l u c)) (fun b ob q => Heap.get?_push_of_some _ q) (Nat.le_refl _) ?_, rfl, q _ (I5.hok.fresh (Nat.le_refl _))⟩
  have hv := vals_pickL r l u c
  have e2 : slicePick its.toArray l u c = (pickL its l u c).toArray := by
    unfold slicePick pickL
    simp
  rw [e2]
  exact ⟨by rw [hv.length]; exact Nat.le_trans (pick_len (us := its) l u c) (by omega), _, 0, hv, Heap.get?_push_size _ rfl⟩
def pickT {α : Type} (xs : List α) (lo hi : Option Int) (c : Int) : List α := (List.range (Builtin.Slice.slicePlaces (Builtin.Slice.sliceAdjust lo hi c (xs.length : Int)).1 (Builtin.Slice.sliceAdjust lo hi c (xs.length : Int)).2 c)).filterMap fun (m : Nat) => xs[((Builtin.Slice.sliceAdjust lo hi c (xs.length : Int)).1 + (m : Int) * c).toNat]?
section
variable {prog : Program} {w : World} {A : Around} {E : Value → Shared → Prop} {s : Shared}
theorem sliceApplied_st {sl : Addr} {vl vu vs : Value} {lo hi : Option Int} {c : Int} {n : Nat} {Q : Int × Int × Nat → Shared → Prop} (hs : s.heap.IsSliceOf sl vl vu vs) (pl : IsPart vl lo) (pu : IsPart vu hi) (ps : IsPart vs (some c)) (h0 : c ≠ 0)
    (h : Q ((Builtin.Slice.sliceAdjust lo hi c (n : Int)).1, c, Builtin.Slice.slicePlaces (Builtin.Slice.sliceAdjust lo hi c (n : Int)).1 (Builtin.Slice.sliceAdjust lo hi c (n : Int)).2 c) s) : wpAny (model prog w) A (Builtin.Slice.sliceApplied (.ref sl) (pure (n : Int))) Q E s := by
  obtain ⟨os, hos, hcs, hds⟩ := id hs
  unfold Builtin.Slice.sliceApplied Builtin.Slice.sliceFields
  refine wpAny_bind (wpAny_bind (wpAny_field hos hds (x := vl) rfl (wpAny_bind (wpAny_field hos hds (x := vu) rfl (wpAny_bind (wpAny_field hos hds (x := vs) rfl (wpAny_pure ?_)))))))
  refine wpAny_bind (HT.slicePart_ ps ?_)
  show wpAny _ _ (if (c == 0) = true then _ else _) _ _ s
  rw [if_neg (by simpa using h0)]
  refine wpAny_bind (HT.slicePart_ pl (wpAny_bind (HT.slicePart_ pu (wpAny_bind (wpAny_pure ?_)))))
  exact wpAny_pure h
theorem getItem_tuple_st {t sl : Addr} {items : Array Value} {vl vu vs : Value} {lo hi : Option Int} {c : Int} {Q : Value → Shared → Prop} (ht : IsTup s.heap t items) (hs : s.heap.IsSliceOf sl vl vu vs) (pl : IsPart vl lo) (pu : IsPart vu hi) (ps : IsPart vs (some c)) (h0 : c ≠ 0) (h1 : c ≠ 1)
    (htake : (pickT items.toList lo hi c).length ≤ sizeLine)
    (h : Q (.ref s.heap.objs.size) { s with heap := s.heap.push { cls := .type "tuple", data := .seq (pickT items.toList lo hi c).toArray } }) : wpAny (model prog w) A (getItem (.ref t) (.ref sl)) Q E s := by
  obtain ⟨os, hos, hcs, hds⟩ := id hs
  have hTs : s.TypeIs (.ref sl) "slice" := ⟨os, hos, hcs⟩
  have htk : sizeOk (.seq (pickT items.toList lo hi c).toArray) := by
    show (pickT items.toList lo hi c).toArray.size ≤ sizeLine
    rw [List.size_toArray]
    exact htake
  unfold getItem
  try with_reducible refine wpAny_holding ?_
  first | refine wpAny_bind (wpAny_pure ?_) | skip
  refine wpAny_bind (wpAny_sequenceKey ht.typeIs (by decide) ?_)
  refine wpAny_bind (wpAny_callSpecial?_slot (name := Str.ofString "__getitem__") ht.typeIs PyProof.Rows.slot_tuple_getitem
    (wpAny_call_entry PyProof.Rows.slot_tuple_getitem ht.typeIs entry_tuple_getitem ?_ (args_tuple_getitem _ _)))
  show wpAny _ _ (Builtin.Tuple.tupleItemsOf (.ref t) >>= _) _ _ s
  refine wpAny_bind (tupleItemsOf_ ht ?_)
  refine wpAny_bind (wpAny_typeOf hTs ?_)
  rw [if_pos (by decide)]
  refine wpAny_bind (sliceApplied_st hs pl pu ps h0 ?_)
  generalize ea : (Builtin.Slice.sliceAdjust lo hi c (items.size : Int)).1 = a
  generalize eb : (Builtin.Slice.sliceAdjust lo hi c (items.size : Int)).2 = b
  have e : ((List.range (Builtin.Slice.slicePlaces a b c)).filterMap fun (m : Nat) => items[(a + (m : Int) * c).toNat]?).toArray = (pickT items.toList lo hi c).toArray := by
    unfold pickT
    rw [Array.length_toList, ea, eb]
    simp
  have hno : ¬ ((a == 0 && c == 1 && Builtin.Slice.slicePlaces a b c == items.size) = true) := by
    intro q
    rw [Bool.and_eq_true, Bool.and_eq_true] at q
    exact h1 (eq_of_beq q.1.2)
  show wpAny _ _ (if (a == 0 && c == 1 && Builtin.Slice.slicePlaces a b c == items.size) = true then _ else _) _ _ s
  rw [if_neg hno, e]
  first
    | exact wpAny_bind (m := Builtin.Tuple.tupleExact _) (wpAny_newObj_type (wpAny_pure ⟨_, rfl, wpAny_pure h⟩) htk)
    | exact wpAny_bind (m := Builtin.Tuple.tupleExact _) (wpAny_newObj_type (wpAny_bind (wpAny_pure (wpAny_pure ⟨_, rfl, wpAny_pure h⟩))) htk)
    | exact wpAny_bind (wpAny_bind (m := Builtin.Tuple.tupleExact _) (wpAny_newObj_type (wpAny_pure (wpAny_pure ⟨_, rfl, wpAny_pure h⟩)) htk))
    | exact wpAny_bind (wpAny_bind (m := Builtin.Tuple.tupleExact _) (wpAny_newObj_type (wpAny_pure ⟨_, rfl, wpAny_pure h⟩) htk))
end
def rSlST (K : Frag) : V → Option Int → Option Int → Option Int → Hp → VK → Prop := fun x lo hi st H Q => ∃ a xs c, x = .ref a ∧ SqT K H a xs ∧ st = some c ∧ c ≠ 0 ∧ c ≠ 1 ∧ (pickT xs lo hi c).length ≤ sizeLine ∧ ∀ p, H p = none → Q (.ref p) (upd H p (.tup (pickT xs lo hi c)))
theorem vals_pickF {xs : List V} {us : List Value} (r : Vals xs us) (f : Nat → Nat) : ∀ ns : List Nat, Vals (ns.filterMap fun m => xs[f m]?) (ns.filterMap fun m => us[f m]?)
  | [] => .nil
  | n :: ns => by
    have z := vals_pick r ((n :: ns).map f)
    rw [List.filterMap_map, List.filterMap_map] at z
    exact z
theorem vals_pickT {xs : List V} {us : List Value} (r : Vals xs us) (lo hi : Option Int) (c : Int) : Vals (pickT xs lo hi c) (pickT us lo hi c) := by
  unfold pickT
  rw [r.length]
  exact vals_pickF r _ _
theorem pe_sliceT (hK : X.K = K) (he : PE X e te) (hl : PO X lo tl) (hu : PO X hi th) (hs : PO X (some st) ts) : PE X (.Subscript e (.Slice lo hi (some st) p2) pos) (tSlS (rSlST K) te tl th ts) := by
  subst hK
  refine ⟨fun pins s σ H Q I h => ?_⟩
  refine Subscript_ (thn (he.run pins s σ H _ I h) fun v s1 ⟨x, H1, I1, r1, q1⟩ => ?_)
  refine wpAny_Slice (thn (hl.run pins s1 σ H1 _ I1 q1) fun vl s2 ⟨l, H2, I2, pl, q2⟩ => thn (hu.run pins s2 σ H2 _ I2 q2) fun vu s3 ⟨u, H3, I3, pu, q3⟩ => ?_)
  refine thn (hs.run pins s3 σ H3 _ I3 q3) fun vs s4 ⟨c', H4, I4, ps, q4⟩ => ?_
  have I5 : Inv X pins σ H4 { s4 with heap := s4.heap.push { cls := .type "slice", data := .fields #[vl, vu, vs] } } := I4.kept (t' := s4.toks) fun b ob q => Heap.get?_push_of_some _ q
  obtain ⟨a, xs, c, rfl, hx, rfl, h0, h1, hz2, q⟩ := q4
  cases r1
  obtain ⟨its, r, ht, hz⟩ := I5.tuple hx
  have hlen := r.length
  have hv := vals_pickT r l u c
  show wpAny (model X.prog X.w) X.A (subscriptTail e (.Slice lo hi (some st) p2) (.ref a) (.ref s4.heap.objs.size)) (EP X pins σ Q) X.xe { s4 with heap := s4.heap.push { cls := .type "slice", data := .fields #[vl, vu, vs] } }
  refine tail_any (ops := [.ref a, .ref s4.heap.objs.size]) ht.typeIs PyProof.Rows.slot_tuple_getitem.lookup ?_ (by with_unfolding_all rfl)
  refine getItem_tuple_st ht (Heap.IsSliceOf.new ..) pl pu ps h0 h1 ?_ ?_
  · show (pickT its l u c).length ≤ _
    rw [← hv.length]
    exact hz2
  · refine ⟨.ref _, _, I5.laid (t' := s4.toks) (o := .tup (pickT xs l u c)) (fun b ob q => Heap.get?_push_of_some _ q) (Nat.le_refl _) ?_, rfl, q _ (I5.hok.fresh (Nat.le_refl _))⟩
    exact ⟨hz2, _, hv, IsTup.new _ _⟩
end
end Z
namespace Mi
open PySem PySem.Spec PyProof.Rows L2
open PySem.W (Frag)
section
variable {K : Frag} {E : XK} {W : Wd} {Hs Hs' H H' : Hp} {σ σ' : L2.St} {s : S} {ws : List Nat}
theorem RepL.pick {pa : Addr} {ds : List D} {vs : List V} (r : RepL K pa Hs ds vs) (f : Nat → Nat) : ∀ ns : List Nat, RepL K pa Hs (ns.filterMap fun m => ds[f m]?) (ns.filterMap fun m => vs[f m]?)
  | [] => RepL.nil
  | n :: ns => by
    rw [List.filterMap_cons, List.filterMap_cons]
    cases e : ds[f n]? with
    | none =>
      have : vs[f n]? = none := by
        rw [List.getElem?_eq_none_iff] at e ⊢
        rw [← r.len]
        exact e
      rw [this]
      exact r.pick f ns
    | some x =>
      obtain ⟨u, e2, r2⟩ := r.get e
      rw [e2]
      exact RepL.cons r2 (r.pick f ns)
theorem RepL.pickL {pa : Addr} {ds : List D} {vs : List V} (r : RepL K pa Hs ds vs) (lo hi st : Option Int) : RepL K pa Hs (Z.pickL ds lo hi st) (Z.pickL vs lo hi st) := by
  unfold Z.pickL
  rw [r.len]
  exact r.pick id _
theorem RepL.pickT {pa : Addr} {ds : List D} {vs : List V} (r : RepL K pa Hs ds vs) (lo hi : Option Int) (c : Int) : RepL K pa Hs (Z.pickT ds lo hi c) (Z.pickT vs lo hi c) := by
  unfold Z.pickT
  rw [r.len]
  exact r.pick _ _
/-- xs[a:b:c] -/
def mSlSL (m : ME) (lo hi st : MO) : MF := fun s => (m s).bind fun p => (lo p.2).bind fun q => (hi q.2).bind fun r => (st r.2).bind fun z => (ofO ((view z.2 p.1).bind asL)).bind fun ds => if z.1 ≠ some 0 then .ok (.lst (Z.pickL ds q.1 r.1 z.1), z.2) else .stuck
theorem snd_slSL {t : TE} {tl th ts : TO} {m : ME} {lo hi st : MO} (h : SndE K E t m) (hl : SndO K E tl lo) (hh : SndO K E th hi) (hs : SndO K E ts st) : SndF K E (Z.tSlS (Z.rSlSL K) t tl th ts) (mSlSL m lo hi st) := fun W s σ H Hs Q hK x q => by
  refine h W s σ H Hs _ hK x (Post.bind q fun xa s1 v H1 Hs1 _ g1 x1 o1 q1 => ?_)
  refine hl W s1 σ H1 Hs1 _ hK x1 (Post.bind q1 fun a s2 a' H2 Hs2 _ g2 x2 o2 q2 => ?_)
  refine hh W s2 σ H2 Hs2 _ hK x2 (Post.bind q2 fun b s3 b' H3 Hs3 _ g3 x3 o3 q3 => ?_)
  refine hs W s3 σ H3 Hs3 _ hK x3 (Post.bind q3 fun c s4 c' H4 Hs4 _ g4 x4 o4 q4 => ?_)
  cases (show a' = a from o2)
  cases (show b' = b from o3)
  cases (show c' = c from o4)
  obtain ⟨ds, ed, q5⟩ := q4.ofO
  obtain ⟨hc, q6⟩ := Post.ite q5
  cases e2 : view s4 xa with
  | none => rw [e2] at ed; cases ed
  | some d =>
    rw [e2] at ed
    cases asL_eq ed
    obtain ⟨l, vs, rfl, h1, h2⟩ := ArgOk.t x4 (ArgOk.up (Same.trans' (Same.trans' g2 g3) g4) o1) e2
    refine ⟨l, vs, rfl, SqL.of h1, hc, fun p hp => ?_⟩
    obtain ⟨x5, fr⟩ := fresh_new (o := .lst (Z.pickL vs a b c)) (d := .lst (Z.pickL ds a b c)) x4 hp ⟨_, rfl, h2.pickL a b c⟩
    exact q6 _ _ Hs4 (Same.rfl' _) x5 ⟨p, rfl, fr⟩
def mSlST (m : ME) (lo hi st : MO) : ME := fun s => (m s).bind fun p => (lo p.2).bind fun q => (hi q.2).bind fun r => (st r.2).bind fun z => (ofO ((view z.2 p.1).bind asT)).bind fun ds => (ofO z.1).bind fun c => if c ≠ 0 ∧ c ≠ 1 ∧ (Z.pickT ds q.1 r.1 c).length ≤ 100000 then .ok (.val (.tup (Z.pickT ds q.1 r.1 c)), z.2) else .stuck
theorem snd_slST {t : TE} {tl th ts : TO} {m : ME} {lo hi st : MO} (h : SndE K E t m) (hl : SndO K E tl lo) (hh : SndO K E th hi) (hs : SndO K E ts st) : SndE K E (Z.tSlS (Z.rSlST K) t tl th ts) (mSlST m lo hi st) := fun W s σ H Hs Q hK x q => by
  refine h W s σ H Hs _ hK x (Post.bind q fun xa s1 v H1 Hs1 _ g1 x1 o1 q1 => ?_)
  refine hl W s1 σ H1 Hs1 _ hK x1 (Post.bind q1 fun a s2 a' H2 Hs2 _ g2 x2 o2 q2 => ?_)
  refine hh W s2 σ H2 Hs2 _ hK x2 (Post.bind q2 fun b s3 b' H3 Hs3 _ g3 x3 o3 q3 => ?_)
  refine hs W s3 σ H3 Hs3 _ hK x3 (Post.bind q3 fun c s4 c' H4 Hs4 _ g4 x4 o4 q4 => ?_)
  cases (show a' = a from o2)
  cases (show b' = b from o3)
  cases (show c' = c from o4)
  obtain ⟨ds, ed, q5⟩ := q4.ofO
  obtain ⟨c, rfl, q5⟩ := q5.ofO
  obtain ⟨hc, q6⟩ := Post.ite q5
  cases e2 : view s4 xa with
  | none => rw [e2] at ed; cases ed
  | some d =>
    rw [e2] at ed
    cases asT_eq ed
    obtain ⟨l, vs, rfl, h1, h2⟩ := ArgOk.t x4 (ArgOk.up (Same.trans' (Same.trans' g2 g3) g4) o1) e2
    have h3 := h2.pickT a b c
    subst hK
    refine ⟨l, vs, c, rfl, SqT.of h1, rfl, hc.1, hc.2.1, Evl.sz_of (by rw [← h3.len]; exact hc.2.2), fun p hp => ?_⟩
    have g := gr_new (o := .tup (Z.pickT vs a b c)) x4.pool hp
    exact q6 _ _ _ g.s (x4.grow g) ⟨p, _, rfl, upd_same, h3.up g.s⟩
end
end Mi

namespace Z
open PySem PySem.Spec PyProof.Rows L2
open PySem.W (Frag findIn isFn fnIn)
/-! ### o[i] with an own __getitem__ -/
section
variable {X : Cx} {k : Nat} {f C : Addr} {sp : Sp} {E : XK} {CX : CXT} {a b : Expr} {ta tb : TE} {pos : Pos}
def rIxO (C : Addr) (sp : Sp) (E : XK) : R2 := fun x y H Q => ∃ p dx fs, x = .ref p ∧ H p = some (.ins C dx fs) ∧ sp [x, y] H Q E
theorem pe_ixO (h1 : findIn X.K (.ref C) "__getitem__" = some (some (.ref f))) (h2 : isFn X.K (.ref f) = true) (h3 : fnIn X.K f = true) (F : FnR X.prog X.w X.K X.mg X.base CX k f sp) (hr : Room (k + 1) X.A) (hx : Passes CX X E) (ha : PE X a ta) (hb : PE X b tb)
    (hs : ∀ v u, subscripted b true v u = runValue (.builtin "lifetime.subscript" ⟨[v, u], []⟩)) : PE X (.Subscript a b pos) (tOp (rIxO C sp E) ta tb) := by
  refine ⟨fun pins s σ H Q I h => ?_⟩
  refine Subscript_ (binT ha hb I h fun v u s2 x y H2 I2 rx ry q => ?_)
  obtain ⟨p, dx, fs, rfl, hp, q⟩ := q
  cases (show v = Value.ref p from rx)
  obtain ⟨od, J⟩ := inst_at I2 hp
  obtain ⟨m, hF⟩ := I2.fr
  exact PySem.W.sub_K hF I2.ok.mod.kin J h1 h3 h2 (run_in (us := [.ref p, u]) (ws := [.ref p, y]) F (room1 hr) I2.env0.in1 hx I2 (.cons rfl (.cons ry .nil)) q) (hs _ _)
end
end Z
namespace Mi
open PySem PySem.Spec PyProof.Rows L2
open PySem.W (Frag)
section
variable {K : Frag} {E : XK} {W : Wd} {Hs Hs' H H' : Hp} {σ σ' : L2.St} {s : S} {ws : List Nat}
def mIxO (c : Str) (F : Fn) (ma mb : ME) : ME := fun s => (ma s).bind fun p => (mb p.2).bind fun q => (ofO ((view q.2 p.1).bind (asObj c))).bind fun _ => callF F [p.1, q.1] q.2
theorem snd_ixO {c : Str} {F : Fn} {ta tb : TE} {ma mb : ME} (ha : SndE K E ta ma) (hb : SndE K E tb mb) : SndE K E (tOp (Z.rIxO (He.ga K c) (spM K 2 F) E) ta tb) (mIxO c F ma mb) := fun W s σ H Hs Q hK x q => by
  refine ha W s σ H Hs _ hK x (Post.bind q fun xa s1 v H1 Hs1 _ g1 x1 o1 q1 => ?_)
  refine hb W s1 σ H1 Hs1 _ hK x1 (Post.bind q1 fun xb s2 w H2 Hs2 _ g2 x2 o2 q2 => ?_)
  obtain ⟨ns, e2, q4⟩ := q2.ofO
  cases e4 : view s2 xa with
  | none => rw [e4] at e2; cases e2
  | some d2 =>
    rw [e4] at e2
    have r1 := ArgOk.t x2 (ArgOk.up g2 o1) e4
    rw [hK] at r1
    obtain ⟨a, dx, gs, rfl, h1, _⟩ := asObj_of e2 r1
    exact ⟨a, dx, gs, rfl, h1, snd_callF hK x2 (.cons (ArgOk.up g2 o1) (.cons o2 .nil)) rfl q4⟩
end
end Mi

namespace Z
open PySem PySem.Spec PyProof.Rows L2
open PySem.W (Frag findIn isFn fnIn)
open Builtin Builtin.List
/-! ### repr of a list whose items may be own objects -/
/-- how a value is shown, by the abstract heap -/
abbrev Rpb := V → Hp → Str → Prop
def MonR (D : Rpb) : Prop := ∀ x H H' t, Ext H H' → D x H t → D x H' t
def RpB (X : Cx) (n : Nat) (D : Rpb) : Prop :=
  ∀ (A : Around) (pins : List (Addr × Obj)) (s : Shared) (σ : L2.St) (H : Hp) (x : V) (v : Value) (t : Str) (b : Nat), Sub X n A → Inv X pins σ H s → RelV x v → D x H t → b + t.length ≤ sizeLine →
    wpAny (model X.prog X.w) A (pyReprUnder b v) (fun r s' => r = t ∧ ∃ H', Inv X pins σ H' s' ∧ Ext H H') X.xe s
section
variable {X : Cx} {n : Nat} {D : Rpb}
theorem sub_loop {A : Around} {args : Args} (h : Sub X (n + 1) A) : Sub X n (A.under (.builtin "list.__repr__.loop" args)) := by
  have hw : (Code.builtin "list.__repr__.loop" args).weight ≤ 3 := by
    first | decide | (show (if (Code.builtin "list.__repr__.loop" args).isGuard = true then 1 else 0) + 0 ≤ 3; split <;> omega) | simp [Code.weight, Code.frames, Code.isFrame] <;> split <;> omega
  refine ⟨⟨h.room.hd, ?_, ?_⟩, ?_⟩
  · have := h.room.dp
    show A.depth + (Code.builtin "list.__repr__.loop" args).weight + 3 * n + 5 < _
    omega
  · have := h.room.un
    rw [units_under_list_loop]
    omega
  · have e := h.fr
    show pushEnvs (Code.builtin "list.__repr__.loop" args).envs A.frames = _
    rw [← e]
    simp [Code.envs, Code.isFrame, pushEnvs]
theorem repr_loopO (hD : MonR D) (hR : RpB X n D) {A : Around} {R : Result → Shared → Prop} (sb : Sub X (n + 1) A) {pins : List (Addr × Obj)} {σ : L2.St} {H : Hp} {a P : Addr} (hne : a ≠ P) {xs : List V} {ts : List Str} (hlen : ts.length = xs.length) (ha : H a = some (.lst xs))
    (hT : ∀ (i : Nat) x, xs[i]? = some x → ∃ t, ts[i]? = some t ∧ D x H t) (hsz : (listText ts).length ≤ sizeLine) (hE : ∀ e s, X.xe e s → R (.error e) s) (fin : ∀ s H' u tk, Inv X pins σ H' s → (∀ b o, b ≠ P → H b = some o → H' b = some o) → R (.ok (.ret (.str (listText ts) u))) { s with toks := tk }) :
    ∀ (k i : Nat) (s : Shared) (H1 : Hp), xs.length - i = k → i ≤ xs.length → Inv X pins σ H1 s → (∀ b o, b ≠ P → H b = some o → H1 b = some o) → H1 P = some (.lst ((ts.take i).map V.str)) → H P = none →
      codeAny (model X.prog X.w) A (.builtin "list.__repr__.loop" ⟨[.ref a, rawInt i, .ref P, rawInt ((0 + piled (ts.take i) : Nat) : Int)], []⟩) R s := by
  have hX : (listText ts).length = (textFrom 0 "[" ts).length + 1 := by
    show (textFrom 0 "[" ts ++ "]").length = _
    rw [strLen_append]; rfl
  have hL := textFrom_len ts 0 "["
  have hsz2 : ∀ t ∈ ts, t.length ≤ sizeLine := fun t ht => by
    have h2 := hL.2.1 t ht
    omega
  have hp3 := piled_le_listText ts
  intro k
  induction k with
  | zero =>
    intro i s H1 hk hi I1 x1 hP hPn
    have hin : i = xs.length := by omega
    obtain ⟨z1, its, n1, r1, hl1, e1⟩ := I1.lstM (x1 a _ hne ha)
    obtain ⟨z2, its2, n2, r2, hl2, e2⟩ := I1.lstM hP
    refine codeAny_builtin F.entry_list_repr_loop ?_
    show wpAny _ _ («list.__repr__.loop» ⟨[.ref a, .int i 0, .ref P, .int ((0 + piled (ts.take i) : Nat) : Int) 0], []⟩) _ _ s
    rw [repr_loop_tree]
    refine wpAny_bind (wpAny_listItems e1 rfl ?_)
    have hnone : its.toArray[(i : Int).toNat]? = none := by
      have := r1.length
      simp [hin]
      omega
    simp only [hnone]
    unfold reprEnd
    refine wpAny_bind (wpAny_listItems e2 rfl ?_)
    have hd : ∃ done : List (Str × Tok), its2 = strValues done ∧ done.map (·.1) = ts := by
      have : ∀ (ss : List Str) (us : List Value), Vals (ss.map V.str) us → ∃ done : List (Str × Tok), us = strValues done ∧ done.map (·.1) = ss := by
        intro ss
        induction ss with
        | nil => intro us r; cases r; exact ⟨[], rfl, rfl⟩
        | cons t ss ih =>
          intro us r
          cases r with
          | cons q1 q2 =>
            obtain ⟨tk, rfl⟩ := q1
            obtain ⟨d, e3, e4⟩ := ih _ q2
            exact ⟨(t, tk) :: d, by rw [e3]; rfl, by simp [e4]⟩
      have h3 : ts.take i = ts := by rw [hin, ← hlen, List.take_length]
      rw [h3] at r2
      exact this _ _ r2
    obtain ⟨done, rfl, e4⟩ := hd
    show wpAny _ _ _ _ _ s
    rw [show (strValues done).toArray.toList = strValues done from by simp, repr_fold]
    refine wpAny_bind (wpAny_pure ?_)
    rw [e4]
    refine wpAny_bind (wpAny_mkStr (wpAny_pure ?_) hsz)
    exact fin s H1 _ _ I1 x1
  | succ k ih =>
    intro i s H1 hk hi I1 x1 hP hPn
    have hlt : i < xs.length := by omega
    obtain ⟨z1, its, n1, r1, hl1, e1⟩ := I1.lstM (x1 a _ hne ha)
    obtain ⟨t, ht, hd⟩ := hT i xs[i] (by simp [hlt])
    have hp1 := piled_take_succ ht
    have hp2 := piled_take_le ts (i + 1)
    obtain ⟨v, ev, rv⟩ := r1.get (i := i) (x := xs[i]) (by simp [hlt])
    refine codeAny_builtin F.entry_list_repr_loop ?_
    show wpAny _ _ («list.__repr__.loop» ⟨[.ref a, .int i 0, .ref P, .int ((0 + piled (ts.take i) : Nat) : Int) 0], []⟩) _ _ s
    rw [repr_loop_tree]
    refine wpAny_bind (wpAny_listItems e1 rfl ?_)
    have hsome : its.toArray[(i : Int).toNat]? = some v := by simpa using ev
    simp only [hsome]
    rw [Int.toNat_natCast]
    have hx0 : Ext H H1 := fun b o e => x1 b o (fun q => by rw [q, hPn] at e; cases e) e
    refine wpAny_bind (wpAny_holding (wpAny_mono (hR _ pins s σ H1 xs[i] v t (0 + piled (ts.take i) + 1) (sub_loop sb) I1 rv (hD _ _ _ _ hx0 hd) (by omega)) (fun r s2 z => ?_) fun e s2 z => hE e s2 z))
    obtain ⟨rfl, H2, I2, x2⟩ := z
    refine wpAny_bind (wpAny_mkStr ?_ (hsz2 r (List.mem_of_getElem? ht)))
    refine wpAny_bind ?_
    show wpAny _ _ (updateSeq P _) _ _ _
    have hP2 := x2 _ _ hP
    obtain ⟨z3, its3, n3, r3, hl3, e3⟩ := I2.lstM hP2
    refine wpAny_updateSeq e3 rfl (wpAny_pure ⟨F.quiet_list_repr_loop _, ?_⟩) (by rw [List.size_toArray]; omega)
    have q1 : ((i : Int) + 1) = ((i + 1 : Nat) : Int) := by omega
    have q2 : 0 + piled (ts.take i) + (r.length + 2) = 0 + piled (ts.take (i + 1)) := by omega
    rw [q1, q2]
    refine ih (i + 1) _ (upd H2 P (.lst ((ts.take (i + 1)).map V.str))) (by omega) hlt ?_ (fun b o hb e => by rw [upd_ne hb]; exact x2 _ _ (x1 b o hb e)) upd_same hPn
    have hy : (ts.take (i + 1)).map V.str = (ts.take i).map V.str ++ [.str r] := by simp [List.take_add_one, ht]
    rw [hy]
    refine I2.lset (its' := its3 ++ [.str r s2.toks]) hP2 e3 (by simp) (r3.append (.cons ⟨_, rfl⟩ .nil)) ?_
    have q3 : ((ts.take i).map V.str).length ≤ i := by rw [List.length_map, List.length_take]; omega
    rw [List.length_append, List.length_singleton]
    omega
/-- repr(l) -/
def rReprL (D : Rpb) : List V → Hp → VK → Prop := fun vs H Q => ∃ (a : Addr) (xs : List V) (ts : List Str), vs = [.ref a] ∧ H a = some (.lst xs) ∧ ts.length = xs.length ∧ xs ≠ [] ∧ (∀ (i : Nat) x, xs[i]? = some x → ∃ t, ts[i]? = some t ∧ D x H t) ∧ (listText ts).length ≤ sizeLine ∧ ∀ H', Ext H H' → Q (.str (listText ts)) H'
theorem call_reprL (hD : MonR D) (hR : RpB X n D) (hr : Room (n + 3) X.A) (hg : X.A.guards = some []) : CallR X (.builtin "repr") (rReprL D) := by
  intro pins s σ H vs us Q I r h
  obtain ⟨a, xs, ts, rfl, ha, hlen, hne, hT, hsz, q⟩ := h
  obtain ⟨u, rfl, ru⟩ := vals1 r
  cases (show u = Value.ref a from ru)
  obtain ⟨z1, its, n1, r1, hl1, e1⟩ := I.lstM ha
  have hty : s.TypeIs (.ref a) "list" := ⟨_, e1, rfl⟩
  have sb : Sub X (n + 1) X.A.in1 := ⟨(hr.mono (by omega) : Room (n + 2) X.A).in1, rfl⟩
  have hu1 := hr.un
  refine call_repr_slot (by omega) hty F.slot_list_repr.toG ?_
  refine wpAny_call (codeAny_call_builtin F.slot_list_repr.plain F.entry_list_repr (F.slot_list_repr.check _ _ _ _ _ _ _ _ hty (F.args_list_repr_1 _) ?_))
  match its, e1, r1 with
  | [], e1, r1 => cases r1; exact absurd rfl hne
  | x :: l, e1, r1 =>
    refine wpAny_list_repr_head (b := 0) (g := []) hg (fun v rest kw hm => by cases hm) e1 rfl ?_
    refine wpAny_bind (m := newList []) (wpAny_newObj_type ?_)
    refine wpAny_pure ⟨F.quiet_list_repr_loop _, ?_⟩
    have hPn : H s.heap.objs.size = none := I.hok.fresh (Nat.le_refl _)
    have I2 := I.lnew (ys := []) (its := []) (t' := s.toks) .nil (by simp)
    refine repr_loopO hD hR sb (P := s.heap.objs.size) (pins := pins) (σ := σ) (fun e => by rw [← e, ha] at hPn; cases hPn) hlen ha hT hsz (fun e s z => z) (fun s' H' u tk I' x' => ?_) _ 0 _ _ rfl (Nat.zero_le _) I2 (fun b o hb e => by rw [upd_ne hb]; exact e) (by rw [upd_same]; rfl) hPn
    exact ⟨_, _, rfl, .str _, H', I'.tok tk, ⟨_, rfl⟩, q H' fun b o e => x' b o (fun z => by rw [z, hPn] at e; cases e) e⟩
end
end Z

namespace Z
open PySem PySem.Spec PyProof.Rows L2
open PySem.W (Frag findIn isFn fnIn InstAt looks_findIn bind_fn)
section
variable {X : Cx} {n k : Nat} {K : Frag} {C f : Addr} {sp : Sp} {E : XK} {CX : CXT}
theorem boundBy_K {M : Model} {A : Around} {E : Value → Shared → Prop} {s : Shared} {x : Addr} {ox : Obj} {od : Option Obj} {name : Str} {last : Value → List Value → Sem Value} {Q : Option Value → Shared → Prop} (X : K.In s.heap) (I : InstAt s.heap x ox C od) (hs : findIn K (.ref C) name = some (some (.ref f))) (hf : isFn K (.ref f) = true)
    (h : wpAny M A (last (.ref f) [.ref x]) (fun v => Q (some v)) E s) : wpAny M A (callSpecialIfBoundBy? last (.ref x) name) Q E s := by
  simp only [callSpecialIfBoundBy?, bindSpecialIfBound?]
  refine wpAny_holding (wpAny_bind (wpAny_bind (wpAny_bind (I.type.here ((looks_findIn X hs).here ?_)))))
  refine wpAny_bind (wpAny_askSetting (wpAny_ite ?_))
  have fin : wpAny M A (last (.ref f) [.ref x] >>= fun v => pure (some v)) Q E s := wpAny_bind (wpAny_mono h (fun v s' h' => wpAny_pure h') fun _ _ h' => h')
  split
  · exact wpAny_bind ((bind_fn X _ (beq_iff_eq.mp hf)).here (wpAny_pure (by exact fin)))
  · exact wpAny_tryCatch (wpAny_bind ((bind_fn X _ (beq_iff_eq.mp hf)).here (wpAny_pure (by exact fin))))
theorem under_K {A : Around} {E : Value → Shared → Prop} {s : Shared} {prog : Program} {w : World} {x : Addr} {ox : Obj} {od : Option Obj} {b : Nat} {Q : Str → Shared → Prop} (hb : b ≤ sizeLine) (hu : A.units < cLine) (X : K.In s.heap) (I : InstAt s.heap x ox C od) (hs : findIn K (.ref C) "__repr__" = some (some (.ref f))) (hf : isFn K (.ref f) = true)
    (h : wpAny (model prog w) A (call (.ref f) [.ref x]) (fun v s' => ∃ y u, v = .str y u ∧ Q y s') E s) : wpAny (model prog w) A (pyReprUnder b (.ref x)) Q E s := by
  refine wpAny_pyReprUnder_ref hb ?_
  unfold pyReprObjUnder pyReprObjBy
  refine wpAny_bind (wpAny_cRoomFor hu ?_)
  refine wpAny_bind (wpAny_bind (I.type.here ((looks_findIn X hs).here ?_)))
  show wpAny _ _ (if (some (Value.ref f)).isNone = true then _ else _) _ _ _
  rw [if_neg (by simp)]
  refine wpAny_bind (boundBy_K (name := Str.ofString "__repr__") X I hs hf ?_)
  refine wpAny_mono (show wpAny (model prog w) A (call (.ref f) ([.ref x] ++ [])) _ E s from h) (fun v s' hv => ?_) fun _ _ z => z
  obtain ⟨y, u, rfl, hq⟩ := hv
  exact wpAny_bind (wpAny_isInstance (T := "str") (b := true) rfl isSubtype_str_str (wpAny_pure ⟨y, u, rfl, hq⟩))
theorem rp_ins {x : V} {H : Hp} {t : Str} (F : FnR X.prog X.w X.K X.mg X.base CX n f sp) (hx : Passes CX X E) (h1 : findIn X.K (.ref C) "__repr__" = some (some (.ref f))) (h2 : isFn X.K (.ref f) = true) {a dx : Addr} {fs : List (Str × V)} (ha : H a = some (.ins C dx fs)) (hsp : ∀ Q : VK, (∀ H', Ext H H' → Q (.str t) H') → sp [.ref a] H Q E)
    {A : Around} {pins : List (Addr × Obj)} {s : Shared} {σ : L2.St} {b : Nat} (sb : Sub X n A) (I : Inv X pins σ H s) (hb : b + t.length ≤ sizeLine) : wpAny (model X.prog X.w) A (pyReprUnder b (.ref a)) (fun r s' => r = t ∧ ∃ H', Inv X pins σ H' s' ∧ Ext H H') X.xe s := by
  obtain ⟨od, J⟩ := inst_at I ha
  have e0 : Env0 X.prog X.w X.K X.mg X.base A X.stack s H := by
    have e := I.env0
    exact ⟨by rw [sb.fr]; exact e.frames, e.mod, e.bs, e.bsz, e.funs, e.frf, e.hok, e.bare⟩
  refine under_K (by omega) sb.room.units0 I.kIn J h1 h2 ?_
  refine wpAny_mono (wpAny_call (SlX.run_at (us := [.ref a]) (ws := [.ref a]) F sb.room e0 hx I (.cons rfl .nil) (hsp (fun z H' => z = .str t ∧ Ext H H') fun H' e => ⟨rfl, e⟩))) (fun w s' z => ?_) fun _ _ z => z
  obtain ⟨z', H', I', rz, ez, ex⟩ := z
  subst ez
  obtain ⟨tk, rfl⟩ := rz
  exact ⟨t, tk, rfl, rfl, H', I', ex⟩
/-- plain leaves -/
def DrS : Rpb := fun x _ t => (∃ i : Int, x = .int i ∧ i.natAbs.log2 < 1920 ∧ t = (toString i : String)) ∨ (∃ b : Bool, x = .bl b ∧ t = (if b then "True" else "False" : String)) ∨ (x = .non ∧ t = "None") ∨ ∃ y : Str, x = .str y ∧ t = reprText y ∧ (reprText y).length ≤ sizeLine
theorem mon_S : MonR DrS := fun x H H' t _ d => d
theorem rpB_S : RpB X n DrS := by
  intro A pins s σ H x v t b sb I rx d hb
  have fin : ∀ tk, (fun r s' => r = t ∧ ∃ H', Inv X pins σ H' s' ∧ Ext H H') t { s with toks := tk } := fun tk => ⟨rfl, H, I.tok tk, Ext.rfl'⟩
  rcases d with ⟨i, rfl, h1, rfl⟩ | ⟨c, rfl, rfl⟩ | ⟨rfl, rfl⟩ | ⟨y, rfl, rfl, h1⟩
  · obtain ⟨tk, rfl⟩ := rx
    exact ReprIs.int tk h1 b hb A X.xe s _ fin
  · cases (show v = .bool c from rx)
    exact ReprIs.bool c b (by cases c <;> exact hb) A X.xe s _ (by cases c <;> exact fin)
  · cases (show v = .none from rx)
    exact ReprIs.none b hb A X.xe s _ fin
  · obtain ⟨tk, rfl⟩ := rx
    exact ReprIs.str y tk h1 b hb A X.xe s _ fin
theorem rpB_or {D D' : Rpb} (h : RpB X n D) (h' : RpB X n D') : RpB X n (fun x H t => D x H t ∨ D' x H t) := by
  intro A pins s σ H x v t b sb I rx d hb
  rcases d with d | d
  · exact h A pins s σ H x v t b sb I rx d hb
  · exact h' A pins s σ H x v t b sb I rx d hb
theorem mon_or {D D' : Rpb} (h : MonR D) (h' : MonR D') : MonR (fun x H t => D x H t ∨ D' x H t) := fun x H H' t e d => d.imp (h x H H' t e) (h' x H H' t e)
end
end Z

namespace Mi
open PySem PySem.Spec PyProof.Rows L2
open PySem.W (Frag findIn isFn)
section
variable {K : Frag} {E : XK} {W : Wd} {Hs Hs' H H' : Hp} {σ σ' : L2.St} {s : S} {ws : List Nat} {cs : List Str}
/-! ### repr of lists that hold own objects -/
def Dr (K : Frag) (R : D → Option Str) : Z.Rpb := fun x H t => ∃ (pa : Addr) (Hs : Hp) (p : Int × Int) (a : D), PoolOk Hs H ∧ H pa = some (.lst [.int p.1, .int p.2]) ∧ Hs pa = none ∧ Rep K pa Hs a x ∧ R a = some t
theorem mon_Dr {R : D → Option Str} : Z.MonR (Dr K R) := fun x H H' t ex d => by
  obtain ⟨pa, Hs, p, a, h1, h2, h3⟩ := d
  exact ⟨pa, Hs, p, a, fun b o e => (h1 b o e).elim (fun z => .inl (ex _ _ z)) fun ⟨z, ob, w⟩ => .inr ⟨z, ob, ex _ _ w⟩, ex _ _ h2, h3⟩
/-- what shows an own object -/
structure ReprC (X : Cx) (cs : List Str) (n : Nat) (R : D → Option Str) : Prop where
  get : ∀ d t, R d = some t → ∃ c F f, findIn X.K (.ref (He.ga X.K c)) "__repr__" = some (some (.ref f)) ∧ isFn X.K (.ref f) = true ∧ FnR X.prog X.w X.K X.mg X.base (L2.CX X.prog X.w) n f (spM X.K 1 F) ∧ (asObj c d).isSome = true ∧ plain cs d = true ∧ ∀ p, F [.sh d] p = .ok (.str t) [.no] p
theorem rpB_Dr {X : Cx} {n : Nat} {R : D → Option Str} (rc : ReprC X cs n R) : Z.RpB X n (Dr X.K R) := by
  intro A pins s σ H x v t b sb I rx dd hb
  obtain ⟨pa, Hs, p, a, h1, h2, h3, h4, h6⟩ := dd
  obtain ⟨c, F, f, q1, q2, G, ho, p1, pure⟩ := rc.get a t h6
  obtain ⟨ns, e1⟩ := Option.isSome_iff_exists.mp ho
  obtain ⟨l, dx, gs, e2, ha, _⟩ := asObj_of e1 (Rep.t h1 h4)
  subst e2
  cases (show v = Value.ref l from rx)
  refine Z.rp_ins (E := E0) (x := .ref l) (C := He.ga X.K c) G passL q1 q2 ha (fun Q k => ?_) sb I hb
  let Hz := undct Hs
  let Fr : Hp := fun b => if Hz b = none ∧ b ≠ pa then H b else none
  have nd : ∀ b o, Hz b = some o → H b = some o := fun b o e => by
    obtain ⟨e1, e2⟩ := of_undct e
    exact h1.at_ e1 e2
  have zpa : Hz pa = none := by
    show undct Hs pa = none
    unfold undct
    rw [h3]
  have frs : ∀ b o, Fr b = some o → H b = some o ∧ Hz b = none ∧ b ≠ pa := fun b o e => by
    have e : (if Hz b = none ∧ b ≠ pa then H b else none) = some o := e
    by_cases hq : Hz b = none ∧ b ≠ pa
    · rw [if_pos hq] at e; exact ⟨e, hq⟩
    · rw [if_neg hq] at e; cases e
  refine ⟨⟨X.K, pa, Fr, fun _ => 0⟩, Hz, [.sh a], p, rfl, rfl, ⟨rfl, fun b o e => .inl (nd b o e), fun b o e => ⟨(frs b o e).1, (frs b o e).2.1⟩, ⟨h2, zpa, ?_⟩, fun i z ez => ?_, fun i j l m d1 d2 a' e1 e2 hij s1 => ?_⟩, ?_⟩
  · show (if Hz pa = none ∧ pa ≠ pa then H pa else none) = none
    rw [if_neg (fun q => q.2 rfl)]
  · match i, ez with
    | 0, ez => cases ez; exact ⟨_, rfl, rep_undct p1 h4⟩
  · match i, e1 with
    | 0, e1 => cases e1
  · rw [pure p]
    intro v H' Hs' g x r
    cases (show v = .str t from r)
    refine k H' fun b o e => ?_
    by_cases hb : b = pa
    · rw [hb] at e ⊢
      rw [h2] at e
      cases e
      exact x.pt.1
    · cases q : Hz b with
      | none => exact (x.fr b o (by show (if Hz b = none ∧ b ≠ pa then H b else none) = some o; rw [if_pos ⟨q, hb⟩]; exact e)).1
      | some o' =>
        have := nd b o' q
        rw [e] at this
        cases this
        exact x.pool.at_ (g _ _ q) (of_undct q).2
/-- how an item of a list is shown -/
def itemT (R : D → Option Str) : D → Option Str
  | .int i => if i.natAbs.log2 < 1920 then some (Str.ofString (toString i)) else none
  | .bl b => some (Str.ofString (if b then "True" else "False"))
  | .non => some "None"
  | .str y => if (reprText y).length ≤ 100000 then some (reprText y) else none
  | d => R d
def textsT (R : D → Option Str) : List D → Option (List Str)
  | [] => some []
  | d :: ds => (itemT R d).bind fun t => (textsT R ds).map (t :: ·)
def fReprO (R : D → Option Str) : D → Option D
  | .lst ds => if ds ≠ [] then (textsT R ds).bind fun ts => if (listText ts).length ≤ 100000 then some (.str (listText ts)) else none else none
  | _ => none
def DrO (K : Frag) (R : D → Option Str) : Z.Rpb := fun x H t => Z.DrS x H t ∨ Dr K R x H t
theorem mon_DrO {R : D → Option Str} : Z.MonR (DrO K R) := Z.mon_or Z.mon_S mon_Dr
theorem rpB_DrO {X : Cx} {n : Nat} {R : D → Option Str} (rc : ReprC X cs n R) : Z.RpB X n (DrO X.K R) := Z.rpB_or Z.rpB_S (rpB_Dr rc)
theorem textsT_get {R : D → Option Str} : ∀ {ds : List D} {ts : List Str}, textsT R ds = some ts → ts.length = ds.length ∧ ∀ (i : Nat) d, ds[i]? = some d → ∃ t, ts[i]? = some t ∧ itemT R d = some t
  | [], ts, e => by cases e; exact ⟨rfl, fun i d h => by simp at h⟩
  | d :: ds, ts, e => by
    unfold textsT at e
    cases e1 : itemT R d with
    | none => rw [e1] at e; cases e
    | some t =>
      rw [e1] at e
      have e : (textsT R ds).map (t :: ·) = some ts := e
      cases e2 : textsT R ds with
      | none => rw [e2] at e; cases e
      | some us =>
        rw [e2] at e
        cases e
        obtain ⟨h1, h2⟩ := textsT_get e2
        refine ⟨by simp [h1], fun i x hx => ?_⟩
        cases i with
        | zero => simp at hx; subst hx; exact ⟨t, rfl, e1⟩
        | succ i => simp at hx; simpa using h2 i x hx
theorem itemT_of {R : D → Option Str} {d : D} {x : V} {t : Str} (X : SS W Hs s σ H) (h1 : Rep W.K W.pa Hs d x) (e : itemT R d = some t) : DrO W.K R x H t := by
  cases d with
  | int i =>
    have e : (if i.natAbs.log2 < 1920 then some (Str.ofString (toString i)) else none) = some t := e
    by_cases hc : i.natAbs.log2 < 1920
    · rw [if_pos hc] at e; cases e; exact .inl (.inl ⟨i, h1, hc, rfl⟩)
    · rw [if_neg hc] at e; cases e
  | bl b => cases e; exact .inl (.inr (.inl ⟨b, h1, rfl⟩))
  | non => cases e; exact .inl (.inr (.inr (.inl ⟨h1, rfl⟩)))
  | str y =>
    have e : (if (reprText y).length ≤ 100000 then some (reprText y) else none) = some t := e
    by_cases hc : (reprText y).length ≤ 100000
    · rw [if_pos hc] at e; cases e; exact .inl (.inr (.inr (.inr ⟨y, h1, rfl, Evl.sz_of hc⟩)))
    · rw [if_neg hc] at e; cases e
  | _ => exact .inr ⟨W.pa, Hs, s.p, _, X.pool, X.pt.1, X.pt.2.1, h1, e⟩
/-- calls that ask in the middle of a def -/
def CallW (K : Frag) (r : List V → Hp → VK → Prop) (f : List D → Option D) : Prop := ∀ (W : Wd) s σ (Hs H : Hp) ds vs d (Q : VK), W.K = K → SS W Hs s σ H → RepTs K W.pa Hs H ds vs → f ds = some d → (∀ v Hs' H', Gr Hs H Hs' H' → Rep K W.pa Hs' d v → Q v H') → r vs H Q
theorem cw_reprO {R : D → Option Str} : CallW K (Z.rReprL (DrO K R)) (f1 (fReprO R)) := fun W s σ Hs H ds vs d Q hK X rs e0 k => by
  obtain ⟨a, rfl, e⟩ := f1_eq e0
  obtain ⟨v, rfl, r⟩ := rs.one
  cases a with
  | lst ds =>
    obtain ⟨l, us, rfl, h1, h2⟩ := r
    have e : (if ds ≠ [] then (textsT R ds).bind fun ts => if (listText ts).length ≤ 100000 then some (D.str (listText ts)) else none else none) = some d := e
    by_cases hn : ds ≠ []
    · rw [if_pos hn] at e
      cases e1 : textsT R ds with
      | none => rw [e1] at e; cases e
      | some ts =>
        rw [e1] at e
        have e : (if (listText ts).length ≤ 100000 then some (D.str (listText ts)) else none) = some d := e
        by_cases hc : (listText ts).length ≤ 100000
        · rw [if_pos hc] at e
          cases e
          obtain ⟨z1, z2⟩ := textsT_get e1
          subst hK
          refine ⟨l, us, ts, rfl, h1, by rw [z1, h2.len], fun z => ?_, fun i x ex => ?_, Evl.sz_of hc, fun H' ex => k _ Hs H' (gr_ext X.pool ex) rfl⟩
          · have := h2.len
            rw [z] at this
            exact hn (List.length_eq_zero_iff.mp this)
          · obtain ⟨d, ed, rd⟩ := h2.get' ex
            obtain ⟨t, et, ei⟩ := z2 i d ed
            exact ⟨t, et, itemT_of X rd ei⟩
        · rw [if_neg hc] at e; cases e
    · rw [if_neg hn] at e; cases e
  | _ => cases e
theorem snd_cbW {r : List V → Hp → VK → Prop} {f : List D → Option D} {t : TA} {m : MA} (hc : CallW K r f) (h : SndA K E t m) : SndE K E (tCB r t) (mCB f m) := fun W s σ H Hs Q hK x q => by
  refine h W s σ H Hs _ hK x (Post.bind q fun xs s1 vs H1 Hs1 _ g1 x1 o1 q1 => ?_)
  obtain ⟨ds, ed, q2⟩ := q1.ofO
  obtain ⟨d, e2, q3⟩ := q2.ofO
  subst hK
  exact hc W s1 σ Hs1 H1 ds vs d Q rfl x1 (o1.t x1 ed) e2 fun u Hs' H' g r => q3 u H' Hs' g.s (x1.grow g) r
end
end Mi

namespace Z
open PySem PySem.Spec PyProof.Rows L2
open PySem.W (Frag findIn isFn)
/-! ### C( *xs ), cls( *xs ) -/
section
variable {X : Cx} {CX : CXT} {k i : Nat} {f C : Addr} {sp : Sp} {E : XK} {x : Str} {e : Expr} {te : TE} {p sp_ pos : Pos} {K : Frag}
theorem pe_makeS (hK : X.K = K) (M : Mk X.K C f) (F : FnR X.prog X.w X.K X.mg X.base CX k f sp) (hr : Room (k + 1) X.A) (hg : Gl X x) (hm : X.mg x = some (.ref C)) (hx : Passes CX X E) (he : PE X e te) (hd : (x == ("__debug__" : Str)) = false := by decide)
    (hst : starEach [.Starred e sp_] X.env = [(true, eval e X.env)] := by rfl) : PE X (.Call (.Name x p) [.Starred e sp_] [] pos) (StX.tMakeR C sp E (StX.tStar K te tNil)) := by
  subst hK
  refine ⟨fun pins s σ H Q I h => ?_⟩
  refine wpAny_Call_Name_kw (ld_glob I hg hm ?_ hd)
  refine PySem.W.callWith_S (h₀ := X.base) I.ok.mod.kin M.kp (thn (he.run pins s σ H _ I h) fun v s1 ⟨y, H1, I1, ry, a, xs, ey, hxs, q⟩ => ?_) hst
  subst ey
  obtain rfl : v = Value.ref a := ry
  refine StX.star_any I1 hxs fun us s2 I2 rv => ⟨I2.kIn, StX.run_makeR M F hr hx I2 rv ?_⟩
  have q : ∀ x dx, H1 x = none → H1 dx = none → dx ≠ x → sp (V.ref x :: (xs ++ [])) (upd (upd H1 dx (.own x)) x (.ins C dx [])) (fun v H2 => v = .non ∧ Q (.ref x) H2) E := q
  rw [List.append_nil] at q
  exact q
theorem pe_mkLS (hK : X.K = K) (M : Mk X.K C f) (F : FnR X.prog X.w X.K X.mg X.base CX k f sp) (hr : Room (k + 1) X.A) (hx : Passes CX X E) (he : PE X e te) (hv : PE X (.Name x p) (tVar i))
    (hst : starEach [.Starred e sp_] X.env = [(true, eval e X.env)] := by rfl) : PE X (.Call (.Name x p) [.Starred e sp_] [] pos) (tMkL i C sp E (StX.tStar K te tNil)) := by
  subst hK
  constructor
  intro pins s σ H Q I h
  obtain ⟨hi, h⟩ := h
  refine wpAny_Call_Name_kw (thn (hv.run pins s σ H (fun v H1 => v = .ref C ∧ H1 = H) I ⟨_, hi, rfl, rfl⟩) fun u s1 z => ?_)
  obtain ⟨v, H1, I1, rv, ev, eH⟩ := z
  subst ev
  subst eH
  cases (show u = Value.ref C from rv)
  refine PySem.W.callWith_S (h₀ := X.base) I1.ok.mod.kin M.kp (thn (he.run pins s1 σ H1 _ I1 h) fun v s2 ⟨y, H2, I2, ry, a, xs, ey, hxs, q⟩ => ?_) hst
  subst ey
  obtain rfl : v = Value.ref a := ry
  refine StX.star_any I2 hxs fun us s3 I3 rv => ⟨I3.kIn, StX.run_makeR M F hr hx I3 rv ?_⟩
  have q : ∀ x dx, H2 x = none → H2 dx = none → dx ≠ x → sp (V.ref x :: (xs ++ [])) (upd (upd H2 dx (.own x)) x (.ins C dx [])) (fun v H2 => v = .non ∧ Q (.ref x) H2) E := q
  rw [List.append_nil] at q
  exact q
end
end Z
namespace Mi
open PySem PySem.Spec PyProof.Rows L2
open PySem.W (Frag findIn isFn)
section
variable {K : Frag} {E : XK} {W : Wd} {Hs Hs' H H' : Hp} {σ σ' : L2.St} {s : S} {ws : List Nat} {cs : List Str}
def spS (K : Frag) (F : Fn) : Sp := fun vs H Q E => spM K vs.length F vs H Q E
theorem fnr_S {P : Program} {w : World} {mg : Str → Option Value} {base : Heap} {CX : CXT} {k : Nat} {f : Addr} {F : Fn} (h : ∀ m, FnR P w K mg base CX k f (spM K m F)) : FnR P w K mg base CX k f (spS K F) := fun A outer s H us vs Q E hr e0 r hs => h vs.length A outer s H us vs Q E hr e0 r hs
def mMakeS (c : Str) (F : Fn) (m : MA) : ME := fun s => (m s).bind fun p => (match callF F (.bor p.2.g.length :: p.1) ⟨p.2.g ++ [.ow none (.obj c [] [])], p.2.p⟩ with
  | .ok (.val .non, s2) => (match s2.g[p.2.g.length]? with
    | some (.ow none d) => .ok (.val d, ⟨s2.g.take p.2.g.length, s2.p⟩)
    | _ => .stuck)
  | .ex e s2 => .ex e ⟨s2.g.take p.2.g.length, s2.p⟩
  | _ => .stuck)
theorem snd_makeS {c : Str} {F : Fn} {t : TA} {m : MA} (h : SndA K E t m) : SndE K E (StX.tMakeR (He.ga K c) (spS K F) E t) (mMakeS c F m) := fun W s σ H Hs Q hK x q => by
  refine h W s σ H Hs _ hK x (Post.bind q fun xs s1 vs H1 Hs1 _ g1 x1 o1 q1 => ?_)
  have hl : xs.length = vs.length := o1.len
  exact fun x0 dx hx hdx hne => make_core (n := vs.length + 1) hK x1 o1 (by rw [hl]) hx hdx hne q1
def isCls (s : S) (i : Nat) (c : Str) : Bool := match s.g[i]? with
  | some (.sh (.cls c')) => decide (c' = c)
  | _ => false
theorem isCls_eq {s : S} {i : Nat} {c : Str} (h : isCls s i c = true) : s.g[i]? = some (.sh (.cls c)) := by
  unfold isCls at h
  split at h
  · rename_i c' e
    rw [e, of_decide_eq_true h]
  · cases h
def mMkLS (c : Str) (i : Nat) (F : Fn) (m : MA) : ME := fun s => if isCls s i c = true then mMakeS c F m s else .stuck
theorem snd_mkLS {c : Str} {i : Nat} {F : Fn} {t : TA} {m : MA} (h : SndA K E t m) : SndE K E (Z.tMkL i (He.ga K c) (spS K F) E t) (mMkLS c i F m) := fun W s σ H Hs Q hK x q => by
  obtain ⟨hc, q2⟩ := Post.ite q
  refine ⟨?_, snd_makeS h W s σ H Hs Q hK x q2⟩
  obtain ⟨u, e1, r1⟩ := x.slot i _ (isCls_eq hc)
  rw [e1]
  subst hK
  cases (show u = _ from r1)
  rfl
def mMkL (c : Str) (i n : Nat) (F : Fn) (m : MA) : ME := fun s => if isCls s i c = true then mMake c n F m s else .stuck
theorem snd_mkL {c : Str} {i n : Nat} {F : Fn} {t : TA} {m : MA} (h : SndA K E t m) : SndE K E (Z.tMkL i (He.ga K c) (spM K n F) E t) (mMkL c i n F m) := fun W s σ H Hs Q hK x q => by
  obtain ⟨hc, q2⟩ := Post.ite q
  refine ⟨?_, snd_make h W s σ H Hs Q hK x q2⟩
  obtain ⟨u, e1, r1⟩ := x.slot i _ (isCls_eq hc)
  rw [e1]
  subst hK
  cases (show u = _ from r1)
  rfl
end
end Mi

namespace Z
open PySem PySem.Spec PyProof.Rows L2
open PySem.W (Frag findIn isFn)
/-! ### C.m(k = v, ..) of a classmethod -/
section
variable {X : Cx} {CX : CXT} {k : Nat} {f C : Addr} {E : XK} {K : Frag}
def tCMethK (C : Addr) (ks : List Str) (spk : List V → List V → Hp → VK → XK → Prop) (E : XK) (ta : TE) (tk : TA) : TE := fun σ H Q => ta σ H fun x H1 => x = .ref C ∧ tk σ H1 fun zs H2 => zs.length = ks.length ∧ spk [.ref C] zs H2 Q E
theorem pe_cmethK {o : Expr} {m : Str} {ta : TE} {tk : TA} {kws : List Keyword} {ks : List Str} {apos pos : Pos} {pl : Sem Bool} {mc : Value} {pr : Addr} {spk : List V → List V → Hp → VK → XK → Prop} (he : PE X o ta) (r : ClX.CRead X.K C mc) (c : ClX.CMet X.K C mc m pr f)
    (F : FnK X.prog X.w X.K X.mg X.base CX k f 1 ks spk) (hr : Room k X.A) (hx : Passes CX X E) (hkw : PK X kws tk) (hall : (backToKw pos (keywordEach kws X.env)).all (·.1.isSome) = true := by rfl) (hks : (backToKw pos (keywordEach kws X.env)).filterMap (·.1) = ks := by rfl)
    (hpl : ((backTo pos (starEach [] X.env)).any (·.1) || (backToKw pos (keywordEach kws X.env)).any (·.1.isNone)) = false := by rfl)
    (ht : eval (.Call (.Attribute o m apos) [] kws pos) X.env = (do
      let ov ← eval o X.env
      standAt apos.atName
      let (f, first) ← holding [ov] (getMethod ov m pl)
      callWith pos f first (backTo pos (starEach [] X.env)) (backToKw pos (keywordEach kws X.env))) := by rfl) :
    PE X (.Call (.Attribute o m apos) [] kws pos) (tCMethK C ks spk E ta tk) := by
  constructor
  intro pins s σ H Q I h
  refine PySem.W.methodCall_KW (pl := pl) (thn (he.run pins s σ H _ I h) fun u s1 z => ?_) ht
  obtain ⟨x, H1, I1, rx, ex, q⟩ := z
  subst ex
  cases (show u = Value.ref C from rx)
  refine ClX.getmethcm_ok I1 r c fun s2 I2 => ?_
  refine PySem.W.callWith_of (P := PySem.W.MethP X.K s1.heap.objs.size f (.ref C)) (first := []) hpl (PySem.W.keeps_M c.fi) (evalArgs_kw2_nil hall (thn (hkw.run pos _ s2 σ H1 _ I2 q) fun ws s3 z => ?_))
  obtain ⟨zs, H2, I3, rz, l2, q2⟩ := z
  refine ⟨⟨ClX.pin_at I3, I3.kIn⟩, ?_⟩
  rw [hks]
  have z : wpAny (model X.prog X.w) X.A (call (.ref s1.heap.objs.size) [] (ks.zip ws)) (EP X ((s1.heap.objs.size, PySem.W.methodObj (.ref f) (.ref C)) :: pins) σ Q) X.xe s3 := by
    refine wpAny_call (PySem.W.method_call (ClX.pin_at I3) (codeAny_mono (F X.A X.stack s3 H2 [.ref C] ws [.ref C] zs Q E hr I3.env0 (.cons rfl .nil) rz rfl l2 q2) fun res s' hq => ?_))
    match res, hq with
    | .error er, hq => exact hx _ σ H2 s3 er s' I3 hq
    | .ok (.ret u), hq => exact I3.after hq
  exact thn z fun _ _ y => ClX.unpinE y
end
end Z
namespace Mi
open PySem PySem.Spec PyProof.Rows L2
open PySem.W (Frag)
section
variable {K : Frag} {E : XK} {W : Wd} {Hs Hs' H H' : Hp} {σ σ' : L2.St} {s : S} {ws : List Nat}
def mCMethK (c : Str) (is : List Nat) (n : Nat) (F : Fn) (m : MA) : ME := fun s => (m s).bind fun p => if p.1.length = is.length ∧ is.length + 1 = n ∧ (is.all fun i => decide (i < p.1.length)) = true then callF F (.val (.cls c) :: perm is p.1) p.2 else .stuck
theorem snd_cmethK {c : Str} {is : List Nat} {ks : List Str} {n : Nat} {F : Fn} {t : TA} {m : MA} (hk : ks.length = is.length) (h : SndA K E t m) : SndE K E (Z.tCMethK (He.ga K c) ks (fun vs zs H Q E => spM K n F (vs ++ is.map fun i => zs.getD i .non) H Q E) E (tC (.ref (He.ga K c))) t) (mCMethK c is n F m) := fun W s σ H Hs Q hK x q => by
  refine ⟨rfl, h W s σ H Hs _ hK x (Post.bind q fun xs s2 vs H2 Hs2 _ g2 x2 o2 q4 => ?_)⟩
  obtain ⟨⟨l1, l2, l3⟩, q5⟩ := Post.ite q4
  refine ⟨by rw [← o2.len, hk]; exact l1, ?_⟩
  exact snd_callF (xs := .val (.cls c) :: perm is xs) hK x2 (.cons (by rw [← hK]; exact rfl) (o2.perm fun i hi => of_decide_eq_true (List.all_eq_true.mp l3 i hi))) (by simp; exact l2) q5
end
end Mi

namespace Z
open PySem PySem.Spec PyProof.Rows L2
open PySem.W (Frag)
open AutoSeq1 (wpAny_loadPart')
/-! ### enumerate(tuple) -/
theorem meets_enumerate_newT (l : Addr) (items : Array Value) (n : Nat) (dct : Option Addr) (sl : Array (Option Value)) :
    Meets (Builtin.«enumerate.__new__» ⟨[.type "enumerate", .ref l], []⟩) (fun _ R s => s.heap.get? l = some { cls := .type "tuple", dict := dct, data := .seq items n, slots := sl } ∧
      R (.ok (.ret (.ref (s.heap.push { cls := .type "tuple_iterator", data := .fields #[.ref l, .int 0 0] }).objs.size)))
        { s with heap := (s.heap.push { cls := .type "tuple_iterator", data := .fields #[.ref l, .int 0 0] }).push { cls := .type "enumerate", data := .fields #[.none, .bool false, .ref s.heap.objs.size, rawInt 0, .none, .none] } }) :=
  .of_wp fun prog w A R s h => by
    obtain ⟨hp, g, d, tk, os⟩ := s; obtain ⟨hl, h⟩ := h
    have hsub := sub_enumerate
    have hL : Heap.IsTuple (Shared.heap ⟨hp, g, d, tk, os⟩) l items := ⟨_, hl, rfl, n, rfl⟩
    wp_walk using wpAny_loadPart' hl
    refine wpAny_stack_any fun st => wpAny_pure ?_
    split
    · rename_i c _ _ _ _ _
      cases (c == Value.type "enumerate")
      · wp_walk using wpAny_loadPart' hl, wpAny_pyIter_tuple hL
        exact ⟨_, rfl, h⟩
      · wp_walk using wpAny_loadPart' hl, wpAny_pyIter_tuple hL
        exact ⟨_, rfl, h⟩
    · wp_walk using wpAny_loadPart' hl, wpAny_pyIter_tuple hL
      exact ⟨_, rfl, h⟩
section
variable {prog : Program} {w : World} {A : Around} {E : Value → Shared → Prop} {s : Shared}
theorem call_enumerate_tuple {l : Addr} {items : Array Value} {Q : Value → Shared → Prop} (hL : s.heap.IsTuple l items)
    (h : ∀ h', IsEnum h' (s.heap.objs.size + 1) s.heap.objs.size 0 .none → h'.IsTupleIter s.heap.objs.size l 0 → h'.objs.size = s.heap.objs.size + 2 →
      (∀ b o, s.heap.get? b = some o → h'.get? b = some o) → Q (.ref (s.heap.objs.size + 1)) { s with heap := h' }) :
    wpAny (model prog w) A (call (.type "enumerate") [.ref l]) Q E s := by
  obtain ⟨⟨c, dct, dt, sl⟩, hl, hc, n, hd⟩ := hL
  replace hc : c = .type "tuple" := hc
  replace hd : dt = .seq items n := hd
  subst hc hd
  refine callType_new F.called_enumerate (by decide) (F.typeCall_enumerate_1 _) (F.newCall_enumerate_1 _) (fun obj => F.args_object_init_2 obj _) F.entry_enumerate_new
    (meets_enumerate_newT l items n dct sl) ⟨hl, ?_⟩
  have hz : (s.heap.push { cls := .type "tuple_iterator", data := .fields #[.ref l, .int 0 0] }).objs.size = s.heap.objs.size + 1 := Heap.size_push ..
  show _ ∧ _
  rw [hz]
  have he : IsEnum ((s.heap.push { cls := .type "tuple_iterator", data := .fields #[.ref l, .int 0 0] }).push
      { cls := .type "enumerate", data := .fields #[.none, .bool false, .ref s.heap.objs.size, rawInt 0, .none, .none] }) (s.heap.objs.size + 1) s.heap.objs.size 0 .none := by
    have := Heap.get?_push_size (s.heap.push { cls := .type "tuple_iterator", data := .fields #[.ref l, .int 0 0] })
      (o := { cls := .type "enumerate", data := .fields #[.none, .bool false, .ref s.heap.objs.size, rawInt 0, .none, .none] }) rfl
    rw [hz] at this; exact this
  refine ⟨⟨_, he, rfl⟩, h _ he ⟨_, Heap.get?_push_of_some _ (Heap.get?_push_size _ rfl), rfl, rfl⟩ (by rw [Heap.size_push, hz]) fun b o x => Heap.get?_push_of_some _ (Heap.get?_push_of_some _ x)⟩
theorem draws_tuple {it t : Addr} {items : Array Value} (hne : t ≠ it) (hh : A.handled = none) : Draws prog w A it [it, t] items.size (fun i x => items[i]? = some x) (fun i h => h.IsTupleIter it t i ∧ h.IsTuple t items) where
  live := fun i h st => let ⟨⟨o, ho, _⟩, _⟩ := st; ⟨o, ho⟩
  frame := fun i h h' st k => let ⟨⟨o, ho, r⟩, ⟨o2, ho2, r2⟩⟩ := st; ⟨⟨o, k it (by simp) o ho, r⟩, ⟨o2, k t (by simp) o2 ho2, r2⟩⟩
  item := fun i s Q E hi st hQ => by
    obtain ⟨h1, h2⟩ := st
    refine RZ.nextOf_tuple_item h1 h2 (x := items[i]) (by simp [hi]) fun h' hit sb => ?_
    exact hQ _ h' s.toks (by simp [hi]) ⟨hit, h2.extBut sb.extBut hne⟩ sb
  done := fun s Q E st hE => RZ.nextOf_tuple_end hh st.1 st.2 (by simp) hE
end
def IteT (K : Frag) (a : Addr) : It :=
  ⟨fun i H => ∃ (xs : List V) (x : V), SqT K H a xs ∧ xs[i]? = some x, fun i H v H' => ∃ T x, v = .ref T ∧ H T = none ∧ H' = upd H T (.tup [.int (i : Nat), x]) ∧ ∀ xs, SqT K H a xs → xs[i]? = some x, fun i H => ∃ xs : List V, SqT K H a xs ∧ xs.length = i⟩
theorem turn_enumT {P : Program} {w : World} {K : Frag} {elts : List Expr} {kk : Nat} {tpos : Pos} (a e it : Addr) :
    Turn P w K (.Tuple elts kk tpos) (IteT K a) [e, it] e (fun i h => (∃ old, IsEnum h e it ((i : Nat) : Int) old) ∧ h.IsTupleIter it a i ∧ e ≠ it ∧ a ≠ it ∧ a ≠ e) where
  mem := by simp
  obj := fun i h st b hb => by
    obtain ⟨⟨old, he⟩, ⟨o, ho, hc, hd⟩, _⟩ := st
    have e' : b = e ∨ b = it := by simpa using hb
    rcases e' with z | z
    · rw [z]; exact ⟨_, he, fun v q => nomatch q⟩
    · rw [z]; exact ⟨o, ho, fun v q => by rw [hd] at q; cases q⟩
  keep := fun i h h' st k => let ⟨⟨old, he⟩, hi, hne⟩ := st; ⟨⟨old, k e (by simp) _ he⟩, hi.at fun o q => k it (by simp) o q, hne⟩
  item := by
    intro X hP hw hK hc i pins s σ H E I hf st hg
    subst hP hw hK
    obtain ⟨⟨old, he⟩, hit, hne, ha1, ha2⟩ := st
    obtain ⟨xs, x, hq, hx⟩ := hg
    obtain ⟨its, rv, p, hz⟩ := I.tuple hq
    obtain ⟨u, hu, ru⟩ := rv.get hx
    have hel : e < s.heap.objs.size := Heap.lt_size he
    have hil : it < s.heap.objs.size := by obtain ⟨_, q, _⟩ := hit; exact Heap.lt_size q
    have hlt : i < its.toArray.size := by
      rw [List.size_toArray]
      exact (List.getElem?_eq_some_iff.mp hu).1
    refine wpAny_pyNext_enum_itemD (draws_tuple (items := its.toArray) ha1 (I.ok.hd hc)) he ⟨hit, p⟩ hlt hne (by simp [hne, Ne.symm ha2]) fun x' h' tk hP ho hit' hT hsz hk => ?_
    have ex : x' = u := by
      rw [List.getElem?_toArray, hu] at hP
      exact (Option.some.inj hP).symm
    subst ex
    refine ⟨_, rfl, wpAny_letOwnedTupleGo_enum (s := { s with heap := h', toks := tk + 1 }) ho fun h'' he' sb => ?_⟩
    have hT2 : h''.get? s.heap.objs.size = some { cls := .type "tuple", data := .seq #[.int i tk, x'] } := (sb.2 _ (Nat.ne_of_gt hel)).trans hT
    have new : ObjOk X.prog X.w (upd H s.heap.objs.size (.tup [.int (i : Nat), x])) h'' s.heap.objs.size (.tup [.int (i : Nat), x]) :=
      ⟨by show 2 ≤ sizeLine; decide, [.int i tk, x'], .cons ⟨_, rfl⟩ (.cons ru .nil), ⟨_, hT2, rfl, _, rfl⟩⟩
    have I1 : Inv X pins σ (upd H s.heap.objs.size (.tup [.int (i : Nat), x])) { s with heap := h'', toks := tk + 1 } :=
      I.turnedNew (ch := [e, it]) (fun b ob hb q => (sb.2 b (fun z => hb (by simp [z]))).trans (hk b ob (fun z => hb (by simp [z])) (fun z => hb (by simp [z])) q)) hf (Nat.le_refl _) new
    refine ⟨.ref s.heap.objs.size, _, I1, rfl, ⟨_, x, rfl, I.hok.fresh (Nat.le_refl _), rfl, fun ys hy => by rw [I.tuple_inj hy hq]; exact hx⟩, ⟨⟨x', ?_⟩, hit'.1.at fun o q => (sb.2 it (Ne.symm hne)).trans q, hne, ha1, ha2⟩, fun b hb => ?_⟩
    · have e1 : ((i + 1 : Nat) : Int) = (i : Int) + 1 := by omega
      rw [e1]; exact he'
    · have hb' : b < s.heap.objs.size := by
        have e' : b = e ∨ b = it := by simpa using hb
        rcases e' with z | z
        · rw [z]; exact hel
        · rw [z]; exact hil
      rw [upd_ne (Nat.ne_of_lt hb')]
      exact (hf b hb).1
  done := by
    intro X hP hw hK hc i pins s σ H E I hf st hg
    subst hP hw hK
    obtain ⟨⟨old, he⟩, hit, hne, ha1, ha2⟩ := st
    obtain ⟨xs, hq, hx⟩ := hg
    obtain ⟨its, rv, p, hz⟩ := I.tuple hq
    obtain ⟨f0, f1, f2, f3, f4, f5⟩ := hf it (by simp)
    have hl : its.toArray.size = i := by rw [List.size_toArray, ← rv.length]; exact hx
    refine wpAny_pyNext_enum_endD (draws_tuple (items := its.toArray) ha1 (I.ok.hd hc)) he ⟨by rw [hl]; exact hit, p⟩ fun h' eb => ⟨rfl, I.turned (t' := s.toks) (fun b o hb q => eb b o hb q) f0 f1 f3 f4 f5⟩
  self := fun A i s Q E st h => let ⟨⟨_, he⟩, _⟩ := st; wpAny_pyIter_enum he h
def iEnumT (K : Frag) (ta : TA) : TI := fun σ H R => ta σ H fun vs H1 => ∃ a xs, vs = [.ref a] ∧ SqT K H1 a xs ∧ R (IteT K a) H1
theorem pi_enumT {X : Cx} {K : Frag} {e : Expr} {ta : TA} {p pos tpos : Pos} {elts : List Expr} {kk : Nat} (hK : X.K = K) (hg : Gl X "enumerate") (hm : X.mg "enumerate" = none) (ha : PA X [e] ta) (hs : starEach [e] X.env = [(false, eval e X.env)] := by rfl) :
    PI X (.Tuple elts kk tpos) (.Call (.Name "enumerate" p) [e] [] pos) (iEnumT K ta) := by
  subst hK
  refine ⟨fun pins s σ H R I h => ?_⟩
  refine Call_ (ld_blt I hg hm boot_enumerate (PyProof.Rows.callWith_type1 (thn (ha.run pos pins s σ H _ I h) fun us s1 ⟨vs, H1, I1, r1, q1⟩ => ?_) hs rfl))
  obtain ⟨a, xs, ex, hq, q⟩ := q1
  subst ex
  cases r1 with
  | cons r rr =>
    cases rr
    cases r
    obtain ⟨its, rv, p', hz⟩ := I1.tuple hq
    have hal : a < s1.heap.objs.size := by obtain ⟨_, q, _⟩ := p'; exact Heap.lt_size q
    refine call_enumerate_tuple p' fun h' he hit hsz hk => wpAny_pyIter_enum he ?_
    have I2 : Inv X pins σ H1 { s1 with heap := h' } := I1.kept (t' := s1.toks) hk
    refine ⟨s1.heap.objs.size + 1, [s1.heap.objs.size + 1, s1.heap.objs.size], _, _, H1, rfl, I2, turn_enumT a (s1.heap.objs.size + 1) s1.heap.objs.size, ⟨⟨.none, he⟩, hit, Nat.succ_ne_self _, Nat.ne_of_lt hal, Nat.ne_of_lt (Nat.lt_succ_of_lt hal)⟩, fun b hb => ?_, q⟩
    have e' : b = s1.heap.objs.size + 1 ∨ b = s1.heap.objs.size := by simpa using hb
    have hle : s1.heap.objs.size ≤ b := by
      rcases e' with z | z
      · rw [z]; exact Nat.le_add_right _ _
      · rw [z]; exact Nat.le_refl _
    exact I1.fpOk hle (I1.hok.fresh hle)
end Z
namespace Mi
open PySem PySem.Spec PyProof.Rows L2
open PySem.W (Frag)
section
variable {K : Frag} {E : XK} {W : Wd} {Hs Hs' H H' : Hp} {σ σ' : L2.St} {s : S} {ws : List Nat}
def iEnT (m : MA) : MI := fun s => (m s).bind fun p => match p.1 with
  | [x] => (ofO (argSeq p.2 x)).bind fun q => (ofO (asT q.1)).bind fun ds => .ok (⟨enumItems 0 ds, []⟩, p.2)
  | _ => .stuck
theorem snd_ienT {t : TA} {m : MA} (h : SndA K E t m) : SndI K E (Z.iEnumT K t) (iEnT m) := fun W s σ H Hs Q hK x q => by
  refine h W s σ H Hs _ hK x (Post.bind q fun xs s1 vs H1 Hs1 _ g1 x1 o1 q1 => ?_)
  cases o1 with
  | nil => exact q1.elim
  | @cons xa v xs vs o1 o2 =>
    cases o2 with
    | cons => exact q1.elim
    | nil =>
      obtain ⟨⟨d, gd⟩, e1, q2⟩ := Post.ofO q1
      obtain ⟨ds, e2, q3⟩ := q2.ofO
      cases asT_eq e2
      obtain ⟨a, vs, rfl, h1, h2⟩ := argSeq_tup x1 o1 e1
      subst hK
      refine ⟨a, vs, rfl, x1.pool.sqt h2, q3 _ H1 Hs1 (Same.rfl' _) x1 ?_⟩
      intro W' s' σ' Hs' H' hK hpa X' g hk hh
      have u1 : SqT W.K H' a vs := X'.pool.sqt (same_sqt g h2)
      have u2 := h1.up g
      have hl := u2.len
      refine ⟨fun i hi => ?_, ⟨vs, u1, by show vs.length = (enumItems 0 ds).length; rw [enum_len, hl]⟩, fun i y H'' hi yl => ?_⟩
      · have hi2 : i < vs.length := by
          have : i < (enumItems 0 ds).length := hi
          rw [enum_len] at this
          omega
        exact ⟨vs, vs[i], u1, by simp [hi2]⟩
      · obtain ⟨T, z, e4, e5, e6, e7⟩ := yl
        obtain ⟨d, e8, r⟩ := u2.get' (e7 vs u1)
        subst e4
        subst e6
        have gg := gr_new (o := .tup [.int (i : Nat), z]) X'.pool e5
        refine ⟨_, .tup [.int i, d], gg, ?_, ⟨T, _, rfl, upd_same, ⟨_, _, rfl, rfl, _, _, rfl, r.up gg.s, rfl⟩⟩⟩
        have := enum_get (k := 0) e8
        simpa using this
end
end Mi

namespace Mi
open PySem PySem.Spec PyProof.Rows L2
/-! ### calls with values alone, evaluated -/
theorem slots_vals (g : List Slot) : ∀ (k : Nat) (ds : List D), slotsOf g k (ds.map Arg.val) = ds.map Slot.sh
  | _, [] => rfl
  | k, d :: ds => by simp [slotsOf, mkSlot, slots_vals g (k + 1) ds]
theorem lents_vals (g : List Slot) : ∀ ds : List D, lents g (ds.map Arg.val) = []
  | [] => rfl
  | d :: ds => by simp [lents, lents_vals g ds]
theorem back_vals (g : List Slot) : ∀ ds : List D, takeBack g (ds.map Arg.val) (List.replicate ds.length .no) = some g
  | [] => rfl
  | d :: ds => by simp [takeBack, List.replicate_succ, back_vals g ds]
theorem allSh_sh : ∀ ds : List D, allSh (ds.map Slot.sh) = some ds
  | [] => rfl
  | d :: ds => by simp [allSh, allSh_sh ds]
theorem makeS_ev {c : Str} {F : Fn} {ds : List D} {d : D} {i : Nat} {g : List Slot} {p p' : Int × Int} (hg : (g[i]?).bind slotD = some (.lst ds)) (h : F (.ow (some 0) (.obj c [] []) :: ds.map .sh) p = .ok .non (.ow (some 0) d :: List.replicate ds.length .no) p') : mMakeS c F (mStar (mBor i) mNil) ⟨g, p⟩ = .ok (.val d, ⟨g, p'⟩) := by
  have e1 : mStar (mBor i) mNil ⟨g, p⟩ = .ok (ds.map Arg.val, ⟨g, p⟩) := by
    simp [mStar, mBor, hg, asSeq, mNil]
  unfold mMakeS
  rw [e1]
  have e2 : callF F (.bor g.length :: ds.map Arg.val) ⟨g ++ [.ow none (.obj c [] [])], p⟩ = .ok (.val .non, ⟨g ++ [.ow none d], p'⟩) := by
    unfold callF
    have l : lents (g ++ [.ow none (.obj c [] [])]) (.bor g.length :: ds.map Arg.val) = [g.length] := by
      simp [lents, lents_vals]
    have sl : slotsOf (g ++ [.ow none (.obj c [] [])]) 0 (.bor g.length :: ds.map Arg.val) = .ow (some 0) (.obj c [] []) :: ds.map .sh := by
      simp [slotsOf, mkSlot, slots_vals]
    have b : takeBack (g ++ [.ow none (.obj c [] [])]) (.bor g.length :: ds.map Arg.val) (.ow (some 0) d :: List.replicate ds.length .no) = some (g ++ [.ow none d]) := by
      simp [takeBack, back_vals]
    simp only
    rw [l, sl, h]
    simp [b]
  simp only [bind_ok]
  rw [e2]
  simp
theorem star1_ev {F : Fn} {x : Slot} {ds : List D} {d : D} {y : Slot} {p p' : Int × Int} (hl : ds.length ≤ 100000) (h : F [x, .sh (.tup ds)] p = .ok d [y, .no] p') : starF 1 F (x :: ds.map .sh) p = .ok d (y :: List.replicate ds.length .no) p' := by
  unfold starF
  simp only [List.drop_succ_cons, List.drop_zero, allSh_sh]
  rw [if_pos ⟨by simp, hl⟩]
  simp [h]
end Mi

namespace Mi
open PySem PySem.Spec PyProof.Rows L2
/-! ### kinds of trees, for simp -/
@[simp] theorem asObj_obj (c c' : Str) (ns : List Str) (ds : List D) : asObj c (.obj c' ns ds) = if c' = c then some ns else none := rfl
@[simp] theorem asObj_non (c : Str) : asObj c (.non) = none := rfl
@[simp] theorem clsOf_non (cs : List Str) : clsOf cs (.non) = none := rfl
@[simp] theorem asObj_bl {x} (c : Str) : asObj c (.bl x) = none := rfl
@[simp] theorem clsOf_bl {x} (cs : List Str) : clsOf cs (.bl x) = none := rfl
@[simp] theorem asObj_int {x} (c : Str) : asObj c (.int x) = none := rfl
@[simp] theorem clsOf_int {x} (cs : List Str) : clsOf cs (.int x) = none := rfl
@[simp] theorem asObj_str {x} (c : Str) : asObj c (.str x) = none := rfl
@[simp] theorem clsOf_str {x} (cs : List Str) : clsOf cs (.str x) = none := rfl
@[simp] theorem asObj_ty {x} (c : Str) : asObj c (.ty x) = none := rfl
@[simp] theorem clsOf_ty {x} (cs : List Str) : clsOf cs (.ty x) = none := rfl
@[simp] theorem asObj_cls {x} (c : Str) : asObj c (.cls x) = none := rfl
@[simp] theorem clsOf_cls {x} (cs : List Str) : clsOf cs (.cls x) = none := rfl
@[simp] theorem asObj_pot (c : Str) : asObj c (.pot) = none := rfl
@[simp] theorem clsOf_pot (cs : List Str) : clsOf cs (.pot) = none := rfl
@[simp] theorem asObj_lst {x} (c : Str) : asObj c (.lst x) = none := rfl
@[simp] theorem clsOf_lst {x} (cs : List Str) : clsOf cs (.lst x) = none := rfl
@[simp] theorem asObj_tup {x} (c : Str) : asObj c (.tup x) = none := rfl
@[simp] theorem clsOf_tup {x} (cs : List Str) : clsOf cs (.tup x) = none := rfl
@[simp] theorem asObj_dct {x} {y} (c : Str) : asObj c (.dct x y) = none := rfl
@[simp] theorem clsOf_dct {x} {y} (cs : List Str) : clsOf cs (.dct x y) = none := rfl
@[simp] theorem clsOf_obj (cs : List Str) (c : Str) (ns : List Str) (ds : List D) : clsOf cs (.obj c ns ds) = if c ∈ cs then some c else none := rfl
@[simp] theorem bltD_non : blt (.non) = some "NoneType" := rfl
@[simp] theorem bltD_bl {x} : blt (.bl x) = some "bool" := rfl
@[simp] theorem bltD_int {x} : blt (.int x) = some "int" := rfl
@[simp] theorem bltD_str {x} : blt (.str x) = some "str" := rfl
@[simp] theorem bltD_ty {x} : blt (.ty x) = none := rfl
@[simp] theorem bltD_cls {x} : blt (.cls x) = none := rfl
@[simp] theorem bltD_pot : blt (.pot) = none := rfl
@[simp] theorem bltD_lst {x} : blt (.lst x) = some "list" := rfl
@[simp] theorem bltD_tup {x} : blt (.tup x) = some "tuple" := rfl
@[simp] theorem bltD_dct {x} {y} : blt (.dct x y) = some "dict" := rfl
@[simp] theorem bltD_obj (c : Str) (ns : List Str) (ds : List D) : blt (.obj c ns ds) = none := rfl
end Mi
namespace Z
open PySem PySem.Spec PyProof.Rows L2
open PySem.W (Frag)
theorem pgLstK {X : Cx} {K : Frag} {es : List Expr} {k : Nat} {pos : Pos} {t : TGs} {n : Nat} (hK : X.K = K) (hc : X.calm = true) (h : PGs X es t)
    (hn : (assignEach es X.env).length = n := by rfl) (hst : (assignEach es X.env).findIdx? (·.1) = none := by rfl) : PG X (.Tuple es k pos) (gLst K n t) := by
  subst hK
  exact pg_lst hc h hn hst
end Z
namespace Mi
open PySem PySem.Spec PyProof.Rows L2
open PySem.W (Frag)
/-- a, b = a list -/
def gLs (n : Nat) (m : List D → S → Option S) : MG := fun d s => match d with
  | .lst ds => if ds.length = n then m ds s else none
  | _ => none
theorem snd_gls {K : Frag} {ws : List Nat} {n : Nat} {gs : TGs} {m : List D → S → Option S} (h : SndGs K ws gs m) : SndG K ws (gLst K n gs) (gLs n m) := fun W s σ H Hs d v s' Q hK x r e k => by
  cases d with
  | lst ds =>
    obtain ⟨a, vs, e1, h1, h2⟩ := r
    have e : (if ds.length = n then m ds s else none) = some s' := e
    by_cases hl : ds.length = n
    · rw [if_pos hl] at e
      exact ⟨a, vs, e1, SqL.of (x.pool.at_ h1 (by intro _ z; cases z)), by rw [← h2.len]; exact hl, h W s σ H Hs ds vs s' Q hK x h2 e k⟩
    · rw [if_neg hl] at e
      cases e
  | _ => cases e
end Mi

namespace A57
open PySem PySem.Spec PyProof.Rows L2 Mi
def top (i : Nat) : Stmt := PySem.Challenge.pw_anypoints_k15_tables_told.main.body.getD i (.Pass ⟨0, 0, 0, 0⟩)
abbrev s_is_integer : Stmt := top 10
abbrev N_is_integer : List Str := ["value"]
theorem sc_is_integer : FnScope ["value"] ["value"] (defScope s_is_integer) := ⟨rfl, rfl, rfl, by decide +kernel, rfl, by decide +kernel, by decide +kernel⟩
abbrev s_is_count : Stmt := top 11
abbrev N_is_count : List Str := ["value"]
theorem sc_is_count : FnScope ["value"] ["value"] (defScope s_is_count) := ⟨rfl, rfl, rfl, by decide +kernel, rfl, by decide +kernel, by decide +kernel⟩
abbrev s_is_number : Stmt := top 12
abbrev N_is_number : List Str := ["value"]
theorem sc_is_number : FnScope ["value"] ["value"] (defScope s_is_number) := ⟨rfl, rfl, rfl, by decide +kernel, rfl, by decide +kernel, by decide +kernel⟩
abbrev s_want_number : Stmt := top 13
abbrev N_want_number : List Str := ["value"]
theorem sc_want_number : FnScope ["value"] ["value"] (defScope s_want_number) := ⟨rfl, rfl, rfl, by decide +kernel, rfl, by decide +kernel, by decide +kernel⟩
abbrev s_as_ratio : Stmt := top 14
abbrev N_as_ratio : List Str := ["value"]
theorem sc_as_ratio : FnScope ["value"] ["value"] (defScope s_as_ratio) := ⟨rfl, rfl, rfl, by decide +kernel, rfl, by decide +kernel, by decide +kernel⟩
abbrev s_common_divisor : Stmt := top 15
abbrev N_common_divisor : List Str := ["one", "other"]
theorem sc_common_divisor : FnScope ["one", "other"] ["one", "other"] (defScope s_common_divisor) := ⟨rfl, rfl, rfl, by decide +kernel, rfl, by decide +kernel, by decide +kernel⟩
abbrev s_Ratio_init : Stmt := inClass (top 16) 0
abbrev N_Ratio_init : List Str := ["self", "top", "bottom", "divisor"]
theorem sc_Ratio_init : FnScope ["self", "top", "bottom", "divisor"] ["self", "top", "bottom"] (defScope s_Ratio_init) := ⟨rfl, rfl, rfl, by decide +kernel, rfl, by decide +kernel, by decide +kernel⟩
abbrev s_Ratio_sign : Stmt := inClass (top 16) 4
abbrev N_Ratio_sign : List Str := ["self"]
theorem sc_Ratio_sign : FnScope ["self"] ["self"] (defScope s_Ratio_sign) := ⟨rfl, rfl, rfl, by decide +kernel, rfl, by decide +kernel, by decide +kernel⟩
abbrev s_Ratio_is_below : Stmt := inClass (top 16) 6
abbrev N_Ratio_is_below : List Str := ["self", "other", "mate"]
theorem sc_Ratio_is_below : FnScope ["self", "other", "mate"] ["self", "other"] (defScope s_Ratio_is_below) := ⟨rfl, rfl, rfl, by decide +kernel, rfl, by decide +kernel, by decide +kernel⟩
abbrev s_Ratio_add : Stmt := inClass (top 16) 7
abbrev N_Ratio_add : List Str := ["self", "other", "more", "top"]
theorem sc_Ratio_add : FnScope ["self", "other", "more", "top"] ["self", "other"] (defScope s_Ratio_add) := ⟨rfl, rfl, rfl, by decide +kernel, rfl, by decide +kernel, by decide +kernel⟩
abbrev s_Ratio_sub : Stmt := inClass (top 16) 9
abbrev N_Ratio_sub : List Str := ["self", "other"]
theorem sc_Ratio_sub : FnScope ["self", "other"] ["self", "other"] (defScope s_Ratio_sub) := ⟨rfl, rfl, rfl, by decide +kernel, rfl, by decide +kernel, by decide +kernel⟩
abbrev s_Ratio_neg : Stmt := inClass (top 16) 13
abbrev N_Ratio_neg : List Str := ["self"]
theorem sc_Ratio_neg : FnScope ["self"] ["self"] (defScope s_Ratio_neg) := ⟨rfl, rfl, rfl, by decide +kernel, rfl, by decide +kernel, by decide +kernel⟩
abbrev s_Ratio_eq : Stmt := inClass (top 16) 14
abbrev N_Ratio_eq : List Str := ["self", "other"]
theorem sc_Ratio_eq : FnScope ["self", "other"] ["self", "other"] (defScope s_Ratio_eq) := ⟨rfl, rfl, rfl, by decide +kernel, rfl, by decide +kernel, by decide +kernel⟩
abbrev s_Ratio_repr : Stmt := inClass (top 16) 16
abbrev N_Ratio_repr : List Str := ["self"]
theorem sc_Ratio_repr : FnScope ["self"] ["self"] (defScope s_Ratio_repr) := ⟨rfl, rfl, rfl, by decide +kernel, rfl, by decide +kernel, by decide +kernel⟩
abbrev s_is_place : Stmt := top 20
abbrev N_is_place : List Str := ["value"]
theorem sc_is_place : FnScope ["value"] ["value"] (defScope s_is_place) := ⟨rfl, rfl, rfl, by decide +kernel, rfl, by decide +kernel, by decide +kernel⟩
abbrev s_filled : Stmt := top 21
abbrev N_filled : List Str := ["numbers", "number"]
theorem sc_filled : FnScope ["numbers", "number"] ["numbers"] (defScope s_filled) := ⟨rfl, rfl, rfl, by decide +kernel, rfl, by decide +kernel, by decide +kernel⟩
abbrev s_is_right_at : Stmt := top 22
abbrev N_is_right_at : List Str := ["points", "position", "number"]
theorem sc_is_right_at : FnScope ["points", "position", "number"] ["points", "position"] (defScope s_is_right_at) := ⟨rfl, rfl, rfl, by decide +kernel, rfl, by decide +kernel, by decide +kernel⟩
abbrev s_want_few : Stmt := top 23
abbrev N_want_few : List Str := ["numbers"]
theorem sc_want_few : FnScope ["numbers"] ["numbers"] (defScope s_want_few) := ⟨rfl, rfl, rfl, by decide +kernel, rfl, by decide +kernel, by decide +kernel⟩
abbrev s_Table_init : Stmt := inClass (top 24) 0
abbrev N_Table_init : List Str := ["self", "points", "position"]
theorem sc_Table_init : FnScope ["self", "points", "position"] ["self", "points"] (defScope s_Table_init) := ⟨rfl, rfl, rfl, by decide +kernel, rfl, by decide +kernel, by decide +kernel⟩
abbrev s_Table_of_steps : Stmt := inClass (top 24) 1
abbrev N_Table_of_steps : List Str := ["cls", "steps", "position", "step", "points", "more"]
theorem sc_Table_of_steps : FnScope ["cls", "steps", "position", "step", "points", "more"] ["cls", "steps"] (defScope s_Table_of_steps) := ⟨rfl, rfl, rfl, by decide +kernel, rfl, by decide +kernel, by decide +kernel⟩
abbrev s_Table_first_places : Stmt := inClass (top 24) 2
abbrev N_Table_first_places : List Str := ["cls", "k", "points"]
theorem sc_Table_first_places : FnScope ["cls", "k", "points"] ["cls", "k"] (defScope s_Table_first_places) := ⟨rfl, rfl, rfl, by decide +kernel, rfl, by decide +kernel, by decide +kernel⟩
abbrev s_Table_steep : Stmt := inClass (top 24) 3
abbrev N_Table_steep : List Str := ["cls", "s", "k", "points", "turn"]
theorem sc_Table_steep : FnScope ["cls", "s", "k", "points", "turn"] ["cls", "s", "k"] (defScope s_Table_steep) := ⟨rfl, rfl, rfl, by decide +kernel, rfl, by decide +kernel, by decide +kernel⟩
abbrev s_Table_paid : Stmt := inClass (top 24) 4
abbrev N_Table_paid : List Str := ["self", "number"]
theorem sc_Table_paid : FnScope ["self", "number"] ["self"] (defScope s_Table_paid) := ⟨rfl, rfl, rfl, by decide +kernel, rfl, by decide +kernel, by decide +kernel⟩
abbrev s_Table_points : Stmt := inClass (top 24) 5
abbrev N_Table_points : List Str := ["self"]
theorem sc_Table_points : FnScope ["self"] ["self"] (defScope s_Table_points) := ⟨rfl, rfl, rfl, by decide +kernel, rfl, by decide +kernel, by decide +kernel⟩
abbrev s_Table_steps : Stmt := inClass (top 24) 6
abbrev N_Table_steps : List Str := ["self", "behind", "number", "less"]
theorem sc_Table_steps : FnScope ["self", "behind", "number", "less"] ["self"] (defScope s_Table_steps) := ⟨rfl, rfl, rfl, by decide +kernel, rfl, by decide +kernel, by decide +kernel⟩
abbrev s_Table_getitem : Stmt := inClass (top 24) 7
abbrev N_Table_getitem : List Str := ["self", "place"]
theorem sc_Table_getitem : FnScope ["self", "place"] ["self", "place"] (defScope s_Table_getitem) := ⟨rfl, rfl, rfl, by decide +kernel, rfl, by decide +kernel, by decide +kernel⟩
abbrev s_Table_eq : Stmt := inClass (top 24) 14
abbrev N_Table_eq : List Str := ["self", "other"]
theorem sc_Table_eq : FnScope ["self", "other"] ["self", "other"] (defScope s_Table_eq) := ⟨rfl, rfl, rfl, by decide +kernel, rfl, by decide +kernel, by decide +kernel⟩
abbrev s_Table_repr : Stmt := inClass (top 24) 15
abbrev N_Table_repr : List Str := ["self", "told", "number"]
theorem sc_Table_repr : FnScope ["self", "told", "number"] ["self"] (defScope s_Table_repr) := ⟨rfl, rfl, rfl, by decide +kernel, rfl, by decide +kernel, by decide +kernel⟩
abbrev s_law_pot : Stmt := top 26
abbrev N_law_pot : List Str := ["_law_script", "_law_at", "_law_cell"]
theorem sc_law_pot : FnScope ["_law_script", "_law_at", "_law_cell"] ["_law_script", "_law_at"] (defScope s_law_pot) := ⟨rfl, rfl, rfl, by decide +kernel, rfl, by decide +kernel, by decide +kernel⟩
abbrev s_law_draw : Stmt := top 27
abbrev N_law_draw : List Str := ["_law_pot_here", "_law_many", "_law_digit"]
theorem sc_law_draw : FnScope ["_law_pot_here", "_law_many", "_law_digit"] ["_law_pot_here", "_law_many"] (defScope s_law_draw) := ⟨rfl, rfl, rfl, by decide +kernel, rfl, by decide +kernel, by decide +kernel⟩
abbrev s_law_pick : Stmt := top 28
abbrev N_law_pick : List Str := ["_law_pot_here", "_law_some"]
theorem sc_law_pick : FnScope ["_law_pot_here", "_law_some"] ["_law_pot_here", "_law_some"] (defScope s_law_pick) := ⟨rfl, rfl, rfl, by decide +kernel, rfl, by decide +kernel, by decide +kernel⟩
abbrev s_law_common : Stmt := top 29
abbrev N_law_common : List Str := ["_law_one", "_law_two"]
theorem sc_law_common : FnScope ["_law_one", "_law_two"] ["_law_one", "_law_two"] (defScope s_law_common) := ⟨rfl, rfl, rfl, by decide +kernel, rfl, by decide +kernel, by decide +kernel⟩
abbrev s_law_low : Stmt := top 30
abbrev N_law_low : List Str := ["_law_up", "_law_low_here", "_law_by"]
theorem sc_law_low : FnScope ["_law_up", "_law_low_here", "_law_by"] ["_law_up", "_law_low_here"] (defScope s_law_low) := ⟨rfl, rfl, rfl, by decide +kernel, rfl, by decide +kernel, by decide +kernel⟩
abbrev s_law_plus : Stmt := top 31
abbrev N_law_plus : List Str := ["_law_a", "_law_b"]
theorem sc_law_plus : FnScope ["_law_a", "_law_b"] ["_law_a", "_law_b"] (defScope s_law_plus) := ⟨rfl, rfl, rfl, by decide +kernel, rfl, by decide +kernel, by decide +kernel⟩
abbrev s_law_minus : Stmt := top 32
abbrev N_law_minus : List Str := ["_law_a", "_law_b"]
theorem sc_law_minus : FnScope ["_law_a", "_law_b"] ["_law_a", "_law_b"] (defScope s_law_minus) := ⟨rfl, rfl, rfl, by decide +kernel, rfl, by decide +kernel, by decide +kernel⟩
abbrev s_law_steps : Stmt := top 34
abbrev N_law_steps : List Str := ["_law_pot_here", "_law_found", "_law_place", "_law_up", "_law_step"]
theorem sc_law_steps : FnScope ["_law_pot_here", "_law_found", "_law_place", "_law_up", "_law_step"] ["_law_pot_here"] (defScope s_law_steps) := ⟨rfl, rfl, rfl, by decide +kernel, rfl, by decide +kernel, by decide +kernel⟩
abbrev s_law_points : Stmt := top 35
abbrev N_law_points : List Str := ["_law_steps_here", "_law_found", "_law_step"]
theorem sc_law_points : FnScope ["_law_steps_here", "_law_found", "_law_step"] ["_law_steps_here"] (defScope s_law_points) := ⟨rfl, rfl, rfl, by decide +kernel, rfl, by decide +kernel, by decide +kernel⟩
abbrev s_law_number : Stmt := top 36
abbrev N_law_number : List Str := ["_law_pot_here", "_law_a", "_law_by"]
theorem sc_law_number : FnScope ["_law_pot_here", "_law_a", "_law_by"] ["_law_pot_here", "_law_a"] (defScope s_law_number) := ⟨rfl, rfl, rfl, by decide +kernel, rfl, by decide +kernel, by decide +kernel⟩
abbrev s_law_paid : Stmt := top 37
abbrev N_law_paid : List Str := ["_law_points_here", "_law_a"]
theorem sc_law_paid : FnScope ["_law_points_here", "_law_a"] ["_law_points_here"] (defScope s_law_paid) := ⟨rfl, rfl, rfl, by decide +kernel, rfl, by decide +kernel, by decide +kernel⟩
abbrev s_law_shown : Stmt := top 38
abbrev N_law_shown : List Str := ["_law_a"]
theorem sc_law_shown : FnScope ["_law_a"] ["_law_a"] (defScope s_law_shown) := ⟨rfl, rfl, rfl, by decide +kernel, rfl, by decide +kernel, by decide +kernel⟩
abbrev s_law_is : Stmt := top 39
abbrev N_law_is : List Str := ["_law_made", "_law_points_here", "_law_steps_here", "_law_shown_here", "_law_a", "_law_place", "_law_many"]
theorem sc_law_is : FnScope ["_law_made", "_law_points_here", "_law_steps_here", "_law_shown_here", "_law_a", "_law_place", "_law_many"] ["_law_made", "_law_points_here", "_law_steps_here"] (defScope s_law_is) := ⟨rfl, rfl, rfl, by decide +kernel, rfl, by decide +kernel, by decide +kernel⟩
abbrev s_law_by_points : Stmt := top 40
abbrev N_law_by_points : List Str := ["_law_row"]
theorem sc_law_by_points : FnScope ["_law_row"] ["_law_row"] (defScope s_law_by_points) := ⟨rfl, rfl, rfl, by decide +kernel, rfl, by decide +kernel, by decide +kernel⟩
abbrev s_law_by_steps : Stmt := top 41
abbrev N_law_by_steps : List Str := ["_law_row"]
theorem sc_law_by_steps : FnScope ["_law_row"] ["_law_row"] (defScope s_law_by_steps) := ⟨rfl, rfl, rfl, by decide +kernel, rfl, by decide +kernel, by decide +kernel⟩
abbrev s_law_both : Stmt := top 42
abbrev N_law_both : List Str := ["_law_pot_here", "_law_points_here", "_law_steps_here", "_law_many", "_law_told", "_law_made", "_law_a"]
theorem sc_law_both : FnScope ["_law_pot_here", "_law_points_here", "_law_steps_here", "_law_many", "_law_told", "_law_made", "_law_a"] ["_law_pot_here", "_law_points_here", "_law_steps_here"] (defScope s_law_both) := ⟨rfl, rfl, rfl, by decide +kernel, rfl, by decide +kernel, by decide +kernel⟩
abbrev s_law_equal_right : Stmt := top 43
abbrev N_law_equal_right : List Str := ["_law_pot_here", "_law_made", "_law_points_here", "_law_others", "_law_beside", "_law_odd", "_law_some"]
theorem sc_law_equal_right : FnScope ["_law_pot_here", "_law_made", "_law_points_here", "_law_others", "_law_beside", "_law_odd", "_law_some"] ["_law_pot_here", "_law_made", "_law_points_here", "_law_others", "_law_beside"] (defScope s_law_equal_right) := ⟨rfl, rfl, rfl, by decide +kernel, rfl, by decide +kernel, by decide +kernel⟩
abbrev s_law_fixed_right : Stmt := top 44
abbrev N_law_fixed_right : List Str := ["_law_pot_here", "_law_many", "_law_size", "_law_ones", "_law_place", "_law_steps_here", "_law_made", "_law_points_here", "_law_a", "_law_b"]
theorem sc_law_fixed_right : FnScope ["_law_pot_here", "_law_many", "_law_size", "_law_ones", "_law_place", "_law_steps_here", "_law_made", "_law_points_here", "_law_a", "_law_b"] ["_law_pot_here"] (defScope s_law_fixed_right) := ⟨rfl, rfl, rfl, by decide +kernel, rfl, by decide +kernel, by decide +kernel⟩
abbrev s_law_right : Stmt := top 45
abbrev N_law_right : List Str := ["_law_pot_here", "_law_beside", "_law_turn", "_law_steps_here", "_law_points_here", "_law_made", "_law_others"]
theorem sc_law_right : FnScope ["_law_pot_here", "_law_beside", "_law_turn", "_law_steps_here", "_law_points_here", "_law_made", "_law_others"] ["_law_pot_here"] (defScope s_law_right) := ⟨rfl, rfl, rfl, by decide +kernel, rfl, by decide +kernel, by decide +kernel⟩
abbrev s_law : Stmt := top 46
abbrev N_law : List Str := ["_law_script", "_law_at"]
theorem sc_law : FnScope ["_law_script", "_law_at"] ["_law_script"] (defScope s_law) := ⟨rfl, rfl, rfl, by decide +kernel, rfl, by decide +kernel, by decide +kernel⟩
def c_Ratio : Str := "Ratio"
def n_Ratio : List Str := ["own_top", "own_bottom"]
theorem nd_Ratio : n_Ratio.Nodup := by decide +kernel
def c_Table : Str := "Table"
def n_Table : List Str := ["own_points"]
theorem nd_Table : n_Table.Nodup := by decide +kernel
def clss : List Str := [c_Ratio, c_Table]
@[simp] theorem ne_Ratio_Table : ¬ (c_Ratio = c_Table) := by decide +kernel
@[simp] theorem in_Ratio : c_Ratio ∈ clss := by simp [clss]
@[simp] theorem nn_Ratio_sign : ¬ (("sign" : Str) ∈ n_Ratio) := by decide +kernel
@[simp] theorem nn_Ratio_is_below : ¬ (("is_below" : Str) ∈ n_Ratio) := by decide +kernel
@[simp] theorem ne_Table_Ratio : ¬ (c_Table = c_Ratio) := by decide +kernel
@[simp] theorem in_Table : c_Table ∈ clss := by simp [clss]
@[simp] theorem nn_Table_of_steps : ¬ (("of_steps" : Str) ∈ n_Table) := by decide +kernel
@[simp] theorem nn_Table_first_places : ¬ (("first_places" : Str) ∈ n_Table) := by decide +kernel
@[simp] theorem nn_Table_steep : ¬ (("steep" : Str) ∈ n_Table) := by decide +kernel
@[simp] theorem nn_Table_paid : ¬ (("paid" : Str) ∈ n_Table) := by decide +kernel
@[simp] theorem nn_Table_points : ¬ (("points" : Str) ∈ n_Table) := by decide +kernel
@[simp] theorem nn_Table_steps : ¬ (("steps" : Str) ∈ n_Table) := by decide +kernel
structure Txt (K : PySem.W.Frag) (mg : Str → Option Value) : Prop where
  f_isinstance : mg "isinstance" = none
  f_int : mg "int" = none
  f_bool : mg "bool" = none
  f_abs : mg "abs" = none
  f_str : mg "str" = none
  f_len : mg "len" = none
  f_max : mg "max" = none
  f_min : mg "min" = none
  f_range : mg "range" = none
  f_divmod : mg "divmod" = none
  f_repr : mg "repr" = none
  f_all : mg "all" = none
  f_any : mg "any" = none
  f_zip : mg "zip" = none
  f_enumerate : mg "enumerate" = none
  f_list : mg "list" = none
  f_tuple : mg "tuple" = none
  g_MOST_PLACES : ∃ t, mg "MOST_PLACES" = some (.int 5 t)
  kn : Known K clss
  g_Ratio : mg "Ratio" = some (.ref (He.ga K "Ratio"))
  cl_Ratio : Cls K (He.ga K "Ratio")
  mk_Ratio : Mk K (He.ga K "Ratio") (He.ma K (He.ga K "Ratio") "__init__")
  n_Ratio_own_top : NoAttr K (He.ga K "Ratio") "own_top"
  n_Ratio_own_bottom : NoAttr K (He.ga K "Ratio") "own_bottom"
  g_Table : mg "Table" = some (.ref (He.ga K "Table"))
  cl_Table : Cls K (He.ga K "Table")
  mk_Table : Mk K (He.ga K "Table") (He.ma K (He.ga K "Table") "__init__")
  n_Table_own_points : NoAttr K (He.ga K "Table") "own_points"
  cr_Table : ClX.CRead K (He.ga K "Table") (.type "type")
  d_is_integer : ∃ fd, FunD K "is_integer" "is_integer" (defArgs s_is_integer) (defBody s_is_integer) (defScope s_is_integer) [] [] (He.ga K "is_integer") fd
  g_is_integer : mg "is_integer" = some (.ref (He.ga K "is_integer"))
  k_is_integer : PySem.W.keepIn K (.ref (He.ga K "is_integer")) = true
  d_is_count : ∃ fd, FunD K "is_count" "is_count" (defArgs s_is_count) (defBody s_is_count) (defScope s_is_count) [] [] (He.ga K "is_count") fd
  g_is_count : mg "is_count" = some (.ref (He.ga K "is_count"))
  k_is_count : PySem.W.keepIn K (.ref (He.ga K "is_count")) = true
  d_is_number : ∃ fd, FunD K "is_number" "is_number" (defArgs s_is_number) (defBody s_is_number) (defScope s_is_number) [] [] (He.ga K "is_number") fd
  g_is_number : mg "is_number" = some (.ref (He.ga K "is_number"))
  k_is_number : PySem.W.keepIn K (.ref (He.ga K "is_number")) = true
  d_want_number : ∃ fd, FunD K "want_number" "want_number" (defArgs s_want_number) (defBody s_want_number) (defScope s_want_number) [] [] (He.ga K "want_number") fd
  g_want_number : mg "want_number" = some (.ref (He.ga K "want_number"))
  k_want_number : PySem.W.keepIn K (.ref (He.ga K "want_number")) = true
  d_as_ratio : ∃ fd, FunD K "as_ratio" "as_ratio" (defArgs s_as_ratio) (defBody s_as_ratio) (defScope s_as_ratio) [] [] (He.ga K "as_ratio") fd
  g_as_ratio : mg "as_ratio" = some (.ref (He.ga K "as_ratio"))
  k_as_ratio : PySem.W.keepIn K (.ref (He.ga K "as_ratio")) = true
  d_common_divisor : ∃ fd, FunD K "common_divisor" "common_divisor" (defArgs s_common_divisor) (defBody s_common_divisor) (defScope s_common_divisor) [] [] (He.ga K "common_divisor") fd
  g_common_divisor : mg "common_divisor" = some (.ref (He.ga K "common_divisor"))
  k_common_divisor : PySem.W.keepIn K (.ref (He.ga K "common_divisor")) = true
  d_Ratio_init : ∃ fd, FunD K "__init__" "Ratio.__init__" (defArgs s_Ratio_init) (defBody s_Ratio_init) (defScope s_Ratio_init) [V.int 1] [] (He.ma K (He.ga K "Ratio") "__init__") fd
  m_Ratio_init : Meth K (He.ga K "Ratio") "__init__" (He.ma K (He.ga K "Ratio") "__init__")
  d_Ratio_sign : ∃ fd, FunD K "sign" "Ratio.sign" (defArgs s_Ratio_sign) (defBody s_Ratio_sign) (defScope s_Ratio_sign) [] [] (He5.wf K (He.ga K "Ratio") "property" "sign") fd
  p_Ratio_sign : PropOf K (He.ga K "Ratio") "sign" (He.ma K (He.ga K "Ratio") "sign") (He5.wf K (He.ga K "Ratio") "property" "sign")
  d_Ratio_is_below : ∃ fd, FunD K "is_below" "Ratio.is_below" (defArgs s_Ratio_is_below) (defBody s_Ratio_is_below) (defScope s_Ratio_is_below) [] [] (He.ma K (He.ga K "Ratio") "is_below") fd
  m_Ratio_is_below : Meth K (He.ga K "Ratio") "is_below" (He.ma K (He.ga K "Ratio") "is_below")
  d_Ratio_add : ∃ fd, FunD K "__add__" "Ratio.__add__" (defArgs s_Ratio_add) (defBody s_Ratio_add) (defScope s_Ratio_add) [] [] (He.ma K (He.ga K "Ratio") "__add__") fd
  m_Ratio_add : Meth K (He.ga K "Ratio") "__add__" (He.ma K (He.ga K "Ratio") "__add__")
  o_Ratio_add : Z.OpC K (He.ga K "Ratio") "add" (He.ma K (He.ga K "Ratio") "__add__")
  r_Ratio_add : rightB K c_Ratio "add" = true
  d_Ratio_sub : ∃ fd, FunD K "__sub__" "Ratio.__sub__" (defArgs s_Ratio_sub) (defBody s_Ratio_sub) (defScope s_Ratio_sub) [] [] (He.ma K (He.ga K "Ratio") "__sub__") fd
  m_Ratio_sub : Meth K (He.ga K "Ratio") "__sub__" (He.ma K (He.ga K "Ratio") "__sub__")
  o_Ratio_sub : Z.OpC K (He.ga K "Ratio") "sub" (He.ma K (He.ga K "Ratio") "__sub__")
  r_Ratio_sub : rightB K c_Ratio "sub" = true
  d_Ratio_neg : ∃ fd, FunD K "__neg__" "Ratio.__neg__" (defArgs s_Ratio_neg) (defBody s_Ratio_neg) (defScope s_Ratio_neg) [] [] (He.ma K (He.ga K "Ratio") "__neg__") fd
  m_Ratio_neg : Meth K (He.ga K "Ratio") "__neg__" (He.ma K (He.ga K "Ratio") "__neg__")
  a_Ratio_neg : PySem.W.findIn K (.ref (He.ga K "Ratio")) "__neg__" = some (some (.ref (He.ma K (He.ga K "Ratio") "__neg__")))
  i_Ratio_neg : PySem.W.isFn K (.ref (He.ma K (He.ga K "Ratio") "__neg__")) = true
  d_Ratio_eq : ∃ fd, FunD K "__eq__" "Ratio.__eq__" (defArgs s_Ratio_eq) (defBody s_Ratio_eq) (defScope s_Ratio_eq) [] [] (He.ma K (He.ga K "Ratio") "__eq__") fd
  m_Ratio_eq : Meth K (He.ga K "Ratio") "__eq__" (He.ma K (He.ga K "Ratio") "__eq__")
  a_Ratio_eq : PySem.W.findIn K (.ref (He.ga K "Ratio")) "__eq__" = some (some (.ref (He.ma K (He.ga K "Ratio") "__eq__")))
  i_Ratio_eq : PySem.W.isFn K (.ref (He.ma K (He.ga K "Ratio") "__eq__")) = true
  eq_Ratio : Z.EqC K (He.ga K "Ratio") (He.ma K (He.ga K "Ratio") "__eq__")
  d_Ratio_repr : ∃ fd, FunD K "__repr__" "Ratio.__repr__" (defArgs s_Ratio_repr) (defBody s_Ratio_repr) (defScope s_Ratio_repr) [] [] (He.ma K (He.ga K "Ratio") "__repr__") fd
  m_Ratio_repr : Meth K (He.ga K "Ratio") "__repr__" (He.ma K (He.ga K "Ratio") "__repr__")
  a_Ratio_repr : PySem.W.findIn K (.ref (He.ga K "Ratio")) "__repr__" = some (some (.ref (He.ma K (He.ga K "Ratio") "__repr__")))
  i_Ratio_repr : PySem.W.isFn K (.ref (He.ma K (He.ga K "Ratio") "__repr__")) = true
  d_is_place : ∃ fd, FunD K "is_place" "is_place" (defArgs s_is_place) (defBody s_is_place) (defScope s_is_place) [] [] (He.ga K "is_place") fd
  g_is_place : mg "is_place" = some (.ref (He.ga K "is_place"))
  k_is_place : PySem.W.keepIn K (.ref (He.ga K "is_place")) = true
  d_filled : ∃ fd, FunD K "filled" "filled" (defArgs s_filled) (defBody s_filled) (defScope s_filled) [] [] (He.ga K "filled") fd
  g_filled : mg "filled" = some (.ref (He.ga K "filled"))
  k_filled : PySem.W.keepIn K (.ref (He.ga K "filled")) = true
  d_is_right_at : ∃ fd, FunD K "is_right_at" "is_right_at" (defArgs s_is_right_at) (defBody s_is_right_at) (defScope s_is_right_at) [] [] (He.ga K "is_right_at") fd
  g_is_right_at : mg "is_right_at" = some (.ref (He.ga K "is_right_at"))
  k_is_right_at : PySem.W.keepIn K (.ref (He.ga K "is_right_at")) = true
  d_want_few : ∃ fd, FunD K "want_few" "want_few" (defArgs s_want_few) (defBody s_want_few) (defScope s_want_few) [] [] (He.ga K "want_few") fd
  g_want_few : mg "want_few" = some (.ref (He.ga K "want_few"))
  k_want_few : PySem.W.keepIn K (.ref (He.ga K "want_few")) = true
  d_Table_init : ∃ fd, FunD K "__init__" "Table.__init__" (defArgs s_Table_init) (defBody s_Table_init) (defScope s_Table_init) [] [] (He.ma K (He.ga K "Table") "__init__") fd
  m_Table_init : Meth K (He.ga K "Table") "__init__" (He.ma K (He.ga K "Table") "__init__")
  d_Table_of_steps : ∃ fd, FunD K "of_steps" "Table.of_steps" (defArgs s_Table_of_steps) (defBody s_Table_of_steps) (defScope s_Table_of_steps) [] [] (He5.wf K (He.ga K "Table") "classmethod" "of_steps") fd
  cm_Table_of_steps : ClX.CMet K (He.ga K "Table") (.type "type") "of_steps" (He.ma K (He.ga K "Table") "of_steps") (He5.wf K (He.ga K "Table") "classmethod" "of_steps")
  d_Table_first_places : ∃ fd, FunD K "first_places" "Table.first_places" (defArgs s_Table_first_places) (defBody s_Table_first_places) (defScope s_Table_first_places) [] [] (He5.wf K (He.ga K "Table") "classmethod" "first_places") fd
  cm_Table_first_places : ClX.CMet K (He.ga K "Table") (.type "type") "first_places" (He.ma K (He.ga K "Table") "first_places") (He5.wf K (He.ga K "Table") "classmethod" "first_places")
  d_Table_steep : ∃ fd, FunD K "steep" "Table.steep" (defArgs s_Table_steep) (defBody s_Table_steep) (defScope s_Table_steep) [] [] (He5.wf K (He.ga K "Table") "classmethod" "steep") fd
  cm_Table_steep : ClX.CMet K (He.ga K "Table") (.type "type") "steep" (He.ma K (He.ga K "Table") "steep") (He5.wf K (He.ga K "Table") "classmethod" "steep")
  d_Table_paid : ∃ fd, FunD K "paid" "Table.paid" (defArgs s_Table_paid) (defBody s_Table_paid) (defScope s_Table_paid) [] [] (He5.wf K (He.ga K "Table") "property" "paid") fd
  p_Table_paid : PropOf K (He.ga K "Table") "paid" (He.ma K (He.ga K "Table") "paid") (He5.wf K (He.ga K "Table") "property" "paid")
  d_Table_points : ∃ fd, FunD K "points" "Table.points" (defArgs s_Table_points) (defBody s_Table_points) (defScope s_Table_points) [] [] (He.ma K (He.ga K "Table") "points") fd
  m_Table_points : Meth K (He.ga K "Table") "points" (He.ma K (He.ga K "Table") "points")
  d_Table_steps : ∃ fd, FunD K "steps" "Table.steps" (defArgs s_Table_steps) (defBody s_Table_steps) (defScope s_Table_steps) [] [] (He.ma K (He.ga K "Table") "steps") fd
  m_Table_steps : Meth K (He.ga K "Table") "steps" (He.ma K (He.ga K "Table") "steps")
  d_Table_getitem : ∃ fd, FunD K "__getitem__" "Table.__getitem__" (defArgs s_Table_getitem) (defBody s_Table_getitem) (defScope s_Table_getitem) [] [] (He.ma K (He.ga K "Table") "__getitem__") fd
  m_Table_getitem : Meth K (He.ga K "Table") "__getitem__" (He.ma K (He.ga K "Table") "__getitem__")
  a_Table_getitem : PySem.W.findIn K (.ref (He.ga K "Table")) "__getitem__" = some (some (.ref (He.ma K (He.ga K "Table") "__getitem__")))
  i_Table_getitem : PySem.W.isFn K (.ref (He.ma K (He.ga K "Table") "__getitem__")) = true
  fi_Table_getitem : PySem.W.fnIn K (He.ma K (He.ga K "Table") "__getitem__") = true
  d_Table_eq : ∃ fd, FunD K "__eq__" "Table.__eq__" (defArgs s_Table_eq) (defBody s_Table_eq) (defScope s_Table_eq) [] [] (He.ma K (He.ga K "Table") "__eq__") fd
  m_Table_eq : Meth K (He.ga K "Table") "__eq__" (He.ma K (He.ga K "Table") "__eq__")
  a_Table_eq : PySem.W.findIn K (.ref (He.ga K "Table")) "__eq__" = some (some (.ref (He.ma K (He.ga K "Table") "__eq__")))
  i_Table_eq : PySem.W.isFn K (.ref (He.ma K (He.ga K "Table") "__eq__")) = true
  eq_Table : Z.EqC K (He.ga K "Table") (He.ma K (He.ga K "Table") "__eq__")
  d_Table_repr : ∃ fd, FunD K "__repr__" "Table.__repr__" (defArgs s_Table_repr) (defBody s_Table_repr) (defScope s_Table_repr) [] [] (He.ma K (He.ga K "Table") "__repr__") fd
  m_Table_repr : Meth K (He.ga K "Table") "__repr__" (He.ma K (He.ga K "Table") "__repr__")
  a_Table_repr : PySem.W.findIn K (.ref (He.ga K "Table")) "__repr__" = some (some (.ref (He.ma K (He.ga K "Table") "__repr__")))
  i_Table_repr : PySem.W.isFn K (.ref (He.ma K (He.ga K "Table") "__repr__")) = true
  d_law_pot : ∃ fd, FunD K "_law_pot" "_law_pot" (defArgs s_law_pot) (defBody s_law_pot) (defScope s_law_pot) [] [] (He.ga K "_law_pot") fd
  g_law_pot : mg "_law_pot" = some (.ref (He.ga K "_law_pot"))
  k_law_pot : PySem.W.keepIn K (.ref (He.ga K "_law_pot")) = true
  d_law_draw : ∃ fd, FunD K "_law_draw" "_law_draw" (defArgs s_law_draw) (defBody s_law_draw) (defScope s_law_draw) [] [] (He.ga K "_law_draw") fd
  g_law_draw : mg "_law_draw" = some (.ref (He.ga K "_law_draw"))
  k_law_draw : PySem.W.keepIn K (.ref (He.ga K "_law_draw")) = true
  d_law_pick : ∃ fd, FunD K "_law_pick" "_law_pick" (defArgs s_law_pick) (defBody s_law_pick) (defScope s_law_pick) [] [] (He.ga K "_law_pick") fd
  g_law_pick : mg "_law_pick" = some (.ref (He.ga K "_law_pick"))
  k_law_pick : PySem.W.keepIn K (.ref (He.ga K "_law_pick")) = true
  d_law_common : ∃ fd, FunD K "_law_common" "_law_common" (defArgs s_law_common) (defBody s_law_common) (defScope s_law_common) [] [] (He.ga K "_law_common") fd
  g_law_common : mg "_law_common" = some (.ref (He.ga K "_law_common"))
  k_law_common : PySem.W.keepIn K (.ref (He.ga K "_law_common")) = true
  d_law_low : ∃ fd, FunD K "_law_low" "_law_low" (defArgs s_law_low) (defBody s_law_low) (defScope s_law_low) [] [] (He.ga K "_law_low") fd
  g_law_low : mg "_law_low" = some (.ref (He.ga K "_law_low"))
  k_law_low : PySem.W.keepIn K (.ref (He.ga K "_law_low")) = true
  d_law_plus : ∃ fd, FunD K "_law_plus" "_law_plus" (defArgs s_law_plus) (defBody s_law_plus) (defScope s_law_plus) [] [] (He.ga K "_law_plus") fd
  g_law_plus : mg "_law_plus" = some (.ref (He.ga K "_law_plus"))
  k_law_plus : PySem.W.keepIn K (.ref (He.ga K "_law_plus")) = true
  d_law_minus : ∃ fd, FunD K "_law_minus" "_law_minus" (defArgs s_law_minus) (defBody s_law_minus) (defScope s_law_minus) [] [] (He.ga K "_law_minus") fd
  g_law_minus : mg "_law_minus" = some (.ref (He.ga K "_law_minus"))
  k_law_minus : PySem.W.keepIn K (.ref (He.ga K "_law_minus")) = true
  d_law_steps : ∃ fd, FunD K "_law_steps" "_law_steps" (defArgs s_law_steps) (defBody s_law_steps) (defScope s_law_steps) [] [] (He.ga K "_law_steps") fd
  g_law_steps : mg "_law_steps" = some (.ref (He.ga K "_law_steps"))
  k_law_steps : PySem.W.keepIn K (.ref (He.ga K "_law_steps")) = true
  d_law_points : ∃ fd, FunD K "_law_points" "_law_points" (defArgs s_law_points) (defBody s_law_points) (defScope s_law_points) [] [] (He.ga K "_law_points") fd
  g_law_points : mg "_law_points" = some (.ref (He.ga K "_law_points"))
  k_law_points : PySem.W.keepIn K (.ref (He.ga K "_law_points")) = true
  d_law_number : ∃ fd, FunD K "_law_number" "_law_number" (defArgs s_law_number) (defBody s_law_number) (defScope s_law_number) [] [] (He.ga K "_law_number") fd
  g_law_number : mg "_law_number" = some (.ref (He.ga K "_law_number"))
  k_law_number : PySem.W.keepIn K (.ref (He.ga K "_law_number")) = true
  d_law_paid : ∃ fd, FunD K "_law_paid" "_law_paid" (defArgs s_law_paid) (defBody s_law_paid) (defScope s_law_paid) [] [] (He.ga K "_law_paid") fd
  g_law_paid : mg "_law_paid" = some (.ref (He.ga K "_law_paid"))
  k_law_paid : PySem.W.keepIn K (.ref (He.ga K "_law_paid")) = true
  d_law_shown : ∃ fd, FunD K "_law_shown" "_law_shown" (defArgs s_law_shown) (defBody s_law_shown) (defScope s_law_shown) [] [] (He.ga K "_law_shown") fd
  g_law_shown : mg "_law_shown" = some (.ref (He.ga K "_law_shown"))
  k_law_shown : PySem.W.keepIn K (.ref (He.ga K "_law_shown")) = true
  d_law_is : ∃ fd, FunD K "_law_is" "_law_is" (defArgs s_law_is) (defBody s_law_is) (defScope s_law_is) [] [] (He.ga K "_law_is") fd
  g_law_is : mg "_law_is" = some (.ref (He.ga K "_law_is"))
  k_law_is : PySem.W.keepIn K (.ref (He.ga K "_law_is")) = true
  d_law_by_points : ∃ fd, FunD K "_law_by_points" "_law_by_points" (defArgs s_law_by_points) (defBody s_law_by_points) (defScope s_law_by_points) [] [] (He.ga K "_law_by_points") fd
  g_law_by_points : mg "_law_by_points" = some (.ref (He.ga K "_law_by_points"))
  k_law_by_points : PySem.W.keepIn K (.ref (He.ga K "_law_by_points")) = true
  d_law_by_steps : ∃ fd, FunD K "_law_by_steps" "_law_by_steps" (defArgs s_law_by_steps) (defBody s_law_by_steps) (defScope s_law_by_steps) [] [] (He.ga K "_law_by_steps") fd
  g_law_by_steps : mg "_law_by_steps" = some (.ref (He.ga K "_law_by_steps"))
  k_law_by_steps : PySem.W.keepIn K (.ref (He.ga K "_law_by_steps")) = true
  d_law_both : ∃ fd, FunD K "_law_both" "_law_both" (defArgs s_law_both) (defBody s_law_both) (defScope s_law_both) [] [] (He.ga K "_law_both") fd
  g_law_both : mg "_law_both" = some (.ref (He.ga K "_law_both"))
  k_law_both : PySem.W.keepIn K (.ref (He.ga K "_law_both")) = true
  d_law_equal_right : ∃ fd, FunD K "_law_equal_right" "_law_equal_right" (defArgs s_law_equal_right) (defBody s_law_equal_right) (defScope s_law_equal_right) [] [] (He.ga K "_law_equal_right") fd
  g_law_equal_right : mg "_law_equal_right" = some (.ref (He.ga K "_law_equal_right"))
  k_law_equal_right : PySem.W.keepIn K (.ref (He.ga K "_law_equal_right")) = true
  d_law_fixed_right : ∃ fd, FunD K "_law_fixed_right" "_law_fixed_right" (defArgs s_law_fixed_right) (defBody s_law_fixed_right) (defScope s_law_fixed_right) [] [] (He.ga K "_law_fixed_right") fd
  g_law_fixed_right : mg "_law_fixed_right" = some (.ref (He.ga K "_law_fixed_right"))
  k_law_fixed_right : PySem.W.keepIn K (.ref (He.ga K "_law_fixed_right")) = true
  d_law_right : ∃ fd, FunD K "_law_right" "_law_right" (defArgs s_law_right) (defBody s_law_right) (defScope s_law_right) [] [] (He.ga K "_law_right") fd
  g_law_right : mg "_law_right" = some (.ref (He.ga K "_law_right"))
  k_law_right : PySem.W.keepIn K (.ref (He.ga K "_law_right")) = true
  d_law : ∃ fd, FunD K "law" "law" (defArgs s_law) (defBody s_law) (defScope s_law) [] [] (He.ga K "law") fd
  g_law : mg "law" = some (.ref (He.ga K "law"))
  k_law : PySem.W.keepIn K (.ref (He.ga K "law")) = true
noncomputable def m_is_integer : MS := sRet (mAndV (mCB (fIsi clss) (mCons (mBor 0) (mCons (mC (.ty "int")) (mNil)))) (mNotV (mCB (fIsi clss) (mCons (mBor 0) (mCons (mC (.ty "bool")) (mNil))))))
noncomputable def F_is_integer : Fn := fnOf 1 m_is_integer
theorem okb_is_integer {P : Program} {w : World} {K : PySem.W.Frag} {mg : Str → Option Value} {base : Heap} (T : Txt K mg) {fd : FuncData} (F : FunD K "is_integer" "is_integer" (defArgs s_is_integer) (defBody s_is_integer) (defScope s_is_integer) [] [] (He.ga K "is_integer") fd) : FnOk P w K mg base (L2.CX P w) 1 (He.ga K "is_integer") fd ["value"] (spM K 1 F_is_integer) := by
  refine F.ok sc_is_integer (fun vs H Q E h => ?_) (fun cdv A outer s H vs Q E hr h => ?_)
  · obtain ⟨_, _, _, _, _, hl, _⟩ := h
    exact hl
  exact ⟨_, pss_one (ps_ret (pe_and (pe_callB (Z.isiK (K := K) rfl) (by rfl) T.f_isinstance (by decide +kernel) (pa_cons (pv 0) (pa_cons (pe_bltn (v := .ty "int") rfl T.f_int (by decide +kernel) rfl) (pa_nil)))) (pe_one (pe_not (pe_callB (Z.isiK (K := K) rfl) (by rfl) T.f_isinstance (by decide +kernel) (pa_cons (pv 0) (pa_cons (pe_bltn (v := .ty "bool") rfl T.f_bool (by decide +kernel) rfl) (pa_nil)))))))), body_ok (N := N_is_integer) (snd_ret (snd_andV (snd_cb (cs_isi T.kn) (snd_cons (snd_bor 0) (snd_cons (snd_ty) (snd_nil)))) (snd_notV (snd_cb (cs_isi T.kn) (snd_cons (snd_bor 0) (snd_cons (snd_ty) (snd_nil))))))) h⟩
theorem ok_is_integer {P : Program} {w : World} {K : PySem.W.Frag} {mg : Str → Option Value} {base : Heap} (T : Txt K mg) : FnR P w K mg base (L2.CX P w) 1 (He.ga K "is_integer") (spM K 1 F_is_integer) := by
  obtain ⟨fd, F⟩ := T.d_is_integer
  exact Z.raw0 (okb_is_integer T F) (F.bindsN fun _ _ _ _ _ _ us hl => match us, hl with | [_], _ => rfl)
noncomputable def m_is_count : MS := sRet (mAndV (mCall 1 F_is_integer (mCons (mBor 0) (mNil))) (mOp fGe (mBor 0) (mC (.int 0))))
noncomputable def F_is_count : Fn := fnOf 1 m_is_count
theorem okb_is_count {P : Program} {w : World} {K : PySem.W.Frag} {mg : Str → Option Value} {base : Heap} (T : Txt K mg) {fd : FuncData} (F : FunD K "is_count" "is_count" (defArgs s_is_count) (defBody s_is_count) (defScope s_is_count) [] [] (He.ga K "is_count") fd) : FnOk P w K mg base (L2.CX P w) 2 (He.ga K "is_count") fd ["value"] (spM K 1 F_is_count) := by
  refine F.ok sc_is_count (fun vs H Q E h => ?_) (fun cdv A outer s H vs Q E hr h => ?_)
  · obtain ⟨_, _, _, _, _, hl, _⟩ := h
    exact hl
  exact ⟨_, pss_one (ps_ret (pe_and (Z.pe_cl (E := E) (ok_is_integer T) (hr.mono (by decide)) T.g_is_integer T.k_is_integer (passes_call (W := fun c d _ H => E c d H) (takes_of rfl rfl rfl rfl) fun _ _ _ _ h => h) (pa_cons (pv 0) (pa_nil))) (pe_one (pe_cmpR op_ge (pv 0) (pe_int) (nomark _))))), body_ok (N := N_is_count) (snd_ret (snd_andV (snd_call (snd_cons (snd_bor 0) (snd_nil))) (snd_op os_ge (snd_bor 0) (snd_int)))) h⟩
theorem ok_is_count {P : Program} {w : World} {K : PySem.W.Frag} {mg : Str → Option Value} {base : Heap} (T : Txt K mg) : FnR P w K mg base (L2.CX P w) 2 (He.ga K "is_count") (spM K 1 F_is_count) := by
  obtain ⟨fd, F⟩ := T.d_is_count
  exact Z.raw0 (okb_is_count T F) (F.bindsN fun _ _ _ _ _ _ us hl => match us, hl with | [_], _ => rfl)
noncomputable def m_is_number : MS := sRet (mOrV (mCall 1 F_is_integer (mCons (mBor 0) (mNil))) (mCB (fIsi clss) (mCons (mBor 0) (mCons (mC (.cls c_Ratio)) (mNil)))))
noncomputable def F_is_number : Fn := fnOf 1 m_is_number
theorem okb_is_number {P : Program} {w : World} {K : PySem.W.Frag} {mg : Str → Option Value} {base : Heap} (T : Txt K mg) {fd : FuncData} (F : FunD K "is_number" "is_number" (defArgs s_is_number) (defBody s_is_number) (defScope s_is_number) [] [] (He.ga K "is_number") fd) : FnOk P w K mg base (L2.CX P w) 2 (He.ga K "is_number") fd ["value"] (spM K 1 F_is_number) := by
  refine F.ok sc_is_number (fun vs H Q E h => ?_) (fun cdv A outer s H vs Q E hr h => ?_)
  · obtain ⟨_, _, _, _, _, hl, _⟩ := h
    exact hl
  exact ⟨_, pss_one (ps_ret (pe_or (Z.pe_cl (E := E) (ok_is_integer T) (hr.mono (by decide)) T.g_is_integer T.k_is_integer (passes_call (W := fun c d _ H => E c d H) (takes_of rfl rfl rfl rfl) fun _ _ _ _ h => h) (pa_cons (pv 0) (pa_nil))) (pe_one (pe_callB (Z.isiK (K := K) rfl) (by rfl) T.f_isinstance (by decide +kernel) (pa_cons (pv 0) (pa_cons (pe_glob (v := .ref (He.ga K c_Ratio)) rfl T.g_Ratio rfl) (pa_nil))))))), body_ok (N := N_is_number) (snd_ret (snd_orV (snd_call (snd_cons (snd_bor 0) (snd_nil))) (snd_cb (cs_isi T.kn) (snd_cons (snd_bor 0) (snd_cons (snd_cls (c := c_Ratio)) (snd_nil)))))) h⟩
theorem ok_is_number {P : Program} {w : World} {K : PySem.W.Frag} {mg : Str → Option Value} {base : Heap} (T : Txt K mg) : FnR P w K mg base (L2.CX P w) 2 (He.ga K "is_number") (spM K 1 F_is_number) := by
  obtain ⟨fd, F⟩ := T.d_is_number
  exact Z.raw0 (okb_is_number T F) (F.bindsN fun _ _ _ _ _ _ us hl => match us, hl with | [_], _ => rfl)
noncomputable def m_want_number : MS := sIf (mNot (mTest (mCall 1 F_is_number (mCons (mBor 0) (mNil))))) (sNever) (sSkip)
noncomputable def F_want_number : Fn := fnOf 1 m_want_number
theorem okb_want_number {P : Program} {w : World} {K : PySem.W.Frag} {mg : Str → Option Value} {base : Heap} (T : Txt K mg) {fd : FuncData} (F : FunD K "want_number" "want_number" (defArgs s_want_number) (defBody s_want_number) (defScope s_want_number) [] [] (He.ga K "want_number") fd) : FnOk P w K mg base (L2.CX P w) 3 (He.ga K "want_number") fd ["value"] (spM K 1 F_want_number) := by
  refine F.ok sc_want_number (fun vs H Q E h => ?_) (fun cdv A outer s H vs Q E hr h => ?_)
  · obtain ⟨_, _, _, _, _, hl, _⟩ := h
    exact hl
  exact ⟨_, pss_one (ps_if (pt_not (pt_val (Z.pe_cl (E := E) (ok_is_number T) (hr.mono (by decide)) T.g_is_number T.k_is_number (passes_call (W := fun c d _ H => E c d H) (takes_of rfl rfl rfl rfl) fun _ _ _ _ h => h) (pa_cons (pv 0) (pa_nil))))) (pss_one (ps_never)) (pss_nil)), body_ok (N := N_want_number) (snd_ifS (snd_not (snd_tb (snd_call (snd_cons (snd_bor 0) (snd_nil))))) (snd_never) (snd_skip)) h⟩
theorem ok_want_number {P : Program} {w : World} {K : PySem.W.Frag} {mg : Str → Option Value} {base : Heap} (T : Txt K mg) : FnR P w K mg base (L2.CX P w) 3 (He.ga K "want_number") (spM K 1 F_want_number) := by
  obtain ⟨fd, F⟩ := T.d_want_number
  exact Z.raw0 (okb_want_number T F) (F.bindsN fun _ _ _ _ _ _ us hl => match us, hl with | [_], _ => rfl)
noncomputable def c1_common_divisor : MT := mTest (mOp fGt (mBor 1) (mC (.int 0)))
noncomputable def b1_common_divisor : MS := sPar 0 1 (mCons (mVar 1) (mCons (mOp fMod (mBor 0) (mBor 1)) (mNil)))
noncomputable def m_common_divisor : MS := sSeq (sWhile c1_common_divisor b1_common_divisor) (sRet (mVar 0))
noncomputable def F_common_divisor : Fn := fnOf 2 m_common_divisor
theorem okb_common_divisor {P : Program} {w : World} {K : PySem.W.Frag} {mg : Str → Option Value} {base : Heap} (T : Txt K mg) {fd : FuncData} (F : FunD K "common_divisor" "common_divisor" (defArgs s_common_divisor) (defBody s_common_divisor) (defScope s_common_divisor) [] [] (He.ga K "common_divisor") fd) : FnOk P w K mg base (L2.CX P w) 1 (He.ga K "common_divisor") fd ["one", "other"] (spM K 2 F_common_divisor) := by
  refine F.ok sc_common_divisor (fun vs H Q E h => ?_) (fun cdv A outer s H vs Q E hr h => ?_)
  · obtain ⟨_, _, _, _, _, hl, _⟩ := h
    exact hl
  exact ⟨_, pss_cons (ps_while (passes_of rfl) (pt_cmpR op_gt (pv 1) (pe_int) (nomark _)) (pss_one (ps_par (i := 0) (j := 1) (by rfl) sc_common_divisor.nd rfl rfl (by decide) rfl rfl (pa_cons (pv 1) (pa_cons (pe_op op_mod (pv 0) (pv 1)) (pa_nil))) (by rfl)))) (pss_one (ps_ret (pv 0))), body_ok (N := N_common_divisor) (snd_seq (snd_while (snd_test (snd_op os_gt (snd_bor 1) (snd_int))) (snd_par 0 1 (snd_cons (snd_var 1) (snd_cons (snd_op os_mod (snd_bor 0) (snd_bor 1)) (snd_nil))))) (snd_ret (snd_var 0))) h⟩
theorem ok_common_divisor {P : Program} {w : World} {K : PySem.W.Frag} {mg : Str → Option Value} {base : Heap} (T : Txt K mg) : FnR P w K mg base (L2.CX P w) 1 (He.ga K "common_divisor") (spM K 2 F_common_divisor) := by
  obtain ⟨fd, F⟩ := T.d_common_divisor
  exact Z.raw0 (okb_common_divisor T F) (F.bindsN fun _ _ _ _ _ _ us hl => match us, hl with | [_, _], _ => rfl)
noncomputable def m_Ratio_init : MS := sSeq (sIf (mNot (mTest (mCall 1 F_is_integer (mCons (mBor 1) (mNil))))) (sNever) (sSkip)) (sSeq (sIf (mOr (mNot (mTest (mCall 1 F_is_integer (mCons (mBor 2) (mNil))))) (mTest (mOp fEqS (mBor 2) (mC (.int 0))))) (sNever) (sSkip)) (sSeq (sAsg (mCall 2 F_common_divisor (mCons (mCB (f1 fAbs) (mCons (mBor 1) (mNil))) (mCons (mCB (f1 fAbs) (mCons (mBor 2) (mNil))) (mNil)))) (gN 3)) (sSeq (sIf (mTest (mOp fLt (mBor 2) (mC (.int 0)))) (sAsg (mUn fNeg (mBor 3)) (gN 3)) (sSkip)) (sSeq (sFldSet c_Ratio "own_top" 0 (mOp fDiv (mBor 1) (mBor 3))) (sFldSet c_Ratio "own_bottom" 0 (mOp fDiv (mBor 2) (mBor 3)))))))
noncomputable def F_Ratio_init : Fn := fnOf 4 m_Ratio_init
theorem okb_Ratio_init {P : Program} {w : World} {K : PySem.W.Frag} {mg : Str → Option Value} {base : Heap} (T : Txt K mg) {fd : FuncData} (F : FunD K "__init__" "Ratio.__init__" (defArgs s_Ratio_init) (defBody s_Ratio_init) (defScope s_Ratio_init) [V.int 1] [] (He.ma K (He.ga K "Ratio") "__init__") fd) : FnOk P w K mg base (L2.CX P w) 2 (He.ma K (He.ga K "Ratio") "__init__") fd ["self", "top", "bottom"] (spM K 3 F_Ratio_init) := by
  refine F.ok sc_Ratio_init (fun vs H Q E h => ?_) (fun cdv A outer s H vs Q E hr h => ?_)
  · obtain ⟨_, _, _, _, _, hl, _⟩ := h
    exact hl
  exact ⟨_, pss_cons (ps_if (pt_not (pt_val (Z.pe_cl (E := E) (ok_is_integer T) (hr.mono (by decide)) T.g_is_integer T.k_is_integer (passes_call (W := fun c d _ H => E c d H) (takes_of rfl rfl rfl rfl) fun _ _ _ _ h => h) (pa_cons (pv 1) (pa_nil))))) (pss_one (ps_never)) (pss_nil)) (pss_cons (ps_if (PW.pt (pw_or (pt_not (pt_val (Z.pe_cl (E := E) (ok_is_integer T) (hr.mono (by decide)) T.g_is_integer T.k_is_integer (passes_call (W := fun c d _ H => E c d H) (takes_of rfl rfl rfl rfl) fun _ _ _ _ h => h) (pa_cons (pv 2) (pa_nil))))) (pw_or1 (pt_cmpR op_eq (pv 2) (pe_int) (nomark _))))) (pss_one (ps_never)) (pss_nil)) (pss_cons (ps_set (i := 3) sc_Ratio_init.nd rfl (Or.inl rfl) (Z.pe_cl (E := E) (ok_common_divisor T) (hr.mono (by decide)) T.g_common_divisor T.k_common_divisor (passes_call (W := fun c d _ H => E c d H) (takes_of rfl rfl rfl rfl) fun _ _ _ _ h => h) (pa_cons (pe_callB call_abs (by rfl) T.f_abs (by decide +kernel) (pa_cons (pv 1) (pa_nil))) (pa_cons (pe_callB call_abs (by rfl) T.f_abs (by decide +kernel) (pa_cons (pv 2) (pa_nil))) (pa_nil))))) (pss_cons (ps_if (pt_cmpR op_lt (pv 2) (pe_int) (nomark _)) (pss_one (ps_set (i := 3) sc_Ratio_init.nd rfl (Or.inl rfl) (pe_un un_neg (pv 3)))) (pss_nil)) (pss_cons (ps_fld (pv 0) (pe_op Z.op_fdivZ (pv 1) (pv 3)) rfl) (pss_one (ps_fld (pv 0) (pe_op Z.op_fdivZ (pv 2) (pv 3)) rfl)))))), body_ok (N := N_Ratio_init) (snd_seq (snd_ifS (snd_not (snd_tb (snd_call (snd_cons (snd_bor 1) (snd_nil))))) (snd_never) (snd_skip)) (snd_seq (snd_ifS (snd_or (snd_not (snd_tb (snd_call (snd_cons (snd_bor 2) (snd_nil))))) (snd_test (snd_op os_eqS (snd_bor 2) (snd_int)))) (snd_never) (snd_skip)) (snd_seq (snd_asg (snd_call (snd_cons (snd_cb cs_abs (snd_cons (snd_bor 1) (snd_nil))) (snd_cons (snd_cb cs_abs (snd_cons (snd_bor 2) (snd_nil))) (snd_nil)))) (snd_gn 3)) (snd_seq (snd_ifS (snd_test (snd_op os_lt (snd_bor 2) (snd_int))) (snd_asg (snd_un us_neg (snd_bor 3)) (snd_gn 3)) (snd_skip)) (snd_seq (snd_fldSet (c := c_Ratio) (i := 0) (snd_op os_div (snd_bor 1) (snd_bor 3)) T.cl_Ratio T.n_Ratio_own_top) (snd_fldSet (c := c_Ratio) (i := 0) (snd_op os_div (snd_bor 2) (snd_bor 3)) T.cl_Ratio T.n_Ratio_own_bottom)))))) h⟩
theorem ok_Ratio_init_d {P : Program} {w : World} {K : PySem.W.Frag} {mg : Str → Option Value} {base : Heap} (T : Txt K mg) : FnR P w K mg base (L2.CX P w) 2 (He.ma K (He.ga K "Ratio") "__init__") (spM K 2 (dfltF 1 F_Ratio_init)) := by
  obtain ⟨fd, F⟩ := T.d_Ratio_init
  obtain ⟨ds, r, b⟩ := F.binds1 (ps := ["self", "top", "bottom"]) 2 0 (by decide) rfl fun _ _ _ _ _ _ _ us its h1 h2 => match us, its, h1, h2 with | [_, _], [_], _, _ => ⟨_, rfl, rfl⟩
  exact ((okb_Ratio_init T F).raw b r).imp fun vs H Q E h => dflt_ok h
theorem ok_Ratio_init_f {P : Program} {w : World} {K : PySem.W.Frag} {mg : Str → Option Value} {base : Heap} (T : Txt K mg) : FnR P w K mg base (L2.CX P w) 2 (He.ma K (He.ga K "Ratio") "__init__") (spM K 3 F_Ratio_init) := by
  obtain ⟨fd, F⟩ := T.d_Ratio_init
  obtain ⟨ds, r, b⟩ := F.binds1 (ps := ["self", "top", "bottom"]) 3 1 (by decide) rfl fun _ _ _ _ _ _ _ us its h1 h2 => match us, its, h1, h2 with | [_, _, _], [_], _, _ => ⟨_, rfl, rfl⟩
  exact ((okb_Ratio_init T F).raw b r).imp fun vs H Q E h => by
    show spM K 3 F_Ratio_init (vs ++ []) H Q E
    rw [List.append_nil]
    exact h
noncomputable def m_as_ratio : MS := sRet (mIf (mTest (mCB (fIsi clss) (mCons (mBor 0) (mCons (mC (.cls c_Ratio)) (mNil))))) (mVar 0) (mMake c_Ratio 2 (dfltF 1 F_Ratio_init) (mCons (mBor 0) (mNil))))
noncomputable def F_as_ratio : Fn := fnOf 1 m_as_ratio
theorem okb_as_ratio {P : Program} {w : World} {K : PySem.W.Frag} {mg : Str → Option Value} {base : Heap} (T : Txt K mg) {fd : FuncData} (F : FunD K "as_ratio" "as_ratio" (defArgs s_as_ratio) (defBody s_as_ratio) (defScope s_as_ratio) [] [] (He.ga K "as_ratio") fd) : FnOk P w K mg base (L2.CX P w) 4 (He.ga K "as_ratio") fd ["value"] (spM K 1 F_as_ratio) := by
  refine F.ok sc_as_ratio (fun vs H Q E h => ?_) (fun cdv A outer s H vs Q E hr h => ?_)
  · obtain ⟨_, _, _, _, _, hl, _⟩ := h
    exact hl
  exact ⟨_, pss_one (ps_ret (pe_ifExp (pt_val (pe_callB (Z.isiK (K := K) rfl) (by rfl) T.f_isinstance (by decide +kernel) (pa_cons (pv 0) (pa_cons (pe_glob (v := .ref (He.ga K c_Ratio)) rfl T.g_Ratio rfl) (pa_nil))))) (pv 0) (StX.pe_makeR (E := E) T.mk_Ratio (ok_Ratio_init_d T) (hr.mono (by decide)) rfl T.g_Ratio (passes_call (W := fun c d _ H => E c d H) (takes_of rfl rfl rfl rfl) fun _ _ _ _ h => h) (pa_cons (pv 0) (pa_nil))))), body_ok (N := N_as_ratio) (snd_ret (snd_if (snd_tb (snd_cb (cs_isi T.kn) (snd_cons (snd_bor 0) (snd_cons (snd_cls (c := c_Ratio)) (snd_nil))))) (snd_var 0) (snd_make (c := c_Ratio) (snd_cons (snd_bor 0) (snd_nil))))) h⟩
theorem ok_as_ratio {P : Program} {w : World} {K : PySem.W.Frag} {mg : Str → Option Value} {base : Heap} (T : Txt K mg) : FnR P w K mg base (L2.CX P w) 4 (He.ga K "as_ratio") (spM K 1 F_as_ratio) := by
  obtain ⟨fd, F⟩ := T.d_as_ratio
  exact Z.raw0 (okb_as_ratio T F) (F.bindsN fun _ _ _ _ _ _ us hl => match us, hl with | [_], _ => rfl)
noncomputable def m_Ratio_sign : MS := sRet (mOp fSub (mCB (f1 fInt) (mCons (mOp fGt (mFld c_Ratio n_Ratio 0 (mBor 0)) (mC (.int 0))) (mNil))) (mCB (f1 fInt) (mCons (mOp fLt (mFld c_Ratio n_Ratio 0 (mBor 0)) (mC (.int 0))) (mNil))))
noncomputable def F_Ratio_sign : Fn := fnOf 1 m_Ratio_sign
theorem okb_Ratio_sign {P : Program} {w : World} {K : PySem.W.Frag} {mg : Str → Option Value} {base : Heap} (T : Txt K mg) {fd : FuncData} (F : FunD K "sign" "Ratio.sign" (defArgs s_Ratio_sign) (defBody s_Ratio_sign) (defScope s_Ratio_sign) [] [] (He5.wf K (He.ga K "Ratio") "property" "sign") fd) : FnOk P w K mg base (L2.CX P w) 1 (He5.wf K (He.ga K "Ratio") "property" "sign") fd ["self"] (spM K 1 F_Ratio_sign) := by
  refine F.ok sc_Ratio_sign (fun vs H Q E h => ?_) (fun cdv A outer s H vs Q E hr h => ?_)
  · obtain ⟨_, _, _, _, _, hl, _⟩ := h
    exact hl
  exact ⟨_, pss_one (ps_ret (pe_op op_sub (pe_callTy call_int1 (by rfl) T.f_int (by decide +kernel) (pa_cons (pe_cmpR op_gt (pe_fld (pv 0) rfl) (pe_int) (nomark _)) (pa_nil))) (pe_callTy call_int1 (by rfl) T.f_int (by decide +kernel) (pa_cons (pe_cmpR op_lt (pe_fld (pv 0) rfl) (pe_int) (nomark _)) (pa_nil))))), body_ok (N := N_Ratio_sign) (snd_ret (snd_op os_sub (snd_cb cs_int (snd_cons (snd_op os_gt (snd_fld (c := c_Ratio) (ns := n_Ratio) (j := 0) (snd_bor 0) T.cl_Ratio T.n_Ratio_own_top rfl nd_Ratio) (snd_int)) (snd_nil))) (snd_cb cs_int (snd_cons (snd_op os_lt (snd_fld (c := c_Ratio) (ns := n_Ratio) (j := 0) (snd_bor 0) T.cl_Ratio T.n_Ratio_own_top rfl nd_Ratio) (snd_int)) (snd_nil))))) h⟩
theorem ok_Ratio_sign {P : Program} {w : World} {K : PySem.W.Frag} {mg : Str → Option Value} {base : Heap} (T : Txt K mg) : FnR P w K mg base (L2.CX P w) 1 (He5.wf K (He.ga K "Ratio") "property" "sign") (spM K 1 F_Ratio_sign) := by
  obtain ⟨fd, F⟩ := T.d_Ratio_sign
  exact Z.raw0 (okb_Ratio_sign T F) (F.bindsN fun _ _ _ _ _ _ us hl => match us, hl with | [_], _ => rfl)
noncomputable def m_Ratio_is_below : MS := sSeq (sExpr (mCall 1 F_want_number (mCons (mBor 1) (mNil)))) (sSeq (sAsg (mCall 1 F_as_ratio (mCons (mBor 1) (mNil))) (gN 2)) (sRet (mOp fLt (mOp fMul (mFld c_Ratio n_Ratio 0 (mBor 0)) (mFld c_Ratio n_Ratio 1 (mBor 2))) (mOp fMul (mFld c_Ratio n_Ratio 0 (mBor 2)) (mFld c_Ratio n_Ratio 1 (mBor 0))))))
noncomputable def F_Ratio_is_below : Fn := fnOf 3 m_Ratio_is_below
theorem okb_Ratio_is_below {P : Program} {w : World} {K : PySem.W.Frag} {mg : Str → Option Value} {base : Heap} (T : Txt K mg) {fd : FuncData} (F : FunD K "is_below" "Ratio.is_below" (defArgs s_Ratio_is_below) (defBody s_Ratio_is_below) (defScope s_Ratio_is_below) [] [] (He.ma K (He.ga K "Ratio") "is_below") fd) : FnOk P w K mg base (L2.CX P w) 5 (He.ma K (He.ga K "Ratio") "is_below") fd ["self", "other"] (spM K 2 F_Ratio_is_below) := by
  refine F.ok sc_Ratio_is_below (fun vs H Q E h => ?_) (fun cdv A outer s H vs Q E hr h => ?_)
  · obtain ⟨_, _, _, _, _, hl, _⟩ := h
    exact hl
  exact ⟨_, pss_cons (ps_expr (Z.pe_cl (E := E) (ok_want_number T) (hr.mono (by decide)) T.g_want_number T.k_want_number (passes_call (W := fun c d _ H => E c d H) (takes_of rfl rfl rfl rfl) fun _ _ _ _ h => h) (pa_cons (pv 1) (pa_nil)))) (pss_cons (ps_set (i := 2) sc_Ratio_is_below.nd rfl (Or.inl rfl) (Z.pe_cl (E := E) (ok_as_ratio T) (hr.mono (by decide)) T.g_as_ratio T.k_as_ratio (passes_call (W := fun c d _ H => E c d H) (takes_of rfl rfl rfl rfl) fun _ _ _ _ h => h) (pa_cons (pv 1) (pa_nil)))) (pss_one (ps_ret (pe_cmpR op_lt (pe_op op_mulW (pe_fld (pv 0) rfl) (pe_fld (pv 2) rfl)) (pe_op op_mulW (pe_fld (pv 2) rfl) (pe_fld (pv 0) rfl)) (nomark _))))), body_ok (N := N_Ratio_is_below) (snd_seq (snd_expr (snd_call (snd_cons (snd_bor 1) (snd_nil)))) (snd_seq (snd_asg (snd_call (snd_cons (snd_bor 1) (snd_nil))) (snd_gn 2)) (snd_ret (snd_op os_lt (snd_op os_mul (snd_fld (c := c_Ratio) (ns := n_Ratio) (j := 0) (snd_bor 0) T.cl_Ratio T.n_Ratio_own_top rfl nd_Ratio) (snd_fld (c := c_Ratio) (ns := n_Ratio) (j := 1) (snd_bor 2) T.cl_Ratio T.n_Ratio_own_bottom rfl nd_Ratio)) (snd_op os_mul (snd_fld (c := c_Ratio) (ns := n_Ratio) (j := 0) (snd_bor 2) T.cl_Ratio T.n_Ratio_own_top rfl nd_Ratio) (snd_fld (c := c_Ratio) (ns := n_Ratio) (j := 1) (snd_bor 0) T.cl_Ratio T.n_Ratio_own_bottom rfl nd_Ratio)))))) h⟩
theorem ok_Ratio_is_below {P : Program} {w : World} {K : PySem.W.Frag} {mg : Str → Option Value} {base : Heap} (T : Txt K mg) : FnR P w K mg base (L2.CX P w) 5 (He.ma K (He.ga K "Ratio") "is_below") (spM K 2 F_Ratio_is_below) := by
  obtain ⟨fd, F⟩ := T.d_Ratio_is_below
  exact Z.raw0 (okb_Ratio_is_below T F) (F.bindsN fun _ _ _ _ _ _ us hl => match us, hl with | [_, _], _ => rfl)
noncomputable def m_Ratio_eq : MS := sRet (mAndV (mCB (fIsi clss) (mCons (mBor 1) (mCons (mC (.cls c_Ratio)) (mNil)))) (mAndV (mOp fEqS (mFld c_Ratio n_Ratio 0 (mBor 0)) (mFld c_Ratio n_Ratio 0 (mBor 1))) (mOp fEqS (mFld c_Ratio n_Ratio 1 (mBor 0)) (mFld c_Ratio n_Ratio 1 (mBor 1)))))
noncomputable def F_Ratio_eq : Fn := fnOf 2 m_Ratio_eq
theorem okb_Ratio_eq {P : Program} {w : World} {K : PySem.W.Frag} {mg : Str → Option Value} {base : Heap} (T : Txt K mg) {fd : FuncData} (F : FunD K "__eq__" "Ratio.__eq__" (defArgs s_Ratio_eq) (defBody s_Ratio_eq) (defScope s_Ratio_eq) [] [] (He.ma K (He.ga K "Ratio") "__eq__") fd) : FnOk P w K mg base (L2.CX P w) 1 (He.ma K (He.ga K "Ratio") "__eq__") fd ["self", "other"] (spM K 2 F_Ratio_eq) := by
  refine F.ok sc_Ratio_eq (fun vs H Q E h => ?_) (fun cdv A outer s H vs Q E hr h => ?_)
  · obtain ⟨_, _, _, _, _, hl, _⟩ := h
    exact hl
  exact ⟨_, pss_one (ps_ret (pe_and (pe_callB (Z.isiK (K := K) rfl) (by rfl) T.f_isinstance (by decide +kernel) (pa_cons (pv 1) (pa_cons (pe_glob (v := .ref (He.ga K c_Ratio)) rfl T.g_Ratio rfl) (pa_nil)))) (pe_and (pe_cmpR op_eq (pe_fld (pv 0) rfl) (pe_fld (pv 1) rfl) (nomark _)) (pe_one (pe_cmpR op_eq (pe_fld (pv 0) rfl) (pe_fld (pv 1) rfl) (nomark _)))))), body_ok (N := N_Ratio_eq) (snd_ret (snd_andV (snd_cb (cs_isi T.kn) (snd_cons (snd_bor 1) (snd_cons (snd_cls (c := c_Ratio)) (snd_nil)))) (snd_andV (snd_op os_eqS (snd_fld (c := c_Ratio) (ns := n_Ratio) (j := 0) (snd_bor 0) T.cl_Ratio T.n_Ratio_own_top rfl nd_Ratio) (snd_fld (c := c_Ratio) (ns := n_Ratio) (j := 0) (snd_bor 1) T.cl_Ratio T.n_Ratio_own_top rfl nd_Ratio)) (snd_op os_eqS (snd_fld (c := c_Ratio) (ns := n_Ratio) (j := 1) (snd_bor 0) T.cl_Ratio T.n_Ratio_own_bottom rfl nd_Ratio) (snd_fld (c := c_Ratio) (ns := n_Ratio) (j := 1) (snd_bor 1) T.cl_Ratio T.n_Ratio_own_bottom rfl nd_Ratio))))) h⟩
theorem ok_Ratio_eq {P : Program} {w : World} {K : PySem.W.Frag} {mg : Str → Option Value} {base : Heap} (T : Txt K mg) : FnR P w K mg base (L2.CX P w) 1 (He.ma K (He.ga K "Ratio") "__eq__") (spM K 2 F_Ratio_eq) := by
  obtain ⟨fd, F⟩ := T.d_Ratio_eq
  exact Z.raw0 (okb_Ratio_eq T F) (F.bindsN fun _ _ _ _ _ _ us hl => match us, hl with | [_, _], _ => rfl)
noncomputable def m_Ratio_repr : MS := sRet (mJs ((mC (.str "Ratio(")) :: (mUn fFmt (mFld c_Ratio n_Ratio 0 (mBor 0))) :: (mC (.str ", ")) :: (mUn fFmt (mFld c_Ratio n_Ratio 1 (mBor 0))) :: (mC (.str ")")) :: []) Str.empty)
noncomputable def F_Ratio_repr : Fn := fnOf 1 m_Ratio_repr
theorem okb_Ratio_repr {P : Program} {w : World} {K : PySem.W.Frag} {mg : Str → Option Value} {base : Heap} (T : Txt K mg) {fd : FuncData} (F : FunD K "__repr__" "Ratio.__repr__" (defArgs s_Ratio_repr) (defBody s_Ratio_repr) (defScope s_Ratio_repr) [] [] (He.ma K (He.ga K "Ratio") "__repr__") fd) : FnOk P w K mg base (L2.CX P w) 1 (He.ma K (He.ga K "Ratio") "__repr__") fd ["self"] (spM K 1 F_Ratio_repr) := by
  refine F.ok sc_Ratio_repr (fun vs H Q E h => ?_) (fun cdv A outer s H vs Q E hr h => ?_)
  · obtain ⟨_, _, _, _, _, hl, _⟩ := h
    exact hl
  exact ⟨_, pss_one (ps_ret (pe_joined (.cons (pe_str) (.cons (pe_fmt (pe_fld (pv 0) rfl)) (.cons (pe_str) (.cons (pe_fmt (pe_fld (pv 0) rfl)) (.cons (pe_str) (.nil)))))))), body_ok (N := N_Ratio_repr) (snd_ret (snd_joined (.cons (snd_str) (.cons (snd_fmt (snd_fld (c := c_Ratio) (ns := n_Ratio) (j := 0) (snd_bor 0) T.cl_Ratio T.n_Ratio_own_top rfl nd_Ratio)) (.cons (snd_str) (.cons (snd_fmt (snd_fld (c := c_Ratio) (ns := n_Ratio) (j := 1) (snd_bor 0) T.cl_Ratio T.n_Ratio_own_bottom rfl nd_Ratio)) (.cons (snd_str) (.nil)))))))) h⟩
theorem ok_Ratio_repr {P : Program} {w : World} {K : PySem.W.Frag} {mg : Str → Option Value} {base : Heap} (T : Txt K mg) : FnR P w K mg base (L2.CX P w) 1 (He.ma K (He.ga K "Ratio") "__repr__") (spM K 1 F_Ratio_repr) := by
  obtain ⟨fd, F⟩ := T.d_Ratio_repr
  exact Z.raw0 (okb_Ratio_repr T F) (F.bindsN fun _ _ _ _ _ _ us hl => match us, hl with | [_], _ => rfl)
noncomputable def m_Ratio_add : MS := sSeq (sExpr (mCall 1 F_want_number (mCons (mBor 1) (mNil)))) (sSeq (sAsg (mCall 1 F_as_ratio (mCons (mBor 1) (mNil))) (gN 2)) (sSeq (sAsg (mOp fAdd (mOp fMul (mFld c_Ratio n_Ratio 0 (mBor 0)) (mFld c_Ratio n_Ratio 1 (mBor 2))) (mOp fMul (mFld c_Ratio n_Ratio 0 (mBor 2)) (mFld c_Ratio n_Ratio 1 (mBor 0)))) (gN 3)) (sRet (mMake c_Ratio 3 F_Ratio_init (mCons (mBor 3) (mCons (mOp fMul (mFld c_Ratio n_Ratio 1 (mBor 0)) (mFld c_Ratio n_Ratio 1 (mBor 2))) (mNil)))))))
noncomputable def F_Ratio_add : Fn := fnOf 4 m_Ratio_add
theorem okb_Ratio_add {P : Program} {w : World} {K : PySem.W.Frag} {mg : Str → Option Value} {base : Heap} (T : Txt K mg) {fd : FuncData} (F : FunD K "__add__" "Ratio.__add__" (defArgs s_Ratio_add) (defBody s_Ratio_add) (defScope s_Ratio_add) [] [] (He.ma K (He.ga K "Ratio") "__add__") fd) : FnOk P w K mg base (L2.CX P w) 5 (He.ma K (He.ga K "Ratio") "__add__") fd ["self", "other"] (spM K 2 F_Ratio_add) := by
  refine F.ok sc_Ratio_add (fun vs H Q E h => ?_) (fun cdv A outer s H vs Q E hr h => ?_)
  · obtain ⟨_, _, _, _, _, hl, _⟩ := h
    exact hl
  exact ⟨_, pss_cons (ps_expr (Z.pe_cl (E := E) (ok_want_number T) (hr.mono (by decide)) T.g_want_number T.k_want_number (passes_call (W := fun c d _ H => E c d H) (takes_of rfl rfl rfl rfl) fun _ _ _ _ h => h) (pa_cons (pv 1) (pa_nil)))) (pss_cons (ps_set (i := 2) sc_Ratio_add.nd rfl (Or.inl rfl) (Z.pe_cl (E := E) (ok_as_ratio T) (hr.mono (by decide)) T.g_as_ratio T.k_as_ratio (passes_call (W := fun c d _ H => E c d H) (takes_of rfl rfl rfl rfl) fun _ _ _ _ h => h) (pa_cons (pv 1) (pa_nil)))) (pss_cons (ps_set (i := 3) sc_Ratio_add.nd rfl (Or.inl rfl) (pe_op op_add (pe_op op_mulW (pe_fld (pv 0) rfl) (pe_fld (pv 2) rfl)) (pe_op op_mulW (pe_fld (pv 2) rfl) (pe_fld (pv 0) rfl)))) (pss_one (ps_ret (StX.pe_makeR (E := E) T.mk_Ratio (ok_Ratio_init_f T) (hr.mono (by decide)) rfl T.g_Ratio (passes_call (W := fun c d _ H => E c d H) (takes_of rfl rfl rfl rfl) fun _ _ _ _ h => h) (pa_cons (pv 3) (pa_cons (pe_op op_mulW (pe_fld (pv 0) rfl) (pe_fld (pv 2) rfl)) (pa_nil)))))))), body_ok (N := N_Ratio_add) (snd_seq (snd_expr (snd_call (snd_cons (snd_bor 1) (snd_nil)))) (snd_seq (snd_asg (snd_call (snd_cons (snd_bor 1) (snd_nil))) (snd_gn 2)) (snd_seq (snd_asg (snd_op os_add (snd_op os_mul (snd_fld (c := c_Ratio) (ns := n_Ratio) (j := 0) (snd_bor 0) T.cl_Ratio T.n_Ratio_own_top rfl nd_Ratio) (snd_fld (c := c_Ratio) (ns := n_Ratio) (j := 1) (snd_bor 2) T.cl_Ratio T.n_Ratio_own_bottom rfl nd_Ratio)) (snd_op os_mul (snd_fld (c := c_Ratio) (ns := n_Ratio) (j := 0) (snd_bor 2) T.cl_Ratio T.n_Ratio_own_top rfl nd_Ratio) (snd_fld (c := c_Ratio) (ns := n_Ratio) (j := 1) (snd_bor 0) T.cl_Ratio T.n_Ratio_own_bottom rfl nd_Ratio))) (snd_gn 3)) (snd_ret (snd_make (c := c_Ratio) (snd_cons (snd_bor 3) (snd_cons (snd_op os_mul (snd_fld (c := c_Ratio) (ns := n_Ratio) (j := 1) (snd_bor 0) T.cl_Ratio T.n_Ratio_own_bottom rfl nd_Ratio) (snd_fld (c := c_Ratio) (ns := n_Ratio) (j := 1) (snd_bor 2) T.cl_Ratio T.n_Ratio_own_bottom rfl nd_Ratio)) (snd_nil)))))))) h⟩
theorem ok_Ratio_add {P : Program} {w : World} {K : PySem.W.Frag} {mg : Str → Option Value} {base : Heap} (T : Txt K mg) : FnR P w K mg base (L2.CX P w) 5 (He.ma K (He.ga K "Ratio") "__add__") (spM K 2 F_Ratio_add) := by
  obtain ⟨fd, F⟩ := T.d_Ratio_add
  exact Z.raw0 (okb_Ratio_add T F) (F.bindsN fun _ _ _ _ _ _ us hl => match us, hl with | [_, _], _ => rfl)
noncomputable def m_Ratio_neg : MS := sRet (mMake c_Ratio 3 F_Ratio_init (mCons (mUn fNeg (mFld c_Ratio n_Ratio 0 (mBor 0))) (mCons (mFld c_Ratio n_Ratio 1 (mBor 0)) (mNil))))
noncomputable def F_Ratio_neg : Fn := fnOf 1 m_Ratio_neg
theorem okb_Ratio_neg {P : Program} {w : World} {K : PySem.W.Frag} {mg : Str → Option Value} {base : Heap} (T : Txt K mg) {fd : FuncData} (F : FunD K "__neg__" "Ratio.__neg__" (defArgs s_Ratio_neg) (defBody s_Ratio_neg) (defScope s_Ratio_neg) [] [] (He.ma K (He.ga K "Ratio") "__neg__") fd) : FnOk P w K mg base (L2.CX P w) 4 (He.ma K (He.ga K "Ratio") "__neg__") fd ["self"] (spM K 1 F_Ratio_neg) := by
  refine F.ok sc_Ratio_neg (fun vs H Q E h => ?_) (fun cdv A outer s H vs Q E hr h => ?_)
  · obtain ⟨_, _, _, _, _, hl, _⟩ := h
    exact hl
  exact ⟨_, pss_one (ps_ret (StX.pe_makeR (E := E) T.mk_Ratio (ok_Ratio_init_f T) (hr.mono (by decide)) rfl T.g_Ratio (passes_call (W := fun c d _ H => E c d H) (takes_of rfl rfl rfl rfl) fun _ _ _ _ h => h) (pa_cons (pe_un un_neg (pe_fld (pv 0) rfl)) (pa_cons (pe_fld (pv 0) rfl) (pa_nil))))), body_ok (N := N_Ratio_neg) (snd_ret (snd_make (c := c_Ratio) (snd_cons (snd_un us_neg (snd_fld (c := c_Ratio) (ns := n_Ratio) (j := 0) (snd_bor 0) T.cl_Ratio T.n_Ratio_own_top rfl nd_Ratio)) (snd_cons (snd_fld (c := c_Ratio) (ns := n_Ratio) (j := 1) (snd_bor 0) T.cl_Ratio T.n_Ratio_own_bottom rfl nd_Ratio) (snd_nil))))) h⟩
theorem ok_Ratio_neg {P : Program} {w : World} {K : PySem.W.Frag} {mg : Str → Option Value} {base : Heap} (T : Txt K mg) : FnR P w K mg base (L2.CX P w) 4 (He.ma K (He.ga K "Ratio") "__neg__") (spM K 1 F_Ratio_neg) := by
  obtain ⟨fd, F⟩ := T.d_Ratio_neg
  exact Z.raw0 (okb_Ratio_neg T F) (F.bindsN fun _ _ _ _ _ _ us hl => match us, hl with | [_], _ => rfl)
noncomputable def m_Ratio_sub : MS := sSeq (sExpr (mCall 1 F_want_number (mCons (mBor 1) (mNil)))) (sRet (mOwnL c_Ratio F_Ratio_add (mBor 0) (mOwn1 c_Ratio F_Ratio_neg (mCall 1 F_as_ratio (mCons (mBor 1) (mNil))))))
noncomputable def F_Ratio_sub : Fn := fnOf 2 m_Ratio_sub
theorem okb_Ratio_sub {P : Program} {w : World} {K : PySem.W.Frag} {mg : Str → Option Value} {base : Heap} (T : Txt K mg) {fd : FuncData} (F : FunD K "__sub__" "Ratio.__sub__" (defArgs s_Ratio_sub) (defBody s_Ratio_sub) (defScope s_Ratio_sub) [] [] (He.ma K (He.ga K "Ratio") "__sub__") fd) : FnOk P w K mg base (L2.CX P w) 6 (He.ma K (He.ga K "Ratio") "__sub__") fd ["self", "other"] (spM K 2 F_Ratio_sub) := by
  refine F.ok sc_Ratio_sub (fun vs H Q E h => ?_) (fun cdv A outer s H vs Q E hr h => ?_)
  · obtain ⟨_, _, _, _, _, hl, _⟩ := h
    exact hl
  exact ⟨_, pss_cons (ps_expr (Z.pe_cl (E := E) (ok_want_number T) (hr.mono (by decide)) T.g_want_number T.k_want_number (passes_call (W := fun c d _ H => E c d H) (takes_of rfl rfl rfl rfl) fun _ _ _ _ h => h) (pa_cons (pv 1) (pa_nil)))) (pss_one (ps_ret (pe_op (Z.op_ownL (E := E) T.o_Ratio_add (ok_Ratio_add T) (hr.mono (by decide)) (passes_call (W := fun c d _ H => E c d H) (takes_of rfl rfl rfl rfl) fun _ _ _ _ h => h)) (pv 0) (pe_un (Z.un_own (E := E) T.a_Ratio_neg T.i_Ratio_neg (ok_Ratio_neg T) (hr.mono (by decide)) (passes_call (W := fun c d _ H => E c d H) (takes_of rfl rfl rfl rfl) fun _ _ _ _ h => h)) (Z.pe_cl (E := E) (ok_as_ratio T) (hr.mono (by decide)) T.g_as_ratio T.k_as_ratio (passes_call (W := fun c d _ H => E c d H) (takes_of rfl rfl rfl rfl) fun _ _ _ _ h => h) (pa_cons (pv 1) (pa_nil))))))), body_ok (N := N_Ratio_sub) (snd_seq (snd_expr (snd_call (snd_cons (snd_bor 1) (snd_nil)))) (snd_ret (snd_ownL (c := c_Ratio) T.r_Ratio_add (snd_bor 0) (snd_own1 (c := c_Ratio) (snd_call (snd_cons (snd_bor 1) (snd_nil))))))) h⟩
theorem ok_Ratio_sub {P : Program} {w : World} {K : PySem.W.Frag} {mg : Str → Option Value} {base : Heap} (T : Txt K mg) : FnR P w K mg base (L2.CX P w) 6 (He.ma K (He.ga K "Ratio") "__sub__") (spM K 2 F_Ratio_sub) := by
  obtain ⟨fd, F⟩ := T.d_Ratio_sub
  exact Z.raw0 (okb_Ratio_sub T F) (F.bindsN fun _ _ _ _ _ _ us hl => match us, hl with | [_, _], _ => rfl)
/-! ### == of ratios, told by their integers -/
def ratD (t b : Int) : D := .obj c_Ratio n_Ratio [.int t, .int b]
def eqR_Ratio : D → D → Option Bool
  | .obj c n [.int t, .int b], .obj c' n' [.int t', .int b'] => if c = c_Ratio ∧ n = n_Ratio ∧ c' = c_Ratio ∧ n' = n_Ratio then some (decide (t = t') && decide (b = b')) else none
  | _, _ => none
theorem eqR_get {a d : D} {b : Bool} (h : eqR_Ratio a d = some b) : ∃ t u t' u', a = ratD t u ∧ d = ratD t' u' ∧ b = (decide (t = t') && decide (u = u')) := by
  unfold eqR_Ratio at h
  split at h
  · rename_i c n t u c' n' t' u'
    by_cases hc : c = c_Ratio ∧ n = n_Ratio ∧ c' = c_Ratio ∧ n' = n_Ratio
    · rw [if_pos hc] at h
      obtain ⟨rfl, rfl, rfl, rfl⟩ := hc
      cases h
      exact ⟨t, u, t', u', rfl, rfl, rfl⟩
    · rw [if_neg hc] at h; cases h
  · cases h
theorem ef_Ratio : EqFn clss c_Ratio F_Ratio_eq eqR_Ratio where
  pure := fun a d b p h => by
    obtain ⟨t, u, t', u', rfl, rfl, rfl⟩ := eqR_get h
    by_cases h1 : t = t' <;> simp [fnOf, outsOf, callF, slotsOf, mkSlot, lents, takeBack, views, vals, mVar, mBor, mC, fz, mOp, mUn, mTest, asB, mAnd, mOr, mNot, mAndV, mOrV, mNotV, mIf, mNil, mCons, mLst, mTup, mCB, f1, f2, sSkip, sSeq, sExpr, sRet, sRetN, sBreak, sCont, sNever, sIf, gN, gTs, gLs, gsN, gsC, sAsg, sOwn, sPar, sPar3, sParFE, sParEF, sParFF, argSeq, asL, asT, asS, asI, asV, iL, iT, iS, iR1, iR2, iEn, iZ, hold, noEx, mCall, mMeth, mProp, mMake, fldAt, mFld, putD, sFldSet, mMut, fAppend, fClear0, fRev, fPop, sSetItem, owL, fI, fIc, fNeg, mChain, fIsN, fNotN, fCatS, mOpF, fCat, fRep, fIxL, fIxT, fIxS, mNo, mPart, mSlL, mSlT, mSlS, fLen, fAbs, fInt, fStrI, fAll, fAny, fSum, mCBF, fList, fTuple, mJoin, fFmt, mJs, isiB, fIsi, okRight, mOwnL, mOwnR, mOwn1, onlyStr, mStrO, okLeft, mEqO, mEqO2, onlyNot, mNeO, mCMeth, asSeq, mStar, perm, mMethK, mCallK, mInO, mIdxO, mIdxD, mD0, mLc, wipeS, wipeG, backG, sFor, Mi.allB, fMax2, iEnT, mIxO, mMakeS, mMkLS, mMkL, isCls, mSlSL, mSlST, mCMethK, Mi.allI, fMax, F_Ratio_eq, m_Ratio_eq, ratD, h1]
  obj := fun a d b h => by
    obtain ⟨t, u, t', u', rfl, rfl, rfl⟩ := eqR_get h
    simp [ratD, asObj, Mi.plain, Mi.plains]
  same := fun a b h => by
    obtain ⟨t, u, t', u', rfl, e, rfl⟩ := eqR_get h
    unfold ratD at e
    simp at e
    simp [e]

theorem eqB_Ratio {X : Cx} (T : Txt X.K X.mg) : Z.EqB X 1 (Dq X.K eqR_Ratio) := eqB_Dq T.kn in_Ratio T.eq_Ratio (ok_Ratio_eq T) ef_Ratio
/-! ### what the package's defs on numbers compute -/
@[simp] theorem isInt_int (i : Int) (p : Int × Int) : F_is_integer [.sh (.int i)] p = .ok (.bl true) [.no] p := by
  simp [fnOf, outsOf, callF, slotsOf, mkSlot, lents, takeBack, views, vals, mVar, mBor, mC, fz, mOp, mUn, mTest, asB, mAnd, mOr, mNot, mAndV, mOrV, mNotV, mIf, mNil, mCons, mLst, mTup, mCB, f1, f2, sSkip, sSeq, sExpr, sRet, sRetN, sBreak, sCont, sNever, sIf, gN, gTs, gLs, gsN, gsC, sAsg, sOwn, sPar, sPar3, sParFE, sParEF, sParFF, argSeq, asL, asT, asS, asI, asV, iL, iT, iS, iR1, iR2, iEn, iZ, hold, noEx, mCall, mMeth, mProp, mMake, fldAt, mFld, putD, sFldSet, mMut, fAppend, fClear0, fRev, fPop, sSetItem, owL, fI, fIc, fNeg, mChain, fIsN, fNotN, fCatS, mOpF, fCat, fRep, fIxL, fIxT, fIxS, mNo, mPart, mSlL, mSlT, mSlS, fLen, fAbs, fInt, fStrI, fAll, fAny, fSum, mCBF, fList, fTuple, mJoin, fFmt, mJs, isiB, fIsi, okRight, mOwnL, mOwnR, mOwn1, onlyStr, mStrO, okLeft, mEqO, mEqO2, onlyNot, mNeO, mCMeth, asSeq, mStar, perm, mMethK, mCallK, mInO, mIdxO, mIdxD, mD0, mLc, wipeS, wipeG, backG, sFor, Mi.allB, fMax2, iEnT, mIxO, mMakeS, mMkLS, mMkL, isCls, mSlSL, mSlST, mCMethK, Mi.allI, fMax, F_is_integer, m_is_integer]
@[simp] theorem isInt_rat (t b : Int) (p : Int × Int) : F_is_integer [.sh (ratD t b)] p = .ok (.bl false) [.no] p := by
  simp [fnOf, outsOf, callF, slotsOf, mkSlot, lents, takeBack, views, vals, mVar, mBor, mC, fz, mOp, mUn, mTest, asB, mAnd, mOr, mNot, mAndV, mOrV, mNotV, mIf, mNil, mCons, mLst, mTup, mCB, f1, f2, sSkip, sSeq, sExpr, sRet, sRetN, sBreak, sCont, sNever, sIf, gN, gTs, gLs, gsN, gsC, sAsg, sOwn, sPar, sPar3, sParFE, sParEF, sParFF, argSeq, asL, asT, asS, asI, asV, iL, iT, iS, iR1, iR2, iEn, iZ, hold, noEx, mCall, mMeth, mProp, mMake, fldAt, mFld, putD, sFldSet, mMut, fAppend, fClear0, fRev, fPop, sSetItem, owL, fI, fIc, fNeg, mChain, fIsN, fNotN, fCatS, mOpF, fCat, fRep, fIxL, fIxT, fIxS, mNo, mPart, mSlL, mSlT, mSlS, fLen, fAbs, fInt, fStrI, fAll, fAny, fSum, mCBF, fList, fTuple, mJoin, fFmt, mJs, isiB, fIsi, okRight, mOwnL, mOwnR, mOwn1, onlyStr, mStrO, okLeft, mEqO, mEqO2, onlyNot, mNeO, mCMeth, asSeq, mStar, perm, mMethK, mCallK, mInO, mIdxO, mIdxD, mD0, mLc, wipeS, wipeG, backG, sFor, Mi.allB, fMax2, iEnT, mIxO, mMakeS, mMkLS, mMkL, isCls, mSlSL, mSlST, mCMethK, Mi.allI, fMax, F_is_integer, m_is_integer, ratD]
@[simp] theorem isNum_int (i : Int) (p : Int × Int) : F_is_number [.sh (.int i)] p = .ok (.bl true) [.no] p := by
  simp [fnOf, outsOf, callF, slotsOf, mkSlot, lents, takeBack, views, vals, mVar, mBor, mC, fz, mOp, mUn, mTest, asB, mAnd, mOr, mNot, mAndV, mOrV, mNotV, mIf, mNil, mCons, mLst, mTup, mCB, f1, f2, sSkip, sSeq, sExpr, sRet, sRetN, sBreak, sCont, sNever, sIf, gN, gTs, gLs, gsN, gsC, sAsg, sOwn, sPar, sPar3, sParFE, sParEF, sParFF, argSeq, asL, asT, asS, asI, asV, iL, iT, iS, iR1, iR2, iEn, iZ, hold, noEx, mCall, mMeth, mProp, mMake, fldAt, mFld, putD, sFldSet, mMut, fAppend, fClear0, fRev, fPop, sSetItem, owL, fI, fIc, fNeg, mChain, fIsN, fNotN, fCatS, mOpF, fCat, fRep, fIxL, fIxT, fIxS, mNo, mPart, mSlL, mSlT, mSlS, fLen, fAbs, fInt, fStrI, fAll, fAny, fSum, mCBF, fList, fTuple, mJoin, fFmt, mJs, isiB, fIsi, okRight, mOwnL, mOwnR, mOwn1, onlyStr, mStrO, okLeft, mEqO, mEqO2, onlyNot, mNeO, mCMeth, asSeq, mStar, perm, mMethK, mCallK, mInO, mIdxO, mIdxD, mD0, mLc, wipeS, wipeG, backG, sFor, Mi.allB, fMax2, iEnT, mIxO, mMakeS, mMkLS, mMkL, isCls, mSlSL, mSlST, mCMethK, Mi.allI, fMax, F_is_number, m_is_number]
@[simp] theorem isNum_rat (t b : Int) (p : Int × Int) : F_is_number [.sh (ratD t b)] p = .ok (.bl true) [.no] p := by
  have h := isInt_rat t b p
  simp only [ratD] at h
  simp [fnOf, outsOf, callF, slotsOf, mkSlot, lents, takeBack, views, vals, mVar, mBor, mC, fz, mOp, mUn, mTest, asB, mAnd, mOr, mNot, mAndV, mOrV, mNotV, mIf, mNil, mCons, mLst, mTup, mCB, f1, f2, sSkip, sSeq, sExpr, sRet, sRetN, sBreak, sCont, sNever, sIf, gN, gTs, gLs, gsN, gsC, sAsg, sOwn, sPar, sPar3, sParFE, sParEF, sParFF, argSeq, asL, asT, asS, asI, asV, iL, iT, iS, iR1, iR2, iEn, iZ, hold, noEx, mCall, mMeth, mProp, mMake, fldAt, mFld, putD, sFldSet, mMut, fAppend, fClear0, fRev, fPop, sSetItem, owL, fI, fIc, fNeg, mChain, fIsN, fNotN, fCatS, mOpF, fCat, fRep, fIxL, fIxT, fIxS, mNo, mPart, mSlL, mSlT, mSlS, fLen, fAbs, fInt, fStrI, fAll, fAny, fSum, mCBF, fList, fTuple, mJoin, fFmt, mJs, isiB, fIsi, okRight, mOwnL, mOwnR, mOwn1, onlyStr, mStrO, okLeft, mEqO, mEqO2, onlyNot, mNeO, mCMeth, asSeq, mStar, perm, mMethK, mCallK, mInO, mIdxO, mIdxD, mD0, mLc, wipeS, wipeG, backG, sFor, Mi.allB, fMax2, iEnT, mIxO, mMakeS, mMkLS, mMkL, isCls, mSlSL, mSlST, mCMethK, Mi.allI, fMax, F_is_number, m_is_number, ratD, h]
@[simp] theorem want_int (i : Int) (p : Int × Int) : F_want_number [.sh (.int i)] p = .ok .non [.no] p := by
  simp [fnOf, outsOf, callF, slotsOf, mkSlot, lents, takeBack, views, vals, mVar, mBor, mC, fz, mOp, mUn, mTest, asB, mAnd, mOr, mNot, mAndV, mOrV, mNotV, mIf, mNil, mCons, mLst, mTup, mCB, f1, f2, sSkip, sSeq, sExpr, sRet, sRetN, sBreak, sCont, sNever, sIf, gN, gTs, gLs, gsN, gsC, sAsg, sOwn, sPar, sPar3, sParFE, sParEF, sParFF, argSeq, asL, asT, asS, asI, asV, iL, iT, iS, iR1, iR2, iEn, iZ, hold, noEx, mCall, mMeth, mProp, mMake, fldAt, mFld, putD, sFldSet, mMut, fAppend, fClear0, fRev, fPop, sSetItem, owL, fI, fIc, fNeg, mChain, fIsN, fNotN, fCatS, mOpF, fCat, fRep, fIxL, fIxT, fIxS, mNo, mPart, mSlL, mSlT, mSlS, fLen, fAbs, fInt, fStrI, fAll, fAny, fSum, mCBF, fList, fTuple, mJoin, fFmt, mJs, isiB, fIsi, okRight, mOwnL, mOwnR, mOwn1, onlyStr, mStrO, okLeft, mEqO, mEqO2, onlyNot, mNeO, mCMeth, asSeq, mStar, perm, mMethK, mCallK, mInO, mIdxO, mIdxD, mD0, mLc, wipeS, wipeG, backG, sFor, Mi.allB, fMax2, iEnT, mIxO, mMakeS, mMkLS, mMkL, isCls, mSlSL, mSlST, mCMethK, Mi.allI, fMax, F_want_number, m_want_number]
@[simp] theorem want_rat (t b : Int) (p : Int × Int) : F_want_number [.sh (ratD t b)] p = .ok .non [.no] p := by
  simp [fnOf, outsOf, callF, slotsOf, mkSlot, lents, takeBack, views, vals, mVar, mBor, mC, fz, mOp, mUn, mTest, asB, mAnd, mOr, mNot, mAndV, mOrV, mNotV, mIf, mNil, mCons, mLst, mTup, mCB, f1, f2, sSkip, sSeq, sExpr, sRet, sRetN, sBreak, sCont, sNever, sIf, gN, gTs, gLs, gsN, gsC, sAsg, sOwn, sPar, sPar3, sParFE, sParEF, sParFF, argSeq, asL, asT, asS, asI, asV, iL, iT, iS, iR1, iR2, iEn, iZ, hold, noEx, mCall, mMeth, mProp, mMake, fldAt, mFld, putD, sFldSet, mMut, fAppend, fClear0, fRev, fPop, sSetItem, owL, fI, fIc, fNeg, mChain, fIsN, fNotN, fCatS, mOpF, fCat, fRep, fIxL, fIxT, fIxS, mNo, mPart, mSlL, mSlT, mSlS, fLen, fAbs, fInt, fStrI, fAll, fAny, fSum, mCBF, fList, fTuple, mJoin, fFmt, mJs, isiB, fIsi, okRight, mOwnL, mOwnR, mOwn1, onlyStr, mStrO, okLeft, mEqO, mEqO2, onlyNot, mNeO, mCMeth, asSeq, mStar, perm, mMethK, mCallK, mInO, mIdxO, mIdxD, mD0, mLc, wipeS, wipeG, backG, sFor, Mi.allB, fMax2, iEnT, mIxO, mMakeS, mMkLS, mMkL, isCls, mSlSL, mSlST, mCMethK, Mi.allI, fMax, F_want_number, m_want_number]
theorem gcd_ev {m n : Int} (hm : 0 ≤ m) (hn : 0 ≤ n) (p : Int × Int) : F_common_divisor [.sh (.int m), .sh (.int n)] p = .ok (.int (Int.gcd m n)) [.no, .no] p := by
  have w : ∃ s', sWhile c1_common_divisor b1_common_divisor ⟨[.sh (.int m), .sh (.int n)], p⟩ = .ok (.nx, s') ∧ s' = ⟨[.sh (.int (Int.gcd m n)), .sh (.int 0)], p⟩ := by
    refine while_ind (fun s => ∃ a b : Int, s = ⟨[.sh (.int a), .sh (.int b)], p⟩ ∧ 0 ≤ a ∧ 0 ≤ b ∧ Int.gcd a b = Int.gcd m n) _ (fun s => match s.g with
      | [_, .sh (.int b)] => b.toNat
      | _ => 0) ?_ ⟨m, n, rfl, hm, hn, rfl⟩
    rintro s ⟨a, b, rfl, ha, hb, hg⟩
    by_cases hp : 0 < b
    · right
      have h1 := Int.emod_nonneg a (Int.ne_of_gt hp)
      have h2 := Int.emod_lt_of_pos a hp
      refine ⟨_, ⟨[.sh (.int b), .sh (.int (a % b))], p⟩, by simp [fnOf, outsOf, callF, slotsOf, mkSlot, lents, takeBack, views, vals, mVar, mBor, mC, fz, mOp, mUn, mTest, asB, mAnd, mOr, mNot, mAndV, mOrV, mNotV, mIf, mNil, mCons, mLst, mTup, mCB, f1, f2, sSkip, sSeq, sExpr, sRet, sRetN, sBreak, sCont, sNever, sIf, gN, gTs, gLs, gsN, gsC, sAsg, sOwn, sPar, sPar3, sParFE, sParEF, sParFF, argSeq, asL, asT, asS, asI, asV, iL, iT, iS, iR1, iR2, iEn, iZ, hold, noEx, mCall, mMeth, mProp, mMake, fldAt, mFld, putD, sFldSet, mMut, fAppend, fClear0, fRev, fPop, sSetItem, owL, fI, fIc, fNeg, mChain, fIsN, fNotN, fCatS, mOpF, fCat, fRep, fIxL, fIxT, fIxS, mNo, mPart, mSlL, mSlT, mSlS, fLen, fAbs, fInt, fStrI, fAll, fAny, fSum, mCBF, fList, fTuple, mJoin, fFmt, mJs, isiB, fIsi, okRight, mOwnL, mOwnR, mOwn1, onlyStr, mStrO, okLeft, mEqO, mEqO2, onlyNot, mNeO, mCMeth, asSeq, mStar, perm, mMethK, mCallK, mInO, mIdxO, mIdxD, mD0, mLc, wipeS, wipeG, backG, sFor, Mi.allB, fMax2, iEnT, mIxO, mMakeS, mMkLS, mMkL, isCls, mSlSL, mSlST, mCMethK, Mi.allI, fMax, c1_common_divisor, hp]; rfl, by simp [fnOf, outsOf, callF, slotsOf, mkSlot, lents, takeBack, views, vals, mVar, mBor, mC, fz, mOp, mUn, mTest, asB, mAnd, mOr, mNot, mAndV, mOrV, mNotV, mIf, mNil, mCons, mLst, mTup, mCB, f1, f2, sSkip, sSeq, sExpr, sRet, sRetN, sBreak, sCont, sNever, sIf, gN, gTs, gLs, gsN, gsC, sAsg, sOwn, sPar, sPar3, sParFE, sParEF, sParFF, argSeq, asL, asT, asS, asI, asV, iL, iT, iS, iR1, iR2, iEn, iZ, hold, noEx, mCall, mMeth, mProp, mMake, fldAt, mFld, putD, sFldSet, mMut, fAppend, fClear0, fRev, fPop, sSetItem, owL, fI, fIc, fNeg, mChain, fIsN, fNotN, fCatS, mOpF, fCat, fRep, fIxL, fIxT, fIxS, mNo, mPart, mSlL, mSlT, mSlS, fLen, fAbs, fInt, fStrI, fAll, fAny, fSum, mCBF, fList, fTuple, mJoin, fFmt, mJs, isiB, fIsi, okRight, mOwnL, mOwnR, mOwn1, onlyStr, mStrO, okLeft, mEqO, mEqO2, onlyNot, mNeO, mCMeth, asSeq, mStar, perm, mMethK, mCallK, mInO, mIdxO, mIdxD, mD0, mLc, wipeS, wipeG, backG, sFor, Mi.allB, fMax2, iEnT, mIxO, mMakeS, mMkLS, mMkL, isCls, mSlSL, mSlST, mCMethK, Mi.allI, fMax, b1_common_divisor, cMod, hp], ⟨b, a % b, rfl, hb, h1, (M.gcd_step ha hp).trans hg⟩, ?_⟩
      show (a % b).toNat < b.toNat
      omega
    · left
      have e : b = 0 := by omega
      subst e
      refine ⟨_, by simp [fnOf, outsOf, callF, slotsOf, mkSlot, lents, takeBack, views, vals, mVar, mBor, mC, fz, mOp, mUn, mTest, asB, mAnd, mOr, mNot, mAndV, mOrV, mNotV, mIf, mNil, mCons, mLst, mTup, mCB, f1, f2, sSkip, sSeq, sExpr, sRet, sRetN, sBreak, sCont, sNever, sIf, gN, gTs, gLs, gsN, gsC, sAsg, sOwn, sPar, sPar3, sParFE, sParEF, sParFF, argSeq, asL, asT, asS, asI, asV, iL, iT, iS, iR1, iR2, iEn, iZ, hold, noEx, mCall, mMeth, mProp, mMake, fldAt, mFld, putD, sFldSet, mMut, fAppend, fClear0, fRev, fPop, sSetItem, owL, fI, fIc, fNeg, mChain, fIsN, fNotN, fCatS, mOpF, fCat, fRep, fIxL, fIxT, fIxS, mNo, mPart, mSlL, mSlT, mSlS, fLen, fAbs, fInt, fStrI, fAll, fAny, fSum, mCBF, fList, fTuple, mJoin, fFmt, mJs, isiB, fIsi, okRight, mOwnL, mOwnR, mOwn1, onlyStr, mStrO, okLeft, mEqO, mEqO2, onlyNot, mNeO, mCMeth, asSeq, mStar, perm, mMethK, mCallK, mInO, mIdxO, mIdxD, mD0, mLc, wipeS, wipeG, backG, sFor, Mi.allB, fMax2, iEnT, mIxO, mMakeS, mMkLS, mMkL, isCls, mSlSL, mSlST, mCMethK, Mi.allI, fMax, c1_common_divisor]; rfl, ?_⟩
      rw [← hg, M.gcd_end ha]
  obtain ⟨s', e, rfl⟩ := w
  simp [fnOf, outsOf, callF, slotsOf, mkSlot, lents, takeBack, views, vals, mVar, mBor, mC, fz, mOp, mUn, mTest, asB, mAnd, mOr, mNot, mAndV, mOrV, mNotV, mIf, mNil, mCons, mLst, mTup, mCB, f1, f2, sSkip, sSeq, sExpr, sRet, sRetN, sBreak, sCont, sNever, sIf, gN, gTs, gLs, gsN, gsC, sAsg, sOwn, sPar, sPar3, sParFE, sParEF, sParFF, argSeq, asL, asT, asS, asI, asV, iL, iT, iS, iR1, iR2, iEn, iZ, hold, noEx, mCall, mMeth, mProp, mMake, fldAt, mFld, putD, sFldSet, mMut, fAppend, fClear0, fRev, fPop, sSetItem, owL, fI, fIc, fNeg, mChain, fIsN, fNotN, fCatS, mOpF, fCat, fRep, fIxL, fIxT, fIxS, mNo, mPart, mSlL, mSlT, mSlS, fLen, fAbs, fInt, fStrI, fAll, fAny, fSum, mCBF, fList, fTuple, mJoin, fFmt, mJs, isiB, fIsi, okRight, mOwnL, mOwnR, mOwn1, onlyStr, mStrO, okLeft, mEqO, mEqO2, onlyNot, mNeO, mCMeth, asSeq, mStar, perm, mMethK, mCallK, mInO, mIdxO, mIdxD, mD0, mLc, wipeS, wipeG, backG, sFor, Mi.allB, fMax2, iEnT, mIxO, mMakeS, mMkLS, mMkL, isCls, mSlSL, mSlST, mCMethK, Mi.allI, fMax, F_common_divisor, m_common_divisor, e]
theorem fst_ne : ¬ (("own_top" : Str) = "own_bottom") := by decide +kernel
theorem n_Rat : n_Ratio = [("own_top" : Str), "own_bottom"] := rfl
theorem log_lt {x : Int} {n : Nat} (h : x.natAbs < 2 ^ n) (h0 : 0 < n) : x.natAbs.log2 < n := PySem.Flt.log2_lt_of h0 h
/-- numbers of at most 8000 bits -/
def Bt (i : Int) : Prop := i.natAbs < 2 ^ 8000
theorem init_ev {t b : Int} (hb : b ≠ 0) (h1 : Bt t) (h2 : Bt b) (p : Int × Int) : F_Ratio_init [.ow (some 0) (.obj c_Ratio [] []), .sh (.int t), .sh (.int b)] p = .ok .non [.ow (some 0) (ratD (M.low t b).1 (M.low t b).2), .no, .no] p := by
  have g := gcd_ev (m := if t < 0 then -t else t) (n := if b < 0 then -b else b) (by split <;> omega) (by split <;> omega) p
  rw [M.gcd_abs] at g
  have gz : Int.gcd t b < 2 ^ 8000 := Nat.lt_of_le_of_lt (Nat.le_of_dvd (Int.natAbs_pos.mpr hb) (by have := Int.natAbs_dvd_natAbs.mpr (Int.gcd_dvd_right t b); simpa using this)) h2
  have lg : ∀ x : Int, x.natAbs = Int.gcd t b → x.natAbs.log2 < 9000 := fun x hx => Nat.lt_trans (log_lt (n := 8000) (by rw [hx]; exact gz) (by decide)) (by decide)
  have gp := M.gcd_pos (u := t) hb
  by_cases hn : b < 0
  · have es : M.sg t b = -(Int.gcd t b : Int) := if_pos hn
    rw [if_pos hn] at g
    have c1 : cDiv t (-(Int.gcd t b : Int)) = true ∧ cDiv b (-(Int.gcd t b : Int)) = true := by
      have z := lg (-(Int.gcd t b : Int)) (by simp)
      constructor <;> exact decide_eq_true ⟨by omega, z⟩
    simp [fnOf, outsOf, callF, slotsOf, mkSlot, lents, takeBack, views, vals, mVar, mBor, mC, fz, mOp, mUn, mTest, asB, mAnd, mOr, mNot, mAndV, mOrV, mNotV, mIf, mNil, mCons, mLst, mTup, mCB, f1, f2, sSkip, sSeq, sExpr, sRet, sRetN, sBreak, sCont, sNever, sIf, gN, gTs, gLs, gsN, gsC, sAsg, sOwn, sPar, sPar3, sParFE, sParEF, sParFF, argSeq, asL, asT, asS, asI, asV, iL, iT, iS, iR1, iR2, iEn, iZ, hold, noEx, mCall, mMeth, mProp, mMake, fldAt, mFld, putD, sFldSet, mMut, fAppend, fClear0, fRev, fPop, sSetItem, owL, fI, fIc, fNeg, mChain, fIsN, fNotN, fCatS, mOpF, fCat, fRep, fIxL, fIxT, fIxS, mNo, mPart, mSlL, mSlT, mSlS, fLen, fAbs, fInt, fStrI, fAll, fAny, fSum, mCBF, fList, fTuple, mJoin, fFmt, mJs, isiB, fIsi, okRight, mOwnL, mOwnR, mOwn1, onlyStr, mStrO, okLeft, mEqO, mEqO2, onlyNot, mNeO, mCMeth, asSeq, mStar, perm, mMethK, mCallK, mInO, mIdxO, mIdxD, mD0, mLc, wipeS, wipeG, backG, sFor, Mi.allB, fMax2, iEnT, mIxO, mMakeS, mMkLS, mMkL, isCls, mSlSL, mSlST, mCMethK, Mi.allI, fMax, F_Ratio_init, m_Ratio_init, g, hb, hn, c1.1, c1.2, fst_ne, ratD, n_Rat, M.low, es]
  · have es : M.sg t b = (Int.gcd t b : Int) := if_neg hn
    rw [if_neg hn] at g
    have c1 : cDiv t (Int.gcd t b : Int) = true ∧ cDiv b (Int.gcd t b : Int) = true := by
      have z := lg (Int.gcd t b : Int) (by simp)
      constructor <;> exact decide_eq_true ⟨by omega, z⟩
    simp [fnOf, outsOf, callF, slotsOf, mkSlot, lents, takeBack, views, vals, mVar, mBor, mC, fz, mOp, mUn, mTest, asB, mAnd, mOr, mNot, mAndV, mOrV, mNotV, mIf, mNil, mCons, mLst, mTup, mCB, f1, f2, sSkip, sSeq, sExpr, sRet, sRetN, sBreak, sCont, sNever, sIf, gN, gTs, gLs, gsN, gsC, sAsg, sOwn, sPar, sPar3, sParFE, sParEF, sParFF, argSeq, asL, asT, asS, asI, asV, iL, iT, iS, iR1, iR2, iEn, iZ, hold, noEx, mCall, mMeth, mProp, mMake, fldAt, mFld, putD, sFldSet, mMut, fAppend, fClear0, fRev, fPop, sSetItem, owL, fI, fIc, fNeg, mChain, fIsN, fNotN, fCatS, mOpF, fCat, fRep, fIxL, fIxT, fIxS, mNo, mPart, mSlL, mSlT, mSlS, fLen, fAbs, fInt, fStrI, fAll, fAny, fSum, mCBF, fList, fTuple, mJoin, fFmt, mJs, isiB, fIsi, okRight, mOwnL, mOwnR, mOwn1, onlyStr, mStrO, okLeft, mEqO, mEqO2, onlyNot, mNeO, mCMeth, asSeq, mStar, perm, mMethK, mCallK, mInO, mIdxO, mIdxD, mD0, mLc, wipeS, wipeG, backG, sFor, Mi.allB, fMax2, iEnT, mIxO, mMakeS, mMkLS, mMkL, isCls, mSlSL, mSlST, mCMethK, Mi.allI, fMax, F_Ratio_init, m_Ratio_init, g, hb, hn, c1.1, c1.2, fst_ne, ratD, n_Rat, M.low, es]

theorem bt_pow {i : Int} {n : Nat} (h : i.natAbs < 2 ^ n) (hn : n ≤ 8000 := by decide) : Bt i := Nat.lt_of_lt_of_le h (Nat.pow_le_pow_right (by decide) hn)
theorem bt_one : Bt 1 := bt_pow (n := 1) (by decide)
/-- two numbers whose product is told -/
theorem cmul_ok {a b : Int} {n m : Nat} (h1 : a.natAbs < 2 ^ n) (h2 : b.natAbs < 2 ^ m) (h0 : 0 < n := by decide) (h3 : 0 < m := by decide) (h : n + m ≤ 1000000 := by decide) : cMul a b = true := by
  have z := wide_mul h1 h2 h0 h3 h
  exact decide_eq_true z
theorem init1_ev {t : Int} (h1 : Bt t) (p : Int × Int) : (dfltF 1 F_Ratio_init) [.ow (some 0) (.obj c_Ratio [] []), .sh (.int t)] p = .ok .non [.ow (some 0) (ratD t 1), .no] p := by
  have h := init_ev (t := t) (b := 1) (by decide) h1 bt_one p
  rw [M.low_int] at h
  simp [dfltF, h]
@[simp] theorem asRat_rat (t b : Int) (p : Int × Int) : F_as_ratio [.sh (ratD t b)] p = .ok (ratD t b) [.no] p := by
  simp [fnOf, outsOf, callF, slotsOf, mkSlot, lents, takeBack, views, vals, mVar, mBor, mC, fz, mOp, mUn, mTest, asB, mAnd, mOr, mNot, mAndV, mOrV, mNotV, mIf, mNil, mCons, mLst, mTup, mCB, f1, f2, sSkip, sSeq, sExpr, sRet, sRetN, sBreak, sCont, sNever, sIf, gN, gTs, gLs, gsN, gsC, sAsg, sOwn, sPar, sPar3, sParFE, sParEF, sParFF, argSeq, asL, asT, asS, asI, asV, iL, iT, iS, iR1, iR2, iEn, iZ, hold, noEx, mCall, mMeth, mProp, mMake, fldAt, mFld, putD, sFldSet, mMut, fAppend, fClear0, fRev, fPop, sSetItem, owL, fI, fIc, fNeg, mChain, fIsN, fNotN, fCatS, mOpF, fCat, fRep, fIxL, fIxT, fIxS, mNo, mPart, mSlL, mSlT, mSlS, fLen, fAbs, fInt, fStrI, fAll, fAny, fSum, mCBF, fList, fTuple, mJoin, fFmt, mJs, isiB, fIsi, okRight, mOwnL, mOwnR, mOwn1, onlyStr, mStrO, okLeft, mEqO, mEqO2, onlyNot, mNeO, mCMeth, asSeq, mStar, perm, mMethK, mCallK, mInO, mIdxO, mIdxD, mD0, mLc, wipeS, wipeG, backG, sFor, Mi.allB, fMax2, iEnT, mIxO, mMakeS, mMkLS, mMkL, isCls, mSlSL, mSlST, mCMethK, Mi.allI, fMax, F_as_ratio, m_as_ratio, ratD]
theorem asRat_int {t : Int} (h : Bt t) (p : Int × Int) : F_as_ratio [.sh (.int t)] p = .ok (ratD t 1) [.no] p := by
  have h1 := init1_ev h p
  simp [fnOf, outsOf, callF, slotsOf, mkSlot, lents, takeBack, views, vals, mVar, mBor, mC, fz, mOp, mUn, mTest, asB, mAnd, mOr, mNot, mAndV, mOrV, mNotV, mIf, mNil, mCons, mLst, mTup, mCB, f1, f2, sSkip, sSeq, sExpr, sRet, sRetN, sBreak, sCont, sNever, sIf, gN, gTs, gLs, gsN, gsC, sAsg, sOwn, sPar, sPar3, sParFE, sParEF, sParFF, argSeq, asL, asT, asS, asI, asV, iL, iT, iS, iR1, iR2, iEn, iZ, hold, noEx, mCall, mMeth, mProp, mMake, fldAt, mFld, putD, sFldSet, mMut, fAppend, fClear0, fRev, fPop, sSetItem, owL, fI, fIc, fNeg, mChain, fIsN, fNotN, fCatS, mOpF, fCat, fRep, fIxL, fIxT, fIxS, mNo, mPart, mSlL, mSlT, mSlS, fLen, fAbs, fInt, fStrI, fAll, fAny, fSum, mCBF, fList, fTuple, mJoin, fFmt, mJs, isiB, fIsi, okRight, mOwnL, mOwnR, mOwn1, onlyStr, mStrO, okLeft, mEqO, mEqO2, onlyNot, mNeO, mCMeth, asSeq, mStar, perm, mMethK, mCallK, mInO, mIdxO, mIdxD, mD0, mLc, wipeS, wipeG, backG, sFor, Mi.allB, fMax2, iEnT, mIxO, mMakeS, mMkLS, mMkL, isCls, mSlSL, mSlST, mCMethK, Mi.allI, fMax, F_as_ratio, m_as_ratio, h1]
/-- is_below, by a ratio or an integer -/
theorem below_rat {t b t' b' : Int} (h1 : Bt t) (h2 : Bt b) (h3 : Bt t') (h4 : Bt b') (p : Int × Int) : F_Ratio_is_below [.sh (ratD t b), .sh (ratD t' b')] p = .ok (.bl (decide (t * b' < t' * b))) [.no, .no] p := by
  have w := want_rat t' b' p
  have a := asRat_rat t' b' p
  have c1 : cMul t b' = true := cmul_ok h1 h4
  have c2 : cMul t' b = true := cmul_ok h3 h2
  simp only [ratD] at w a
  simp [fnOf, outsOf, callF, slotsOf, mkSlot, lents, takeBack, views, vals, mVar, mBor, mC, fz, mOp, mUn, mTest, asB, mAnd, mOr, mNot, mAndV, mOrV, mNotV, mIf, mNil, mCons, mLst, mTup, mCB, f1, f2, sSkip, sSeq, sExpr, sRet, sRetN, sBreak, sCont, sNever, sIf, gN, gTs, gLs, gsN, gsC, sAsg, sOwn, sPar, sPar3, sParFE, sParEF, sParFF, argSeq, asL, asT, asS, asI, asV, iL, iT, iS, iR1, iR2, iEn, iZ, hold, noEx, mCall, mMeth, mProp, mMake, fldAt, mFld, putD, sFldSet, mMut, fAppend, fClear0, fRev, fPop, sSetItem, owL, fI, fIc, fNeg, mChain, fIsN, fNotN, fCatS, mOpF, fCat, fRep, fIxL, fIxT, fIxS, mNo, mPart, mSlL, mSlT, mSlS, fLen, fAbs, fInt, fStrI, fAll, fAny, fSum, mCBF, fList, fTuple, mJoin, fFmt, mJs, isiB, fIsi, okRight, mOwnL, mOwnR, mOwn1, onlyStr, mStrO, okLeft, mEqO, mEqO2, onlyNot, mNeO, mCMeth, asSeq, mStar, perm, mMethK, mCallK, mInO, mIdxO, mIdxD, mD0, mLc, wipeS, wipeG, backG, sFor, Mi.allB, fMax2, iEnT, mIxO, mMakeS, mMkLS, mMkL, isCls, mSlSL, mSlST, mCMethK, Mi.allI, fMax, F_Ratio_is_below, m_Ratio_is_below, ratD, w, a, c1, c2]
theorem below_int {t b n : Int} (h1 : Bt t) (h2 : Bt b) (h3 : Bt n) (p : Int × Int) : F_Ratio_is_below [.sh (ratD t b), .sh (.int n)] p = .ok (.bl (decide (t * 1 < n * b))) [.no, .no] p := by
  have a := asRat_int h3 p
  have c1 : cMul t 1 = true := cmul_ok h1 bt_one
  have c2 : cMul n b = true := cmul_ok h3 h2
  simp only [ratD] at a
  simp [fnOf, outsOf, callF, slotsOf, mkSlot, lents, takeBack, views, vals, mVar, mBor, mC, fz, mOp, mUn, mTest, asB, mAnd, mOr, mNot, mAndV, mOrV, mNotV, mIf, mNil, mCons, mLst, mTup, mCB, f1, f2, sSkip, sSeq, sExpr, sRet, sRetN, sBreak, sCont, sNever, sIf, gN, gTs, gLs, gsN, gsC, sAsg, sOwn, sPar, sPar3, sParFE, sParEF, sParFF, argSeq, asL, asT, asS, asI, asV, iL, iT, iS, iR1, iR2, iEn, iZ, hold, noEx, mCall, mMeth, mProp, mMake, fldAt, mFld, putD, sFldSet, mMut, fAppend, fClear0, fRev, fPop, sSetItem, owL, fI, fIc, fNeg, mChain, fIsN, fNotN, fCatS, mOpF, fCat, fRep, fIxL, fIxT, fIxS, mNo, mPart, mSlL, mSlT, mSlS, fLen, fAbs, fInt, fStrI, fAll, fAny, fSum, mCBF, fList, fTuple, mJoin, fFmt, mJs, isiB, fIsi, okRight, mOwnL, mOwnR, mOwn1, onlyStr, mStrO, okLeft, mEqO, mEqO2, onlyNot, mNeO, mCMeth, asSeq, mStar, perm, mMethK, mCallK, mInO, mIdxO, mIdxD, mD0, mLc, wipeS, wipeG, backG, sFor, Mi.allB, fMax2, iEnT, mIxO, mMakeS, mMkLS, mMkL, isCls, mSlSL, mSlST, mCMethK, Mi.allI, fMax, F_Ratio_is_below, m_Ratio_is_below, ratD, a, c1, c2]
/-- == of ratios -/
theorem eq_rat (t b t' b' : Int) (p : Int × Int) : F_Ratio_eq [.sh (ratD t b), .sh (ratD t' b')] p = .ok (.bl (decide (t = t') && decide (b = b'))) [.no, .no] p :=
  ef_Ratio.pure _ _ _ p (by simp [eqR_Ratio, ratD])
theorem eq_odd {t b : Int} {d : D} (p : Int × Int) (h : (blt d).isSome = true ∨ ∃ c ns ds, d = .obj c ns ds ∧ c ∈ clss ∧ c ≠ c_Ratio) : F_Ratio_eq [.sh (ratD t b), .sh d] p = .ok (.bl false) [.no, .no] p := by
  rcases h with h | ⟨c, ns, ds, rfl, h1, h2⟩
  · cases d <;> simp [blt] at h <;> simp [fnOf, outsOf, callF, slotsOf, mkSlot, lents, takeBack, views, vals, mVar, mBor, mC, fz, mOp, mUn, mTest, asB, mAnd, mOr, mNot, mAndV, mOrV, mNotV, mIf, mNil, mCons, mLst, mTup, mCB, f1, f2, sSkip, sSeq, sExpr, sRet, sRetN, sBreak, sCont, sNever, sIf, gN, gTs, gLs, gsN, gsC, sAsg, sOwn, sPar, sPar3, sParFE, sParEF, sParFF, argSeq, asL, asT, asS, asI, asV, iL, iT, iS, iR1, iR2, iEn, iZ, hold, noEx, mCall, mMeth, mProp, mMake, fldAt, mFld, putD, sFldSet, mMut, fAppend, fClear0, fRev, fPop, sSetItem, owL, fI, fIc, fNeg, mChain, fIsN, fNotN, fCatS, mOpF, fCat, fRep, fIxL, fIxT, fIxS, mNo, mPart, mSlL, mSlT, mSlS, fLen, fAbs, fInt, fStrI, fAll, fAny, fSum, mCBF, fList, fTuple, mJoin, fFmt, mJs, isiB, fIsi, okRight, mOwnL, mOwnR, mOwn1, onlyStr, mStrO, okLeft, mEqO, mEqO2, onlyNot, mNeO, mCMeth, asSeq, mStar, perm, mMethK, mCallK, mInO, mIdxO, mIdxD, mD0, mLc, wipeS, wipeG, backG, sFor, Mi.allB, fMax2, iEnT, mIxO, mMakeS, mMkLS, mMkL, isCls, mSlSL, mSlST, mCMethK, Mi.allI, fMax, F_Ratio_eq, m_Ratio_eq, ratD]
  · simp [fnOf, outsOf, callF, slotsOf, mkSlot, lents, takeBack, views, vals, mVar, mBor, mC, fz, mOp, mUn, mTest, asB, mAnd, mOr, mNot, mAndV, mOrV, mNotV, mIf, mNil, mCons, mLst, mTup, mCB, f1, f2, sSkip, sSeq, sExpr, sRet, sRetN, sBreak, sCont, sNever, sIf, gN, gTs, gLs, gsN, gsC, sAsg, sOwn, sPar, sPar3, sParFE, sParEF, sParFF, argSeq, asL, asT, asS, asI, asV, iL, iT, iS, iR1, iR2, iEn, iZ, hold, noEx, mCall, mMeth, mProp, mMake, fldAt, mFld, putD, sFldSet, mMut, fAppend, fClear0, fRev, fPop, sSetItem, owL, fI, fIc, fNeg, mChain, fIsN, fNotN, fCatS, mOpF, fCat, fRep, fIxL, fIxT, fIxS, mNo, mPart, mSlL, mSlT, mSlS, fLen, fAbs, fInt, fStrI, fAll, fAny, fSum, mCBF, fList, fTuple, mJoin, fFmt, mJs, isiB, fIsi, okRight, mOwnL, mOwnR, mOwn1, onlyStr, mStrO, okLeft, mEqO, mEqO2, onlyNot, mNeO, mCMeth, asSeq, mStar, perm, mMethK, mCallK, mInO, mIdxO, mIdxD, mD0, mLc, wipeS, wipeG, backG, sFor, Mi.allB, fMax2, iEnT, mIxO, mMakeS, mMkLS, mMkL, isCls, mSlSL, mSlST, mCMethK, Mi.allI, fMax, F_Ratio_eq, m_Ratio_eq, ratD, h1, h2]

/-! ### texts of ratios -/
def itx (n : Int) : Str := Str.ofString n.repr
theorem itx_len {n : Int} {k : Nat} (h : n.natAbs < 2 ^ k) (h0 : 0 < k := by decide) : (itx n).length ≤ k + 1 := by
  have e := PySem.int_text_length_le (k := k) h0 (log_lt h h0)
  unfold itx
  rw [PySem.ofString_length]
  exact e
theorem log19 {n : Int} {k : Nat} (h : n.natAbs < 2 ^ k) (h0 : 0 < k := by decide) (h1 : k ≤ 1900 := by decide) : n.natAbs.log2 < 1920 := Nat.lt_of_lt_of_le (log_lt h h0) (by omega)
def rstr (t b : Int) : Str := if b = 1 then itx t else Str.empty ++ itx t ++ "/" ++ itx b
def rrep (t b : Int) : Str := Str.empty ++ "Ratio(" ++ itx t ++ ", " ++ itx b ++ ")"
theorem emp_len : Str.empty.length = 0 := by decide +kernel
theorem c_slash : ("/" : Str).length = 1 := by decide +kernel
theorem c_ratio : ("Ratio(" : Str).length = 6 := by decide +kernel
theorem c_comma : (", " : Str).length = 2 := by decide +kernel
theorem c_par : (")" : Str).length = 1 := by decide +kernel
theorem rep_ev {t b : Int} (ht : t.natAbs < 2 ^ 1900) (hb : b.natAbs < 2 ^ 1900) (p : Int × Int) : F_Ratio_repr [.sh (ratD t b)] p = .ok (.str (rrep t b)) [.no] p := by
  have l1 := log19 ht
  have l2 := log19 hb
  have n1 := itx_len ht
  have n2 := itx_len hb
  unfold itx at n1 n2
  have z0 : (Str.empty ++ "Ratio(" : Str).length ≤ 100000 := by rw [Str.length_append, emp_len, c_ratio]; decide
  have z1 : (Str.empty ++ "Ratio(" ++ Str.ofString t.repr : Str).length ≤ 100000 := by rw [Str.length_append, Str.length_append, emp_len, c_ratio]; omega
  have z2 : (Str.empty ++ "Ratio(" ++ Str.ofString t.repr ++ ", " : Str).length ≤ 100000 := by rw [Str.length_append, Str.length_append, Str.length_append, emp_len, c_ratio, c_comma]; omega
  have z3 : (Str.empty ++ "Ratio(" ++ Str.ofString t.repr ++ ", " ++ Str.ofString b.repr : Str).length ≤ 100000 := by rw [Str.length_append, Str.length_append, Str.length_append, Str.length_append, emp_len, c_ratio, c_comma]; omega
  have z4 : (Str.empty ++ "Ratio(" ++ Str.ofString t.repr ++ ", " ++ Str.ofString b.repr ++ ")" : Str).length ≤ 100000 := by rw [Str.length_append, Str.length_append, Str.length_append, Str.length_append, Str.length_append, emp_len, c_ratio, c_comma, c_par]; omega
  simp only [ratD]
  simp [fnOf, outsOf, callF, slotsOf, mkSlot, lents, takeBack, views, vals, mVar, mBor, mC, fz, mOp, mUn, mTest, asB, mAnd, mOr, mNot, mAndV, mOrV, mNotV, mIf, mNil, mCons, mLst, mTup, mCB, f1, f2, sSkip, sSeq, sExpr, sRet, sRetN, sBreak, sCont, sNever, sIf, gN, gTs, gLs, gsN, gsC, sAsg, sOwn, sPar, sPar3, sParFE, sParEF, sParFF, argSeq, asL, asT, asS, asI, asV, iL, iT, iS, iR1, iR2, iEn, iZ, hold, noEx, mCall, mMeth, mProp, mMake, fldAt, mFld, putD, sFldSet, mMut, fAppend, fClear0, fRev, fPop, sSetItem, owL, fI, fIc, fNeg, mChain, fIsN, fNotN, fCatS, mOpF, fCat, fRep, fIxL, fIxT, fIxS, mNo, mPart, mSlL, mSlT, mSlS, fLen, fAbs, fInt, fStrI, fAll, fAny, fSum, mCBF, fList, fTuple, mJoin, fFmt, mJs, isiB, fIsi, okRight, mOwnL, mOwnR, mOwn1, onlyStr, mStrO, okLeft, mEqO, mEqO2, onlyNot, mNeO, mCMeth, asSeq, mStar, perm, mMethK, mCallK, mInO, mIdxO, mIdxD, mD0, mLc, wipeS, wipeG, backG, sFor, Mi.allB, fMax2, iEnT, mIxO, mMakeS, mMkLS, mMkL, isCls, mSlSL, mSlST, mCMethK, Mi.allI, fMax, F_Ratio_repr, m_Ratio_repr, l1, l2, rrep, itx, z0, z1, z2, z3, z4]
theorem sign_ev (t b : Int) (p : Int × Int) : F_Ratio_sign [.sh (ratD t b)] p = .ok (.int ((if 0 < t then 1 else 0) - (if t < 0 then 1 else 0))) [.no] p := by
  by_cases h : 0 < t
  · have h2 : ¬ t < 0 := by omega
    simp [fnOf, outsOf, callF, slotsOf, mkSlot, lents, takeBack, views, vals, mVar, mBor, mC, fz, mOp, mUn, mTest, asB, mAnd, mOr, mNot, mAndV, mOrV, mNotV, mIf, mNil, mCons, mLst, mTup, mCB, f1, f2, sSkip, sSeq, sExpr, sRet, sRetN, sBreak, sCont, sNever, sIf, gN, gTs, gLs, gsN, gsC, sAsg, sOwn, sPar, sPar3, sParFE, sParEF, sParFF, argSeq, asL, asT, asS, asI, asV, iL, iT, iS, iR1, iR2, iEn, iZ, hold, noEx, mCall, mMeth, mProp, mMake, fldAt, mFld, putD, sFldSet, mMut, fAppend, fClear0, fRev, fPop, sSetItem, owL, fI, fIc, fNeg, mChain, fIsN, fNotN, fCatS, mOpF, fCat, fRep, fIxL, fIxT, fIxS, mNo, mPart, mSlL, mSlT, mSlS, fLen, fAbs, fInt, fStrI, fAll, fAny, fSum, mCBF, fList, fTuple, mJoin, fFmt, mJs, isiB, fIsi, okRight, mOwnL, mOwnR, mOwn1, onlyStr, mStrO, okLeft, mEqO, mEqO2, onlyNot, mNeO, mCMeth, asSeq, mStar, perm, mMethK, mCallK, mInO, mIdxO, mIdxD, mD0, mLc, wipeS, wipeG, backG, sFor, Mi.allB, fMax2, iEnT, mIxO, mMakeS, mMkLS, mMkL, isCls, mSlSL, mSlST, mCMethK, Mi.allI, fMax, F_Ratio_sign, m_Ratio_sign, ratD, h, h2]
  · by_cases h2 : t < 0
    · simp [fnOf, outsOf, callF, slotsOf, mkSlot, lents, takeBack, views, vals, mVar, mBor, mC, fz, mOp, mUn, mTest, asB, mAnd, mOr, mNot, mAndV, mOrV, mNotV, mIf, mNil, mCons, mLst, mTup, mCB, f1, f2, sSkip, sSeq, sExpr, sRet, sRetN, sBreak, sCont, sNever, sIf, gN, gTs, gLs, gsN, gsC, sAsg, sOwn, sPar, sPar3, sParFE, sParEF, sParFF, argSeq, asL, asT, asS, asI, asV, iL, iT, iS, iR1, iR2, iEn, iZ, hold, noEx, mCall, mMeth, mProp, mMake, fldAt, mFld, putD, sFldSet, mMut, fAppend, fClear0, fRev, fPop, sSetItem, owL, fI, fIc, fNeg, mChain, fIsN, fNotN, fCatS, mOpF, fCat, fRep, fIxL, fIxT, fIxS, mNo, mPart, mSlL, mSlT, mSlS, fLen, fAbs, fInt, fStrI, fAll, fAny, fSum, mCBF, fList, fTuple, mJoin, fFmt, mJs, isiB, fIsi, okRight, mOwnL, mOwnR, mOwn1, onlyStr, mStrO, okLeft, mEqO, mEqO2, onlyNot, mNeO, mCMeth, asSeq, mStar, perm, mMethK, mCallK, mInO, mIdxO, mIdxD, mD0, mLc, wipeS, wipeG, backG, sFor, Mi.allB, fMax2, iEnT, mIxO, mMakeS, mMkLS, mMkL, isCls, mSlSL, mSlST, mCMethK, Mi.allI, fMax, F_Ratio_sign, m_Ratio_sign, ratD, h, h2]
    · simp [fnOf, outsOf, callF, slotsOf, mkSlot, lents, takeBack, views, vals, mVar, mBor, mC, fz, mOp, mUn, mTest, asB, mAnd, mOr, mNot, mAndV, mOrV, mNotV, mIf, mNil, mCons, mLst, mTup, mCB, f1, f2, sSkip, sSeq, sExpr, sRet, sRetN, sBreak, sCont, sNever, sIf, gN, gTs, gLs, gsN, gsC, sAsg, sOwn, sPar, sPar3, sParFE, sParEF, sParFF, argSeq, asL, asT, asS, asI, asV, iL, iT, iS, iR1, iR2, iEn, iZ, hold, noEx, mCall, mMeth, mProp, mMake, fldAt, mFld, putD, sFldSet, mMut, fAppend, fClear0, fRev, fPop, sSetItem, owL, fI, fIc, fNeg, mChain, fIsN, fNotN, fCatS, mOpF, fCat, fRep, fIxL, fIxT, fIxS, mNo, mPart, mSlL, mSlT, mSlS, fLen, fAbs, fInt, fStrI, fAll, fAny, fSum, mCBF, fList, fTuple, mJoin, fFmt, mJs, isiB, fIsi, okRight, mOwnL, mOwnR, mOwn1, onlyStr, mStrO, okLeft, mEqO, mEqO2, onlyNot, mNeO, mCMeth, asSeq, mStar, perm, mMethK, mCallK, mInO, mIdxO, mIdxD, mD0, mLc, wipeS, wipeG, backG, sFor, Mi.allB, fMax2, iEnT, mIxO, mMakeS, mMkLS, mMkL, isCls, mSlSL, mSlST, mCMethK, Mi.allI, fMax, F_Ratio_sign, m_Ratio_sign, ratD, h, h2]

/-! ### numbers of either kind -/
def ratO (a : Int × Int) : D := ratD a.1 a.2
def NumOf (d : D) (a : Int × Int) : Prop := d = ratD a.1 a.2 ∨ (d = .int a.1 ∧ a.2 = 1)
theorem num_is {d : D} {a : Int × Int} (h : NumOf d a) (p : Int × Int) : F_is_number [.sh d] p = .ok (.bl true) [.no] p := by
  rcases h with rfl | ⟨rfl, _⟩ <;> simp
theorem num_want {d : D} {a : Int × Int} (h : NumOf d a) (p : Int × Int) : F_want_number [.sh d] p = .ok .non [.no] p := by
  rcases h with rfl | ⟨rfl, _⟩ <;> simp
theorem num_as {d : D} {a : Int × Int} (h : NumOf d a) (hz : M.Sz 8000 a) (p : Int × Int) : F_as_ratio [.sh d] p = .ok (ratD a.1 a.2) [.no] p := by
  rcases h with rfl | ⟨rfl, e⟩
  · simp
  · rw [e]; exact asRat_int hz.1 p
theorem num_below {d : D} {x a : Int × Int} (h : NumOf d a) (hx : M.Sz 8000 x) (hz : M.Sz 8000 a) (p : Int × Int) : F_Ratio_is_below [.sh (ratD x.1 x.2), .sh d] p = .ok (.bl (decide (x.1 * a.2 < a.1 * x.2))) [.no, .no] p := by
  rcases h with rfl | ⟨rfl, e⟩
  · exact below_rat hx.1 hx.2 hz.1 hz.2 p
  · rw [e]; exact below_int hx.1 hx.2 hz.1 p
theorem num_add {d : D} {x a : Int × Int} (h : NumOf d a) (rx : M.Red x) (ra : M.Red a) (hx : M.Sz 3000 x) (hz : M.Sz 3000 a) (p : Int × Int) : F_Ratio_add [.sh (ratD x.1 x.2), .sh d] p = .ok (ratD (M.plus x a).1 (M.plus x a).2) [.no, .no] p := by
  have e1 := num_want h p
  have e2 := num_as h (hz.mono (by decide)) p
  have c1 : cMul x.1 a.2 = true := cmul_ok hx.1 hz.2
  have c2 : cMul a.1 x.2 = true := cmul_ok hz.1 hx.2
  have c3 : cMul x.2 a.2 = true := cmul_ok hx.2 hz.2
  have e3 := init_ev (t := x.1 * a.2 + a.1 * x.2) (b := x.2 * a.2) (M.bot_ne rx ra) (bt_pow (M.add_lt (M.mul_lt hx.1 hz.2) (M.mul_lt hz.1 hx.2))) (bt_pow (M.mul_lt hx.2 hz.2)) p
  simp only [ratD] at e2 e3
  simp [fnOf, outsOf, callF, slotsOf, mkSlot, lents, takeBack, views, vals, mVar, mBor, mC, fz, mOp, mUn, mTest, asB, mAnd, mOr, mNot, mAndV, mOrV, mNotV, mIf, mNil, mCons, mLst, mTup, mCB, f1, f2, sSkip, sSeq, sExpr, sRet, sRetN, sBreak, sCont, sNever, sIf, gN, gTs, gLs, gsN, gsC, sAsg, sOwn, sPar, sPar3, sParFE, sParEF, sParFF, argSeq, asL, asT, asS, asI, asV, iL, iT, iS, iR1, iR2, iEn, iZ, hold, noEx, mCall, mMeth, mProp, mMake, fldAt, mFld, putD, sFldSet, mMut, fAppend, fClear0, fRev, fPop, sSetItem, owL, fI, fIc, fNeg, mChain, fIsN, fNotN, fCatS, mOpF, fCat, fRep, fIxL, fIxT, fIxS, mNo, mPart, mSlL, mSlT, mSlS, fLen, fAbs, fInt, fStrI, fAll, fAny, fSum, mCBF, fList, fTuple, mJoin, fFmt, mJs, isiB, fIsi, okRight, mOwnL, mOwnR, mOwn1, onlyStr, mStrO, okLeft, mEqO, mEqO2, onlyNot, mNeO, mCMeth, asSeq, mStar, perm, mMethK, mCallK, mInO, mIdxO, mIdxD, mD0, mLc, wipeS, wipeG, backG, sFor, Mi.allB, fMax2, iEnT, mIxO, mMakeS, mMkLS, mMkL, isCls, mSlSL, mSlST, mCMethK, Mi.allI, fMax, F_Ratio_add, m_Ratio_add, ratD, e1, e2, e3, c1, c2, c3, M.plus]
theorem neg_ev {x : Int × Int} (rx : M.Red x) (hx : M.Sz 3000 x) (p : Int × Int) : F_Ratio_neg [.sh (ratD x.1 x.2)] p = .ok (ratD (-x.1) x.2) [.no] p := by
  have e3 := init_ev (t := -x.1) (b := x.2) (Int.ne_of_gt rx.1) (by have := (hx.mono (by decide : 3000 ≤ 8000)).1; unfold Bt; rw [Int.natAbs_neg]; exact this) (hx.mono (by decide : 3000 ≤ 8000)).2 p
  rw [M.low_of_red (M.red_neg rx)] at e3
  simp only [ratD] at e3
  simp [fnOf, outsOf, callF, slotsOf, mkSlot, lents, takeBack, views, vals, mVar, mBor, mC, fz, mOp, mUn, mTest, asB, mAnd, mOr, mNot, mAndV, mOrV, mNotV, mIf, mNil, mCons, mLst, mTup, mCB, f1, f2, sSkip, sSeq, sExpr, sRet, sRetN, sBreak, sCont, sNever, sIf, gN, gTs, gLs, gsN, gsC, sAsg, sOwn, sPar, sPar3, sParFE, sParEF, sParFF, argSeq, asL, asT, asS, asI, asV, iL, iT, iS, iR1, iR2, iEn, iZ, hold, noEx, mCall, mMeth, mProp, mMake, fldAt, mFld, putD, sFldSet, mMut, fAppend, fClear0, fRev, fPop, sSetItem, owL, fI, fIc, fNeg, mChain, fIsN, fNotN, fCatS, mOpF, fCat, fRep, fIxL, fIxT, fIxS, mNo, mPart, mSlL, mSlT, mSlS, fLen, fAbs, fInt, fStrI, fAll, fAny, fSum, mCBF, fList, fTuple, mJoin, fFmt, mJs, isiB, fIsi, okRight, mOwnL, mOwnR, mOwn1, onlyStr, mStrO, okLeft, mEqO, mEqO2, onlyNot, mNeO, mCMeth, asSeq, mStar, perm, mMethK, mCallK, mInO, mIdxO, mIdxD, mD0, mLc, wipeS, wipeG, backG, sFor, Mi.allB, fMax2, iEnT, mIxO, mMakeS, mMkLS, mMkL, isCls, mSlSL, mSlST, mCMethK, Mi.allI, fMax, F_Ratio_neg, m_Ratio_neg, ratD, e3]
theorem num_sub {d : D} {x a : Int × Int} (h : NumOf d a) (rx : M.Red x) (ra : M.Red a) (hx : M.Sz 3000 x) (hz : M.Sz 3000 a) (p : Int × Int) : F_Ratio_sub [.sh (ratD x.1 x.2), .sh d] p = .ok (ratD (M.minus x a).1 (M.minus x a).2) [.no, .no] p := by
  have e1 := num_want h p
  have e2 := num_as h (hz.mono (by decide)) p
  have e3 := neg_ev ra hz p
  have e4 := num_add (d := ratD (-a.1) a.2) (x := x) (a := (-a.1, a.2)) (.inl rfl) rx (M.red_neg ra) hx ⟨by rw [Int.natAbs_neg]; exact hz.1, hz.2⟩ p
  rw [M.minus_plus] at e4
  simp only [ratD] at e2 e3 e4
  simp [fnOf, outsOf, callF, slotsOf, mkSlot, lents, takeBack, views, vals, mVar, mBor, mC, fz, mOp, mUn, mTest, asB, mAnd, mOr, mNot, mAndV, mOrV, mNotV, mIf, mNil, mCons, mLst, mTup, mCB, f1, f2, sSkip, sSeq, sExpr, sRet, sRetN, sBreak, sCont, sNever, sIf, gN, gTs, gLs, gsN, gsC, sAsg, sOwn, sPar, sPar3, sParFE, sParEF, sParFF, argSeq, asL, asT, asS, asI, asV, iL, iT, iS, iR1, iR2, iEn, iZ, hold, noEx, mCall, mMeth, mProp, mMake, fldAt, mFld, putD, sFldSet, mMut, fAppend, fClear0, fRev, fPop, sSetItem, owL, fI, fIc, fNeg, mChain, fIsN, fNotN, fCatS, mOpF, fCat, fRep, fIxL, fIxT, fIxS, mNo, mPart, mSlL, mSlT, mSlS, fLen, fAbs, fInt, fStrI, fAll, fAny, fSum, mCBF, fList, fTuple, mJoin, fFmt, mJs, isiB, fIsi, okRight, mOwnL, mOwnR, mOwn1, onlyStr, mStrO, okLeft, mEqO, mEqO2, onlyNot, mNeO, mCMeth, asSeq, mStar, perm, mMethK, mCallK, mInO, mIdxO, mIdxD, mD0, mLc, wipeS, wipeG, backG, sFor, Mi.allB, fMax2, iEnT, mIxO, mMakeS, mMkLS, mMkL, isCls, mSlSL, mSlST, mCMethK, Mi.allI, fMax, F_Ratio_sub, m_Ratio_sub, ratD, e1, e2, e3, e4]

noncomputable def m_is_place : MS := sRet (mAndV (mCall 1 F_is_integer (mCons (mBor 0) (mNil))) (mChain fLe fLe (mC (.int 1)) (mBor 0) (mC (.int 5))))
noncomputable def F_is_place : Fn := fnOf 1 m_is_place
theorem okb_is_place {P : Program} {w : World} {K : PySem.W.Frag} {mg : Str → Option Value} {base : Heap} (T : Txt K mg) {fd : FuncData} (F : FunD K "is_place" "is_place" (defArgs s_is_place) (defBody s_is_place) (defScope s_is_place) [] [] (He.ga K "is_place") fd) : FnOk P w K mg base (L2.CX P w) 2 (He.ga K "is_place") fd ["value"] (spM K 1 F_is_place) := by
  refine F.ok sc_is_place (fun vs H Q E h => ?_) (fun cdv A outer s H vs Q E hr h => ?_)
  · obtain ⟨_, _, _, _, _, hl, _⟩ := h
    exact hl
  exact ⟨_, pss_one (ps_ret (pe_and (Z.pe_cl (E := E) (ok_is_integer T) (hr.mono (by decide)) T.g_is_integer T.k_is_integer (passes_call (W := fun c d _ H => E c d H) (takes_of rfl rfl rfl rfl) fun _ _ _ _ h => h) (pa_cons (pv 0) (pa_nil))) (pe_one (pe_chain op_le op_le (pe_int) (pv 0) (pe_glob (v := .int 5) rfl T.g_MOST_PLACES.choose_spec ⟨_, rfl⟩))))), body_ok (N := N_is_place) (snd_ret (snd_andV (snd_call (snd_cons (snd_bor 0) (snd_nil))) (snd_chain os_le os_le (snd_int) (snd_bor 0) (snd_int)))) h⟩
theorem ok_is_place {P : Program} {w : World} {K : PySem.W.Frag} {mg : Str → Option Value} {base : Heap} (T : Txt K mg) : FnR P w K mg base (L2.CX P w) 2 (He.ga K "is_place") (spM K 1 F_is_place) := by
  obtain ⟨fd, F⟩ := T.d_is_place
  exact Z.raw0 (okb_is_place T F) (F.bindsN fun _ _ _ _ _ _ us hl => match us, hl with | [_], _ => rfl)
noncomputable def m_want_few : MS := sIf (mNot (mTest (mChain fLe fLe (mC (.int 1)) (mCB (f1 fLen) (mCons (mBor 0) (mNil))) (mC (.int 5))))) (sNever) (sSkip)
noncomputable def F_want_few : Fn := fnOf 1 m_want_few
theorem okb_want_few {P : Program} {w : World} {K : PySem.W.Frag} {mg : Str → Option Value} {base : Heap} (T : Txt K mg) {fd : FuncData} (F : FunD K "want_few" "want_few" (defArgs s_want_few) (defBody s_want_few) (defScope s_want_few) [] [] (He.ga K "want_few") fd) : FnOk P w K mg base (L2.CX P w) 1 (He.ga K "want_few") fd ["numbers"] (spM K 1 F_want_few) := by
  refine F.ok sc_want_few (fun vs H Q E h => ?_) (fun cdv A outer s H vs Q E hr h => ?_)
  · obtain ⟨_, _, _, _, _, hl, _⟩ := h
    exact hl
  exact ⟨_, pss_one (ps_if (pt_not (pt_chain op_le op_le (pe_int) (pe_callB (Z.lenK (K := K) rfl) (by rfl) T.f_len (by decide +kernel) (pa_cons (pv 0) (pa_nil))) (pe_glob (v := .int 5) rfl T.g_MOST_PLACES.choose_spec ⟨_, rfl⟩))) (pss_one (ps_never)) (pss_nil)), body_ok (N := N_want_few) (snd_ifS (snd_not (snd_test (snd_chain os_le os_le (snd_int) (snd_cb cs_len (snd_cons (snd_bor 0) (snd_nil))) (snd_int)))) (snd_never) (snd_skip)) h⟩
theorem ok_want_few {P : Program} {w : World} {K : PySem.W.Frag} {mg : Str → Option Value} {base : Heap} (T : Txt K mg) : FnR P w K mg base (L2.CX P w) 1 (He.ga K "want_few") (spM K 1 F_want_few) := by
  obtain ⟨fd, F⟩ := T.d_want_few
  exact Z.raw0 (okb_want_few T F) (F.bindsN fun _ _ _ _ _ _ us hl => match us, hl with | [_], _ => rfl)
noncomputable def m_is_right_at : MS := sSeq (sAsg (mOp fIxT (mBor 0) (mBor 1)) (gN 2)) (sSeq (sIf (mNot (mTest (mCall 1 F_is_number (mCons (mBor 2) (mNil))))) (sRet (mC (.bl false))) (sSkip)) (sSeq (sIf (mTest (mOp fEqS (mBor 1) (mC (.int 0)))) (sRet (mOp fGt (mProp c_Ratio F_Ratio_sign (mCall 1 F_as_ratio (mCons (mBor 2) (mNil)))) (mC (.int 0)))) (sSkip)) (sRet (mAndV (mOp fGe (mProp c_Ratio F_Ratio_sign (mCall 1 F_as_ratio (mCons (mBor 2) (mNil)))) (mC (.int 0))) (mNotV (mMeth c_Ratio "is_below" 2 F_Ratio_is_below (mCall 1 F_as_ratio (mCons (mOp fIxT (mBor 0) (mOp fSub (mBor 1) (mC (.int 1)))) (mNil))) (mCons (mBor 2) (mNil))))))))
noncomputable def F_is_right_at : Fn := fnOf 3 m_is_right_at
theorem okb_is_right_at {P : Program} {w : World} {K : PySem.W.Frag} {mg : Str → Option Value} {base : Heap} (T : Txt K mg) {fd : FuncData} (F : FunD K "is_right_at" "is_right_at" (defArgs s_is_right_at) (defBody s_is_right_at) (defScope s_is_right_at) [] [] (He.ga K "is_right_at") fd) : FnOk P w K mg base (L2.CX P w) 6 (He.ga K "is_right_at") fd ["points", "position"] (spM K 2 F_is_right_at) := by
  refine F.ok sc_is_right_at (fun vs H Q E h => ?_) (fun cdv A outer s H vs Q E hr h => ?_)
  · obtain ⟨_, _, _, _, _, hl, _⟩ := h
    exact hl
  exact ⟨_, pss_cons (ps_set (i := 2) sc_is_right_at.nd rfl (Or.inl rfl) (pe_ix (Z.ixtK (K := K) rfl) (pv 0) (pv 1) (fun _ _ => rfl))) (pss_cons (ps_if (pt_not (pt_val (Z.pe_cl (E := E) (ok_is_number T) (hr.mono (by decide)) T.g_is_number T.k_is_number (passes_call (W := fun c d _ H => E c d H) (takes_of rfl rfl rfl rfl) fun _ _ _ _ h => h) (pa_cons (pv 2) (pa_nil))))) (pss_one (ps_ret (pe_bl))) (pss_nil)) (pss_cons (ps_if (pt_cmpR op_eq (pv 1) (pe_int) (nomark _)) (pss_one (ps_ret (pe_cmpR op_gt (Z.pe_propR (Z.pe_cl (E := E) (ok_as_ratio T) (hr.mono (by decide)) T.g_as_ratio T.k_as_ratio (passes_call (W := fun c d _ H => E c d H) (takes_of rfl rfl rfl rfl) fun _ _ _ _ h => h) (pa_cons (pv 2) (pa_nil))) T.cl_Ratio T.p_Ratio_sign (ok_Ratio_sign T) (hr.mono (by decide))) (pe_int) (nomark _)))) (pss_nil)) (pss_one (ps_ret (pe_and (pe_cmpR op_ge (Z.pe_propR (Z.pe_cl (E := E) (ok_as_ratio T) (hr.mono (by decide)) T.g_as_ratio T.k_as_ratio (passes_call (W := fun c d _ H => E c d H) (takes_of rfl rfl rfl rfl) fun _ _ _ _ h => h) (pa_cons (pv 2) (pa_nil))) T.cl_Ratio T.p_Ratio_sign (ok_Ratio_sign T) (hr.mono (by decide))) (pe_int) (nomark _)) (pe_one (pe_not (pe_methR (E := E) (Z.pe_cl (E := E) (ok_as_ratio T) (hr.mono (by decide)) T.g_as_ratio T.k_as_ratio (passes_call (W := fun c d _ H => E c d H) (takes_of rfl rfl rfl rfl) fun _ _ _ _ h => h) (pa_cons (pe_ix (Z.ixtK (K := K) rfl) (pv 0) (pe_op op_sub (pv 1) (pe_int)) (fun _ _ => rfl)) (pa_nil))) T.cl_Ratio T.m_Ratio_is_below (ok_Ratio_is_below T) (hr.mono (by decide)) (passes_call (W := fun c d _ H => E c d H) (takes_of rfl rfl rfl rfl) fun _ _ _ _ h => h) (pa_cons (pv 2) (pa_nil)))))))))), body_ok (N := N_is_right_at) (snd_seq (snd_asg (snd_op os_ixT (snd_bor 0) (snd_bor 1)) (snd_gn 2)) (snd_seq (snd_ifS (snd_not (snd_tb (snd_call (snd_cons (snd_bor 2) (snd_nil))))) (snd_ret (snd_bl)) (snd_skip)) (snd_seq (snd_ifS (snd_test (snd_op os_eqS (snd_bor 1) (snd_int))) (snd_ret (snd_op os_gt (snd_prop (c := c_Ratio) (snd_call (snd_cons (snd_bor 2) (snd_nil)))) (snd_int))) (snd_skip)) (snd_ret (snd_andV (snd_op os_ge (snd_prop (c := c_Ratio) (snd_call (snd_cons (snd_bor 2) (snd_nil)))) (snd_int)) (snd_notV (snd_meth (c := c_Ratio) (snd_call (snd_cons (snd_op os_ixT (snd_bor 0) (snd_op os_sub (snd_bor 1) (snd_int))) (snd_nil))) (snd_cons (snd_bor 2) (snd_nil))))))))) h⟩
theorem ok_is_right_at {P : Program} {w : World} {K : PySem.W.Frag} {mg : Str → Option Value} {base : Heap} (T : Txt K mg) : FnR P w K mg base (L2.CX P w) 6 (He.ga K "is_right_at") (spM K 2 F_is_right_at) := by
  obtain ⟨fd, F⟩ := T.d_is_right_at
  exact Z.raw0 (okb_is_right_at T F) (F.bindsN fun _ _ _ _ _ _ us hl => match us, hl with | [_, _], _ => rfl)
noncomputable def t1_filled : MG := gN 1
noncomputable def e1_filled : ME := mCall 1 F_as_ratio (mCons (mBor 1) (mNil))
noncomputable def m_filled : MS := sRet (fz (mOpF fCat (fz (mLc (iT (mBor 0)) t1_filled (fun s => .ok (true, s)) e1_filled [1])) (fz (mOpF fRep (fz (mLst (mCons (mMake c_Ratio 2 (dfltF 1 F_Ratio_init) (mCons (mC (.int 0)) (mNil))) (mNil)))) (mOp fSub (mC (.int 5)) (mCB (f1 fLen) (mCons (mBor 0) (mNil))))))))
noncomputable def F_filled : Fn := fnOf 2 m_filled
theorem okb_filled {P : Program} {w : World} {K : PySem.W.Frag} {mg : Str → Option Value} {base : Heap} (T : Txt K mg) {fd : FuncData} (F : FunD K "filled" "filled" (defArgs s_filled) (defBody s_filled) (defScope s_filled) [] [] (He.ga K "filled") fd) : FnOk P w K mg base (L2.CX P w) 5 (He.ga K "filled") fd ["numbers"] (spM K 1 F_filled) := by
  refine F.ok sc_filled (fun vs H Q E h => ?_) (fun cdv A outer s H vs Q E hr h => ?_)
  · obtain ⟨_, _, _, _, _, hl, _⟩ := h
    exact hl
  exact ⟨_, pss_one (ps_ret (pe_op op_cat (pe_lc (own := [("number", 1)]) (g := gName 1) (by rfl) sc_filled.nd (Z.piTupK (K := K) rfl (pv 0)) (blkOk_by (own := [("number", 1)]) (N := N_filled) (sc := defScope s_filled) (by decide +kernel)) (fun _ _ _ _ _ => pg_name (i := 1) sc_filled.nd rfl (Or.inl rfl)) (fun _ _ _ _ _ => pts_nil) (fun _ _ _ _ _ => Z.pe_cl (E := E0) (ok_as_ratio T) (hr.mono (by decide)) T.g_as_ratio T.k_as_ratio passL (pa_cons (pv 1) (pa_nil)))) (pe_op op_rep (pe_lst (pa_cons (StX.pe_makeR (E := E) T.mk_Ratio (ok_Ratio_init_d T) (hr.mono (by decide)) rfl T.g_Ratio (passes_call (W := fun c d _ H => E c d H) (takes_of rfl rfl rfl rfl) fun _ _ _ _ h => h) (pa_cons (pe_int) (pa_nil))) (pa_nil))) (pe_op op_sub (pe_glob (v := .int 5) rfl T.g_MOST_PLACES.choose_spec ⟨_, rfl⟩) (pe_callB (Z.lenK (K := K) rfl) (by rfl) T.f_len (by decide +kernel) (pa_cons (pv 0) (pa_nil))))))), body_ok (N := N_filled) (snd_ret (snd_fz (snd_opF of_cat (snd_fz (snd_lc (vs := [1]) (snd_it (snd_bor 0)) (snd_gn 1) (snd_yes) (snd_call (snd_cons (snd_bor 1) (snd_nil))) (by decide))) (snd_fz (snd_opF of_rep (snd_fz (snd_lst (snd_cons (snd_make (c := c_Ratio) (snd_cons (snd_int) (snd_nil))) (snd_nil)))) (snd_op os_sub (snd_int) (snd_cb cs_len (snd_cons (snd_bor 0) (snd_nil))))))))) h⟩
theorem ok_filled {P : Program} {w : World} {K : PySem.W.Frag} {mg : Str → Option Value} {base : Heap} (T : Txt K mg) : FnR P w K mg base (L2.CX P w) 5 (He.ga K "filled") (spM K 1 F_filled) := by
  obtain ⟨fd, F⟩ := T.d_filled
  exact Z.raw0 (okb_filled T F) (F.bindsN fun _ _ _ _ _ _ us hl => match us, hl with | [_], _ => rfl)
noncomputable def t1_Table_init : MG := gN 2
noncomputable def b1_Table_init : MS := sIf (mNot (mTest (mCall 2 F_is_right_at (mCons (mBor 1) (mCons (mBor 2) (mNil)))))) (sNever) (sSkip)
noncomputable def m_Table_init : MS := sSeq (sExpr (mCall 1 F_want_few (mCons (mBor 1) (mNil)))) (sSeq (sFor [2] (iR1 (mCons (mCB (f1 fLen) (mCons (mBor 1) (mNil))) (mNil))) t1_Table_init b1_Table_init) (sFldSet c_Table "own_points" 0 (mCall 1 F_filled (mCons (mBor 1) (mNil)))))
noncomputable def F_Table_init : Fn := fnOf 3 m_Table_init
theorem ok_Table_init_s {P : Program} {w : World} {K : PySem.W.Frag} {mg : Str → Option Value} {base : Heap} (T : Txt K mg) : FnR P w K mg base (L2.CX P w) 7 (He.ma K (He.ga K "Table") "__init__") (fun vs H Q E => ∃ ws rest, vs = ws ++ rest ∧ ws.length = 1 ∧ rest.length ≤ sizeLine ∧ ∀ p, H p = Option.none → spM K 2 F_Table_init (ws ++ [V.ref p]) (upd H p (.tup rest)) Q E) := by
  obtain ⟨fd, F⟩ := T.d_Table_init
  refine Z.fnstar (ps := ["self"]) (pv := "points") F sc_Table_init (fun kV doc pm an cdv ct us rest hl => StX.bind_star1 (B := fun l => bindArgs (PySem.W.fnOf "__init__" "Table.__init__" (defArgs s_Table_init) (defBody s_Table_init) (defScope s_Table_init) .none kV doc pm an cdv ct) ⟨l, []⟩) (fun _ => rfl) (fun _ _ _ => rfl) us rest hl) (fun cdv A outer s H vs Q E hr h => ?_)
  exact ⟨_, pss_cons (ps_expr (Z.pe_cl (E := E) (ok_want_few T) (hr.mono (by decide)) T.g_want_few T.k_want_few (passes_call (W := fun c d _ H => E c d H) (takes_of rfl rfl rfl rfl) fun _ _ _ _ h => h) (pa_cons (pv 1) (pa_nil)))) (pss_cons (ps_for (passes_of rfl) rfl (pi_range1 (by rfl) T.f_range (pa_cons (pe_callB (Z.lenK (K := K) rfl) (by rfl) T.f_len (by decide +kernel) (pa_cons (pv 1) (pa_nil))) (pa_nil))) (pg_name (i := 2) sc_Table_init.nd rfl (Or.inl rfl)) (pss_one (ps_if (pt_not (pt_val (Z.pe_cl (E := E) (ok_is_right_at T) (hr.mono (by decide)) T.g_is_right_at T.k_is_right_at (passes_call (W := fun c d _ H => E c d H) (takes_of rfl rfl rfl rfl) fun _ _ _ _ h => h) (pa_cons (pv 1) (pa_cons (pv 2) (pa_nil)))))) (pss_one (ps_never)) (pss_nil)))) (pss_one (ps_fld (pv 0) (Z.pe_cl (E := E) (ok_filled T) (hr.mono (by decide)) T.g_filled T.k_filled (passes_call (W := fun c d _ H => E c d H) (takes_of rfl rfl rfl rfl) fun _ _ _ _ h => h) (pa_cons (pv 1) (pa_nil))) rfl))), body_ok (N := N_Table_init) (snd_seq (snd_expr (snd_call (snd_cons (snd_bor 1) (snd_nil)))) (snd_seq (snd_for (snd_ir1 (snd_cons (snd_cb cs_len (snd_cons (snd_bor 1) (snd_nil))) (snd_nil))) (snd_gn 2) (snd_ifS (snd_not (snd_tb (snd_call (snd_cons (snd_bor 1) (snd_cons (snd_bor 2) (snd_nil)))))) (snd_never) (snd_skip))) (snd_fldSet (c := c_Table) (i := 0) (snd_call (snd_cons (snd_bor 1) (snd_nil))) T.cl_Table T.n_Table_own_points))) h⟩
theorem ok_Table_init {P : Program} {w : World} {K : PySem.W.Frag} {mg : Str → Option Value} {base : Heap} (T : Txt K mg) {m : Nat} : FnR P w K mg base (L2.CX P w) 7 (He.ma K (He.ga K "Table") "__init__") (spM K m (starF 1 F_Table_init)) := (ok_Table_init_s T).imp fun vs H Q E h => star_ok (ps := ["self"]) rfl h
noncomputable def m_Table_first_places : MS := sSeq (sIf (mNot (mTest (mCall 1 F_is_place (mCons (mBor 1) (mNil))))) (sNever) (sSkip)) (sSeq (sAsg (fz (mOpF fRep (fz (mLst (mCons (mC (.int 1)) (mNil)))) (mBor 1))) (gN 2)) (sRet (mMkLS c_Table 0 (starF 1 F_Table_init) (mStar (mBor 2) mNil))))
noncomputable def F_Table_first_places : Fn := fnOf 3 m_Table_first_places
theorem okb_Table_first_places {P : Program} {w : World} {K : PySem.W.Frag} {mg : Str → Option Value} {base : Heap} (T : Txt K mg) {fd : FuncData} (F : FunD K "first_places" "Table.first_places" (defArgs s_Table_first_places) (defBody s_Table_first_places) (defScope s_Table_first_places) [] [] (He5.wf K (He.ga K "Table") "classmethod" "first_places") fd) : FnOk P w K mg base (L2.CX P w) 9 (He5.wf K (He.ga K "Table") "classmethod" "first_places") fd ["cls", "k"] (spM K 2 F_Table_first_places) := by
  refine F.ok sc_Table_first_places (fun vs H Q E h => ?_) (fun cdv A outer s H vs Q E hr h => ?_)
  · obtain ⟨_, _, _, _, _, hl, _⟩ := h
    exact hl
  exact ⟨_, pss_cons (ps_if (pt_not (pt_val (Z.pe_cl (E := E) (ok_is_place T) (hr.mono (by decide)) T.g_is_place T.k_is_place (passes_call (W := fun c d _ H => E c d H) (takes_of rfl rfl rfl rfl) fun _ _ _ _ h => h) (pa_cons (pv 1) (pa_nil))))) (pss_one (ps_never)) (pss_nil)) (pss_cons (ps_set (i := 2) sc_Table_first_places.nd rfl (Or.inl rfl) (pe_op op_rep (pe_lst (pa_cons (pe_int) (pa_nil))) (pv 1))) (pss_one (ps_ret (Z.pe_mkLS (K := K) (i := 0) (E := E) rfl T.mk_Table (fnr_S fun m => ok_Table_init T (m := m)) (hr.mono (by decide)) (passes_call (W := fun c d _ H => E c d H) (takes_of rfl rfl rfl rfl) fun _ _ _ _ h => h) (pv 2) (pv 0))))), body_ok (N := N_Table_first_places) (snd_seq (snd_ifS (snd_not (snd_tb (snd_call (snd_cons (snd_bor 1) (snd_nil))))) (snd_never) (snd_skip)) (snd_seq (snd_asg (snd_fz (snd_opF of_rep (snd_fz (snd_lst (snd_cons (snd_int) (snd_nil)))) (snd_bor 1))) (snd_gn 2)) (snd_ret (snd_mkLS (c := c_Table) (i := 0) (snd_star (snd_bor 2) snd_nil))))) h⟩
theorem ok_Table_first_places {P : Program} {w : World} {K : PySem.W.Frag} {mg : Str → Option Value} {base : Heap} (T : Txt K mg) : FnR P w K mg base (L2.CX P w) 9 (He5.wf K (He.ga K "Table") "classmethod" "first_places") (spM K 2 F_Table_first_places) := by
  obtain ⟨fd, F⟩ := T.d_Table_first_places
  exact Z.raw0 (okb_Table_first_places T F) (F.bindsN fun _ _ _ _ _ _ us hl => match us, hl with | [_, _], _ => rfl)
noncomputable def t1_Table_steep : MG := gN 4
noncomputable def b1_Table_steep : MS := sAsg (fz (mOpF fCat (fz (mLst (mCons (mOp fMul (mOp fIxL (mBor 3) (mC (.int 0))) (mBor 1)) (mNil)))) (mBor 3))) (gN 3)
noncomputable def m_Table_steep : MS := sSeq (sIf (mOr (mNot (mTest (mCall 1 F_is_count (mCons (mBor 1) (mNil))))) (mTest (mOp fEqS (mBor 1) (mC (.int 0))))) (sNever) (sSkip)) (sSeq (sIf (mNot (mTest (mCall 1 F_is_place (mCons (mBor 2) (mNil))))) (sNever) (sSkip)) (sSeq (sAsg (fz (mLst (mCons (mC (.int 1)) (mNil)))) (gN 3)) (sSeq (sFor [4, 3] (iR1 (mCons (mOp fSub (mBor 2) (mC (.int 1))) (mNil))) t1_Table_steep b1_Table_steep) (sRet (mMkLS c_Table 0 (starF 1 F_Table_init) (mStar (mBor 3) mNil))))))
noncomputable def F_Table_steep : Fn := fnOf 5 m_Table_steep
theorem okb_Table_steep {P : Program} {w : World} {K : PySem.W.Frag} {mg : Str → Option Value} {base : Heap} (T : Txt K mg) {fd : FuncData} (F : FunD K "steep" "Table.steep" (defArgs s_Table_steep) (defBody s_Table_steep) (defScope s_Table_steep) [] [] (He5.wf K (He.ga K "Table") "classmethod" "steep") fd) : FnOk P w K mg base (L2.CX P w) 9 (He5.wf K (He.ga K "Table") "classmethod" "steep") fd ["cls", "s", "k"] (spM K 3 F_Table_steep) := by
  refine F.ok sc_Table_steep (fun vs H Q E h => ?_) (fun cdv A outer s H vs Q E hr h => ?_)
  · obtain ⟨_, _, _, _, _, hl, _⟩ := h
    exact hl
  exact ⟨_, pss_cons (ps_if (PW.pt (pw_or (pt_not (pt_val (Z.pe_cl (E := E) (ok_is_count T) (hr.mono (by decide)) T.g_is_count T.k_is_count (passes_call (W := fun c d _ H => E c d H) (takes_of rfl rfl rfl rfl) fun _ _ _ _ h => h) (pa_cons (pv 1) (pa_nil))))) (pw_or1 (pt_cmpR op_eq (pv 1) (pe_int) (nomark _))))) (pss_one (ps_never)) (pss_nil)) (pss_cons (ps_if (pt_not (pt_val (Z.pe_cl (E := E) (ok_is_place T) (hr.mono (by decide)) T.g_is_place T.k_is_place (passes_call (W := fun c d _ H => E c d H) (takes_of rfl rfl rfl rfl) fun _ _ _ _ h => h) (pa_cons (pv 2) (pa_nil))))) (pss_one (ps_never)) (pss_nil)) (pss_cons (ps_set (i := 3) sc_Table_steep.nd rfl (Or.inl rfl) (pe_lst (pa_cons (pe_int) (pa_nil)))) (pss_cons (ps_for (passes_of rfl) rfl (pi_range1 (by rfl) T.f_range (pa_cons (pe_op op_sub (pv 2) (pe_int)) (pa_nil))) (pg_name (i := 4) sc_Table_steep.nd rfl (Or.inl rfl)) (pss_one (ps_set (i := 3) sc_Table_steep.nd rfl (Or.inl rfl) (pe_op op_cat (pe_lst (pa_cons (pe_op op_mulW (pe_ix (Z.ixlK (K := K) rfl) (pv 3) (pe_int) (fun _ _ => rfl)) (pv 1)) (pa_nil))) (pv 3))))) (pss_one (ps_ret (Z.pe_mkLS (K := K) (i := 0) (E := E) rfl T.mk_Table (fnr_S fun m => ok_Table_init T (m := m)) (hr.mono (by decide)) (passes_call (W := fun c d _ H => E c d H) (takes_of rfl rfl rfl rfl) fun _ _ _ _ h => h) (pv 3) (pv 0))))))), body_ok (N := N_Table_steep) (snd_seq (snd_ifS (snd_or (snd_not (snd_tb (snd_call (snd_cons (snd_bor 1) (snd_nil))))) (snd_test (snd_op os_eqS (snd_bor 1) (snd_int)))) (snd_never) (snd_skip)) (snd_seq (snd_ifS (snd_not (snd_tb (snd_call (snd_cons (snd_bor 2) (snd_nil))))) (snd_never) (snd_skip)) (snd_seq (snd_asg (snd_fz (snd_lst (snd_cons (snd_int) (snd_nil)))) (snd_gn 3)) (snd_seq (snd_for (snd_ir1 (snd_cons (snd_op os_sub (snd_bor 2) (snd_int)) (snd_nil))) (snd_gn 4) (snd_asg (snd_fz (snd_opF of_cat (snd_fz (snd_lst (snd_cons (snd_op os_mul (snd_op os_ixL (snd_bor 3) (snd_int)) (snd_bor 1)) (snd_nil)))) (snd_bor 3))) (snd_gn 3))) (snd_ret (snd_mkLS (c := c_Table) (i := 0) (snd_star (snd_bor 3) snd_nil))))))) h⟩
theorem ok_Table_steep {P : Program} {w : World} {K : PySem.W.Frag} {mg : Str → Option Value} {base : Heap} (T : Txt K mg) : FnR P w K mg base (L2.CX P w) 9 (He5.wf K (He.ga K "Table") "classmethod" "steep") (spM K 3 F_Table_steep) := by
  obtain ⟨fd, F⟩ := T.d_Table_steep
  exact Z.raw0 (okb_Table_steep T F) (F.bindsN fun _ _ _ _ _ _ us hl => match us, hl with | [_, _, _], _ => rfl)
noncomputable def t1_Table_paid : MG := gN 1
noncomputable def c1_Table_paid : MT := (mTest (mOp fGt (mProp c_Ratio F_Ratio_sign (mBor 1)) (mC (.int 0))))
noncomputable def e1_Table_paid : ME := mVar 1
noncomputable def m_Table_paid : MS := sRet (mCB (f1 fLen) (mCons (fz (mLc (iL (mFld c_Table n_Table 0 (mBor 0))) t1_Table_paid c1_Table_paid e1_Table_paid [1])) (mNil)))
noncomputable def F_Table_paid : Fn := fnOf 2 m_Table_paid
theorem okb_Table_paid {P : Program} {w : World} {K : PySem.W.Frag} {mg : Str → Option Value} {base : Heap} (T : Txt K mg) {fd : FuncData} (F : FunD K "paid" "Table.paid" (defArgs s_Table_paid) (defBody s_Table_paid) (defScope s_Table_paid) [] [] (He5.wf K (He.ga K "Table") "property" "paid") fd) : FnOk P w K mg base (L2.CX P w) 3 (He5.wf K (He.ga K "Table") "property" "paid") fd ["self"] (spM K 1 F_Table_paid) := by
  refine F.ok sc_Table_paid (fun vs H Q E h => ?_) (fun cdv A outer s H vs Q E hr h => ?_)
  · obtain ⟨_, _, _, _, _, hl, _⟩ := h
    exact hl
  exact ⟨_, pss_one (ps_ret (pe_callB (Z.lenK (K := K) rfl) (by rfl) T.f_len (by decide +kernel) (pa_cons (pe_lc (own := [("number", 1)]) (g := gName 1) (by rfl) sc_Table_paid.nd (Z.piListK (K := K) rfl (pe_fld (pv 0) rfl)) (blkOk_by (own := [("number", 1)]) (N := N_Table_paid) (sc := defScope s_Table_paid) (by decide +kernel)) (fun _ _ _ _ _ => pg_name (i := 1) sc_Table_paid.nd rfl (Or.inl rfl)) (fun _ _ _ _ _ => pts_one (pt_cmpR op_gt (Z.pe_propR (pv 1) T.cl_Ratio T.p_Ratio_sign (ok_Ratio_sign T) (hr.mono (by decide))) (pe_int) (nomark _))) (fun _ _ _ _ _ => pv 1)) (pa_nil)))), body_ok (N := N_Table_paid) (snd_ret (snd_cb cs_len (snd_cons (snd_fz (snd_lc (vs := [1]) (snd_il (snd_fld (c := c_Table) (ns := n_Table) (j := 0) (snd_bor 0) T.cl_Table T.n_Table_own_points rfl nd_Table)) (snd_gn 1) (snd_test (snd_op os_gt (snd_prop (c := c_Ratio) (snd_bor 1)) (snd_int))) (snd_var 1) (by decide))) (snd_nil)))) h⟩
theorem ok_Table_paid {P : Program} {w : World} {K : PySem.W.Frag} {mg : Str → Option Value} {base : Heap} (T : Txt K mg) : FnR P w K mg base (L2.CX P w) 3 (He5.wf K (He.ga K "Table") "property" "paid") (spM K 1 F_Table_paid) := by
  obtain ⟨fd, F⟩ := T.d_Table_paid
  exact Z.raw0 (okb_Table_paid T F) (F.bindsN fun _ _ _ _ _ _ us hl => match us, hl with | [_], _ => rfl)
noncomputable def m_Table_points : MS := sRet (fz (mCBF (f1 fList) (mCons (mFld c_Table n_Table 0 (mBor 0)) (mNil))))
noncomputable def F_Table_points : Fn := fnOf 1 m_Table_points
theorem okb_Table_points {P : Program} {w : World} {K : PySem.W.Frag} {mg : Str → Option Value} {base : Heap} (T : Txt K mg) {fd : FuncData} (F : FunD K "points" "Table.points" (defArgs s_Table_points) (defBody s_Table_points) (defScope s_Table_points) [] [] (He.ma K (He.ga K "Table") "points") fd) : FnOk P w K mg base (L2.CX P w) 1 (He.ma K (He.ga K "Table") "points") fd ["self"] (spM K 1 F_Table_points) := by
  refine F.ok sc_Table_points (fun vs H Q E h => ?_) (fun cdv A outer s H vs Q E hr h => ?_)
  · obtain ⟨_, _, _, _, _, hl, _⟩ := h
    exact hl
  exact ⟨_, pss_one (ps_ret (pe_callTy (Z.listK (K := K) rfl) (by rfl) T.f_list (by decide +kernel) (pa_cons (pe_fld (pv 0) rfl) (pa_nil)))), body_ok (N := N_Table_points) (snd_ret (snd_fz (snd_cbF cf_list (snd_cons (snd_fld (c := c_Table) (ns := n_Table) (j := 0) (snd_bor 0) T.cl_Table T.n_Table_own_points rfl nd_Table) (snd_nil))))) h⟩
theorem ok_Table_points {P : Program} {w : World} {K : PySem.W.Frag} {mg : Str → Option Value} {base : Heap} (T : Txt K mg) : FnR P w K mg base (L2.CX P w) 1 (He.ma K (He.ga K "Table") "points") (spM K 1 F_Table_points) := by
  obtain ⟨fd, F⟩ := T.d_Table_points
  exact Z.raw0 (okb_Table_points T F) (F.bindsN fun _ _ _ _ _ _ us hl => match us, hl with | [_], _ => rfl)
noncomputable def t1_Table_steps : MG := gTs 2 (gsC (gN 2) (gsC (gN 3) (gsN)))
noncomputable def e1_Table_steps : ME := mOwnL c_Ratio F_Ratio_sub (mBor 2) (mBor 3)
noncomputable def m_Table_steps : MS := sSeq (sAsg (fz (mOpF fCat (fz (mSlL (mFld c_Table n_Table 0 (mBor 0)) (mPart (mC (.int 1))) mNo)) (fz (mLst (mCons (mMake c_Ratio 2 (dfltF 1 F_Ratio_init) (mCons (mC (.int 0)) (mNil))) (mNil)))))) (gN 1)) (sRet (fz (mLc (iZ (mCons (mFld c_Table n_Table 0 (mBor 0)) (mCons (mBor 1) (mNil)))) t1_Table_steps (fun s => .ok (true, s)) e1_Table_steps [2, 3])))
noncomputable def F_Table_steps : Fn := fnOf 4 m_Table_steps
theorem okb_Table_steps {P : Program} {w : World} {K : PySem.W.Frag} {mg : Str → Option Value} {base : Heap} (T : Txt K mg) {fd : FuncData} (F : FunD K "steps" "Table.steps" (defArgs s_Table_steps) (defBody s_Table_steps) (defScope s_Table_steps) [] [] (He.ma K (He.ga K "Table") "steps") fd) : FnOk P w K mg base (L2.CX P w) 7 (He.ma K (He.ga K "Table") "steps") fd ["self"] (spM K 1 F_Table_steps) := by
  refine F.ok sc_Table_steps (fun vs H Q E h => ?_) (fun cdv A outer s H vs Q E hr h => ?_)
  · obtain ⟨_, _, _, _, _, hl, _⟩ := h
    exact hl
  exact ⟨_, pss_cons (ps_set (i := 1) sc_Table_steps.nd rfl (Or.inl rfl) (pe_op op_cat (pe_slice (Z.sllK (K := K) rfl) (pe_fld (pv 0) rfl) (po_some (pe_int)) po_none) (pe_lst (pa_cons (StX.pe_makeR (E := E) T.mk_Ratio (ok_Ratio_init_d T) (hr.mono (by decide)) rfl T.g_Ratio (passes_call (W := fun c d _ H => E c d H) (takes_of rfl rfl rfl rfl) fun _ _ _ _ h => h) (pa_cons (pe_int) (pa_nil))) (pa_nil))))) (pss_one (ps_ret (pe_lc (own := [("number", 2), ("less", 3)]) (g := gTup K 2 (gCons (gName 2) (gCons (gName 3) (gNil)))) (by rfl) sc_Table_steps.nd (Z.piZipK (K := K) rfl (by rfl) T.f_zip (pa_cons (pe_fld (pv 0) rfl) (pa_cons (pv 1) (pa_nil)))) (blkOk_by (own := [("number", 2), ("less", 3)]) (N := N_Table_steps) (sc := defScope s_Table_steps) (by decide +kernel)) (fun _ _ _ _ _ => Z.pgTupK (K := K) rfl rfl (pgs_cons (pg_name (i := 2) sc_Table_steps.nd rfl (Or.inl rfl)) (pgs_cons (pg_name (i := 3) sc_Table_steps.nd rfl (Or.inl rfl)) (pgs_nil)))) (fun _ _ _ _ _ => pts_nil) (fun _ _ _ _ _ => pe_op (Z.op_ownL (E := E0) T.o_Ratio_sub (ok_Ratio_sub T) (hr.mono (by decide)) passL) (pv 2) (pv 3))))), body_ok (N := N_Table_steps) (snd_seq (snd_asg (snd_fz (snd_opF of_cat (snd_fz (snd_slL (snd_fld (c := c_Table) (ns := n_Table) (j := 0) (snd_bor 0) T.cl_Table T.n_Table_own_points rfl nd_Table) (snd_part (snd_int)) snd_no)) (snd_fz (snd_lst (snd_cons (snd_make (c := c_Ratio) (snd_cons (snd_int) (snd_nil))) (snd_nil)))))) (snd_gn 1)) (snd_ret (snd_fz (snd_lc (vs := [2, 3]) (snd_iz (snd_cons (snd_fld (c := c_Table) (ns := n_Table) (j := 0) (snd_bor 0) T.cl_Table T.n_Table_own_points rfl nd_Table) (snd_cons (snd_bor 1) (snd_nil)))) (snd_gts (n := 2) (snd_gsc (snd_gn 2) (snd_gsc (snd_gn 3) (snd_gsn)))) (snd_yes) (snd_ownL (c := c_Ratio) T.r_Ratio_sub (snd_bor 2) (snd_bor 3)) (by decide))))) h⟩
theorem ok_Table_steps {P : Program} {w : World} {K : PySem.W.Frag} {mg : Str → Option Value} {base : Heap} (T : Txt K mg) : FnR P w K mg base (L2.CX P w) 7 (He.ma K (He.ga K "Table") "steps") (spM K 1 F_Table_steps) := by
  obtain ⟨fd, F⟩ := T.d_Table_steps
  exact Z.raw0 (okb_Table_steps T F) (F.bindsN fun _ _ _ _ _ _ us hl => match us, hl with | [_], _ => rfl)
noncomputable def m_Table_getitem : MS := sSeq (sIf (mNot (mTest (mCall 1 F_is_place (mCons (mBor 1) (mNil))))) (sNever) (sSkip)) (sRet (mOp fIxL (mFld c_Table n_Table 0 (mBor 0)) (mOp fSub (mBor 1) (mC (.int 1)))))
noncomputable def F_Table_getitem : Fn := fnOf 2 m_Table_getitem
theorem okb_Table_getitem {P : Program} {w : World} {K : PySem.W.Frag} {mg : Str → Option Value} {base : Heap} (T : Txt K mg) {fd : FuncData} (F : FunD K "__getitem__" "Table.__getitem__" (defArgs s_Table_getitem) (defBody s_Table_getitem) (defScope s_Table_getitem) [] [] (He.ma K (He.ga K "Table") "__getitem__") fd) : FnOk P w K mg base (L2.CX P w) 3 (He.ma K (He.ga K "Table") "__getitem__") fd ["self", "place"] (spM K 2 F_Table_getitem) := by
  refine F.ok sc_Table_getitem (fun vs H Q E h => ?_) (fun cdv A outer s H vs Q E hr h => ?_)
  · obtain ⟨_, _, _, _, _, hl, _⟩ := h
    exact hl
  exact ⟨_, pss_cons (ps_if (pt_not (pt_val (Z.pe_cl (E := E) (ok_is_place T) (hr.mono (by decide)) T.g_is_place T.k_is_place (passes_call (W := fun c d _ H => E c d H) (takes_of rfl rfl rfl rfl) fun _ _ _ _ h => h) (pa_cons (pv 1) (pa_nil))))) (pss_one (ps_never)) (pss_nil)) (pss_one (ps_ret (pe_ix (Z.ixlK (K := K) rfl) (pe_fld (pv 0) rfl) (pe_op op_sub (pv 1) (pe_int)) (fun _ _ => rfl)))), body_ok (N := N_Table_getitem) (snd_seq (snd_ifS (snd_not (snd_tb (snd_call (snd_cons (snd_bor 1) (snd_nil))))) (snd_never) (snd_skip)) (snd_ret (snd_op os_ixL (snd_fld (c := c_Table) (ns := n_Table) (j := 0) (snd_bor 0) T.cl_Table T.n_Table_own_points rfl nd_Table) (snd_op os_sub (snd_bor 1) (snd_int))))) h⟩
theorem ok_Table_getitem {P : Program} {w : World} {K : PySem.W.Frag} {mg : Str → Option Value} {base : Heap} (T : Txt K mg) : FnR P w K mg base (L2.CX P w) 3 (He.ma K (He.ga K "Table") "__getitem__") (spM K 2 F_Table_getitem) := by
  obtain ⟨fd, F⟩ := T.d_Table_getitem
  exact Z.raw0 (okb_Table_getitem T F) (F.bindsN fun _ _ _ _ _ _ us hl => match us, hl with | [_, _], _ => rfl)
noncomputable def m_Table_eq : MS := sRet (mAndV (mCB (fIsi clss) (mCons (mBor 1) (mCons (mC (.cls c_Table)) (mNil)))) (mOp (fEqL eqR_Ratio) (mFld c_Table n_Table 0 (mBor 0)) (mFld c_Table n_Table 0 (mBor 1))))
noncomputable def F_Table_eq : Fn := fnOf 2 m_Table_eq
theorem okb_Table_eq {P : Program} {w : World} {K : PySem.W.Frag} {mg : Str → Option Value} {base : Heap} (T : Txt K mg) {fd : FuncData} (F : FunD K "__eq__" "Table.__eq__" (defArgs s_Table_eq) (defBody s_Table_eq) (defScope s_Table_eq) [] [] (He.ma K (He.ga K "Table") "__eq__") fd) : FnOk P w K mg base (L2.CX P w) 3 (He.ma K (He.ga K "Table") "__eq__") fd ["self", "other"] (spM K 2 F_Table_eq) := by
  refine F.ok sc_Table_eq (fun vs H Q E h => ?_) (fun cdv A outer s H vs Q E hr h => ?_)
  · obtain ⟨_, _, _, _, _, hl, _⟩ := h
    exact hl
  exact ⟨_, pss_one (ps_ret (pe_and (pe_callB (Z.isiK (K := K) rfl) (by rfl) T.f_isinstance (by decide +kernel) (pa_cons (pv 1) (pa_cons (pe_glob (v := .ref (He.ga K c_Table)) rfl T.g_Table rfl) (pa_nil)))) (pe_one (pe_cmpR (Z.op_or (Z.op_eqB (Z.rcB_list mon_Dq (eqB_Ratio T)) (hr.mono (by decide))) (Z.eqNK (K := K) rfl hr.units0)) (pe_fld (pv 0) rfl) (pe_fld (pv 1) rfl) (nomark _))))), body_ok (N := N_Table_eq) (snd_ret (snd_andV (snd_cb (cs_isi T.kn) (snd_cons (snd_bor 1) (snd_cons (snd_cls (c := c_Table)) (snd_nil)))) (snd_opW ow_eqL (snd_fld (c := c_Table) (ns := n_Table) (j := 0) (snd_bor 0) T.cl_Table T.n_Table_own_points rfl nd_Table) (snd_fld (c := c_Table) (ns := n_Table) (j := 0) (snd_bor 1) T.cl_Table T.n_Table_own_points rfl nd_Table)))) h⟩
theorem ok_Table_eq {P : Program} {w : World} {K : PySem.W.Frag} {mg : Str → Option Value} {base : Heap} (T : Txt K mg) : FnR P w K mg base (L2.CX P w) 3 (He.ma K (He.ga K "Table") "__eq__") (spM K 2 F_Table_eq) := by
  obtain ⟨fd, F⟩ := T.d_Table_eq
  exact Z.raw0 (okb_Table_eq T F) (F.bindsN fun _ _ _ _ _ _ us hl => match us, hl with | [_, _], _ => rfl)
noncomputable def t1_Table_repr : MG := gN 2
noncomputable def e1_Table_repr : ME := mStrO c_Ratio F_Ratio_repr (mCons (mBor 2) (mNil))
noncomputable def m_Table_repr : MS := sSeq (sAsg (mJoin (mC (.str ", ")) (fz (mLc (iL (fz (mSlL (mFld c_Table n_Table 0 (mBor 0)) mNo (mPart (mProp c_Table F_Table_paid (mBor 0)))))) t1_Table_repr (fun s => .ok (true, s)) e1_Table_repr [2]))) (gN 1)) (sRet (mJs ((mC (.str "Table(")) :: (mUn fFmt (mBor 1)) :: (mC (.str ")")) :: []) Str.empty))
noncomputable def F_Table_repr : Fn := fnOf 3 m_Table_repr
theorem okb_Table_repr {P : Program} {w : World} {K : PySem.W.Frag} {mg : Str → Option Value} {base : Heap} (T : Txt K mg) {fd : FuncData} (F : FunD K "__repr__" "Table.__repr__" (defArgs s_Table_repr) (defBody s_Table_repr) (defScope s_Table_repr) [] [] (He.ma K (He.ga K "Table") "__repr__") fd) : FnOk P w K mg base (L2.CX P w) 5 (He.ma K (He.ga K "Table") "__repr__") fd ["self"] (spM K 1 F_Table_repr) := by
  refine F.ok sc_Table_repr (fun vs H Q E h => ?_) (fun cdv A outer s H vs Q E hr h => ?_)
  · obtain ⟨_, _, _, _, _, hl, _⟩ := h
    exact hl
  exact ⟨_, pss_cons (ps_set (i := 1) sc_Table_repr.nd rfl (Or.inl rfl) (pe_join (pe_str) (pe_lc (own := [("number", 2)]) (g := gName 2) (by rfl) sc_Table_repr.nd (Z.piListK (K := K) rfl (pe_slice (Z.sllK (K := K) rfl) (pe_fld (pv 0) rfl) po_none (po_some (Z.pe_propR (pv 0) T.cl_Table T.p_Table_paid (ok_Table_paid T) (hr.mono (by decide)))))) (blkOk_by (own := [("number", 2)]) (N := N_Table_repr) (sc := defScope s_Table_repr) (by decide +kernel)) (fun _ _ _ _ _ => pg_name (i := 2) sc_Table_repr.nd rfl (Or.inl rfl)) (fun _ _ _ _ _ => pts_nil) (fun _ _ _ _ _ => pe_callB (Z.call_reprO (E := E0) T.a_Ratio_repr T.i_Ratio_repr (ok_Ratio_repr T) (hr.mono (by decide)) passL) (by rfl) T.f_repr (by decide +kernel) (pa_cons (pv 2) (pa_nil)))))) (pss_one (ps_ret (pe_joined (.cons (pe_str) (.cons (pe_fmt (pv 1)) (.cons (pe_str) (.nil))))))), body_ok (N := N_Table_repr) (snd_seq (snd_asg (snd_join (snd_str) (snd_fz (snd_lc (vs := [2]) (snd_il (snd_fz (snd_slL (snd_fld (c := c_Table) (ns := n_Table) (j := 0) (snd_bor 0) T.cl_Table T.n_Table_own_points rfl nd_Table) snd_no (snd_part (snd_prop (c := c_Table) (snd_bor 0)))))) (snd_gn 2) (snd_yes) (snd_strO (c := c_Ratio) (snd_cons (snd_bor 2) (snd_nil))) (by decide)))) (snd_gn 1)) (snd_ret (snd_joined (.cons (snd_str) (.cons (snd_fmt (snd_bor 1)) (.cons (snd_str) (.nil))))))) h⟩
theorem ok_Table_repr {P : Program} {w : World} {K : PySem.W.Frag} {mg : Str → Option Value} {base : Heap} (T : Txt K mg) : FnR P w K mg base (L2.CX P w) 5 (He.ma K (He.ga K "Table") "__repr__") (spM K 1 F_Table_repr) := by
  obtain ⟨fd, F⟩ := T.d_Table_repr
  exact Z.raw0 (okb_Table_repr T F) (F.bindsN fun _ _ _ _ _ _ us hl => match us, hl with | [_], _ => rfl)
theorem okk_Table_first_places_k {P : Program} {w : World} {K : PySem.W.Frag} {mg : Str → Option Value} {base : Heap} (T : Txt K mg) : Z.FnK P w K mg base (L2.CX P w) 9 (He5.wf K (He.ga K "Table") "classmethod" "first_places") 1 ["k"] (fun vs zs H Q E => spM K 2 F_Table_first_places (vs ++ [0].map fun i => zs.getD i .non) H Q E) := by
  obtain ⟨fd, F⟩ := T.d_Table_first_places
  have G := Z.fnk (okb_Table_first_places (P := P) (w := w) (base := base) T F) (Z.kbN F 1 ["k"] (fun {α} us ws => us ++ (ws.drop 0).take 1) (fun r1 r2 => (r1).append ((r2.drop 0).take 1)) fun _ _ _ _ _ _ us ws h1 h2 => match us, ws, h1, h2 with | [_], [_], _, _ => rfl)
  intro A outer s H us ws vs zs Q E hr e0 r1 r2 l1 l2 h
  refine G A outer s H us ws vs zs Q E hr e0 r1 r2 l1 l2 ?_
  match zs, l2 with
  | [z0], _ =>
    show spM K 2 F_Table_first_places (vs ++ [z0]) H Q E
    try simp only [List.append_assoc]
    exact h
theorem okk_Table_steep_k_s {P : Program} {w : World} {K : PySem.W.Frag} {mg : Str → Option Value} {base : Heap} (T : Txt K mg) : Z.FnK P w K mg base (L2.CX P w) 9 (He5.wf K (He.ga K "Table") "classmethod" "steep") 1 ["k", "s"] (fun vs zs H Q E => spM K 3 F_Table_steep (vs ++ [1, 0].map fun i => zs.getD i .non) H Q E) := by
  obtain ⟨fd, F⟩ := T.d_Table_steep
  have G := Z.fnk (okb_Table_steep (P := P) (w := w) (base := base) T F) (Z.kbN F 1 ["k", "s"] (fun {α} us ws => us ++ (ws.drop 1).take 1 ++ (ws.drop 0).take 1) (fun r1 r2 => ((r1).append ((r2.drop 1).take 1)).append ((r2.drop 0).take 1)) fun _ _ _ _ _ _ us ws h1 h2 => match us, ws, h1, h2 with | [_], [_, _], _, _ => rfl)
  intro A outer s H us ws vs zs Q E hr e0 r1 r2 l1 l2 h
  refine G A outer s H us ws vs zs Q E hr e0 r1 r2 l1 l2 ?_
  match zs, l2 with
  | [z0, z1], _ =>
    show spM K 3 F_Table_steep (vs ++ [z1] ++ [z0]) H Q E
    try simp only [List.append_assoc]
    exact h
/-! ### tables -/
abbrev Nums (qs : List (D × (Int × Int))) : Prop := ∀ q ∈ qs, NumOf q.1 q.2 ∧ M.Red q.2 ∧ M.Sz 3000 q.2
def ds1 (qs : List (D × (Int × Int))) : List D := qs.map (·.1)
def pad (qs : List (D × (Int × Int))) : List D := (qs.map fun q => ratO q.2) ++ List.replicate (5 - qs.length) (ratD 0 1)
theorem rat0 (p : Int × Int) : (dfltF 1 F_Ratio_init) [.ow (some 0) (.obj c_Ratio [] []), .sh (.int 0)] p = .ok .non [.ow (some 0) (ratD 0 1), .no] p := init1_ev (t := 0) (bt_pow (n := 1) (by decide)) p
theorem filled_ev {qs : List (D × (Int × Int))} (h : Nums qs) (hl : qs.length ≤ 5) (p : Int × Int) : F_filled [.sh (.tup (ds1 qs))] p = .ok (.lst (pad qs)) [.no] p := by
  have e1 : lcGo [] t1_filled (fun s => .ok (true, s)) e1_filled [1] (ds1 qs) ⟨[.sh (.tup (ds1 qs)), .no], p⟩ [] = .ok (qs.map fun q => ratO q.2, ⟨[.sh (.tup (ds1 qs)), .no], p⟩) := by
    refine lc_mapp (ps := qs) (fun q : D × (Int × Int) => q.1) (fun q => ratO q.2) (by simp [hold]) (fun q hq => ?_) (by omega)
    have e := num_as (h q hq).1 ((h q hq).2.2.mono (by decide)) p
    simp [fnOf, outsOf, callF, slotsOf, mkSlot, lents, takeBack, views, vals, mVar, mBor, mC, fz, mOp, mUn, mTest, asB, mAnd, mOr, mNot, mAndV, mOrV, mNotV, mIf, mNil, mCons, mLst, mTup, mCB, f1, f2, sSkip, sSeq, sExpr, sRet, sRetN, sBreak, sCont, sNever, sIf, gN, gTs, gLs, gsN, gsC, sAsg, sOwn, sPar, sPar3, sParFE, sParEF, sParFF, argSeq, asL, asT, asS, asI, asV, iL, iT, iS, iR1, iR2, iEn, iZ, hold, noEx, mCall, mMeth, mProp, mMake, fldAt, mFld, putD, sFldSet, mMut, fAppend, fClear0, fRev, fPop, sSetItem, owL, fI, fIc, fNeg, mChain, fIsN, fNotN, fCatS, mOpF, fCat, fRep, fIxL, fIxT, fIxS, mNo, mPart, mSlL, mSlT, mSlS, fLen, fAbs, fInt, fStrI, fAll, fAny, fSum, mCBF, fList, fTuple, mJoin, fFmt, mJs, isiB, fIsi, okRight, mOwnL, mOwnR, mOwn1, onlyStr, mStrO, okLeft, mEqO, mEqO2, onlyNot, mNeO, mCMeth, asSeq, mStar, perm, mMethK, mCallK, mInO, mIdxO, mIdxD, mD0, mLc, wipeS, wipeG, backG, sFor, Mi.allB, fMax2, iEnT, mIxO, mMakeS, mMkLS, mMkL, isCls, mSlSL, mSlST, mCMethK, Mi.allI, fMax, stepLc, t1_filled, e1_filled, e, ratO]
  have e2 := rat0 p
  have k1 : (5 - (qs.length : Int)).toNat = 5 - qs.length := by omega
  have k2 : (-1000000 : Int) ≤ 5 - (qs.length : Int) := by omega
  have k3 : 5 - (qs.length : Int) ≤ 1000000 := by omega
  have k4 : 5 - qs.length ≤ 100000 := by omega
  have k5 : qs.length + (5 - qs.length) ≤ 100000 := by omega
  have k6 : (ds1 qs).length = qs.length := by simp [ds1]
  simp [fnOf, outsOf, callF, slotsOf, mkSlot, lents, takeBack, views, vals, mVar, mBor, mC, fz, mOp, mUn, mTest, asB, mAnd, mOr, mNot, mAndV, mOrV, mNotV, mIf, mNil, mCons, mLst, mTup, mCB, f1, f2, sSkip, sSeq, sExpr, sRet, sRetN, sBreak, sCont, sNever, sIf, gN, gTs, gLs, gsN, gsC, sAsg, sOwn, sPar, sPar3, sParFE, sParEF, sParFF, argSeq, asL, asT, asS, asI, asV, iL, iT, iS, iR1, iR2, iEn, iZ, hold, noEx, mCall, mMeth, mProp, mMake, fldAt, mFld, putD, sFldSet, mMut, fAppend, fClear0, fRev, fPop, sSetItem, owL, fI, fIc, fNeg, mChain, fIsN, fNotN, fCatS, mOpF, fCat, fRep, fIxL, fIxT, fIxS, mNo, mPart, mSlL, mSlT, mSlS, fLen, fAbs, fInt, fStrI, fAll, fAny, fSum, mCBF, fList, fTuple, mJoin, fFmt, mJs, isiB, fIsi, okRight, mOwnL, mOwnR, mOwn1, onlyStr, mStrO, okLeft, mEqO, mEqO2, onlyNot, mNeO, mCMeth, asSeq, mStar, perm, mMethK, mCallK, mInO, mIdxO, mIdxD, mD0, mLc, wipeS, wipeG, backG, sFor, Mi.allB, fMax2, iEnT, mIxO, mMakeS, mMkLS, mMkL, isCls, mSlSL, mSlST, mCMethK, Mi.allI, fMax, F_filled, m_filled, e1, e2, k1, k2, k3, k4, k5, k6, repD, pad]
theorem right_ev {qs : List (D × (Int × Int))} (h : Nums qs) {i : Nat} {q : D × (Int × Int)} (hi : qs[i]? = some q) (h0 : i = 0 → 0 < q.2.1) (h1 : ∀ j r, i = j + 1 → qs[j]? = some r → 0 ≤ q.2.1 ∧ ¬ (r.2.1 * q.2.2 < q.2.1 * r.2.2)) (p : Int × Int) : F_is_right_at [.sh (.tup (ds1 qs)), .sh (.int i)] p = .ok (.bl true) [.no, .no] p := by
  have hq := h q (List.mem_of_getElem? hi)
  have a1 := atI_map (fun q : D × (Int × Int) => q.1) qs i q hi
  have e1 := num_is hq.1 p
  have e2 := num_as hq.1 (hq.2.2.mono (by decide)) p
  have e3 := sign_ev q.2.1 q.2.2 p
  cases i with
  | zero =>
    have z := h0 rfl
    have z2 : ¬ q.2.1 < 0 := by omega
    simp only [ratD] at e2 e3
    simp [ds1] at a1
    simp [fnOf, outsOf, callF, slotsOf, mkSlot, lents, takeBack, views, vals, mVar, mBor, mC, fz, mOp, mUn, mTest, asB, mAnd, mOr, mNot, mAndV, mOrV, mNotV, mIf, mNil, mCons, mLst, mTup, mCB, f1, f2, sSkip, sSeq, sExpr, sRet, sRetN, sBreak, sCont, sNever, sIf, gN, gTs, gLs, gsN, gsC, sAsg, sOwn, sPar, sPar3, sParFE, sParEF, sParFF, argSeq, asL, asT, asS, asI, asV, iL, iT, iS, iR1, iR2, iEn, iZ, hold, noEx, mCall, mMeth, mProp, mMake, fldAt, mFld, putD, sFldSet, mMut, fAppend, fClear0, fRev, fPop, sSetItem, owL, fI, fIc, fNeg, mChain, fIsN, fNotN, fCatS, mOpF, fCat, fRep, fIxL, fIxT, fIxS, mNo, mPart, mSlL, mSlT, mSlS, fLen, fAbs, fInt, fStrI, fAll, fAny, fSum, mCBF, fList, fTuple, mJoin, fFmt, mJs, isiB, fIsi, okRight, mOwnL, mOwnR, mOwn1, onlyStr, mStrO, okLeft, mEqO, mEqO2, onlyNot, mNeO, mCMeth, asSeq, mStar, perm, mMethK, mCallK, mInO, mIdxO, mIdxD, mD0, mLc, wipeS, wipeG, backG, sFor, Mi.allB, fMax2, iEnT, mIxO, mMakeS, mMkLS, mMkL, isCls, mSlSL, mSlST, mCMethK, Mi.allI, fMax, F_is_right_at, m_is_right_at, ds1, a1, e1, e2, e3, z, z2]
  | succ j =>
    obtain ⟨r, hr⟩ : ∃ r, qs[j]? = some r := by
      have := (List.getElem?_eq_some_iff.mp hi).1
      exact ⟨qs[j], by simp [show j < qs.length by omega]⟩
    obtain ⟨z1, z2⟩ := h1 j r rfl hr
    have hr2 := h r (List.mem_of_getElem? hr)
    have a2 := atI_map (fun q : D × (Int × Int) => q.1) qs j r hr
    have e4 := num_as hr2.1 (hr2.2.2.mono (by decide)) p
    have e5 := num_below (x := r.2) hq.1 (hr2.2.2.mono (by decide)) (hq.2.2.mono (by decide)) p
    have z3 : ¬ q.2.1 < 0 := by omega
    have z4 : ((j + 1 : Nat) : Int) - 1 = (j : Int) := by omega
    have z5 : ¬ (((j + 1 : Nat) : Int) = 0) := by omega
    have z6 : (if q.2.1 < 0 then (1 : Int) else 0) ≤ (if 0 < q.2.1 then 1 else 0) := by rw [if_neg z3]; split <;> omega
    simp only [ratD] at e2 e3 e4 e5
    simp only [ds1]
    generalize hc : ((j + 1 : Nat) : Int) = c at *
    simp [fnOf, outsOf, callF, slotsOf, mkSlot, lents, takeBack, views, vals, mVar, mBor, mC, fz, mOp, mUn, mTest, asB, mAnd, mOr, mNot, mAndV, mOrV, mNotV, mIf, mNil, mCons, mLst, mTup, mCB, f1, f2, sSkip, sSeq, sExpr, sRet, sRetN, sBreak, sCont, sNever, sIf, gN, gTs, gLs, gsN, gsC, sAsg, sOwn, sPar, sPar3, sParFE, sParEF, sParFF, argSeq, asL, asT, asS, asI, asV, iL, iT, iS, iR1, iR2, iEn, iZ, hold, noEx, mCall, mMeth, mProp, mMake, fldAt, mFld, putD, sFldSet, mMut, fAppend, fClear0, fRev, fPop, sSetItem, owL, fI, fIc, fNeg, mChain, fIsN, fNotN, fCatS, mOpF, fCat, fRep, fIxL, fIxT, fIxS, mNo, mPart, mSlL, mSlT, mSlS, fLen, fAbs, fInt, fStrI, fAll, fAny, fSum, mCBF, fList, fTuple, mJoin, fFmt, mJs, isiB, fIsi, okRight, mOwnL, mOwnR, mOwn1, onlyStr, mStrO, okLeft, mEqO, mEqO2, onlyNot, mNeO, mCMeth, asSeq, mStar, perm, mMethK, mCallK, mInO, mIdxO, mIdxD, mD0, mLc, wipeS, wipeG, backG, sFor, Mi.allB, fMax2, iEnT, mIxO, mMakeS, mMkLS, mMkL, isCls, mSlSL, mSlST, mCMethK, Mi.allI, fMax, F_is_right_at, m_is_right_at, a1, a2, e1, e2, e3, e4, e5, z2, z4, z5, z6]
/-- points that never rise -/
structure Falls (qs : List (D × (Int × Int))) : Prop where
  first : ∀ q, qs[0]? = some q → 0 < q.2.1
  next : ∀ (j : Nat) r q, qs[j]? = some r → qs[j + 1]? = some q → 0 ≤ q.2.1 ∧ ¬ (r.2.1 * q.2.2 < q.2.1 * r.2.2)
def tabD (ds : List D) : D := .obj c_Table n_Table [.lst ds]
theorem allSh_map : ∀ ds : List D, allSh (ds.map Slot.sh) = some ds
  | [] => rfl
  | d :: ds => by simp [allSh, allSh_map ds]

theorem few_ev {ds : List D} (h0 : 1 ≤ ds.length) (hl : ds.length ≤ 5) (p : Int × Int) : F_want_few [.sh (.tup ds)] p = .ok .non [.no] p := by
  obtain ⟨L, hL⟩ : ∃ L : Int, (ds.length : Int) = L := ⟨_, rfl⟩
  have k1 : (1 : Int) ≤ L := by omega
  have k2 : L ≤ 5 := by omega
  simp [fnOf, outsOf, callF, slotsOf, mkSlot, lents, takeBack, views, vals, mVar, mBor, mC, fz, mOp, mUn, mTest, asB, mAnd, mOr, mNot, mAndV, mOrV, mNotV, mIf, mNil, mCons, mLst, mTup, mCB, f1, f2, sSkip, sSeq, sExpr, sRet, sRetN, sBreak, sCont, sNever, sIf, gN, gTs, gLs, gsN, gsC, sAsg, sOwn, sPar, sPar3, sParFE, sParEF, sParFF, argSeq, asL, asT, asS, asI, asV, iL, iT, iS, iR1, iR2, iEn, iZ, hold, noEx, mCall, mMeth, mProp, mMake, fldAt, mFld, putD, sFldSet, mMut, fAppend, fClear0, fRev, fPop, sSetItem, owL, fI, fIc, fNeg, mChain, fIsN, fNotN, fCatS, mOpF, fCat, fRep, fIxL, fIxT, fIxS, mNo, mPart, mSlL, mSlT, mSlS, fLen, fAbs, fInt, fStrI, fAll, fAny, fSum, mCBF, fList, fTuple, mJoin, fFmt, mJs, isiB, fIsi, okRight, mOwnL, mOwnR, mOwn1, onlyStr, mStrO, okLeft, mEqO, mEqO2, onlyNot, mNeO, mCMeth, asSeq, mStar, perm, mMethK, mCallK, mInO, mIdxO, mIdxD, mD0, mLc, wipeS, wipeG, backG, sFor, Mi.allB, fMax2, iEnT, mIxO, mMakeS, mMkLS, mMkL, isCls, mSlSL, mSlST, mCMethK, Mi.allI, fMax, F_want_few, m_want_few, hL, k1, k2]
theorem rng_ev {ds : List D} (hl : ds.length ≤ 5) (x0 x2 : Slot) (p : Int × Int) : iR1 (mCons (mCB (f1 fLen) (mCons (mBor 1) mNil)) mNil) ⟨[x0, .sh (.tup ds), x2], p⟩ = .ok (⟨rangeItems 0 ds.length, []⟩, ⟨[x0, .sh (.tup ds), x2], p⟩) := by
  have k1 : (-1000000 : Int) ≤ (ds.length : Int) := by omega
  have k2 : (ds.length : Int) ≤ 1000000 := by omega
  simp [iR1, mCons, mCB, f1, mBor, mNil, views, fLen, k1, k2]
theorem init_tab {qs : List (D × (Int × Int))} (h : Nums qs) (hf : Falls qs) (h0 : 1 ≤ qs.length) (hl : qs.length ≤ 5) (p : Int × Int) : F_Table_init [.ow (some 0) (.obj c_Table [] []), .sh (.tup (ds1 qs))] p = .ok .non [.ow (some 0) (tabD (pad qs)), .no] p := by
  have k6 : (ds1 qs).length = qs.length := by simp [ds1]
  have lp : ∃ s', forGo [] t1_Table_init b1_Table_init (rangeItems 0 qs.length) ⟨[.ow (some 0) (.obj c_Table [] []), .sh (.tup (ds1 qs)), .no], p⟩ = .ok (.nx, s') ∧ ∃ x2, s' = ⟨[.ow (some 0) (.obj c_Table [] []), .sh (.tup (ds1 qs)), x2], p⟩ := by
    rw [range0]
    refine for_map (fun s => ∃ x2, s = ⟨[.ow (some 0) (.obj c_Table [] []), .sh (.tup (ds1 qs)), x2], p⟩) _ (fun s _ => by simp [hold]) (fun i hi s ⟨x2, e⟩ => ?_) ⟨_, rfl⟩
    subst e
    have hi2 : i < qs.length := by simpa using hi
    have e := right_ev h (i := i) (q := qs[i]) (by simp [hi2]) (fun z => by subst z; exact hf.first _ (by simp [hi2])) (fun j r z hr => by subst z; exact hf.next j r _ hr (by simp [hi2])) p
    exact ⟨⟨[.ow (some 0) (.obj c_Table [] []), .sh (.tup (ds1 qs)), .sh (.int i)], p⟩, _, rfl, .inl (by simp [fnOf, outsOf, callF, slotsOf, mkSlot, lents, takeBack, views, vals, mVar, mBor, mC, fz, mOp, mUn, mTest, asB, mAnd, mOr, mNot, mAndV, mOrV, mNotV, mIf, mNil, mCons, mLst, mTup, mCB, f1, f2, sSkip, sSeq, sExpr, sRet, sRetN, sBreak, sCont, sNever, sIf, gN, gTs, gLs, gsN, gsC, sAsg, sOwn, sPar, sPar3, sParFE, sParEF, sParFF, argSeq, asL, asT, asS, asI, asV, iL, iT, iS, iR1, iR2, iEn, iZ, hold, noEx, mCall, mMeth, mProp, mMake, fldAt, mFld, putD, sFldSet, mMut, fAppend, fClear0, fRev, fPop, sSetItem, owL, fI, fIc, fNeg, mChain, fIsN, fNotN, fCatS, mOpF, fCat, fRep, fIxL, fIxT, fIxS, mNo, mPart, mSlL, mSlT, mSlS, fLen, fAbs, fInt, fStrI, fAll, fAny, fSum, mCBF, fList, fTuple, mJoin, fFmt, mJs, isiB, fIsi, okRight, mOwnL, mOwnR, mOwn1, onlyStr, mStrO, okLeft, mEqO, mEqO2, onlyNot, mNeO, mCMeth, asSeq, mStar, perm, mMethK, mCallK, mInO, mIdxO, mIdxD, mD0, mLc, wipeS, wipeG, backG, sFor, Mi.allB, fMax2, iEnT, mIxO, mMakeS, mMkLS, mMkL, isCls, mSlSL, mSlST, mCMethK, Mi.allI, fMax, b1_Table_init, e]; rfl), _, rfl⟩
  obtain ⟨_, e1, x2, rfl⟩ := lp
  have e2 := filled_ev h hl p
  have e3 := few_ev (ds := ds1 qs) (by omega) (by omega) p
  have e4 := rng_ev (ds := ds1 qs) (by omega) (.ow (some 0) (.obj c_Table [] [])) .no p
  rw [k6] at e4
  simp [fnOf, outsOf, callF, slotsOf, mkSlot, lents, takeBack, views, mBor, sSeq, sExpr, mCall, mCons, mNil, sFor, sFldSet, putD, F_Table_init, m_Table_init, e1, e2, e3, e4, tabD, n_Table]

/-! ### what a table tells -/
abbrev Fr := Int × Int
def tabP (ps : List Fr) : D := tabD (ps.map ratO)
def paidN (ps : List Fr) : Nat := (ps.filter fun a => decide (0 < a.1)).length
theorem fm_len (ps : List Fr) : (ps.filterMap fun a => if 0 < a.1 then some (ratO a) else none).length = paidN ps := by
  induction ps with
  | nil => rfl
  | cons a ps ih =>
    unfold paidN at ih ⊢
    by_cases h : 0 < a.1 <;> simp [List.filterMap_cons, List.filter_cons, h, ih]
theorem paid_le (ps : List Fr) : paidN ps ≤ ps.length := List.length_filter_le _ _
theorem paid_ev {ps : List Fr} (hl : ps.length ≤ 5) (p : Int × Int) : F_Table_paid [.sh (tabP ps)] p = .ok (.int (paidN ps)) [.no] p := by
  have e1 : lcGo [] t1_Table_paid c1_Table_paid e1_Table_paid [1] (ps.map ratO) ⟨[.sh (tabP ps), .no], p⟩ [] = .ok (ps.filterMap (fun a => if 0 < a.1 then some (ratO a) else none), ⟨[.sh (tabP ps), .no], p⟩) := by
    refine lc_mapf ratO _ (by simp [hold]) (fun a ha => ?_) (by omega)
    have e := sign_ev a.1 a.2 p
    simp only [ratD] at e
    by_cases h : 0 < a.1
    · have h2 : ¬ a.1 < 0 := by omega
      simp [fnOf, outsOf, callF, slotsOf, mkSlot, lents, takeBack, views, vals, mVar, mBor, mC, fz, mOp, mUn, mTest, asB, mAnd, mOr, mNot, mAndV, mOrV, mNotV, mIf, mNil, mCons, mLst, mTup, mCB, f1, f2, sSkip, sSeq, sExpr, sRet, sRetN, sBreak, sCont, sNever, sIf, gN, gTs, gLs, gsN, gsC, sAsg, sOwn, sPar, sPar3, sParFE, sParEF, sParFF, argSeq, asL, asT, asS, asI, asV, iL, iT, iS, iR1, iR2, iEn, iZ, hold, noEx, mCall, mMeth, mProp, mMake, fldAt, mFld, putD, sFldSet, mMut, fAppend, fClear0, fRev, fPop, sSetItem, owL, fI, fIc, fNeg, mChain, fIsN, fNotN, fCatS, mOpF, fCat, fRep, fIxL, fIxT, fIxS, mNo, mPart, mSlL, mSlT, mSlS, fLen, fAbs, fInt, fStrI, fAll, fAny, fSum, mCBF, fList, fTuple, mJoin, fFmt, mJs, isiB, fIsi, okRight, mOwnL, mOwnR, mOwn1, onlyStr, mStrO, okLeft, mEqO, mEqO2, onlyNot, mNeO, mCMeth, asSeq, mStar, perm, mMethK, mCallK, mInO, mIdxO, mIdxD, mD0, mLc, wipeS, wipeG, backG, sFor, Mi.allB, fMax2, iEnT, mIxO, mMakeS, mMkLS, mMkL, isCls, mSlSL, mSlST, mCMethK, Mi.allI, fMax, stepLc, t1_Table_paid, c1_Table_paid, e1_Table_paid, ratO, ratD, e, h, h2]
    · have h2 : ¬ (if a.1 < 0 then (1 : Int) else 0) < 0 := by split <;> omega
      simp [fnOf, outsOf, callF, slotsOf, mkSlot, lents, takeBack, views, vals, mVar, mBor, mC, fz, mOp, mUn, mTest, asB, mAnd, mOr, mNot, mAndV, mOrV, mNotV, mIf, mNil, mCons, mLst, mTup, mCB, f1, f2, sSkip, sSeq, sExpr, sRet, sRetN, sBreak, sCont, sNever, sIf, gN, gTs, gLs, gsN, gsC, sAsg, sOwn, sPar, sPar3, sParFE, sParEF, sParFF, argSeq, asL, asT, asS, asI, asV, iL, iT, iS, iR1, iR2, iEn, iZ, hold, noEx, mCall, mMeth, mProp, mMake, fldAt, mFld, putD, sFldSet, mMut, fAppend, fClear0, fRev, fPop, sSetItem, owL, fI, fIc, fNeg, mChain, fIsN, fNotN, fCatS, mOpF, fCat, fRep, fIxL, fIxT, fIxS, mNo, mPart, mSlL, mSlT, mSlS, fLen, fAbs, fInt, fStrI, fAll, fAny, fSum, mCBF, fList, fTuple, mJoin, fFmt, mJs, isiB, fIsi, okRight, mOwnL, mOwnR, mOwn1, onlyStr, mStrO, okLeft, mEqO, mEqO2, onlyNot, mNeO, mCMeth, asSeq, mStar, perm, mMethK, mCallK, mInO, mIdxO, mIdxD, mD0, mLc, wipeS, wipeG, backG, sFor, Mi.allB, fMax2, iEnT, mIxO, mMakeS, mMkLS, mMkL, isCls, mSlSL, mSlST, mCMethK, Mi.allI, fMax, stepLc, t1_Table_paid, c1_Table_paid, e1_Table_paid, ratO, ratD, e, h, h2]
  have e2 := fm_len ps
  simp only [tabP, tabD] at e1
  simp [fnOf, outsOf, callF, slotsOf, mkSlot, lents, takeBack, views, vals, mVar, mBor, mC, fz, mOp, mUn, mTest, asB, mAnd, mOr, mNot, mAndV, mOrV, mNotV, mIf, mNil, mCons, mLst, mTup, mCB, f1, f2, sSkip, sSeq, sExpr, sRet, sRetN, sBreak, sCont, sNever, sIf, gN, gTs, gLs, gsN, gsC, sAsg, sOwn, sPar, sPar3, sParFE, sParEF, sParFF, argSeq, asL, asT, asS, asI, asV, iL, iT, iS, iR1, iR2, iEn, iZ, hold, noEx, mCall, mMeth, mProp, mMake, fldAt, mFld, putD, sFldSet, mMut, fAppend, fClear0, fRev, fPop, sSetItem, owL, fI, fIc, fNeg, mChain, fIsN, fNotN, fCatS, mOpF, fCat, fRep, fIxL, fIxT, fIxS, mNo, mPart, mSlL, mSlT, mSlS, fLen, fAbs, fInt, fStrI, fAll, fAny, fSum, mCBF, fList, fTuple, mJoin, fFmt, mJs, isiB, fIsi, okRight, mOwnL, mOwnR, mOwn1, onlyStr, mStrO, okLeft, mEqO, mEqO2, onlyNot, mNeO, mCMeth, asSeq, mStar, perm, mMethK, mCallK, mInO, mIdxO, mIdxD, mD0, mLc, wipeS, wipeG, backG, sFor, Mi.allB, fMax2, iEnT, mIxO, mMakeS, mMkLS, mMkL, isCls, mSlSL, mSlST, mCMethK, Mi.allI, fMax, F_Table_paid, m_Table_paid, tabP, tabD, e1, e2]
theorem points_ev {ps : List Fr} (hl : ps.length ≤ 5) (p : Int × Int) : F_Table_points [.sh (tabP ps)] p = .ok (.lst (ps.map ratO)) [.no] p := by
  have h : ps.length ≤ 100000 := by omega
  simp [fnOf, outsOf, callF, slotsOf, mkSlot, lents, takeBack, views, vals, mVar, mBor, mC, fz, mOp, mUn, mTest, asB, mAnd, mOr, mNot, mAndV, mOrV, mNotV, mIf, mNil, mCons, mLst, mTup, mCB, f1, f2, sSkip, sSeq, sExpr, sRet, sRetN, sBreak, sCont, sNever, sIf, gN, gTs, gLs, gsN, gsC, sAsg, sOwn, sPar, sPar3, sParFE, sParEF, sParFF, argSeq, asL, asT, asS, asI, asV, iL, iT, iS, iR1, iR2, iEn, iZ, hold, noEx, mCall, mMeth, mProp, mMake, fldAt, mFld, putD, sFldSet, mMut, fAppend, fClear0, fRev, fPop, sSetItem, owL, fI, fIc, fNeg, mChain, fIsN, fNotN, fCatS, mOpF, fCat, fRep, fIxL, fIxT, fIxS, mNo, mPart, mSlL, mSlT, mSlS, fLen, fAbs, fInt, fStrI, fAll, fAny, fSum, mCBF, fList, fTuple, mJoin, fFmt, mJs, isiB, fIsi, okRight, mOwnL, mOwnR, mOwn1, onlyStr, mStrO, okLeft, mEqO, mEqO2, onlyNot, mNeO, mCMeth, asSeq, mStar, perm, mMethK, mCallK, mInO, mIdxO, mIdxD, mD0, mLc, wipeS, wipeG, backG, sFor, Mi.allB, fMax2, iEnT, mIxO, mMakeS, mMkLS, mMkL, isCls, mSlSL, mSlST, mCMethK, Mi.allI, fMax, F_Table_points, m_Table_points, tabP, tabD, h]
theorem place_ev {i : Int} (h1 : 1 ≤ i) (h2 : i ≤ 5) (p : Int × Int) : F_is_place [.sh (.int i)] p = .ok (.bl true) [.no] p := by
  simp [fnOf, outsOf, callF, slotsOf, mkSlot, lents, takeBack, views, vals, mVar, mBor, mC, fz, mOp, mUn, mTest, asB, mAnd, mOr, mNot, mAndV, mOrV, mNotV, mIf, mNil, mCons, mLst, mTup, mCB, f1, f2, sSkip, sSeq, sExpr, sRet, sRetN, sBreak, sCont, sNever, sIf, gN, gTs, gLs, gsN, gsC, sAsg, sOwn, sPar, sPar3, sParFE, sParEF, sParFF, argSeq, asL, asT, asS, asI, asV, iL, iT, iS, iR1, iR2, iEn, iZ, hold, noEx, mCall, mMeth, mProp, mMake, fldAt, mFld, putD, sFldSet, mMut, fAppend, fClear0, fRev, fPop, sSetItem, owL, fI, fIc, fNeg, mChain, fIsN, fNotN, fCatS, mOpF, fCat, fRep, fIxL, fIxT, fIxS, mNo, mPart, mSlL, mSlT, mSlS, fLen, fAbs, fInt, fStrI, fAll, fAny, fSum, mCBF, fList, fTuple, mJoin, fFmt, mJs, isiB, fIsi, okRight, mOwnL, mOwnR, mOwn1, onlyStr, mStrO, okLeft, mEqO, mEqO2, onlyNot, mNeO, mCMeth, asSeq, mStar, perm, mMethK, mCallK, mInO, mIdxO, mIdxD, mD0, mLc, wipeS, wipeG, backG, sFor, Mi.allB, fMax2, iEnT, mIxO, mMakeS, mMkLS, mMkL, isCls, mSlSL, mSlST, mCMethK, Mi.allI, fMax, F_is_place, m_is_place, h1, h2]
theorem item_ev {ps : List Fr} {i : Nat} {a : Fr} (h : ps[i]? = some a) (hi : i < 5) (p : Int × Int) : F_Table_getitem [.sh (tabP ps), .sh (.int ((i : Int) + 1))] p = .ok (ratO a) [.no, .no] p := by
  have e := place_ev (i := (i : Int) + 1) (by omega) (by omega) p
  have e2 := atI_map ratO ps i a h
  have e3 : (i : Int) + 1 - 1 = i := by omega
  simp [fnOf, outsOf, callF, slotsOf, mkSlot, lents, takeBack, views, vals, mVar, mBor, mC, fz, mOp, mUn, mTest, asB, mAnd, mOr, mNot, mAndV, mOrV, mNotV, mIf, mNil, mCons, mLst, mTup, mCB, f1, f2, sSkip, sSeq, sExpr, sRet, sRetN, sBreak, sCont, sNever, sIf, gN, gTs, gLs, gsN, gsC, sAsg, sOwn, sPar, sPar3, sParFE, sParEF, sParFF, argSeq, asL, asT, asS, asI, asV, iL, iT, iS, iR1, iR2, iEn, iZ, hold, noEx, mCall, mMeth, mProp, mMake, fldAt, mFld, putD, sFldSet, mMut, fAppend, fClear0, fRev, fPop, sSetItem, owL, fI, fIc, fNeg, mChain, fIsN, fNotN, fCatS, mOpF, fCat, fRep, fIxL, fIxT, fIxS, mNo, mPart, mSlL, mSlT, mSlS, fLen, fAbs, fInt, fStrI, fAll, fAny, fSum, mCBF, fList, fTuple, mJoin, fFmt, mJs, isiB, fIsi, okRight, mOwnL, mOwnR, mOwn1, onlyStr, mStrO, okLeft, mEqO, mEqO2, onlyNot, mNeO, mCMeth, asSeq, mStar, perm, mMethK, mCallK, mInO, mIdxO, mIdxD, mD0, mLc, wipeS, wipeG, backG, sFor, Mi.allB, fMax2, iEnT, mIxO, mMakeS, mMkLS, mMkL, isCls, mSlSL, mSlST, mCMethK, Mi.allI, fMax, F_Table_getitem, m_Table_getitem, tabP, tabD, e, e2, e3]
def dif5 : List Fr → List Fr
  | [a, b, c, d, e] => [M.minus a b, M.minus b c, M.minus c d, M.minus d e, M.minus e (0, 1)]
  | _ => []
theorem steps_ev {a b c d e : Fr} (h : ∀ x ∈ [a, b, c, d, e], M.Red x ∧ M.Sz 3000 x) (p : Int × Int) : F_Table_steps [.sh (tabP [a, b, c, d, e])] p = .ok (.lst ((dif5 [a, b, c, d, e]).map ratO)) [.no] p := by
  have e0 := rat0 p
  have sb : ∀ x y : Fr, (M.Red x ∧ M.Sz 3000 x) → (M.Red y ∧ M.Sz 3000 y) → F_Ratio_sub [.sh (ratD x.1 x.2), .sh (ratD y.1 y.2)] p = .ok (ratD (M.minus x y).1 (M.minus x y).2) [.no, .no] p := fun x y hx hy => num_sub (.inl rfl) hx.1 hy.1 hx.2 hy.2 p
  have z : M.Red ((0, 1) : Fr) ∧ M.Sz 3000 ((0, 1) : Fr) := ⟨M.red_01, by decide, by decide⟩
  have s1 := sb a b (h _ (by simp)) (h _ (by simp))
  have s2 := sb b c (h _ (by simp)) (h _ (by simp))
  have s3 := sb c d (h _ (by simp)) (h _ (by simp))
  have s4 := sb d e (h _ (by simp)) (h _ (by simp))
  have s5 := sb e (0, 1) (h _ (by simp)) z
  simp only [ratD] at e0 s1 s2 s3 s4 s5
  simp [fnOf, outsOf, callF, slotsOf, mkSlot, lents, takeBack, views, vals, mVar, mBor, mC, fz, mOp, mUn, mTest, asB, mAnd, mOr, mNot, mAndV, mOrV, mNotV, mIf, mNil, mCons, mLst, mTup, mCB, f1, f2, sSkip, sSeq, sExpr, sRet, sRetN, sBreak, sCont, sNever, sIf, gN, gTs, gLs, gsN, gsC, sAsg, sOwn, sPar, sPar3, sParFE, sParEF, sParFF, argSeq, asL, asT, asS, asI, asV, iL, iT, iS, iR1, iR2, iEn, iZ, hold, noEx, mCall, mMeth, mProp, mMake, fldAt, mFld, putD, sFldSet, mMut, fAppend, fClear0, fRev, fPop, sSetItem, owL, fI, fIc, fNeg, mChain, fIsN, fNotN, fCatS, mOpF, fCat, fRep, fIxL, fIxT, fIxS, mNo, mPart, mSlL, mSlT, mSlS, fLen, fAbs, fInt, fStrI, fAll, fAny, fSum, mCBF, fList, fTuple, mJoin, fFmt, mJs, isiB, fIsi, okRight, mOwnL, mOwnR, mOwn1, onlyStr, mStrO, okLeft, mEqO, mEqO2, onlyNot, mNeO, mCMeth, asSeq, mStar, perm, mMethK, mCallK, mInO, mIdxO, mIdxD, mD0, mLc, wipeS, wipeG, backG, sFor, Mi.allB, fMax2, iEnT, mIxO, mMakeS, mMkLS, mMkL, isCls, mSlSL, mSlST, mCMethK, Mi.allI, fMax, F_Table_steps, m_Table_steps, tabP, tabD, ratO, ratD, Mi.cutD, HT.sIx, zipItems, lcGo, t1_Table_steps, e1_Table_steps, e0, s1, s2, s3, s4, s5, dif5]
theorem zipR_rat : ∀ {ps qs : List Fr}, ps.length = qs.length → (zipR eqR_Ratio (ps.map ratO) (qs.map ratO)).map (fun cs => cs.all id) = some (decide (ps = qs))
  | [], [], _ => by simp [zipR]
  | [], _ :: _, h => by simp at h
  | _ :: _, [], h => by simp at h
  | a :: ps, b :: qs, h => by
    have ih := zipR_rat (ps := ps) (qs := qs) (by simpa using h)
    cases e : zipR eqR_Ratio (ps.map ratO) (qs.map ratO) with
    | none => rw [e] at ih; simp at ih
    | some cs =>
      rw [e] at ih
      simp at ih
      simp [zipR, eqR_Ratio, ratO, ratD, Prod.ext_iff]
      exact ⟨cs, e, by rw [ih]⟩
theorem teq_ev {ps qs : List Fr} (h : ps.length = qs.length) (p : Int × Int) : F_Table_eq [.sh (tabP ps), .sh (tabP qs)] p = .ok (.bl (decide (ps = qs))) [.no, .no] p := by
  have e := zipR_rat h
  cases e1 : zipR eqR_Ratio (ps.map ratO) (qs.map ratO) with
  | none => rw [e1] at e; simp at e
  | some cs =>
    rw [e1] at e
    simp at e
    simp [fnOf, outsOf, callF, slotsOf, mkSlot, lents, takeBack, views, vals, mVar, mBor, mC, fz, mOp, mUn, mTest, asB, mAnd, mOr, mNot, mAndV, mOrV, mNotV, mIf, mNil, mCons, mLst, mTup, mCB, f1, f2, sSkip, sSeq, sExpr, sRet, sRetN, sBreak, sCont, sNever, sIf, gN, gTs, gLs, gsN, gsC, sAsg, sOwn, sPar, sPar3, sParFE, sParEF, sParFF, argSeq, asL, asT, asS, asI, asV, iL, iT, iS, iR1, iR2, iEn, iZ, hold, noEx, mCall, mMeth, mProp, mMake, fldAt, mFld, putD, sFldSet, mMut, fAppend, fClear0, fRev, fPop, sSetItem, owL, fI, fIc, fNeg, mChain, fIsN, fNotN, fCatS, mOpF, fCat, fRep, fIxL, fIxT, fIxS, mNo, mPart, mSlL, mSlT, mSlS, fLen, fAbs, fInt, fStrI, fAll, fAny, fSum, mCBF, fList, fTuple, mJoin, fFmt, mJs, isiB, fIsi, okRight, mOwnL, mOwnR, mOwn1, onlyStr, mStrO, okLeft, mEqO, mEqO2, onlyNot, mNeO, mCMeth, asSeq, mStar, perm, mMethK, mCallK, mInO, mIdxO, mIdxD, mD0, mLc, wipeS, wipeG, backG, sFor, Mi.allB, fMax2, iEnT, mIxO, mMakeS, mMkLS, mMkL, isCls, mSlSL, mSlST, mCMethK, Mi.allI, fMax, F_Table_eq, m_Table_eq, tabP, tabD, fEqL, h, e1, e]

/-! ### texts of tables -/
def shown (a : Fr) : Str := rrep a.1 a.2
theorem shown_len {a : Fr} {n : Nat} (h : M.Sz n a) (h0 : 0 < n := by decide) : (shown a).length ≤ 2 * n + 11 := by
  have n1 := itx_len h.1 h0
  have n2 := itx_len h.2 h0
  unfold shown rrep
  rw [Str.length_append, Str.length_append, Str.length_append, Str.length_append, Str.length_append, emp_len, c_ratio, c_comma, c_par]
  omega
theorem sum_le {ps : List Fr} {B : Nat} (h : ∀ a ∈ ps, (shown a).length ≤ B) : ((ps.map shown).map (·.length)).sum ≤ ps.length * B := by
  induction ps with
  | nil => simp
  | cons a ps ih =>
    have h1 := h a (by simp)
    have h2 := ih fun b hb => h b (by simp [hb])
    rw [List.map_cons, List.map_cons, List.sum_cons, List.length_cons, Nat.add_mul]
    omega
def rowT (ps : List Fr) : Str := Txt.join ", " (ps.map shown)
theorem rowT_len {ps : List Fr} (hl : ps.length ≤ 5) (h : ∀ a ∈ ps, M.Sz 1900 a) : (rowT ps).length ≤ 20000 ∧ ((ps.map shown).map (·.length)).sum + (ps.map shown).length * (", " : Str).length ≤ 16777216 := by
  have h1 := sum_le (ps := ps) (B := 3811) fun a ha => shown_len (h a ha)
  have h2 := StrLaws.join_length_le ", " (ps.map shown)
  have h3 : ps.length * 3811 ≤ 5 * 3811 := Nat.mul_le_mul_right _ hl
  rw [List.length_map, c_comma] at h2 ⊢
  unfold rowT
  rw [Txt.join, StrLaws.glued_eq_join]
  omega
theorem allS_map {α : Type} (f : α → Str) : ∀ ps : List α, allS (ps.map fun a => .str (f a)) = some (ps.map f)
  | [] => rfl
  | a :: ps => by simp [allS, allS_map f ps]
theorem cut_take {α : Type} (xs : List α) (k : Nat) : Mi.cutD xs none (some (k : Int)) = xs.take k := by
  unfold Mi.cutD
  rw [HT.sIx_nat, HT.sIx_none, List.drop_zero, Nat.sub_zero]
  rcases Nat.le_total k xs.length with h | h
  · rw [Nat.min_eq_left h]
  · rw [Nat.min_eq_right h, List.take_length, List.take_of_length_le h]
def trep (ps : List Fr) : Str := Str.empty ++ "Table(" ++ rowT (ps.take (paidN ps)) ++ ")"
theorem c_table : ("Table(" : Str).length = 6 := by decide +kernel
theorem trep_ev {ps : List Fr} (hl : ps.length ≤ 5) (h : ∀ a ∈ ps, M.Sz 1900 a) (p : Int × Int) : F_Table_repr [.sh (tabP ps)] p = .ok (.str (trep ps)) [.no] p := by
  have e1 : lcGo [] t1_Table_repr (fun s => .ok (true, s)) e1_Table_repr [2] ((ps.take (paidN ps)).map ratO) ⟨[.sh (tabP ps), .no, .no], p⟩ [] = .ok ((ps.take (paidN ps)).map (fun a => .str (shown a)), ⟨[.sh (tabP ps), .no, .no], p⟩) := by
    refine lc_mapp ratO (fun a => .str (shown a)) (by simp [hold]) (fun a ha => ?_) (by rw [List.length_take]; omega)
    have e := rep_ev (h a (List.mem_of_mem_take ha)).1 (h a (List.mem_of_mem_take ha)).2 p
    simp only [ratD] at e
    simp [fnOf, outsOf, callF, slotsOf, mkSlot, lents, takeBack, views, vals, mVar, mBor, mC, fz, mOp, mUn, mTest, asB, mAnd, mOr, mNot, mAndV, mOrV, mNotV, mIf, mNil, mCons, mLst, mTup, mCB, f1, f2, sSkip, sSeq, sExpr, sRet, sRetN, sBreak, sCont, sNever, sIf, gN, gTs, gLs, gsN, gsC, sAsg, sOwn, sPar, sPar3, sParFE, sParEF, sParFF, argSeq, asL, asT, asS, asI, asV, iL, iT, iS, iR1, iR2, iEn, iZ, hold, noEx, mCall, mMeth, mProp, mMake, fldAt, mFld, putD, sFldSet, mMut, fAppend, fClear0, fRev, fPop, sSetItem, owL, fI, fIc, fNeg, mChain, fIsN, fNotN, fCatS, mOpF, fCat, fRep, fIxL, fIxT, fIxS, mNo, mPart, mSlL, mSlT, mSlS, fLen, fAbs, fInt, fStrI, fAll, fAny, fSum, mCBF, fList, fTuple, mJoin, fFmt, mJs, isiB, fIsi, okRight, mOwnL, mOwnR, mOwn1, onlyStr, mStrO, okLeft, mEqO, mEqO2, onlyNot, mNeO, mCMeth, asSeq, mStar, perm, mMethK, mCallK, mInO, mIdxO, mIdxD, mD0, mLc, wipeS, wipeG, backG, sFor, Mi.allB, fMax2, iEnT, mIxO, mMakeS, mMkLS, mMkL, isCls, mSlSL, mSlST, mCMethK, Mi.allI, fMax, stepLc, t1_Table_repr, e1_Table_repr, ratO, ratD, e, shown]
  have hk : (ps.take (paidN ps)).length ≤ 5 := by rw [List.length_take]; omega
  obtain ⟨z1, z2⟩ := rowT_len hk fun a ha => h a (List.mem_of_mem_take ha)
  have e2 := paid_ev hl p
  have e3 : Mi.cutD (ps.map ratO) none (some (paidN ps : Int)) = (ps.take (paidN ps)).map ratO := by rw [cut_map, cut_take]
  have e4 := allS_map shown (ps.take (paidN ps))
  have e5 : Txt.join ", " ((ps.take (paidN ps)).map shown) = rowT (ps.take (paidN ps)) := rfl
  unfold trep
  generalize (ps.take (paidN ps)) = qs at *
  generalize he : qs.map shown = ts at *
  have y0 : (Str.empty ++ "Table(" : Str).length ≤ 100000 := by rw [Str.length_append, emp_len, c_table]; decide
  have y1 : (Str.empty ++ "Table(" ++ rowT qs : Str).length ≤ 100000 := by rw [Str.length_append, Str.length_append, emp_len, c_table]; omega
  have y2 : (Str.empty ++ "Table(" ++ rowT qs ++ ")" : Str).length ≤ 100000 := by rw [Str.length_append, Str.length_append, Str.length_append, emp_len, c_table, c_par]; omega
  have y3 : (rowT qs).length ≤ 100000 := by omega
  simp only [tabP, tabD] at e1 e2
  simp [fnOf, outsOf, callF, slotsOf, mkSlot, lents, takeBack, views, vals, mVar, mBor, mC, fz, mOp, mUn, mTest, asB, mAnd, mOr, mNot, mAndV, mOrV, mNotV, mIf, mNil, mCons, mLst, mTup, mCB, f1, f2, sSkip, sSeq, sExpr, sRet, sRetN, sBreak, sCont, sNever, sIf, gN, gTs, gLs, gsN, gsC, sAsg, sOwn, sPar, sPar3, sParFE, sParEF, sParFF, argSeq, asL, asT, asS, asI, asV, iL, iT, iS, iR1, iR2, iEn, iZ, hold, noEx, mCall, mMeth, mProp, mMake, fldAt, mFld, putD, sFldSet, mMut, fAppend, fClear0, fRev, fPop, sSetItem, owL, fI, fIc, fNeg, mChain, fIsN, fNotN, fCatS, mOpF, fCat, fRep, fIxL, fIxT, fIxS, mNo, mPart, mSlL, mSlT, mSlS, fLen, fAbs, fInt, fStrI, fAll, fAny, fSum, mCBF, fList, fTuple, mJoin, fFmt, mJs, isiB, fIsi, okRight, mOwnL, mOwnR, mOwn1, onlyStr, mStrO, okLeft, mEqO, mEqO2, onlyNot, mNeO, mCMeth, asSeq, mStar, perm, mMethK, mCallK, mInO, mIdxO, mIdxD, mD0, mLc, wipeS, wipeG, backG, sFor, Mi.allB, fMax2, iEnT, mIxO, mMakeS, mMkLS, mMkL, isCls, mSlSL, mSlST, mCMethK, Mi.allI, fMax, F_Table_repr, m_Table_repr, tabP, tabD, e1, e2, e3, e4, e5, z2, y0, y1, y2, y3]

/-- how own objects are shown -/
def RpOk (d : D) (t : Str) : Prop := (∃ a : Fr, d = ratO a ∧ M.Sz 1900 a ∧ t = shown a) ∨ ∃ ps : List Fr, d = tabP ps ∧ ps.length ≤ 5 ∧ (∀ a ∈ ps, M.Sz 1900 a) ∧ t = trep ps
open Classical in
noncomputable def rpR (d : D) : Option Str := if h : ∃ t, RpOk d t then some (choose h) else none
theorem rpR_get {d : D} {t : Str} (h : rpR d = some t) : RpOk d t := by
  unfold rpR at h
  split at h
  · rename_i h1
    cases h
    exact Classical.choose_spec h1
  · cases h
theorem ratO_inj {a b : Fr} (h : ratO a = ratO b) : a = b := by
  simp [ratO, ratD] at h
  exact Prod.ext h.1 h.2
theorem ratOs_inj : ∀ {ps qs : List Fr}, ps.map ratO = qs.map ratO → ps = qs
  | [], [], _ => rfl
  | [], _ :: _, h => by simp at h
  | _ :: _, [], h => by simp at h
  | a :: ps, b :: qs, h => by
    simp only [List.map_cons, List.cons.injEq] at h
    rw [ratO_inj h.1, ratOs_inj h.2]
theorem rp_uniq {d : D} {t t' : Str} (h : RpOk d t) (h' : RpOk d t') : t = t' := by
  rcases h with ⟨a, rfl, _, rfl⟩ | ⟨ps, rfl, _, _, rfl⟩
  · rcases h' with ⟨b, e, _, rfl⟩ | ⟨ps, e, _, _, rfl⟩
    · rw [ratO_inj e]
    · simp [ratO, ratD, tabP, tabD] at e
  · rcases h' with ⟨b, e, _, rfl⟩ | ⟨qs, e, _, _, rfl⟩
    · simp [ratO, ratD, tabP, tabD] at e
    · simp [tabP, tabD] at e
      rw [ratOs_inj e]
theorem rpR_of {d : D} {t : Str} (h : RpOk d t) : rpR d = some t := by
  unfold rpR
  rw [dif_pos ⟨t, h⟩]
  exact congrArg some (rp_uniq (Classical.choose_spec (p := fun t => RpOk d t) ⟨t, h⟩) h)
theorem plains_rat : ∀ ps : List Fr, Mi.plains clss (ps.map ratO) = true
  | [] => rfl
  | a :: ps => by simp [Mi.plains, Mi.plain, ratO, ratD, plains_rat ps]
theorem rp_get {d : D} {t : Str} (h : rpR d = some t) : ((asObj c_Ratio d).isSome = true ∧ Mi.plain clss d = true ∧ ∀ p, F_Ratio_repr [.sh d] p = .ok (.str t) [.no] p) ∨ ((asObj c_Table d).isSome = true ∧ Mi.plain clss d = true ∧ ∀ p, F_Table_repr [.sh d] p = .ok (.str t) [.no] p) := by
  rcases rpR_get h with ⟨a, rfl, ha, rfl⟩ | ⟨ps, rfl, hl, ha, rfl⟩
  · exact .inl ⟨by simp [asObj, ratO, ratD], by simp [Mi.plain, Mi.plains, ratO, ratD], fun p => rep_ev ha.1 ha.2 p⟩
  · exact .inr ⟨by simp [asObj, tabP, tabD], by simp [Mi.plain, Mi.plains, tabP, tabD, plains_rat], fun p => trep_ev hl ha p⟩
theorem items_rat : ∀ {ps : List Fr}, (∀ a ∈ ps, M.Sz 1900 a) → textsT rpR (ps.map ratO) = some (ps.map shown)
  | [], _ => rfl
  | a :: ps, h => by
    have e : rpR (ratO a) = some (shown a) := rpR_of (.inl ⟨a, rfl, h a (by simp), rfl⟩)
    have e2 : itemT rpR (ratO a) = some (shown a) := e
    simp [textsT, e2, items_rat (ps := ps) fun b hb => h b (by simp [hb])]
theorem reprs_ev {ps : List Fr} (hl : ps.length ≤ 5) (h0 : ps ≠ []) (h : ∀ a ∈ ps, M.Sz 1900 a) : fReprO rpR (.lst (ps.map ratO)) = some (.str ("[" ++ rowT ps ++ "]")) := by
  have e : listText (ps.map shown) = "[" ++ rowT ps ++ "]" := by
    rw [listText_eq_join, rowT, Txt.join, StrLaws.glued_eq_join]
  have z := (rowT_len hl h).1
  have z2 : ("[" ++ rowT ps ++ "]" : Str).length ≤ 100000 := by
    rw [Str.length_append, Str.length_append, show ("[" : Str).length = 1 by decide +kernel, show ("]" : Str).length = 1 by decide +kernel]
    omega
  simp [fReprO, h0, items_rat h, e, z2]

theorem reprC {X : Cx} (T : Txt X.K X.mg) : ReprC X clss 5 rpR where
  get := fun d t h => by
    rcases rp_get h with ⟨h1, h2, h3⟩ | ⟨h1, h2, h3⟩
    · exact ⟨c_Ratio, F_Ratio_repr, _, T.a_Ratio_repr, T.i_Ratio_repr, (ok_Ratio_repr T).mono (by decide), h1, h2, h3⟩
    · exact ⟨c_Table, F_Table_repr, _, T.a_Table_repr, T.i_Table_repr, (ok_Table_repr T).mono (by decide), h1, h2, h3⟩
theorem reprO_ok {X : Cx} (T : Txt X.K X.mg) (hg : X.A.guards = some []) (hr : Room 8 X.A) : CallR X (.builtin "repr") (Z.rReprL (DrO X.K rpR)) := Z.call_reprL mon_DrO (rpB_DrO (reprC T)) hr hg
/-! ### sums of steps -/
def tot : List Fr → Fr
  | [] => (0, 1)
  | s :: ss => M.plus (tot ss) s
def sufs : List Fr → List Fr
  | [] => []
  | s :: ss => tot (s :: ss) :: sufs ss
theorem sufs_len : ∀ as : List Fr, (sufs as).length = as.length
  | [] => rfl
  | a :: as => by simp [sufs, sufs_len as]
theorem sufs_get : ∀ {as : List Fr} {j : Nat} {x : Fr}, (sufs as)[j]? = some x → x = tot (as.drop j)
  | [], j, x, h => by simp [sufs] at h
  | a :: as, 0, x, h => by simp [sufs] at h; simp [h]
  | a :: as, j + 1, x, h => by simp [sufs] at h; simpa using sufs_get h
theorem sufs_mem {as : List Fr} {x : Fr} (h : x ∈ sufs as) : ∃ j, x = tot (as.drop j) := by
  obtain ⟨j, hj⟩ := List.mem_iff_getElem?.mp h
  exact ⟨j, sufs_get hj⟩
structure Stp (m : Nat) (as : List Fr) : Prop where
  red : ∀ a ∈ as, M.Red a
  sz : ∀ a ∈ as, M.Sz m a
  nn : ∀ a ∈ as, 0 ≤ a.1
theorem Stp.tail {m : Nat} {a : Fr} {as : List Fr} (h : Stp m (a :: as)) : Stp m as := ⟨fun b hb => h.red b (by simp [hb]), fun b hb => h.sz b (by simp [hb]), fun b hb => h.nn b (by simp [hb])⟩
theorem Stp.drop {m : Nat} {as : List Fr} (h : Stp m as) (j : Nat) : Stp m (as.drop j) := ⟨fun b hb => h.red b (List.mem_of_mem_drop hb), fun b hb => h.sz b (List.mem_of_mem_drop hb), fun b hb => h.nn b (List.mem_of_mem_drop hb)⟩
theorem Stp.take {m : Nat} {as : List Fr} (h : Stp m as) (j : Nat) : Stp m (as.take j) := ⟨fun b hb => h.red b (List.mem_of_mem_take hb), fun b hb => h.sz b (List.mem_of_mem_take hb), fun b hb => h.nn b (List.mem_of_mem_take hb)⟩
theorem tot_red {m : Nat} : ∀ {as : List Fr}, Stp m as → M.Red (tot as)
  | [], _ => M.red_01
  | a :: as, h => M.plus_red (tot_red h.tail) (h.red a (by simp))
theorem tot_sz {m : Nat} : ∀ {as : List Fr}, Stp m as → M.Sz ((m + 1) * as.length + 1) (tot as)
  | [], _ => ⟨by simp [tot], by simp [tot]⟩
  | a :: as, h => by
    have z := M.plus_sz (tot_red h.tail) (h.red a (by simp)) (tot_sz h.tail) (h.sz a (by simp))
    refine z.mono ?_
    rw [List.length_cons, Nat.mul_add, Nat.mul_one]
    omega
theorem tot_q {m : Nat} {a : Fr} {as : List Fr} (h : Stp m (a :: as)) : M.q (tot (a :: as)) = M.q (tot as) + M.q a := M.q_plus (tot_red h.tail) (h.red a (by simp))
theorem tot_nn {m : Nat} : ∀ {as : List Fr}, Stp m as → 0 ≤ M.q (tot as)
  | [], _ => by rw [show tot [] = (0, 1) from rfl, M.q_01]; decide
  | a :: as, h => by
    have h1 := tot_nn h.tail
    have h2 := (M.q_nonneg (h.red a (by simp))).mpr (h.nn a (by simp))
    rw [tot_q h]
    grind
theorem tot_pos {m : Nat} : ∀ {as : List Fr}, Stp m as → (∃ a ∈ as, 0 < a.1) → 0 < M.q (tot as)
  | [], _, h => by obtain ⟨a, ha, _⟩ := h; simp at ha
  | b :: as, h, hp => by
    have h1 := tot_nn h.tail
    have h2 := (M.q_nonneg (h.red b (by simp))).mpr (h.nn b (by simp))
    rw [tot_q h]
    obtain ⟨a, ha, hq⟩ := hp
    rcases List.mem_cons.mp ha with rfl | ha
    · have := (M.q_pos (h.red a (by simp))).mpr hq
      grind
    · have := tot_pos h.tail ⟨a, ha, hq⟩
      grind
theorem tot_zero {m : Nat} : ∀ {as : List Fr}, Stp m as → (∀ a ∈ as, a.1 = 0) → tot as = (0, 1)
  | [], _, _ => rfl
  | a :: as, h, hz => by
    have e := tot_zero h.tail fun b hb => hz b (by simp [hb])
    refine (M.q_eq_iff (tot_red h) M.red_01).mp ?_
    rw [tot_q h, e, M.q_01, (M.q_zero (h.red a (by simp))).mpr (hz a (by simp))]
    grind
/-- points that never rise -/
structure FallsF (as : List Fr) : Prop where
  first : ∀ a, as[0]? = some a → 0 < a.1
  next : ∀ (j : Nat) a b, as[j]? = some a → as[j + 1]? = some b → 0 ≤ b.1 ∧ ¬ (a.1 * b.2 < b.1 * a.2)
theorem sufs_falls {m : Nat} {as : List Fr} (h : Stp m as) (hp : ∃ a ∈ as, 0 < a.1) : FallsF (sufs as) where
  first := fun a ha => by
    have e := sufs_get ha
    rw [List.drop_zero] at e
    rw [e]
    exact (M.q_pos (tot_red h)).mp (tot_pos h hp)
  next := fun j a b ha hb => by
    have e1 := sufs_get ha
    have e2 := sufs_get hb
    have hj : j < as.length := by
      have := (List.getElem?_eq_some_iff.mp ha).1
      rwa [sufs_len] at this
    have hd : as.drop j = as[j] :: as.drop (j + 1) := List.drop_eq_getElem_cons hj
    have hs := h.drop j
    rw [hd] at hs e1
    have hm : as[j] ∈ as[j] :: as.drop (j + 1) := List.mem_cons_self
    have n1 := tot_nn hs.tail
    have n2 := (M.q_nonneg (hs.red as[j] hm)).mpr (hs.nn as[j] hm)
    have q1 := tot_q hs
    rw [e1, e2]
    refine ⟨(M.q_nonneg (tot_red hs.tail)).mp n1, fun hc => ?_⟩
    have := (M.q_lt (tot_red hs) (tot_red hs.tail)).mpr hc
    grind
def padF (as : List Fr) : List Fr := as ++ List.replicate (5 - as.length) (0, 1)
abbrev fr2 (qs : List (D × Fr)) : List Fr := qs.map (·.2)
theorem pad_tab (qs : List (D × Fr)) : tabD (pad qs) = tabP (padF (fr2 qs)) := by
  simp [pad, tabP, padF, fr2, ratO, Function.comp_def]
theorem falls_of {qs : List (D × Fr)} (h : FallsF (fr2 qs)) : Falls qs where
  first := fun q hq => h.first q.2 (by simp [fr2, hq])
  next := fun j r q hr hq => h.next j r.2 q.2 (by simp [fr2, hr]) (by simp [fr2, hq])
theorem star_tab {qs : List (D × Fr)} (h : Nums qs) (hf : FallsF (fr2 qs)) (h0 : 1 ≤ qs.length) (hl : qs.length ≤ 5) (p : Int × Int) : starF 1 F_Table_init (.ow (some 0) (.obj c_Table [] []) :: (ds1 qs).map .sh) p = .ok .non (.ow (some 0) (tabP (padF (fr2 qs))) :: List.replicate (ds1 qs).length .no) p := by
  refine star1_ev (by simp [ds1]; omega) ?_
  rw [← pad_tab]
  exact init_tab h (falls_of hf) h0 hl p
theorem cls_tab {qs : List (D × Fr)} (h : Nums qs) (hf : FallsF (fr2 qs)) (h0 : 1 ≤ qs.length) (hl : qs.length ≤ 5) {i : Nat} {g : List Slot} (p : Int × Int) (hg : (g[i]?).bind slotD = some (.lst (ds1 qs))) (hc : g[0]? = some (.sh (.cls c_Table))) : mMkLS c_Table 0 (starF 1 F_Table_init) (mStar (mBor i) mNil) ⟨g, p⟩ = .ok (.val (tabP (padF (fr2 qs))), ⟨g, p⟩) := by
  have e := makeS_ev (c := c_Table) hg (star_tab h hf h0 hl p)
  simp [mMkLS, isCls, hc, e]
/-- integers and ratios as they are told -/
theorem nums_rat {as : List Fr} {m : Nat} (hm : m ≤ 3000) (hr : ∀ a ∈ as, M.Red a) (hs : ∀ a ∈ as, M.Sz m a) : Nums (as.map fun a => (ratO a, a)) := fun q hq => by
  obtain ⟨a, ha, rfl⟩ := List.mem_map.mp hq
  exact ⟨.inl rfl, hr a ha, (hs a ha).mono hm⟩
theorem first_ev {k : Nat} (h0 : 1 ≤ k) (hl : k ≤ 5) (p : Int × Int) : F_Table_first_places [.sh (.cls c_Table), .sh (.int k)] p = .ok (tabP (padF (List.replicate k (1, 1)))) [.no, .no] p := by
  have e1 := place_ev (i := (k : Int)) (by omega) (by omega) p
  have e2 := cls_tab (qs := List.replicate k (.int 1, (1, 1))) (fun q hq => by
    rw [List.eq_of_mem_replicate hq]
    exact ⟨.inr ⟨rfl, rfl⟩, M.red_int 1, by decide, by decide⟩) ⟨fun a ha => by
      have := List.mem_of_getElem? ha
      rw [fr2, List.map_replicate] at this
      rw [List.eq_of_mem_replicate this]; decide, fun j a b ha hb => by
      have h1 := List.mem_of_getElem? ha
      have h2 := List.mem_of_getElem? hb
      rw [fr2, List.map_replicate] at h1 h2
      rw [List.eq_of_mem_replicate h1, List.eq_of_mem_replicate h2]; decide⟩ (by simpa using h0) (by simpa using hl) (i := 2) (g := [.sh (.cls c_Table), .sh (.int k), .sh (.lst (List.replicate k (.int 1)))]) p (by simp [ds1]) rfl
  have k1 : (-1000000 : Int) ≤ (k : Int) := by omega
  have k2 : (k : Int) ≤ 1000000 := by omega
  have k3 : k ≤ 100000 := by omega
  simp only [fr2, List.map_replicate] at e2
  simp [fnOf, outsOf, callF, slotsOf, mkSlot, lents, takeBack, views, vals, mVar, mBor, mC, fz, mOp, mUn, mTest, asB, mAnd, mOr, mNot, mAndV, mOrV, mNotV, mIf, mNil, mCons, mLst, mTup, mCB, f1, f2, sSkip, sSeq, sExpr, sRet, sRetN, sBreak, sCont, sNever, sIf, gN, gTs, gLs, gsN, gsC, sAsg, sOwn, sPar, sPar3, sParFE, sParEF, sParFF, argSeq, asL, asT, asS, asI, asV, iL, iT, iS, iR1, iR2, iEn, iZ, hold, noEx, mCall, mMeth, mProp, mMake, fldAt, mFld, putD, sFldSet, mMut, fAppend, fClear0, fRev, fPop, sSetItem, owL, fI, fIc, fNeg, mChain, fIsN, fNotN, fCatS, mOpF, fCat, fRep, fIxL, fIxT, fIxS, mNo, mPart, mSlL, mSlT, mSlS, fLen, fAbs, fInt, fStrI, fAll, fAny, fSum, mCBF, fList, fTuple, mJoin, fFmt, mJs, isiB, fIsi, okRight, mOwnL, mOwnR, mOwn1, onlyStr, mStrO, okLeft, mEqO, mEqO2, onlyNot, mNeO, mCMeth, asSeq, mStar, perm, mMethK, mCallK, mInO, mIdxO, mIdxD, mD0, mLc, wipeS, wipeG, backG, sFor, Mi.allB, fMax2, iEnT, mIxO, mMakeS, mMkL, isCls, mSlSL, mSlST, mCMethK, Mi.allI, fMax, F_Table_first_places, m_Table_first_places, e1, e2, k1, k2, k3, repD]

noncomputable def t1_Table_of_steps : MG := gTs 2 (gsC (gN 2) (gsC (gN 3) (gsN)))
noncomputable def b1_Table_of_steps : MS := sIf (mOr (mNot (mTest (mCall 1 F_is_number (mCons (mBor 3) (mNil))))) (mTest (mOp fLt (mProp c_Ratio F_Ratio_sign (mCall 1 F_as_ratio (mCons (mBor 3) (mNil)))) (mC (.int 0))))) (sNever) (sSkip)
noncomputable def t2_Table_of_steps : MG := gN 3
noncomputable def e1_Table_of_steps : ME := mOp fEqS (mProp c_Ratio F_Ratio_sign (mCall 1 F_as_ratio (mCons (mBor 3) (mNil)))) (mC (.int 0))
noncomputable def b2_Table_of_steps : MS := sSeq (sAsg (mOwnL c_Ratio F_Ratio_add (mBor 5) (mBor 3)) (gN 5)) (sAsg (fz (mOpF fCat (fz (mLst (mCons (mVar 5) (mNil)))) (mBor 4))) (gN 4))
noncomputable def m_Table_of_steps : MS := sSeq (sExpr (mCall 1 F_want_few (mCons (mBor 1) (mNil)))) (sSeq (sFor [2, 3] (iEnT (mCons (mBor 1) (mNil))) t1_Table_of_steps b1_Table_of_steps) (sSeq (sIf (mTest (mCB (f1 fAll) (mCons (fz (mLc (iT (mBor 1)) t2_Table_of_steps (fun s => .ok (true, s)) e1_Table_of_steps [3])) (mNil)))) (sNever) (sSkip)) (sSeq (sPar 4 5 (mCons (fz (mLst (mNil))) (mCons (mMake c_Ratio 2 (dfltF 1 F_Ratio_init) (mCons (mC (.int 0)) (mNil))) (mNil)))) (sSeq (sFor [3, 5, 4] (iT (mSlST (mBor 1) mNo mNo (mPart (mUn fNeg (mC (.int 1)))))) t2_Table_of_steps b2_Table_of_steps) (sRet (mMkLS c_Table 0 (starF 1 F_Table_init) (mStar (mBor 4) mNil)))))))
noncomputable def F_Table_of_steps : Fn := fnOf 6 m_Table_of_steps
theorem ok_Table_of_steps_s {P : Program} {w : World} {K : PySem.W.Frag} {mg : Str → Option Value} {base : Heap} (T : Txt K mg) : FnR P w K mg base (L2.CX P w) 9 (He5.wf K (He.ga K "Table") "classmethod" "of_steps") (fun vs H Q E => ∃ ws rest, vs = ws ++ rest ∧ ws.length = 1 ∧ rest.length ≤ sizeLine ∧ ∀ p, H p = Option.none → spM K 2 F_Table_of_steps (ws ++ [V.ref p]) (upd H p (.tup rest)) Q E) := by
  obtain ⟨fd, F⟩ := T.d_Table_of_steps
  refine Z.fnstar (ps := ["cls"]) (pv := "steps") F sc_Table_of_steps (fun kV doc pm an cdv ct us rest hl => StX.bind_star1 (B := fun l => bindArgs (PySem.W.fnOf "of_steps" "Table.of_steps" (defArgs s_Table_of_steps) (defBody s_Table_of_steps) (defScope s_Table_of_steps) .none kV doc pm an cdv ct) ⟨l, []⟩) (fun _ => rfl) (fun _ _ _ => rfl) us rest hl) (fun cdv A outer s H vs Q E hr h => ?_)
  exact ⟨_, pss_cons (ps_expr (Z.pe_cl (E := E) (ok_want_few T) (hr.mono (by decide)) T.g_want_few T.k_want_few (passes_call (W := fun c d _ H => E c d H) (takes_of rfl rfl rfl rfl) fun _ _ _ _ h => h) (pa_cons (pv 1) (pa_nil)))) (pss_cons (ps_for (passes_of rfl) rfl (Z.pi_enumT (K := K) rfl (by rfl) T.f_enumerate (pa_cons (pv 1) (pa_nil))) (Z.pgTupK (K := K) rfl rfl (pgs_cons (pg_name (i := 2) sc_Table_of_steps.nd rfl (Or.inl rfl)) (pgs_cons (pg_name (i := 3) sc_Table_of_steps.nd rfl (Or.inl rfl)) (pgs_nil)))) (pss_one (ps_if (PW.pt (pw_or (pt_not (pt_val (Z.pe_cl (E := E) (ok_is_number T) (hr.mono (by decide)) T.g_is_number T.k_is_number (passes_call (W := fun c d _ H => E c d H) (takes_of rfl rfl rfl rfl) fun _ _ _ _ h => h) (pa_cons (pv 3) (pa_nil))))) (pw_or1 (pt_cmpR op_lt (Z.pe_propR (Z.pe_cl (E := E) (ok_as_ratio T) (hr.mono (by decide)) T.g_as_ratio T.k_as_ratio (passes_call (W := fun c d _ H => E c d H) (takes_of rfl rfl rfl rfl) fun _ _ _ _ h => h) (pa_cons (pv 3) (pa_nil))) T.cl_Ratio T.p_Ratio_sign (ok_Ratio_sign T) (hr.mono (by decide))) (pe_int) (nomark _))))) (pss_one (ps_never)) (pss_nil)))) (pss_cons (ps_if (pt_val (pe_callB (Z.allK (K := K) rfl rfl) (by rfl) T.f_all (by decide +kernel) (pa_cons (pe_lc (own := [("step", 3)]) (g := gName 3) (by rfl) sc_Table_of_steps.nd (Z.piTupK (K := K) rfl (pv 1)) (blkOk_by (own := [("step", 3)]) (N := N_Table_of_steps) (sc := defScope s_Table_of_steps) (by decide +kernel)) (fun _ _ _ _ _ => pg_name (i := 3) sc_Table_of_steps.nd rfl (Or.inl rfl)) (fun _ _ _ _ _ => pts_nil) (fun _ _ _ _ _ => pe_cmpR op_eq (Z.pe_propR (Z.pe_cl (E := E0) (ok_as_ratio T) (hr.mono (by decide)) T.g_as_ratio T.k_as_ratio passL (pa_cons (pv 3) (pa_nil))) T.cl_Ratio T.p_Ratio_sign (ok_Ratio_sign T) (hr.mono (by decide))) (pe_int) (nomark _))) (pa_nil)))) (pss_one (ps_never)) (pss_nil)) (pss_cons (ps_par (i := 4) (j := 5) (by rfl) sc_Table_of_steps.nd rfl rfl (by decide) rfl rfl (pa_cons (pe_lst (pa_nil)) (pa_cons (StX.pe_makeR (E := E) T.mk_Ratio (ok_Ratio_init_d T) (hr.mono (by decide)) rfl T.g_Ratio (passes_call (W := fun c d _ H => E c d H) (takes_of rfl rfl rfl rfl) fun _ _ _ _ h => h) (pa_cons (pe_int) (pa_nil))) (pa_nil))) (by rfl)) (pss_cons (ps_for (passes_of rfl) rfl (Z.piTupK (K := K) rfl (Z.pe_sliceT (K := K) rfl (pv 1) po_none po_none (po_some (pe_un un_neg (pe_int))))) (pg_name (i := 3) sc_Table_of_steps.nd rfl (Or.inl rfl)) (pss_cons (ps_set (i := 5) sc_Table_of_steps.nd rfl (Or.inl rfl) (pe_op (Z.op_ownL (E := E) T.o_Ratio_add (ok_Ratio_add T) (hr.mono (by decide)) (passes_call (W := fun c d _ H => E c d H) (takes_of rfl rfl rfl rfl) fun _ _ _ _ h => h)) (pv 5) (pv 3))) (pss_one (ps_set (i := 4) sc_Table_of_steps.nd rfl (Or.inl rfl) (pe_op op_cat (pe_lst (pa_cons (pv 5) (pa_nil))) (pv 4)))))) (pss_one (ps_ret (Z.pe_mkLS (K := K) (i := 0) (E := E) rfl T.mk_Table (fnr_S fun m => ok_Table_init T (m := m)) (hr.mono (by decide)) (passes_call (W := fun c d _ H => E c d H) (takes_of rfl rfl rfl rfl) fun _ _ _ _ h => h) (pv 4) (pv 0)))))))), body_ok (N := N_Table_of_steps) (snd_seq (snd_expr (snd_call (snd_cons (snd_bor 1) (snd_nil)))) (snd_seq (snd_for (snd_ienT (snd_cons (snd_bor 1) (snd_nil))) (snd_gts (n := 2) (snd_gsc (snd_gn 2) (snd_gsc (snd_gn 3) (snd_gsn)))) (snd_ifS (snd_or (snd_not (snd_tb (snd_call (snd_cons (snd_bor 3) (snd_nil))))) (snd_test (snd_op os_lt (snd_prop (c := c_Ratio) (snd_call (snd_cons (snd_bor 3) (snd_nil)))) (snd_int)))) (snd_never) (snd_skip))) (snd_seq (snd_ifS (snd_tb (snd_cb cs_all (snd_cons (snd_fz (snd_lc (vs := [3]) (snd_it (snd_bor 1)) (snd_gn 3) (snd_yes) (snd_op os_eqS (snd_prop (c := c_Ratio) (snd_call (snd_cons (snd_bor 3) (snd_nil)))) (snd_int)) (by decide))) (snd_nil)))) (snd_never) (snd_skip)) (snd_seq (snd_par 4 5 (snd_cons (snd_fz (snd_lst (snd_nil))) (snd_cons (snd_make (c := c_Ratio) (snd_cons (snd_int) (snd_nil))) (snd_nil)))) (snd_seq (snd_for (snd_it (snd_slST (snd_bor 1) snd_no snd_no (snd_part (snd_un us_neg (snd_int))))) (snd_gn 3) (snd_seq (snd_asg (snd_ownL (c := c_Ratio) T.r_Ratio_add (snd_bor 5) (snd_bor 3)) (snd_gn 5)) (snd_asg (snd_fz (snd_opF of_cat (snd_fz (snd_lst (snd_cons (snd_var 5) (snd_nil)))) (snd_bor 4))) (snd_gn 4)))) (snd_ret (snd_mkLS (c := c_Table) (i := 0) (snd_star (snd_bor 4) snd_nil)))))))) h⟩
theorem ok_Table_of_steps {P : Program} {w : World} {K : PySem.W.Frag} {mg : Str → Option Value} {base : Heap} (T : Txt K mg) {m : Nat} : FnR P w K mg base (L2.CX P w) 9 (He5.wf K (He.ga K "Table") "classmethod" "of_steps") (spM K m (starF 1 F_Table_of_steps)) := (ok_Table_of_steps_s T).imp fun vs H Q E h => star_ok (ps := ["cls"]) rfl h
/-! ### steep tables, tables by steps -/
def pwI (s : Int) : Nat → List Int
  | 0 => [1]
  | n + 1 => s ^ (n + 1) :: pwI s n
theorem pwI_len (s : Int) : ∀ n, (pwI s n).length = n + 1
  | 0 => rfl
  | n + 1 => by simp [pwI, pwI_len s n]
theorem pwI_cons (s : Int) : ∀ n, ∃ t, pwI s n = s ^ n :: t
  | 0 => ⟨[], by simp [pwI]⟩
  | n + 1 => ⟨_, rfl⟩
theorem pwI_get {s : Int} : ∀ {n j : Nat} {x : Int}, (pwI s n)[j]? = some x → j ≤ n ∧ x = s ^ (n - j)
  | 0, 0, x, h => by simp [pwI] at h; simp [h]
  | 0, j + 1, x, h => by simp [pwI] at h
  | n + 1, 0, x, h => by simp [pwI] at h; simp [h]
  | n + 1, j + 1, x, h => by
    simp [pwI] at h
    obtain ⟨h1, h2⟩ := pwI_get h
    exact ⟨by omega, by rw [h2]; congr 1; omega⟩
theorem pw_lt {s : Int} (h : s.natAbs < 2 ^ 100) : ∀ n, (s ^ n).natAbs < 2 ^ (100 * n + 1)
  | 0 => by simp
  | n + 1 => by
    rw [Int.pow_succ]
    have z := M.mul_lt (pw_lt h n) h
    rwa [show 100 * n + 1 + 100 = 100 * (n + 1) + 1 by omega] at z
def pwF (s : Int) (n : Nat) : List Fr := (pwI s n).map fun i => (i, 1)
theorem pwF_sz {s : Int} (h : s.natAbs < 2 ^ 100) {n : Nat} (hn : n ≤ 4) : ∀ a ∈ pwF s n, M.Red a ∧ M.Sz 401 a := fun a ha => by
  obtain ⟨i, hi, rfl⟩ := List.mem_map.mp ha
  obtain ⟨j, hj⟩ := List.mem_iff_getElem?.mp hi
  obtain ⟨h1, rfl⟩ := pwI_get hj
  refine ⟨M.red_int _, ?_, by show (1 : Int).natAbs < 2 ^ 401; decide⟩
  exact Nat.lt_of_lt_of_le (pw_lt h (n - j)) (Nat.pow_le_pow_right (by decide) (by omega))
theorem pwF_falls {s : Int} (h : 1 ≤ s) (n : Nat) : FallsF (pwF s n) := by
  have pos : ∀ m, 0 < s ^ m := fun m => Int.pow_pos (by omega)
  refine ⟨fun a ha => ?_, fun j a b ha hb => ?_⟩
  · simp only [pwF, List.getElem?_map, Option.map_eq_some_iff] at ha
    obtain ⟨x, hx, rfl⟩ := ha
    rw [(pwI_get hx).2]
    exact pos _
  · simp only [pwF, List.getElem?_map, Option.map_eq_some_iff] at ha hb
    obtain ⟨x, hx, rfl⟩ := ha
    obtain ⟨y, hy, rfl⟩ := hb
    obtain ⟨h1, rfl⟩ := pwI_get hx
    obtain ⟨h2, rfl⟩ := pwI_get hy
    have e : n - j = (n - (j + 1)) + 1 := by omega
    have z := pos (n - (j + 1))
    refine ⟨Int.le_of_lt z, ?_⟩
    rw [e, Int.pow_succ]
    simp only [Int.mul_one]
    have : s ^ (n - (j + 1)) * 1 ≤ s ^ (n - (j + 1)) * s := Int.mul_le_mul_of_nonneg_left h (Int.le_of_lt z)
    omega
theorem count_ev {s : Int} (h : 0 ≤ s) (p : Int × Int) : F_is_count [.sh (.int s)] p = .ok (.bl true) [.no] p := by
  simp [fnOf, outsOf, callF, slotsOf, mkSlot, lents, takeBack, views, vals, mVar, mBor, mC, fz, mOp, mUn, mTest, asB, mAnd, mOr, mNot, mAndV, mOrV, mNotV, mIf, mNil, mCons, mLst, mTup, mCB, f1, f2, sSkip, sSeq, sExpr, sRet, sRetN, sBreak, sCont, sNever, sIf, gN, gTs, gLs, gsN, gsC, sAsg, sOwn, sPar, sPar3, sParFE, sParEF, sParFF, argSeq, asL, asT, asS, asI, asV, iL, iT, iS, iR1, iR2, iEn, iZ, hold, noEx, mCall, mMeth, mProp, mMake, fldAt, mFld, putD, sFldSet, mMut, fAppend, fClear0, fRev, fPop, sSetItem, owL, fI, fIc, fNeg, mChain, fIsN, fNotN, fCatS, mOpF, fCat, fRep, fIxL, fIxT, fIxS, mNo, mPart, mSlL, mSlT, mSlS, fLen, fAbs, fInt, fStrI, fAll, fAny, fSum, mCBF, fList, fTuple, mJoin, fFmt, mJs, isiB, fIsi, okRight, mOwnL, mOwnR, mOwn1, onlyStr, mStrO, okLeft, mEqO, mEqO2, onlyNot, mNeO, mCMeth, asSeq, mStar, perm, mMethK, mCallK, mInO, mIdxO, mIdxD, mD0, mLc, wipeS, wipeG, backG, sFor, Mi.allB, fMax2, iEnT, mIxO, mMakeS, mMkLS, mMkL, isCls, mSlSL, mSlST, mCMethK, Mi.allI, fMax, F_is_count, m_is_count, h]
theorem steep_ev {s : Int} (h : 1 ≤ s) (hz : s.natAbs < 2 ^ 100) {n : Nat} (hn : n ≤ 4) (p : Int × Int) : F_Table_steep [.sh (.cls c_Table), .sh (.int s), .sh (.int ((n : Int) + 1))] p = .ok (tabP (padF (pwF s n))) [.no, .no, .no] p := by
  have e1 := place_ev (i := (n : Int) + 1) (by omega) (by omega) p
  have e2 := count_ev (s := s) (by omega) p
  have h0 : ¬ s = 0 := by omega
  have lp : ∃ s', forGo [] t1_Table_steep b1_Table_steep (rangeItems 0 n) ⟨[.sh (.cls c_Table), .sh (.int s), .sh (.int ((n : Int) + 1)), .sh (.lst [.int 1]), .no], p⟩ = .ok (.nx, s') ∧ ∃ j x4, ([] : List D).length + j = n ∧ s' = ⟨[.sh (.cls c_Table), .sh (.int s), .sh (.int ((n : Int) + 1)), .sh (.lst ((pwI s j).map .int)), x4], p⟩ := by
    refine for_ind (fun ds s' => ∃ j x4, ds.length + j = n ∧ s' = ⟨[.sh (.cls c_Table), .sh (.int s), .sh (.int ((n : Int) + 1)), .sh (.lst ((pwI s j).map .int)), x4], p⟩) (fun _ _ _ => by simp [hold]) ?_ ⟨0, .no, by simp [rangeItems], rfl⟩
    rintro d ds s' ⟨j, x4, hj, rfl⟩
    obtain ⟨t, ht⟩ := pwI_cons s j
    have hj2 : j ≤ 4 := by simp at hj; omega
    have c1 : cMul (s ^ j) s = true := cmul_ok (n := 401) (Nat.lt_of_lt_of_le (pw_lt hz j) (Nat.pow_le_pow_right (by decide) (by omega))) hz
    have hl : t.length + 1 = j + 1 := by have := pwI_len s j; rw [ht] at this; simpa using this
    have hl2 : 1 + (t.length + 1) ≤ 100000 := by omega
    refine ⟨⟨[.sh (.cls c_Table), .sh (.int s), .sh (.int ((n : Int) + 1)), .sh (.lst ((pwI s j).map .int)), .sh d], p⟩, ⟨[.sh (.cls c_Table), .sh (.int s), .sh (.int ((n : Int) + 1)), .sh (.lst ((pwI s (j + 1)).map .int)), .sh d], p⟩, rfl, .inl ?_, j + 1, _, by simp at hj; omega, rfl⟩
    rw [pwI, ht]
    simp [fnOf, outsOf, callF, slotsOf, mkSlot, lents, takeBack, views, vals, mVar, mBor, mC, fz, mOp, mUn, mTest, asB, mAnd, mOr, mNot, mAndV, mOrV, mNotV, mIf, mNil, mCons, mLst, mTup, mCB, f1, f2, sSkip, sSeq, sExpr, sRet, sRetN, sBreak, sCont, sNever, sIf, gN, gTs, gLs, gsN, gsC, sAsg, sOwn, sPar, sPar3, sParFE, sParEF, sParFF, argSeq, asL, asT, asS, asI, asV, iL, iT, iS, iR1, iR2, iEn, iZ, hold, noEx, mCall, mMeth, mProp, mMake, fldAt, mFld, putD, sFldSet, mMut, fAppend, fClear0, fRev, fPop, sSetItem, owL, fI, fIc, fNeg, mChain, fIsN, fNotN, fCatS, mOpF, fCat, fRep, fIxL, fIxT, fIxS, mNo, mPart, mSlL, mSlT, mSlS, fLen, fAbs, fInt, fStrI, fAll, fAny, fSum, mCBF, fList, fTuple, mJoin, fFmt, mJs, isiB, fIsi, okRight, mOwnL, mOwnR, mOwn1, onlyStr, mStrO, okLeft, mEqO, mEqO2, onlyNot, mNeO, mCMeth, asSeq, mStar, perm, mMethK, mCallK, mInO, mIdxO, mIdxD, mD0, mLc, wipeS, wipeG, backG, sFor, Mi.allB, fMax2, iEnT, mIxO, mMakeS, mMkLS, mMkL, isCls, mSlSL, mSlST, mCMethK, Mi.allI, fMax, b1_Table_steep, c1, hl2, Int.pow_succ]
    try omega
  obtain ⟨_, e3, j, x4, hj, rfl⟩ := lp
  have hj : j = n := by simpa using hj
  subst hj
  have e4 := cls_tab (qs := (pwI s j).map fun i => (.int i, (i, 1))) (fun q hq => by
    obtain ⟨i, hi, rfl⟩ := List.mem_map.mp hq
    obtain ⟨h1, h2⟩ := pwF_sz hz hn (i, 1) (List.mem_map.mpr ⟨i, hi, rfl⟩)
    exact ⟨.inr ⟨rfl, rfl⟩, h1, h2.mono (by decide)⟩) (by
    rw [show fr2 ((pwI s j).map fun i => (D.int i, ((i, 1) : Fr))) = pwF s j by simp [fr2, pwF, Function.comp_def]]
    exact pwF_falls h j) (by simp [pwI_len]) (by simp [pwI_len]; omega) (i := 3) (g := [.sh (.cls c_Table), .sh (.int s), .sh (.int ((j : Int) + 1)), .sh (.lst ((pwI s j).map .int)), x4]) p (by simp [ds1, Function.comp_def]) rfl
  rw [show fr2 ((pwI s j).map fun i => (D.int i, ((i, 1) : Fr))) = pwF s j by simp [fr2, pwF, Function.comp_def]] at e4
  have k1 : (-1000000 : Int) ≤ (j : Int) := by omega
  have k2 : (j : Int) ≤ 1000000 := by omega
  have k3 : (j : Int) + 1 - 1 = j := by omega
  simp [fnOf, outsOf, callF, slotsOf, mkSlot, lents, takeBack, views, vals, mVar, mBor, mC, fz, mOp, mUn, mTest, asB, mAnd, mOr, mNot, mAndV, mOrV, mNotV, mIf, mNil, mCons, mLst, mTup, mCB, f1, f2, sSkip, sSeq, sExpr, sRet, sRetN, sBreak, sCont, sNever, sIf, gN, gTs, gLs, gsN, gsC, sAsg, sOwn, sPar, sPar3, sParFE, sParEF, sParFF, argSeq, asL, asT, asS, asI, asV, iL, iT, iS, iR1, iR2, iEn, iZ, hold, noEx, mCall, mMeth, mProp, mMake, fldAt, mFld, putD, sFldSet, mMut, fAppend, fClear0, fRev, fPop, sSetItem, owL, fI, fIc, fNeg, mChain, fIsN, fNotN, fCatS, mOpF, fCat, fRep, fIxL, fIxT, fIxS, mNo, mPart, mSlL, mSlT, mSlS, fLen, fAbs, fInt, fStrI, fAll, fAny, fSum, mCBF, fList, fTuple, mJoin, fFmt, mJs, isiB, fIsi, okRight, mOwnL, mOwnR, mOwn1, onlyStr, mStrO, okLeft, mEqO, mEqO2, onlyNot, mNeO, mCMeth, asSeq, mStar, perm, mMethK, mCallK, mInO, mIdxO, mIdxD, mD0, mLc, wipeS, wipeG, backG, sFor, Mi.allB, fMax2, iEnT, mIxO, mMakeS, mMkL, isCls, mSlSL, mSlST, mCMethK, Mi.allI, fMax, F_Table_steep, m_Table_steep, e1, e2, e3, e4, h0, k1, k2, k3]

theorem pick_rev {α : Type} : ∀ {xs : List α}, xs.length ≤ 5 → Z.pickT xs none none (-1) = xs.reverse
  | [], _ => rfl
  | [_], _ => by simp [Z.pickT, Builtin.Slice.sliceAdjust, Builtin.Slice.slicePlaces, List.range_succ]
  | [_, _], _ => by simp [Z.pickT, Builtin.Slice.sliceAdjust, Builtin.Slice.slicePlaces, List.range_succ]
  | [_, _, _], _ => by simp [Z.pickT, Builtin.Slice.sliceAdjust, Builtin.Slice.slicePlaces, List.range_succ]
  | [_, _, _, _], _ => by simp [Z.pickT, Builtin.Slice.sliceAdjust, Builtin.Slice.slicePlaces, List.range_succ]
  | [_, _, _, _, _], _ => by simp [Z.pickT, Builtin.Slice.sliceAdjust, Builtin.Slice.slicePlaces, List.range_succ]
  | _ :: _ :: _ :: _ :: _ :: _ :: _, h => by simp at h
theorem sgn_zero (t : Int) : decide ((if 0 < t then (1 : Int) else 0) - (if t < 0 then 1 else 0) = 0) = decide (t = 0) := by
  by_cases h1 : 0 < t
  · have : ¬ t < 0 := by omega
    have : ¬ t = 0 := by omega
    simp [*]
  · by_cases h2 : t < 0
    · have : ¬ t = 0 := by omega
      simp [*]
    · have : t = 0 := by omega
      simp [*]
theorem ofsteps_ev {qs : List (D × Fr)} {m : Nat} (hm : m ≤ 500) (h : ∀ q ∈ qs, NumOf q.1 q.2) (hs : Stp m (fr2 qs)) (hp : ∃ a ∈ fr2 qs, 0 < a.1) (h0 : 1 ≤ qs.length) (hl : qs.length ≤ 5) (p : Int × Int) : F_Table_of_steps [.sh (.cls c_Table), .sh (.tup (ds1 qs))] p = .ok (tabP (padF (sufs (fr2 qs)))) [.no, .no] p := by
  have mem : ∀ q ∈ qs, M.Red q.2 ∧ M.Sz m q.2 ∧ 0 ≤ q.2.1 := fun q hq => ⟨hs.red q.2 (List.mem_map.mpr ⟨q, hq, rfl⟩), hs.sz q.2 (List.mem_map.mpr ⟨q, hq, rfl⟩), hs.nn q.2 (List.mem_map.mpr ⟨q, hq, rfl⟩)⟩
  have e0 := few_ev (ds := ds1 qs) (by simp [ds1]; omega) (by simp [ds1]; omega) p
  obtain ⟨es, ee, he⟩ := enum_map (fun q : D × Fr => q.1) qs 0
  have lp : ∃ s', forGo [] t1_Table_of_steps b1_Table_of_steps (enumItems 0 (ds1 qs)) ⟨[.sh (.cls c_Table), .sh (.tup (ds1 qs)), .no, .no, .no, .no], p⟩ = .ok (.nx, s') ∧ ∃ x2 x3, s' = ⟨[.sh (.cls c_Table), .sh (.tup (ds1 qs)), x2, x3, .no, .no], p⟩ := by
    rw [ds1, ee]
    refine for_map (fun s => ∃ x2 x3, s = ⟨[.sh (.cls c_Table), .sh (.tup (qs.map (·.1))), x2, x3, .no, .no], p⟩) _ (fun s _ => by simp [hold]) (fun q hq s ⟨x2, x3, e⟩ => ?_) ⟨_, _, rfl⟩
    subst e
    have hq2 : q.2 ∈ qs := List.mem_of_getElem? (he q hq).2
    obtain ⟨m1, m2, m3⟩ := mem q.2 hq2
    have e1 := num_is (h q.2 hq2) p
    have e2 := num_as (h q.2 hq2) (m2.mono (by omega)) p
    have e3 := sign_ev q.2.2.1 q.2.2.2 p
    have z : ¬ q.2.2.1 < 0 := by omega
    have z2 : ¬ ((if 0 < q.2.2.1 then (1 : Int) else 0) < 0) := by split <;> omega
    simp only [ratD] at e2 e3
    exact ⟨⟨[.sh (.cls c_Table), .sh (.tup (qs.map (·.1))), .sh (.int q.1), .sh q.2.1, .no, .no], p⟩, _, by simp [fnOf, outsOf, callF, slotsOf, mkSlot, lents, takeBack, views, vals, mVar, mBor, mC, fz, mOp, mUn, mTest, asB, mAnd, mOr, mNot, mAndV, mOrV, mNotV, mIf, mNil, mCons, mLst, mTup, mCB, f1, f2, sSkip, sSeq, sExpr, sRet, sRetN, sBreak, sCont, sNever, sIf, gN, gTs, gLs, gsN, gsC, sAsg, sOwn, sPar, sPar3, sParFE, sParEF, sParFF, argSeq, asL, asT, asS, asI, asV, iL, iT, iS, iR1, iR2, iEn, iZ, hold, noEx, mCall, mMeth, mProp, mMake, fldAt, mFld, putD, sFldSet, mMut, fAppend, fClear0, fRev, fPop, sSetItem, owL, fI, fIc, fNeg, mChain, fIsN, fNotN, fCatS, mOpF, fCat, fRep, fIxL, fIxT, fIxS, mNo, mPart, mSlL, mSlT, mSlS, fLen, fAbs, fInt, fStrI, fAll, fAny, fSum, mCBF, fList, fTuple, mJoin, fFmt, mJs, isiB, fIsi, okRight, mOwnL, mOwnR, mOwn1, onlyStr, mStrO, okLeft, mEqO, mEqO2, onlyNot, mNeO, mCMeth, asSeq, mStar, perm, mMethK, mCallK, mInO, mIdxO, mIdxD, mD0, mLc, wipeS, wipeG, backG, sFor, Mi.allB, fMax2, iEnT, mIxO, mMakeS, mMkLS, mMkL, isCls, mSlSL, mSlST, mCMethK, Mi.allI, fMax, t1_Table_of_steps], .inl (by simp [fnOf, outsOf, callF, slotsOf, mkSlot, lents, takeBack, views, vals, mVar, mBor, mC, fz, mOp, mUn, mTest, asB, mAnd, mOr, mNot, mAndV, mOrV, mNotV, mIf, mNil, mCons, mLst, mTup, mCB, f1, f2, sSkip, sSeq, sExpr, sRet, sRetN, sBreak, sCont, sNever, sIf, gN, gTs, gLs, gsN, gsC, sAsg, sOwn, sPar, sPar3, sParFE, sParEF, sParFF, argSeq, asL, asT, asS, asI, asV, iL, iT, iS, iR1, iR2, iEn, iZ, hold, noEx, mCall, mMeth, mProp, mMake, fldAt, mFld, putD, sFldSet, mMut, fAppend, fClear0, fRev, fPop, sSetItem, owL, fI, fIc, fNeg, mChain, fIsN, fNotN, fCatS, mOpF, fCat, fRep, fIxL, fIxT, fIxS, mNo, mPart, mSlL, mSlT, mSlS, fLen, fAbs, fInt, fStrI, fAll, fAny, fSum, mCBF, fList, fTuple, mJoin, fFmt, mJs, isiB, fIsi, okRight, mOwnL, mOwnR, mOwn1, onlyStr, mStrO, okLeft, mEqO, mEqO2, onlyNot, mNeO, mCMeth, asSeq, mStar, perm, mMethK, mCallK, mInO, mIdxO, mIdxD, mD0, mLc, wipeS, wipeG, backG, sFor, Mi.allB, fMax2, iEnT, mIxO, mMakeS, mMkLS, mMkL, isCls, mSlSL, mSlST, mCMethK, Mi.allI, fMax, b1_Table_of_steps, e1, e2, e3, z, z2]; exact ⟨rfl, rfl⟩), _, _, rfl⟩
  obtain ⟨_, e1, x2, x3, rfl⟩ := lp
  have e2 : lcGo [] t2_Table_of_steps (fun s => .ok (true, s)) e1_Table_of_steps [3] (ds1 qs) ⟨[.sh (.cls c_Table), .sh (.tup (ds1 qs)), x2, .no, .no, .no], p⟩ [] = .ok (qs.map fun q => .bl (decide (q.2.1 = 0)), ⟨[.sh (.cls c_Table), .sh (.tup (ds1 qs)), x2, .no, .no, .no], p⟩) := by
    refine lc_mapp (fun q : D × Fr => q.1) (fun q => .bl (decide (q.2.1 = 0))) (by simp [hold]) (fun q hq => ?_) (by omega)
    obtain ⟨m1, m2, m3⟩ := mem q hq
    have e2 := num_as (h q hq) (m2.mono (by omega)) p
    have e3 := sign_ev q.2.1 q.2.2 p
    have e4 := sgn_zero q.2.1
    generalize (if 0 < q.2.1 then (1 : Int) else 0) - (if q.2.1 < 0 then 1 else 0) = sg at e3 e4
    simp only [ratD] at e2 e3
    simp [fnOf, outsOf, callF, slotsOf, mkSlot, lents, takeBack, views, vals, mVar, mBor, mC, fz, mOp, mUn, mTest, asB, mAnd, mOr, mNot, mAndV, mOrV, mNotV, mIf, mNil, mCons, mLst, mTup, mCB, f1, f2, sSkip, sSeq, sExpr, sRet, sRetN, sBreak, sCont, sNever, sIf, gN, gTs, gLs, gsN, gsC, sAsg, sOwn, sPar, sPar3, sParFE, sParEF, sParFF, argSeq, asL, asT, asS, asI, asV, iL, iT, iS, iR1, iR2, iEn, iZ, hold, noEx, mCall, mMeth, mProp, mMake, fldAt, mFld, putD, sFldSet, mMut, fAppend, fClear0, fRev, fPop, sSetItem, owL, fI, fIc, fNeg, mChain, fIsN, fNotN, fCatS, mOpF, fCat, fRep, fIxL, fIxT, fIxS, mNo, mPart, mSlL, mSlT, mSlS, fLen, fAbs, fInt, fStrI, fAll, fAny, fSum, mCBF, fList, fTuple, mJoin, fFmt, mJs, isiB, fIsi, okRight, mOwnL, mOwnR, mOwn1, onlyStr, mStrO, okLeft, mEqO, mEqO2, onlyNot, mNeO, mCMeth, asSeq, mStar, perm, mMethK, mCallK, mInO, mIdxO, mIdxD, mD0, mLc, wipeS, wipeG, backG, sFor, Mi.allB, fMax2, iEnT, mIxO, mMakeS, mMkLS, mMkL, isCls, mSlSL, mSlST, mCMethK, Mi.allI, fMax, stepLc, t2_Table_of_steps, e1_Table_of_steps, e2, e3, e4]
  have e3 := allB_bl (fun q : D × Fr => decide (q.2.1 = 0)) qs
  have e4 : (qs.map fun q => decide (q.2.1 = 0)).all id = false := by
    obtain ⟨a, ha, hq⟩ := hp
    obtain ⟨q, hq1, rfl⟩ := List.mem_map.mp ha
    rw [List.all_eq_false]
    exact ⟨_, List.mem_map.mpr ⟨q, hq1, rfl⟩, by simp; omega⟩
  have e5 := rat0 p
  have e6 : Z.pickT (ds1 qs) none none (-1) = qs.reverse.map (·.1) := by rw [pick_rev (by simp [ds1]; omega), ds1, List.map_reverse]
  have k6 : (qs.reverse.map (·.1)).length ≤ 100000 := by simp; omega
  have lp2 : ∀ y3, ∃ s', forGo [] t2_Table_of_steps b2_Table_of_steps (qs.reverse.map (·.1)) ⟨[.sh (.cls c_Table), .sh (.tup (ds1 qs)), x2, y3, .sh (.lst []), .sh (ratD 0 1)], p⟩ = .ok (.nx, s') ∧ ∃ (rs ds : List (D × Fr)) (y3 : Slot), ([] : List D) = rs.map (·.1) ∧ qs = rs.reverse ++ ds ∧ s' = ⟨[.sh (.cls c_Table), .sh (.tup (ds1 qs)), x2, y3, .sh (.lst ((sufs (fr2 ds)).map ratO)), .sh (ratO (tot (fr2 ds)))], p⟩ := by
    intro y3
    refine for_ind (fun items s' => ∃ (rs ds : List (D × Fr)) (y3 : Slot), items = rs.map (·.1) ∧ qs = rs.reverse ++ ds ∧ s' = ⟨[.sh (.cls c_Table), .sh (.tup (ds1 qs)), x2, y3, .sh (.lst ((sufs (fr2 ds)).map ratO)), .sh (ratO (tot (fr2 ds)))], p⟩) (fun _ _ _ => by simp [hold]) ?_ ⟨qs.reverse, [], y3, rfl, by simp, rfl⟩
    rintro d items s' ⟨rs, ds, y3, hr, hq, rfl⟩
    cases rs with
    | nil => simp at hr
    | cons r rs =>
      simp at hr
      obtain ⟨rfl, rfl⟩ := hr
      have hr1 : r ∈ qs := by rw [hq]; simp
      have sub : ∀ b ∈ fr2 ds, b ∈ fr2 qs := fun b hb => by rw [hq, fr2, List.map_append]; exact List.mem_append_right _ hb
      have hd : Stp m (fr2 ds) := ⟨fun b hb => hs.red b (sub b hb), fun b hb => hs.sz b (sub b hb), fun b hb => hs.nn b (sub b hb)⟩
      have hdl : ds.length ≤ 5 := by rw [hq] at hl; simp at hl; omega
      obtain ⟨m1, m2, m3⟩ := mem r hr1
      have tz := tot_sz hd
      have a1 := num_add (h r hr1) (tot_red hd) m1 (tz.mono (by
        have : (m + 1) * (fr2 ds).length ≤ 501 * 5 := Nat.mul_le_mul (by omega) (by simpa [fr2] using hdl)
        omega)) (m2.mono (by omega)) p
      have e : fr2 (r :: ds) = r.2 :: fr2 ds := rfl
      have ok : okRight c_Ratio r.1 = true := by
        rcases h r hr1 with e | ⟨e, _⟩ <;> rw [e] <;> simp [okRight, ratD, blt, asObj]
      have kl : 1 + (sufs (fr2 ds)).length ≤ 100000 := by rw [sufs_len]; simp; omega
      refine ⟨⟨[.sh (.cls c_Table), .sh (.tup (ds1 qs)), x2, .sh r.1, .sh (.lst ((sufs (fr2 ds)).map ratO)), .sh (ratO (tot (fr2 ds)))], p⟩, ⟨[.sh (.cls c_Table), .sh (.tup (ds1 qs)), x2, .sh r.1, .sh (.lst ((sufs (fr2 (r :: ds))).map ratO)), .sh (ratO (tot (fr2 (r :: ds))))], p⟩, rfl, .inl ?_, rs, r :: ds, _, rfl, by rw [hq]; simp, rfl⟩
      rw [e, sufs, tot]
      simp only [ratD] at a1
      simp [fnOf, outsOf, callF, slotsOf, mkSlot, lents, takeBack, views, vals, mVar, mBor, mC, fz, mOp, mUn, mTest, asB, mAnd, mOr, mNot, mAndV, mOrV, mNotV, mIf, mNil, mCons, mLst, mTup, mCB, f1, f2, sSkip, sSeq, sExpr, sRet, sRetN, sBreak, sCont, sNever, sIf, gN, gTs, gLs, gsN, gsC, sAsg, sOwn, sPar, sPar3, sParFE, sParEF, sParFF, argSeq, asL, asT, asS, asI, asV, iL, iT, iS, iR1, iR2, iEn, iZ, hold, noEx, mCall, mMeth, mProp, mMake, fldAt, mFld, putD, sFldSet, mMut, fAppend, fClear0, fRev, fPop, sSetItem, owL, fI, fIc, fNeg, mChain, fIsN, fNotN, fCatS, mOpF, fCat, fRep, fIxL, fIxT, fIxS, mNo, mPart, mSlL, mSlT, mSlS, fLen, fAbs, fInt, fStrI, fAll, fAny, fSum, mCBF, fList, fTuple, mJoin, fFmt, mJs, isiB, fIsi, mOwnL, mOwnR, mOwn1, onlyStr, mStrO, okLeft, mEqO, mEqO2, onlyNot, mNeO, mCMeth, asSeq, mStar, perm, mMethK, mCallK, mInO, mIdxO, mIdxD, mD0, mLc, wipeS, wipeG, backG, sFor, Mi.allB, fMax2, iEnT, mIxO, mMakeS, mMkLS, mMkL, isCls, mSlSL, mSlST, mCMethK, Mi.allI, fMax, b2_Table_of_steps, ratO, ratD, a1, ok, kl]
  have lp3 : ∀ y3, ∃ z3, forGo [] t2_Table_of_steps b2_Table_of_steps (qs.reverse.map (·.1)) ⟨[.sh (.cls c_Table), .sh (.tup (ds1 qs)), x2, y3, .sh (.lst []), .sh (ratD 0 1)], p⟩ = .ok (.nx, ⟨[.sh (.cls c_Table), .sh (.tup (ds1 qs)), x2, z3, .sh (.lst ((sufs (fr2 qs)).map ratO)), .sh (ratO (tot (fr2 qs)))], p⟩) := fun y3 => by
    obtain ⟨_, e7, rs, ds, z3, hr, hq, rfl⟩ := lp2 y3
    have hr : rs = [] := by simpa using hr.symm
    subst hr
    have hq : qs = ds := by simpa using hq
    subst hq
    exact ⟨z3, e7⟩
  have cl := fun z3 => cls_tab (qs := (sufs (fr2 qs)).map fun a => (ratO a, a)) (nums_rat (m := (m + 1) * qs.length + 1) (by
    have : (m + 1) * qs.length ≤ 501 * 5 := Nat.mul_le_mul (by omega) hl
    omega) (fun a ha => by
      obtain ⟨j, rfl⟩ := sufs_mem ha
      exact tot_red (hs.drop j)) (fun a ha => by
      obtain ⟨j, rfl⟩ := sufs_mem ha
      refine (tot_sz (hs.drop j)).mono (Nat.add_le_add_right (Nat.mul_le_mul_left _ ?_) 1)
      simp)) (by
    rw [show fr2 ((sufs (fr2 qs)).map fun a => (ratO a, a)) = sufs (fr2 qs) by simp [fr2, Function.comp_def]]
    exact sufs_falls hs hp) (by simp [sufs_len]; omega) (by simp [sufs_len]; omega) (i := 4) (g := [.sh (.cls c_Table), .sh (.tup (ds1 qs)), x2, z3, .sh (.lst ((sufs (fr2 qs)).map ratO)), .sh (ratO (tot (fr2 qs)))]) p (by simp [ds1, Function.comp_def]) rfl
  rw [show fr2 ((sufs (fr2 qs)).map fun a => (ratO a, a)) = sufs (fr2 qs) by simp [fr2, Function.comp_def]] at cl
  simp only [ratD] at e5 lp3
  clear lp2
  generalize qs.reverse.map (·.1) = its at e6 k6 lp3
  rcases x3 with _ | d3 | ⟨l3, d3⟩
  · obtain ⟨z3, e7⟩ := lp3 .no
    simp [fnOf, outsOf, callF, slotsOf, mkSlot, lents, takeBack, views, vals, mVar, mBor, mC, fz, mOp, mUn, mTest, asB, mAnd, mOr, mNot, mAndV, mOrV, mNotV, mIf, mNil, mCons, mLst, mTup, mCB, f1, f2, sSkip, sSeq, sExpr, sRet, sRetN, sBreak, sCont, sNever, sIf, gN, gTs, gLs, gsN, gsC, sAsg, sOwn, sPar, sPar3, sParFE, sParEF, sParFF, argSeq, asL, asT, asS, asI, asV, iL, iT, iS, iR1, iR2, iEn, iZ, hold, noEx, mCall, mMeth, mProp, mMake, fldAt, mFld, putD, sFldSet, mMut, fAppend, fClear0, fRev, fPop, sSetItem, owL, fI, fIc, fNeg, mChain, fIsN, fNotN, fCatS, mOpF, fCat, fRep, fIxL, fIxT, fIxS, mNo, mPart, mSlL, mSlT, mSlS, fLen, fAbs, fInt, fStrI, fAll, fAny, fSum, mCBF, fList, fTuple, mJoin, fFmt, mJs, isiB, fIsi, okRight, mOwnL, mOwnR, mOwn1, onlyStr, mStrO, okLeft, mEqO, mEqO2, onlyNot, mNeO, mCMeth, asSeq, mStar, perm, mMethK, mCallK, mInO, mIdxO, mIdxD, mD0, mLc, wipeS, wipeG, backG, sFor, Mi.allB, fMax2, iEnT, mIxO, mMakeS, mMkL, isCls, mSlSL, mSlST, mCMethK, Mi.allI, fMax, F_Table_of_steps, m_Table_of_steps, e0, e1, e2, e3, e4, e5, e6, e7, k6, cl]
  · obtain ⟨z3, e7⟩ := lp3 (.sh d3)
    simp [fnOf, outsOf, callF, slotsOf, mkSlot, lents, takeBack, views, vals, mVar, mBor, mC, fz, mOp, mUn, mTest, asB, mAnd, mOr, mNot, mAndV, mOrV, mNotV, mIf, mNil, mCons, mLst, mTup, mCB, f1, f2, sSkip, sSeq, sExpr, sRet, sRetN, sBreak, sCont, sNever, sIf, gN, gTs, gLs, gsN, gsC, sAsg, sOwn, sPar, sPar3, sParFE, sParEF, sParFF, argSeq, asL, asT, asS, asI, asV, iL, iT, iS, iR1, iR2, iEn, iZ, hold, noEx, mCall, mMeth, mProp, mMake, fldAt, mFld, putD, sFldSet, mMut, fAppend, fClear0, fRev, fPop, sSetItem, owL, fI, fIc, fNeg, mChain, fIsN, fNotN, fCatS, mOpF, fCat, fRep, fIxL, fIxT, fIxS, mNo, mPart, mSlL, mSlT, mSlS, fLen, fAbs, fInt, fStrI, fAll, fAny, fSum, mCBF, fList, fTuple, mJoin, fFmt, mJs, isiB, fIsi, okRight, mOwnL, mOwnR, mOwn1, onlyStr, mStrO, okLeft, mEqO, mEqO2, onlyNot, mNeO, mCMeth, asSeq, mStar, perm, mMethK, mCallK, mInO, mIdxO, mIdxD, mD0, mLc, wipeS, wipeG, backG, sFor, Mi.allB, fMax2, iEnT, mIxO, mMakeS, mMkL, isCls, mSlSL, mSlST, mCMethK, Mi.allI, fMax, F_Table_of_steps, m_Table_of_steps, e0, e1, e2, e3, e4, e5, e6, e7, k6, cl]
  · obtain ⟨z3, e7⟩ := lp3 .no
    simp [fnOf, outsOf, callF, slotsOf, mkSlot, lents, takeBack, views, vals, mVar, mBor, mC, fz, mOp, mUn, mTest, asB, mAnd, mOr, mNot, mAndV, mOrV, mNotV, mIf, mNil, mCons, mLst, mTup, mCB, f1, f2, sSkip, sSeq, sExpr, sRet, sRetN, sBreak, sCont, sNever, sIf, gN, gTs, gLs, gsN, gsC, sAsg, sOwn, sPar, sPar3, sParFE, sParEF, sParFF, argSeq, asL, asT, asS, asI, asV, iL, iT, iS, iR1, iR2, iEn, iZ, hold, noEx, mCall, mMeth, mProp, mMake, fldAt, mFld, putD, sFldSet, mMut, fAppend, fClear0, fRev, fPop, sSetItem, owL, fI, fIc, fNeg, mChain, fIsN, fNotN, fCatS, mOpF, fCat, fRep, fIxL, fIxT, fIxS, mNo, mPart, mSlL, mSlT, mSlS, fLen, fAbs, fInt, fStrI, fAll, fAny, fSum, mCBF, fList, fTuple, mJoin, fFmt, mJs, isiB, fIsi, okRight, mOwnL, mOwnR, mOwn1, onlyStr, mStrO, okLeft, mEqO, mEqO2, onlyNot, mNeO, mCMeth, asSeq, mStar, perm, mMethK, mCallK, mInO, mIdxO, mIdxD, mD0, mLc, wipeS, wipeG, backG, sFor, Mi.allB, fMax2, iEnT, mIxO, mMakeS, mMkL, isCls, mSlSL, mSlST, mCMethK, Mi.allI, fMax, F_Table_of_steps, m_Table_of_steps, e0, e1, e2, e3, e4, e5, e6, e7, k6, cl]

/-! ### the pot -/
def PotOk (p : Int × Int) : Prop := 0 ≤ p.1 ∧ 0 ≤ p.2 ∧ p.2 < 4294967296
instance (p : Int × Int) : Decidable (PotOk p) := by unfold PotOk; infer_instance
def drawn (p : Int × Int) (m : Int) : Int × (Int × Int) := if 0 < p.1 then (p.1 % m, (p.1 / m, p.2)) else (((p.2 * 46021 + 15013) % 2147483549 * ((p.2 * 46021 + 15013) % 2147483549) % 2147483477 / 13) % m, (p.1, (p.2 * 46021 + 15013) % 2147483549))
def F_law_draw : Fn := fun args p => match args with
  | [.sh .pot, .sh (.int m)] => if 0 < m ∧ m.natAbs < 2 ^ 8000 ∧ PotOk p then .ok (.int (drawn p m).1) [.no, .no] (drawn p m).2 else .stuck
  | _ => .stuck
theorem drawn_ok {p : Int × Int} {m : Int} (h : PotOk p) (hm : 0 < m) : 0 ≤ (drawn p m).1 ∧ (drawn p m).1 < m ∧ PotOk (drawn p m).2 := by
  unfold drawn
  obtain ⟨h1, h2, h3⟩ := h
  by_cases c : 0 < p.1
  · rw [if_pos c]
    exact ⟨Int.emod_nonneg _ (Int.ne_of_gt hm), Int.emod_lt_of_pos _ hm, Int.ediv_nonneg h1 (Int.le_of_lt hm), h2, h3⟩
  · rw [if_neg c]
    have z1 := Int.emod_nonneg (p.2 * 46021 + 15013) (show (2147483549 : Int) ≠ 0 by decide)
    have z2 := Int.emod_lt_of_pos (p.2 * 46021 + 15013) (show (0 : Int) < 2147483549 by decide)
    exact ⟨Int.emod_nonneg _ (Int.ne_of_gt hm), Int.emod_lt_of_pos _ hm, h1, z1, Int.lt_trans z2 (by decide)⟩
theorem okb_law_draw {P : Program} {w : World} {K : PySem.W.Frag} {mg : Str → Option Value} {base : Heap} (T : Txt K mg) {fd : FuncData} (F : FunD K "_law_draw" "_law_draw" (defArgs s_law_draw) (defBody s_law_draw) (defScope s_law_draw) [] [] (He.ga K "_law_draw") fd) : FnOk P w K mg base (L2.CX P w) 1 (He.ga K "_law_draw") fd ["_law_pot_here", "_law_many"] (spM K 2 F_law_draw) := by
  refine F.ok sc_law_draw (fun vs H Q E h => ?_) (fun cdv A outer s H vs Q E hr h => ?_)
  · obtain ⟨_, _, _, _, _, hl, _⟩ := h
    exact hl
  obtain ⟨W, Hs, args, pt, hK, hl, xx, q⟩ := h
  match vs, hl with
  | [v0, v1], _ =>
  unfold F_law_draw at q
  split at q
  · rename_i m
    by_cases hc : 0 < m ∧ m.natAbs < 2 ^ 8000 ∧ PotOk pt
    · rw [if_pos hc] at q
      obtain ⟨hm, hz, hx, hy, hy2⟩ := hc
      obtain ⟨u0, e0, r0⟩ := xx.slot 0 _ rfl
      obtain ⟨u1, e1, r1⟩ := xx.slot 1 _ rfl
      cases (show v0 = u0 from Option.some.inj (Option.some.inj e0))
      cases (show v1 = u1 from Option.some.inj (Option.some.inj e1))
      cases (show v0 = .ref W.pa from r0)
      cases (show v1 = .int m from r1)
      obtain ⟨x, y⟩ := pt
      have hp : H W.pa = some (.lst [.int x, .int y]) := xx.pt.1
      generalize ep : W.pa = p at hp
      have fin : ∀ (d : Int) (H' : Hp) (pt' : Int × Int), drawn (x, y) m = (d, pt') → SS W Hs ⟨[.no, .no], pt'⟩ ([V.ref p, V.int m].map some) H' → Q (.int d) H' := fun d H' pt' e z => by
        rw [e] at q
        subst ep
        exact q (.int d) H' Hs (Same.rfl' _) z rfl
      have back : ∀ (H' : Hp) (pt' : Int × Int), SS W Hs ⟨[.sh .pot, .sh (.int m)], (x, y)⟩ ([V.ref p, V.int m].map some) H' → SS W Hs ⟨[.no, .no], pt'⟩ ([V.ref p, V.int m].map some) (upd H' p (.lst [.int pt'.1, .int pt'.2])) := fun H' pt' z => by
        subst ep
        exact ss_none (ss_pot z pt')
      have xx : SS W Hs ⟨[.sh .pot, .sh (.int m)], (x, y)⟩ ([V.ref p, V.int m].map some) H := by
        subst ep
        exact xx
      show ∃ t, PSs _ _ t ∧ t _ (L2.start _ [V.ref p, V.int m]) H
      clear q
      refine ⟨_, PSs.nox (pss_cons (ps_if (pt_cmpR op_gt (pe_ix (Z.ixlK (K := K) rfl) (pv 0) (pe_int) (fun _ _ => rfl)) (pe_int) (nomark _)) (pss_cons (ps_asg (pe_callB Z.call_divmodZ (by rfl) T.f_divmod (by decide +kernel) (pa_cons (pe_ix (Z.ixlK (K := K) rfl) (pv 0) (pe_int) (fun _ _ => rfl)) (pa_cons (pv 1) pa_nil))) (Z.pgTupK (K := K) rfl rfl (pgs_cons (pg_sub (pv 0) (pe_int) set_list) (pgs_cons (pg_name (i := 2) sc_law_draw.nd rfl (Or.inl rfl)) (pgs_nil))))) (pss_one (ps_ret (pv 2)))) (pss_nil)) (pss_cons (ps_asg (pe_op op_mod (pe_callTy call_int1 (by rfl) T.f_int (by decide +kernel) (pa_cons (pe_op op_add (pe_op op_mulW (pe_ix (Z.ixlK (K := K) rfl) (pv 0) (pe_int) (fun _ _ => rfl)) (pe_int)) (pe_int)) pa_nil)) (pe_int)) (pg_sub (pv 0) (pe_int) set_list)) (pss_one (ps_ret (pe_op op_mod (pe_callTy call_int1 (by rfl) T.f_int (by decide +kernel) (pa_cons (pe_op Z.op_fdivZ (pe_op op_mod (pe_callTy call_int1 (by rfl) T.f_int (by decide +kernel) (pa_cons (pe_op op_mulW (pe_ix (Z.ixlK (K := K) rfl) (pv 0) (pe_int) (fun _ _ => rfl)) (pe_ix (Z.ixlK (K := K) rfl) (pv 0) (pe_int) (fun _ _ => rfl))) pa_nil)) (pe_int)) (pe_int)) pa_nil)) (pv 1)))))), ?_⟩
      refine ⟨_, rfl, p, _, _, _, rfl, rfl, SqL.of hp, rfl, _, _, rfl, rfl, _, rfl, ?_⟩
      by_cases c : 0 < x
      · rw [decide_eq_true c]
        refine iteT ⟨_, rfl, p, _, _, _, rfl, rfl, SqL.of hp, rfl, _, rfl, _, _, rfl, ⟨hm, Nat.lt_trans (log_lt hz (by decide)) (by decide)⟩, fun t ht => ?_⟩
        have hpt : p ≠ t := ne_of_none hp ht
        refine ⟨t, _, rfl, SqT.of upd_same, rfl, _, _, rfl, _, rfl, p, _, _, 0, rfl, rfl, (by rw [upd_ne hpt]; exact hp), rfl, _, _, rfl, rfl, _, rfl, ?_⟩
        refine fin _ _ (x / m, y) ?_ (back _ (x / m, y) (ss_new xx ht))
        unfold drawn
        rw [if_pos c]
      · rw [decide_eq_false c]
        have b32 : y.natAbs < 2 ^ 32 := by
          have : (0 : Int) ≤ y := hy
          have : y < 4294967296 := hy2
          omega
        refine iteF ⟨_, rfl, p, _, _, _, rfl, rfl, SqL.of hp, rfl, _, _, rfl, rfl, wide_mul (a := 32) (b := 32) b32 (by decide) (by decide) (by decide) (by decide), _, _, rfl, rfl, .inl ⟨_, rfl, _, _, rfl, rfl, (by show (0 : Int) < 2147483549; decide), ?_⟩⟩
        refine ⟨_, rfl, p, _, _, 1, rfl, rfl, hp, rfl, ?_⟩
        have h1 := Int.emod_nonneg (y * 46021 + 15013) (show (2147483549 : Int) ≠ 0 by decide)
        have h2 := Int.emod_lt_of_pos (y * 46021 + 15013) (show (0 : Int) < 2147483549 by decide)
        have z32 : ((y * 46021 + 15013) % 2147483549).natAbs < 2 ^ 32 := by
          clear fin
          omega
        refine ⟨_, rfl, p, _, _, _, rfl, rfl, SqL.of upd_same, rfl, _, rfl, p, _, _, _, rfl, rfl, SqL.of upd_same, rfl, _, _, rfl, rfl, wide_mul (a := 32) (b := 32) z32 z32 (by decide) (by decide) (by decide), .inl ⟨_, rfl, _, _, rfl, rfl, (by show (0 : Int) < 2147483477; decide), ?_⟩⟩
        refine ⟨_, _, rfl, rfl, ⟨by decide, by decide⟩, .inl ⟨_, rfl, _, rfl, _, _, rfl, rfl, hm, ?_⟩⟩
        refine fin _ _ (x, (y * 46021 + 15013) % 2147483549) ?_ (back _ (x, (y * 46021 + 15013) % 2147483549) xx)
        unfold drawn
        rw [if_neg c]
        first | rfl | rw [Int.fdiv_eq_ediv_of_nonneg _ (by decide)]
    · rw [if_neg hc] at q
      exact q.elim
  · exact q.elim
theorem ok_law_draw {P : Program} {w : World} {K : PySem.W.Frag} {mg : Str → Option Value} {base : Heap} (T : Txt K mg) : FnR P w K mg base (L2.CX P w) 1 (He.ga K "_law_draw") (spM K 2 F_law_draw) := by
  obtain ⟨fd, F⟩ := T.d_law_draw
  exact Z.raw0 (okb_law_draw T F) (F.bindsN fun _ _ _ _ _ _ us hl => match us, hl with | [_, _], _ => rfl)

noncomputable def m_law_pick : MS := sRet (mOp fIxL (mBor 1) (mCall 2 F_law_draw (mCons (mBor 0) (mCons (mCB (f1 fLen) (mCons (mBor 1) (mNil))) (mNil)))))
noncomputable def F_law_pick : Fn := fnOf 2 m_law_pick
theorem okb_law_pick {P : Program} {w : World} {K : PySem.W.Frag} {mg : Str → Option Value} {base : Heap} (T : Txt K mg) {fd : FuncData} (F : FunD K "_law_pick" "_law_pick" (defArgs s_law_pick) (defBody s_law_pick) (defScope s_law_pick) [] [] (He.ga K "_law_pick") fd) : FnOk P w K mg base (L2.CX P w) 2 (He.ga K "_law_pick") fd ["_law_pot_here", "_law_some"] (spM K 2 F_law_pick) := by
  refine F.ok sc_law_pick (fun vs H Q E h => ?_) (fun cdv A outer s H vs Q E hr h => ?_)
  · obtain ⟨_, _, _, _, _, hl, _⟩ := h
    exact hl
  exact ⟨_, pss_one (ps_ret (pe_ix (Z.ixlK (K := K) rfl) (pv 1) (Z.pe_cl (E := E) (ok_law_draw T) (hr.mono (by decide)) T.g_law_draw T.k_law_draw (passes_call (W := fun c d _ H => E c d H) (takes_of rfl rfl rfl rfl) fun _ _ _ _ h => h) (pa_cons (pv 0) (pa_cons (pe_callB (Z.lenK (K := K) rfl) (by rfl) T.f_len (by decide +kernel) (pa_cons (pv 1) (pa_nil))) (pa_nil)))) (fun _ _ => rfl))), body_ok (N := N_law_pick) (snd_ret (snd_op os_ixL (snd_bor 1) (snd_call (snd_cons (snd_bor 0) (snd_cons (snd_cb cs_len (snd_cons (snd_bor 1) (snd_nil))) (snd_nil)))))) h⟩
theorem ok_law_pick {P : Program} {w : World} {K : PySem.W.Frag} {mg : Str → Option Value} {base : Heap} (T : Txt K mg) : FnR P w K mg base (L2.CX P w) 2 (He.ga K "_law_pick") (spM K 2 F_law_pick) := by
  obtain ⟨fd, F⟩ := T.d_law_pick
  exact Z.raw0 (okb_law_pick T F) (F.bindsN fun _ _ _ _ _ _ us hl => match us, hl with | [_, _], _ => rfl)
noncomputable def c1_law_common : MT := mTest (mOp fGt (mBor 1) (mC (.int 0)))
noncomputable def b1_law_common : MS := sPar 0 1 (mCons (mVar 1) (mCons (mOp fMod (mCB (f1 fInt) (mCons (mBor 0) (mNil))) (mBor 1)) (mNil)))
noncomputable def m_law_common : MS := sSeq (sPar 0 1 (mCons (mCB (f1 fAbs) (mCons (mBor 0) (mNil))) (mCons (mCB (f1 fAbs) (mCons (mBor 1) (mNil))) (mNil)))) (sSeq (sWhile c1_law_common b1_law_common) (sRet (mVar 0)))
noncomputable def F_law_common : Fn := fnOf 2 m_law_common
theorem okb_law_common {P : Program} {w : World} {K : PySem.W.Frag} {mg : Str → Option Value} {base : Heap} (T : Txt K mg) {fd : FuncData} (F : FunD K "_law_common" "_law_common" (defArgs s_law_common) (defBody s_law_common) (defScope s_law_common) [] [] (He.ga K "_law_common") fd) : FnOk P w K mg base (L2.CX P w) 1 (He.ga K "_law_common") fd ["_law_one", "_law_two"] (spM K 2 F_law_common) := by
  refine F.ok sc_law_common (fun vs H Q E h => ?_) (fun cdv A outer s H vs Q E hr h => ?_)
  · obtain ⟨_, _, _, _, _, hl, _⟩ := h
    exact hl
  exact ⟨_, pss_cons (ps_par (i := 0) (j := 1) (by rfl) sc_law_common.nd rfl rfl (by decide) rfl rfl (pa_cons (pe_callB call_abs (by rfl) T.f_abs (by decide +kernel) (pa_cons (pv 0) (pa_nil))) (pa_cons (pe_callB call_abs (by rfl) T.f_abs (by decide +kernel) (pa_cons (pv 1) (pa_nil))) (pa_nil))) (by rfl)) (pss_cons (ps_while (passes_of rfl) (pt_cmpR op_gt (pv 1) (pe_int) (nomark _)) (pss_one (ps_par (i := 0) (j := 1) (by rfl) sc_law_common.nd rfl rfl (by decide) rfl rfl (pa_cons (pv 1) (pa_cons (pe_op op_mod (pe_callTy call_int1 (by rfl) T.f_int (by decide +kernel) (pa_cons (pv 0) (pa_nil))) (pv 1)) (pa_nil))) (by rfl)))) (pss_one (ps_ret (pv 0)))), body_ok (N := N_law_common) (snd_seq (snd_par 0 1 (snd_cons (snd_cb cs_abs (snd_cons (snd_bor 0) (snd_nil))) (snd_cons (snd_cb cs_abs (snd_cons (snd_bor 1) (snd_nil))) (snd_nil)))) (snd_seq (snd_while (snd_test (snd_op os_gt (snd_bor 1) (snd_int))) (snd_par 0 1 (snd_cons (snd_var 1) (snd_cons (snd_op os_mod (snd_cb cs_int (snd_cons (snd_bor 0) (snd_nil))) (snd_bor 1)) (snd_nil))))) (snd_ret (snd_var 0)))) h⟩
theorem ok_law_common {P : Program} {w : World} {K : PySem.W.Frag} {mg : Str → Option Value} {base : Heap} (T : Txt K mg) : FnR P w K mg base (L2.CX P w) 1 (He.ga K "_law_common") (spM K 2 F_law_common) := by
  obtain ⟨fd, F⟩ := T.d_law_common
  exact Z.raw0 (okb_law_common T F) (F.bindsN fun _ _ _ _ _ _ us hl => match us, hl with | [_, _], _ => rfl)
noncomputable def m_law_low : MS := sSeq (sAsg (mOp fMul (mCall 2 F_law_common (mCons (mBor 0) (mCons (mBor 1) (mNil)))) (mIf (mTest (mOp fGt (mBor 1) (mC (.int 0)))) (mC (.int 1)) (mUn fNeg (mC (.int 1))))) (gN 2)) (sRet (mTup (mCons (mOp fDiv (mBor 0) (mBor 2)) (mCons (mOp fDiv (mBor 1) (mBor 2)) (mNil)))))
noncomputable def F_law_low : Fn := fnOf 3 m_law_low
theorem okb_law_low {P : Program} {w : World} {K : PySem.W.Frag} {mg : Str → Option Value} {base : Heap} (T : Txt K mg) {fd : FuncData} (F : FunD K "_law_low" "_law_low" (defArgs s_law_low) (defBody s_law_low) (defScope s_law_low) [] [] (He.ga K "_law_low") fd) : FnOk P w K mg base (L2.CX P w) 2 (He.ga K "_law_low") fd ["_law_up", "_law_low_here"] (spM K 2 F_law_low) := by
  refine F.ok sc_law_low (fun vs H Q E h => ?_) (fun cdv A outer s H vs Q E hr h => ?_)
  · obtain ⟨_, _, _, _, _, hl, _⟩ := h
    exact hl
  exact ⟨_, pss_cons (ps_set (i := 2) sc_law_low.nd rfl (Or.inl rfl) (pe_op op_mulW (Z.pe_cl (E := E) (ok_law_common T) (hr.mono (by decide)) T.g_law_common T.k_law_common (passes_call (W := fun c d _ H => E c d H) (takes_of rfl rfl rfl rfl) fun _ _ _ _ h => h) (pa_cons (pv 0) (pa_cons (pv 1) (pa_nil)))) (pe_ifExp (pt_cmpR op_gt (pv 1) (pe_int) (nomark _)) (pe_int) (pe_un un_neg (pe_int))))) (pss_one (ps_ret (pe_tup (pa_cons (pe_op Z.op_fdivZ (pv 0) (pv 2)) (pa_cons (pe_op Z.op_fdivZ (pv 1) (pv 2)) (pa_nil)))))), body_ok (N := N_law_low) (snd_seq (snd_asg (snd_op os_mul (snd_call (snd_cons (snd_bor 0) (snd_cons (snd_bor 1) (snd_nil)))) (snd_if (snd_test (snd_op os_gt (snd_bor 1) (snd_int))) (snd_int) (snd_un us_neg (snd_int)))) (snd_gn 2)) (snd_ret (snd_tup (snd_cons (snd_op os_div (snd_bor 0) (snd_bor 2)) (snd_cons (snd_op os_div (snd_bor 1) (snd_bor 2)) (snd_nil)))))) h⟩
theorem ok_law_low {P : Program} {w : World} {K : PySem.W.Frag} {mg : Str → Option Value} {base : Heap} (T : Txt K mg) : FnR P w K mg base (L2.CX P w) 2 (He.ga K "_law_low") (spM K 2 F_law_low) := by
  obtain ⟨fd, F⟩ := T.d_law_low
  exact Z.raw0 (okb_law_low T F) (F.bindsN fun _ _ _ _ _ _ us hl => match us, hl with | [_, _], _ => rfl)
noncomputable def m_law_plus : MS := sRet (mCall 2 F_law_low (mCons (mOp fAdd (mOp fMul (mOp fIxT (mBor 0) (mC (.int 0))) (mOp fIxT (mBor 1) (mC (.int 1)))) (mOp fMul (mOp fIxT (mBor 1) (mC (.int 0))) (mOp fIxT (mBor 0) (mC (.int 1))))) (mCons (mOp fMul (mOp fIxT (mBor 0) (mC (.int 1))) (mOp fIxT (mBor 1) (mC (.int 1)))) (mNil))))
noncomputable def F_law_plus : Fn := fnOf 2 m_law_plus
theorem okb_law_plus {P : Program} {w : World} {K : PySem.W.Frag} {mg : Str → Option Value} {base : Heap} (T : Txt K mg) {fd : FuncData} (F : FunD K "_law_plus" "_law_plus" (defArgs s_law_plus) (defBody s_law_plus) (defScope s_law_plus) [] [] (He.ga K "_law_plus") fd) : FnOk P w K mg base (L2.CX P w) 3 (He.ga K "_law_plus") fd ["_law_a", "_law_b"] (spM K 2 F_law_plus) := by
  refine F.ok sc_law_plus (fun vs H Q E h => ?_) (fun cdv A outer s H vs Q E hr h => ?_)
  · obtain ⟨_, _, _, _, _, hl, _⟩ := h
    exact hl
  exact ⟨_, pss_one (ps_ret (Z.pe_cl (E := E) (ok_law_low T) (hr.mono (by decide)) T.g_law_low T.k_law_low (passes_call (W := fun c d _ H => E c d H) (takes_of rfl rfl rfl rfl) fun _ _ _ _ h => h) (pa_cons (pe_op op_add (pe_op op_mulW (pe_ix (Z.ixtK (K := K) rfl) (pv 0) (pe_int) (fun _ _ => rfl)) (pe_ix (Z.ixtK (K := K) rfl) (pv 1) (pe_int) (fun _ _ => rfl))) (pe_op op_mulW (pe_ix (Z.ixtK (K := K) rfl) (pv 1) (pe_int) (fun _ _ => rfl)) (pe_ix (Z.ixtK (K := K) rfl) (pv 0) (pe_int) (fun _ _ => rfl)))) (pa_cons (pe_op op_mulW (pe_ix (Z.ixtK (K := K) rfl) (pv 0) (pe_int) (fun _ _ => rfl)) (pe_ix (Z.ixtK (K := K) rfl) (pv 1) (pe_int) (fun _ _ => rfl))) (pa_nil))))), body_ok (N := N_law_plus) (snd_ret (snd_call (snd_cons (snd_op os_add (snd_op os_mul (snd_op os_ixT (snd_bor 0) (snd_int)) (snd_op os_ixT (snd_bor 1) (snd_int))) (snd_op os_mul (snd_op os_ixT (snd_bor 1) (snd_int)) (snd_op os_ixT (snd_bor 0) (snd_int)))) (snd_cons (snd_op os_mul (snd_op os_ixT (snd_bor 0) (snd_int)) (snd_op os_ixT (snd_bor 1) (snd_int))) (snd_nil))))) h⟩
theorem ok_law_plus {P : Program} {w : World} {K : PySem.W.Frag} {mg : Str → Option Value} {base : Heap} (T : Txt K mg) : FnR P w K mg base (L2.CX P w) 3 (He.ga K "_law_plus") (spM K 2 F_law_plus) := by
  obtain ⟨fd, F⟩ := T.d_law_plus
  exact Z.raw0 (okb_law_plus T F) (F.bindsN fun _ _ _ _ _ _ us hl => match us, hl with | [_, _], _ => rfl)
noncomputable def m_law_minus : MS := sRet (mCall 2 F_law_low (mCons (mOp fSub (mOp fMul (mOp fIxT (mBor 0) (mC (.int 0))) (mOp fIxT (mBor 1) (mC (.int 1)))) (mOp fMul (mOp fIxT (mBor 1) (mC (.int 0))) (mOp fIxT (mBor 0) (mC (.int 1))))) (mCons (mOp fMul (mOp fIxT (mBor 0) (mC (.int 1))) (mOp fIxT (mBor 1) (mC (.int 1)))) (mNil))))
noncomputable def F_law_minus : Fn := fnOf 2 m_law_minus
theorem okb_law_minus {P : Program} {w : World} {K : PySem.W.Frag} {mg : Str → Option Value} {base : Heap} (T : Txt K mg) {fd : FuncData} (F : FunD K "_law_minus" "_law_minus" (defArgs s_law_minus) (defBody s_law_minus) (defScope s_law_minus) [] [] (He.ga K "_law_minus") fd) : FnOk P w K mg base (L2.CX P w) 3 (He.ga K "_law_minus") fd ["_law_a", "_law_b"] (spM K 2 F_law_minus) := by
  refine F.ok sc_law_minus (fun vs H Q E h => ?_) (fun cdv A outer s H vs Q E hr h => ?_)
  · obtain ⟨_, _, _, _, _, hl, _⟩ := h
    exact hl
  exact ⟨_, pss_one (ps_ret (Z.pe_cl (E := E) (ok_law_low T) (hr.mono (by decide)) T.g_law_low T.k_law_low (passes_call (W := fun c d _ H => E c d H) (takes_of rfl rfl rfl rfl) fun _ _ _ _ h => h) (pa_cons (pe_op op_sub (pe_op op_mulW (pe_ix (Z.ixtK (K := K) rfl) (pv 0) (pe_int) (fun _ _ => rfl)) (pe_ix (Z.ixtK (K := K) rfl) (pv 1) (pe_int) (fun _ _ => rfl))) (pe_op op_mulW (pe_ix (Z.ixtK (K := K) rfl) (pv 1) (pe_int) (fun _ _ => rfl)) (pe_ix (Z.ixtK (K := K) rfl) (pv 0) (pe_int) (fun _ _ => rfl)))) (pa_cons (pe_op op_mulW (pe_ix (Z.ixtK (K := K) rfl) (pv 0) (pe_int) (fun _ _ => rfl)) (pe_ix (Z.ixtK (K := K) rfl) (pv 1) (pe_int) (fun _ _ => rfl))) (pa_nil))))), body_ok (N := N_law_minus) (snd_ret (snd_call (snd_cons (snd_op os_sub (snd_op os_mul (snd_op os_ixT (snd_bor 0) (snd_int)) (snd_op os_ixT (snd_bor 1) (snd_int))) (snd_op os_mul (snd_op os_ixT (snd_bor 1) (snd_int)) (snd_op os_ixT (snd_bor 0) (snd_int)))) (snd_cons (snd_op os_mul (snd_op os_ixT (snd_bor 0) (snd_int)) (snd_op os_ixT (snd_bor 1) (snd_int))) (snd_nil))))) h⟩
theorem ok_law_minus {P : Program} {w : World} {K : PySem.W.Frag} {mg : Str → Option Value} {base : Heap} (T : Txt K mg) : FnR P w K mg base (L2.CX P w) 3 (He.ga K "_law_minus") (spM K 2 F_law_minus) := by
  obtain ⟨fd, F⟩ := T.d_law_minus
  exact Z.raw0 (okb_law_minus T F) (F.bindsN fun _ _ _ _ _ _ us hl => match us, hl with | [_, _], _ => rfl)
/-! ### the law's own draws and fractions -/
def tupD (a : Int × Int) : D := .tup [.int a.1, .int a.2]
theorem draw_ex {p : Int × Int} {m : Int} (hp : PotOk p) (hm : 0 < m) (hz : m.natAbs < 2 ^ 8000) : ∃ d p', F_law_draw [.sh .pot, .sh (.int m)] p = .ok (.int d) [.no, .no] p' ∧ 0 ≤ d ∧ d < m ∧ PotOk p' := by
  obtain ⟨h1, h2, h3⟩ := drawn_ok hp hm
  refine ⟨_, _, ?_, h1, h2, h3⟩
  unfold F_law_draw
  simp [hm, hz, hp]
theorem atI_mem {ds : List D} {i : Int} (h0 : 0 ≤ i) (h1 : i < ds.length) : ∃ d ∈ ds, atI ds i = some d := by
  have hi : i.toNat < ds.length := by omega
  refine ⟨ds[i.toNat], List.getElem_mem hi, ?_⟩
  have z := atI_nat (xs := ds) (j := i.toNat) (v := ds[i.toNat]) (by simp [hi])
  rw [show ((i.toNat : Nat) : Int) = i by omega] at z
  exact z
theorem pick_ex {p : Int × Int} {ds : List D} (hp : PotOk p) (h0 : 0 < ds.length) (h1 : ds.length ≤ 1000) : ∃ d ∈ ds, ∃ p', F_law_pick [.sh .pot, .sh (.lst ds)] p = .ok d [.no, .no] p' ∧ PotOk p' := by
  obtain ⟨i, p', e, a, b, hp'⟩ := draw_ex (m := (ds.length : Int)) hp (by omega) (Nat.lt_of_lt_of_le (show ((ds.length : Int)).natAbs < 2 ^ 10 by omega) (Nat.pow_le_pow_right (by decide) (by decide)))
  obtain ⟨d, hd, ed⟩ := atI_mem a b
  refine ⟨d, hd, p', ?_, hp'⟩
  simp [fnOf, outsOf, callF, slotsOf, mkSlot, lents, takeBack, views, vals, mVar, mBor, mC, fz, mOp, mUn, mTest, asB, mAnd, mOr, mNot, mAndV, mOrV, mNotV, mIf, mNil, mCons, mLst, mTup, mCB, f1, f2, sSkip, sSeq, sExpr, sRet, sRetN, sBreak, sCont, sNever, sIf, gN, gTs, gLs, gsN, gsC, sAsg, sOwn, sPar, sPar3, sParFE, sParEF, sParFF, argSeq, asL, asT, asS, asI, asV, iL, iT, iS, iR1, iR2, iEn, iZ, hold, noEx, mCall, mMeth, mProp, mMake, fldAt, mFld, putD, sFldSet, mMut, fAppend, fClear0, fRev, fPop, sSetItem, owL, fI, fIc, fNeg, mChain, fIsN, fNotN, fCatS, mOpF, fCat, fRep, fIxL, fIxT, fIxS, mNo, mPart, mSlL, mSlT, mSlS, fLen, fAbs, fInt, fStrI, fAll, fAny, fSum, mCBF, fList, fTuple, mJoin, fFmt, mJs, isiB, fIsi, okRight, mOwnL, mOwnR, mOwn1, onlyStr, mStrO, okLeft, mEqO, mEqO2, onlyNot, mNeO, mCMeth, asSeq, mStar, perm, mMethK, mCallK, mInO, mIdxO, mIdxD, mD0, mLc, wipeS, wipeG, backG, sFor, Mi.allB, fMax2, iEnT, mIxO, mMakeS, mMkLS, mMkL, isCls, mSlSL, mSlST, mCMethK, Mi.allI, fMax, F_law_pick, m_law_pick, e, ed]
theorem lcommon_ev (m n : Int) (p : Int × Int) : F_law_common [.sh (.int m), .sh (.int n)] p = .ok (.int (Int.gcd m n)) [.no, .no] p := by
  have w : ∀ {a b : Int}, 0 ≤ a → 0 ≤ b → ∃ s', sWhile c1_law_common b1_law_common ⟨[.sh (.int a), .sh (.int b)], p⟩ = .ok (.nx, s') ∧ s' = ⟨[.sh (.int (Int.gcd a b)), .sh (.int 0)], p⟩ := fun {a0 b0} ha0 hb0 => by
    refine while_ind (fun s => ∃ a b : Int, s = ⟨[.sh (.int a), .sh (.int b)], p⟩ ∧ 0 ≤ a ∧ 0 ≤ b ∧ Int.gcd a b = Int.gcd a0 b0) _ (fun s => match s.g with
      | [_, .sh (.int b)] => b.toNat
      | _ => 0) ?_ ⟨a0, b0, rfl, ha0, hb0, rfl⟩
    rintro s ⟨a, b, rfl, ha, hb, hg⟩
    by_cases hp : 0 < b
    · right
      have h1 := Int.emod_nonneg a (Int.ne_of_gt hp)
      have h2 := Int.emod_lt_of_pos a hp
      refine ⟨_, ⟨[.sh (.int b), .sh (.int (a % b))], p⟩, by simp [fnOf, outsOf, callF, slotsOf, mkSlot, lents, takeBack, views, vals, mVar, mBor, mC, fz, mOp, mUn, mTest, asB, mAnd, mOr, mNot, mAndV, mOrV, mNotV, mIf, mNil, mCons, mLst, mTup, mCB, f1, f2, sSkip, sSeq, sExpr, sRet, sRetN, sBreak, sCont, sNever, sIf, gN, gTs, gLs, gsN, gsC, sAsg, sOwn, sPar, sPar3, sParFE, sParEF, sParFF, argSeq, asL, asT, asS, asI, asV, iL, iT, iS, iR1, iR2, iEn, iZ, hold, noEx, mCall, mMeth, mProp, mMake, fldAt, mFld, putD, sFldSet, mMut, fAppend, fClear0, fRev, fPop, sSetItem, owL, fI, fIc, fNeg, mChain, fIsN, fNotN, fCatS, mOpF, fCat, fRep, fIxL, fIxT, fIxS, mNo, mPart, mSlL, mSlT, mSlS, fLen, fAbs, fInt, fStrI, fAll, fAny, fSum, mCBF, fList, fTuple, mJoin, fFmt, mJs, isiB, fIsi, okRight, mOwnL, mOwnR, mOwn1, onlyStr, mStrO, okLeft, mEqO, mEqO2, onlyNot, mNeO, mCMeth, asSeq, mStar, perm, mMethK, mCallK, mInO, mIdxO, mIdxD, mD0, mLc, wipeS, wipeG, backG, sFor, Mi.allB, fMax2, iEnT, mIxO, mMakeS, mMkLS, mMkL, isCls, mSlSL, mSlST, mCMethK, Mi.allI, fMax, c1_law_common, hp]; rfl, by simp [fnOf, outsOf, callF, slotsOf, mkSlot, lents, takeBack, views, vals, mVar, mBor, mC, fz, mOp, mUn, mTest, asB, mAnd, mOr, mNot, mAndV, mOrV, mNotV, mIf, mNil, mCons, mLst, mTup, mCB, f1, f2, sSkip, sSeq, sExpr, sRet, sRetN, sBreak, sCont, sNever, sIf, gN, gTs, gLs, gsN, gsC, sAsg, sOwn, sPar, sPar3, sParFE, sParEF, sParFF, argSeq, asL, asT, asS, asI, asV, iL, iT, iS, iR1, iR2, iEn, iZ, hold, noEx, mCall, mMeth, mProp, mMake, fldAt, mFld, putD, sFldSet, mMut, fAppend, fClear0, fRev, fPop, sSetItem, owL, fI, fIc, fNeg, mChain, fIsN, fNotN, fCatS, mOpF, fCat, fRep, fIxL, fIxT, fIxS, mNo, mPart, mSlL, mSlT, mSlS, fLen, fAbs, fInt, fStrI, fAll, fAny, fSum, mCBF, fList, fTuple, mJoin, fFmt, mJs, isiB, fIsi, okRight, mOwnL, mOwnR, mOwn1, onlyStr, mStrO, okLeft, mEqO, mEqO2, onlyNot, mNeO, mCMeth, asSeq, mStar, perm, mMethK, mCallK, mInO, mIdxO, mIdxD, mD0, mLc, wipeS, wipeG, backG, sFor, Mi.allB, fMax2, iEnT, mIxO, mMakeS, mMkLS, mMkL, isCls, mSlSL, mSlST, mCMethK, Mi.allI, fMax, b1_law_common, cMod, hp], ⟨b, a % b, rfl, hb, h1, (M.gcd_step ha hp).trans hg⟩, ?_⟩
      show (a % b).toNat < b.toNat
      omega
    · left
      have e : b = 0 := by omega
      subst e
      refine ⟨_, by simp [fnOf, outsOf, callF, slotsOf, mkSlot, lents, takeBack, views, vals, mVar, mBor, mC, fz, mOp, mUn, mTest, asB, mAnd, mOr, mNot, mAndV, mOrV, mNotV, mIf, mNil, mCons, mLst, mTup, mCB, f1, f2, sSkip, sSeq, sExpr, sRet, sRetN, sBreak, sCont, sNever, sIf, gN, gTs, gLs, gsN, gsC, sAsg, sOwn, sPar, sPar3, sParFE, sParEF, sParFF, argSeq, asL, asT, asS, asI, asV, iL, iT, iS, iR1, iR2, iEn, iZ, hold, noEx, mCall, mMeth, mProp, mMake, fldAt, mFld, putD, sFldSet, mMut, fAppend, fClear0, fRev, fPop, sSetItem, owL, fI, fIc, fNeg, mChain, fIsN, fNotN, fCatS, mOpF, fCat, fRep, fIxL, fIxT, fIxS, mNo, mPart, mSlL, mSlT, mSlS, fLen, fAbs, fInt, fStrI, fAll, fAny, fSum, mCBF, fList, fTuple, mJoin, fFmt, mJs, isiB, fIsi, okRight, mOwnL, mOwnR, mOwn1, onlyStr, mStrO, okLeft, mEqO, mEqO2, onlyNot, mNeO, mCMeth, asSeq, mStar, perm, mMethK, mCallK, mInO, mIdxO, mIdxD, mD0, mLc, wipeS, wipeG, backG, sFor, Mi.allB, fMax2, iEnT, mIxO, mMakeS, mMkLS, mMkL, isCls, mSlSL, mSlST, mCMethK, Mi.allI, fMax, c1_law_common]; rfl, ?_⟩
      rw [← hg, M.gcd_end ha]
  obtain ⟨s', e, rfl⟩ := w (a := if m < 0 then -m else m) (b := if n < 0 then -n else n) (by split <;> omega) (by split <;> omega)
  rw [M.gcd_abs] at e
  simp [fnOf, outsOf, callF, slotsOf, mkSlot, lents, takeBack, views, vals, mVar, mBor, mC, fz, mOp, mUn, mTest, asB, mAnd, mOr, mNot, mAndV, mOrV, mNotV, mIf, mNil, mCons, mLst, mTup, mCB, f1, f2, sSkip, sSeq, sExpr, sRet, sRetN, sBreak, sCont, sNever, sIf, gN, gTs, gLs, gsN, gsC, sAsg, sOwn, sPar, sPar3, sParFE, sParEF, sParFF, argSeq, asL, asT, asS, asI, asV, iL, iT, iS, iR1, iR2, iEn, iZ, hold, noEx, mCall, mMeth, mProp, mMake, fldAt, mFld, putD, sFldSet, mMut, fAppend, fClear0, fRev, fPop, sSetItem, owL, fI, fIc, fNeg, mChain, fIsN, fNotN, fCatS, mOpF, fCat, fRep, fIxL, fIxT, fIxS, mNo, mPart, mSlL, mSlT, mSlS, fLen, fAbs, fInt, fStrI, fAll, fAny, fSum, mCBF, fList, fTuple, mJoin, fFmt, mJs, isiB, fIsi, okRight, mOwnL, mOwnR, mOwn1, onlyStr, mStrO, okLeft, mEqO, mEqO2, onlyNot, mNeO, mCMeth, asSeq, mStar, perm, mMethK, mCallK, mInO, mIdxO, mIdxD, mD0, mLc, wipeS, wipeG, backG, sFor, Mi.allB, fMax2, iEnT, mIxO, mMakeS, mMkLS, mMkL, isCls, mSlSL, mSlST, mCMethK, Mi.allI, fMax, F_law_common, m_law_common, e]
theorem llow_ev {u l : Int} (hl : l ≠ 0) (h1 : Bt u) (h2 : Bt l) (p : Int × Int) : F_law_low [.sh (.int u), .sh (.int l)] p = .ok (tupD (M.low u l)) [.no, .no] p := by
  have g := lcommon_ev u l p
  have gz : Int.gcd u l < 2 ^ 8000 := Nat.lt_of_le_of_lt (Nat.le_of_dvd (Int.natAbs_pos.mpr hl) (by have := Int.natAbs_dvd_natAbs.mpr (Int.gcd_dvd_right u l); simpa using this)) h2
  have lg : ∀ x : Int, x.natAbs = Int.gcd u l → x.natAbs.log2 < 9000 := fun x hx => Nat.lt_trans (log_lt (n := 8000) (by rw [hx]; exact gz) (by decide)) (by decide)
  have gp := M.gcd_pos (u := u) hl
  by_cases hn : 0 < l
  · have es : M.sg u l = (Int.gcd u l : Int) := if_neg (by omega)
    have c0 : cMul (Int.gcd u l : Int) 1 = true := cmul_ok (n := 8000) (m := 2) (by simpa using gz) (by decide)
    have c1 : cDiv u (Int.gcd u l : Int) = true ∧ cDiv l (Int.gcd u l : Int) = true := by
      have z := lg (Int.gcd u l : Int) (by simp)
      constructor <;> exact decide_eq_true ⟨by omega, z⟩
    simp [fnOf, outsOf, callF, slotsOf, mkSlot, lents, takeBack, views, vals, mVar, mBor, mC, fz, mOp, mUn, mTest, asB, mAnd, mOr, mNot, mAndV, mOrV, mNotV, mIf, mNil, mCons, mLst, mTup, mCB, f1, f2, sSkip, sSeq, sExpr, sRet, sRetN, sBreak, sCont, sNever, sIf, gN, gTs, gLs, gsN, gsC, sAsg, sOwn, sPar, sPar3, sParFE, sParEF, sParFF, argSeq, asL, asT, asS, asI, asV, iL, iT, iS, iR1, iR2, iEn, iZ, hold, noEx, mCall, mMeth, mProp, mMake, fldAt, mFld, putD, sFldSet, mMut, fAppend, fClear0, fRev, fPop, sSetItem, owL, fI, fIc, fNeg, mChain, fIsN, fNotN, fCatS, mOpF, fCat, fRep, fIxL, fIxT, fIxS, mNo, mPart, mSlL, mSlT, mSlS, fLen, fAbs, fInt, fStrI, fAll, fAny, fSum, mCBF, fList, fTuple, mJoin, fFmt, mJs, isiB, fIsi, okRight, mOwnL, mOwnR, mOwn1, onlyStr, mStrO, okLeft, mEqO, mEqO2, onlyNot, mNeO, mCMeth, asSeq, mStar, perm, mMethK, mCallK, mInO, mIdxO, mIdxD, mD0, mLc, wipeS, wipeG, backG, sFor, Mi.allB, fMax2, iEnT, mIxO, mMakeS, mMkLS, mMkL, isCls, mSlSL, mSlST, mCMethK, Mi.allI, fMax, F_law_low, m_law_low, g, hn, c0, c1.1, c1.2, tupD, M.low, es]
  · have es : M.sg u l = -(Int.gcd u l : Int) := if_pos (by omega)
    have c0 : cMul (Int.gcd u l : Int) (-1) = true := cmul_ok (n := 8000) (m := 2) (by simpa using gz) (by decide)
    have c1 : cDiv u (-(Int.gcd u l : Int)) = true ∧ cDiv l (-(Int.gcd u l : Int)) = true := by
      have z := lg (-(Int.gcd u l : Int)) (by simp)
      constructor <;> exact decide_eq_true ⟨by omega, z⟩
    simp [fnOf, outsOf, callF, slotsOf, mkSlot, lents, takeBack, views, vals, mVar, mBor, mC, fz, mOp, mUn, mTest, asB, mAnd, mOr, mNot, mAndV, mOrV, mNotV, mIf, mNil, mCons, mLst, mTup, mCB, f1, f2, sSkip, sSeq, sExpr, sRet, sRetN, sBreak, sCont, sNever, sIf, gN, gTs, gLs, gsN, gsC, sAsg, sOwn, sPar, sPar3, sParFE, sParEF, sParFF, argSeq, asL, asT, asS, asI, asV, iL, iT, iS, iR1, iR2, iEn, iZ, hold, noEx, mCall, mMeth, mProp, mMake, fldAt, mFld, putD, sFldSet, mMut, fAppend, fClear0, fRev, fPop, sSetItem, owL, fI, fIc, fNeg, mChain, fIsN, fNotN, fCatS, mOpF, fCat, fRep, fIxL, fIxT, fIxS, mNo, mPart, mSlL, mSlT, mSlS, fLen, fAbs, fInt, fStrI, fAll, fAny, fSum, mCBF, fList, fTuple, mJoin, fFmt, mJs, isiB, fIsi, okRight, mOwnL, mOwnR, mOwn1, onlyStr, mStrO, okLeft, mEqO, mEqO2, onlyNot, mNeO, mCMeth, asSeq, mStar, perm, mMethK, mCallK, mInO, mIdxO, mIdxD, mD0, mLc, wipeS, wipeG, backG, sFor, Mi.allB, fMax2, iEnT, mIxO, mMakeS, mMkLS, mMkL, isCls, mSlSL, mSlST, mCMethK, Mi.allI, fMax, F_law_low, m_law_low, g, hn, c0, c1.1, c1.2, tupD, M.low, es]
theorem atI_one {α : Type} (a b : α) (as : List α) : atI (a :: b :: as) 1 = some b := by
  simp [atI, ixN]
  rw [if_pos (by omega)]
  rfl
theorem bt_mul {a b : Int} {n m : Nat} (h1 : a.natAbs < 2 ^ n) (h2 : b.natAbs < 2 ^ m) (h : n + m ≤ 8000 := by decide) : Bt (a * b) := bt_pow (M.mul_lt h1 h2) h
theorem lplus_ev {a b : Int × Int} (ha : M.Sz 3000 a) (hb : M.Sz 3000 b) (h0 : a.2 * b.2 ≠ 0) (p : Int × Int) : F_law_plus [.sh (tupD a), .sh (tupD b)] p = .ok (tupD (M.plus a b)) [.no, .no] p := by
  have c1 : cMul a.1 b.2 = true := cmul_ok ha.1 hb.2
  have c2 : cMul b.1 a.2 = true := cmul_ok hb.1 ha.2
  have c3 : cMul a.2 b.2 = true := cmul_ok ha.2 hb.2
  have l := llow_ev (u := a.1 * b.2 + b.1 * a.2) (l := a.2 * b.2) h0 (bt_pow (M.add_lt (M.mul_lt ha.1 hb.2) (M.mul_lt hb.1 ha.2))) (bt_mul ha.2 hb.2) p
  simp only [tupD] at l
  simp [fnOf, outsOf, callF, slotsOf, mkSlot, lents, takeBack, views, vals, mVar, mBor, mC, fz, mOp, mUn, mTest, asB, mAnd, mOr, mNot, mAndV, mOrV, mNotV, mIf, mNil, mCons, mLst, mTup, mCB, f1, f2, sSkip, sSeq, sExpr, sRet, sRetN, sBreak, sCont, sNever, sIf, gN, gTs, gLs, gsN, gsC, sAsg, sOwn, sPar, sPar3, sParFE, sParEF, sParFF, argSeq, asL, asT, asS, asI, asV, iL, iT, iS, iR1, iR2, iEn, iZ, hold, noEx, mCall, mMeth, mProp, mMake, fldAt, mFld, putD, sFldSet, mMut, fAppend, fClear0, fRev, fPop, sSetItem, owL, fI, fIc, fNeg, mChain, fIsN, fNotN, fCatS, mOpF, fCat, fRep, fIxL, fIxT, fIxS, mNo, mPart, mSlL, mSlT, mSlS, fLen, fAbs, fInt, fStrI, fAll, fAny, fSum, mCBF, fList, fTuple, mJoin, fFmt, mJs, isiB, fIsi, okRight, mOwnL, mOwnR, mOwn1, onlyStr, mStrO, okLeft, mEqO, mEqO2, onlyNot, mNeO, mCMeth, asSeq, mStar, perm, mMethK, mCallK, mInO, mIdxO, mIdxD, mD0, mLc, wipeS, wipeG, backG, sFor, Mi.allB, fMax2, iEnT, mIxO, mMakeS, mMkLS, mMkL, isCls, mSlSL, mSlST, mCMethK, Mi.allI, fMax, F_law_plus, m_law_plus, tupD, atI_one, c1, c2, c3, M.plus, l]
theorem lminus_ev {a b : Int × Int} (ha : M.Sz 3000 a) (hb : M.Sz 3000 b) (h0 : a.2 * b.2 ≠ 0) (p : Int × Int) : F_law_minus [.sh (tupD a), .sh (tupD b)] p = .ok (tupD (M.minus a b)) [.no, .no] p := by
  have c1 : cMul a.1 b.2 = true := cmul_ok ha.1 hb.2
  have c2 : cMul b.1 a.2 = true := cmul_ok hb.1 ha.2
  have c3 : cMul a.2 b.2 = true := cmul_ok ha.2 hb.2
  have l := llow_ev (u := a.1 * b.2 - b.1 * a.2) (l := a.2 * b.2) h0 (bt_pow (M.sub_lt (M.mul_lt ha.1 hb.2) (M.mul_lt hb.1 ha.2))) (bt_mul ha.2 hb.2) p
  simp only [tupD] at l
  simp [fnOf, outsOf, callF, slotsOf, mkSlot, lents, takeBack, views, vals, mVar, mBor, mC, fz, mOp, mUn, mTest, asB, mAnd, mOr, mNot, mAndV, mOrV, mNotV, mIf, mNil, mCons, mLst, mTup, mCB, f1, f2, sSkip, sSeq, sExpr, sRet, sRetN, sBreak, sCont, sNever, sIf, gN, gTs, gLs, gsN, gsC, sAsg, sOwn, sPar, sPar3, sParFE, sParEF, sParFF, argSeq, asL, asT, asS, asI, asV, iL, iT, iS, iR1, iR2, iEn, iZ, hold, noEx, mCall, mMeth, mProp, mMake, fldAt, mFld, putD, sFldSet, mMut, fAppend, fClear0, fRev, fPop, sSetItem, owL, fI, fIc, fNeg, mChain, fIsN, fNotN, fCatS, mOpF, fCat, fRep, fIxL, fIxT, fIxS, mNo, mPart, mSlL, mSlT, mSlS, fLen, fAbs, fInt, fStrI, fAll, fAny, fSum, mCBF, fList, fTuple, mJoin, fFmt, mJs, isiB, fIsi, okRight, mOwnL, mOwnR, mOwn1, onlyStr, mStrO, okLeft, mEqO, mEqO2, onlyNot, mNeO, mCMeth, asSeq, mStar, perm, mMethK, mCallK, mInO, mIdxO, mIdxD, mD0, mLc, wipeS, wipeG, backG, sFor, Mi.allB, fMax2, iEnT, mIxO, mMakeS, mMkLS, mMkL, isCls, mSlSL, mSlST, mCMethK, Mi.allI, fMax, F_law_minus, m_law_minus, tupD, atI_one, c1, c2, c3, M.minus, l]

noncomputable def t1_law_steps : MG := gN 2
noncomputable def b1_law_steps : MS := sSeq (sAsg (mCall 2 F_law_pick (mCons (mBor 0) (mCons (fz (mLst (mCons (mC (.int 0)) (mCons (mC (.int 0)) (mCons (mC (.int 1)) (mCons (mC (.int 1)) (mCons (mC (.int 2)) (mCons (mC (.int 3)) (mCons (mOp fAdd (mC (.int 1)) (mCall 2 F_law_draw (mCons (mBor 0) (mCons (mC (.int 30)) (mNil))))) (mCons (mCall 2 F_law_draw (mCons (mBor 0) (mCons (mOp fPow (mC (.int 10)) (mC (.int 6))) (mNil)))) (mNil))))))))))) (mNil)))) (gN 3)) (sExpr (mMut 1 fAppend (mCons (mCall 2 F_law_low (mCons (mBor 3) (mCons (mCall 2 F_law_pick (mCons (mBor 0) (mCons (fz (mLst (mCons (mC (.int 1)) (mCons (mC (.int 1)) (mCons (mC (.int 1)) (mCons (mC (.int 2)) (mCons (mC (.int 3)) (mCons (mOp fAdd (mC (.int 1)) (mCall 2 F_law_draw (mCons (mBor 0) (mCons (mC (.int 30)) (mNil))))) (mNil))))))))) (mNil)))) (mNil)))) (mNil))))
noncomputable def t2_law_steps : MG := gN 4
noncomputable def e1_law_steps : ME := mOp fIxT (mBor 4) (mC (.int 0))
noncomputable def m_law_steps : MS := sSeq (sOwn 1 (mLst (mNil))) (sSeq (sFor [2, 3] (iR1 (mCons (mC (.int 5)) (mNil))) t1_law_steps b1_law_steps) (sSeq (sIf (mTest (mOp fEqS (mCB (f1 fMax) (mCons (fz (mLc (iL (mBor 1)) t2_law_steps (fun s => .ok (true, s)) e1_law_steps [4])) (mNil))) (mC (.int 0)))) (sSetItem 1 (mTup (mCons (mC (.int 1)) (mCons (mC (.int 1)) (mNil)))) (mCall 2 F_law_draw (mCons (mBor 0) (mCons (mC (.int 5)) (mNil))))) (sSkip)) (sRet (mVar 1))))
noncomputable def F_law_steps : Fn := fnOf 5 m_law_steps
theorem okb_law_steps {P : Program} {w : World} {K : PySem.W.Frag} {mg : Str → Option Value} {base : Heap} (T : Txt K mg) {fd : FuncData} (F : FunD K "_law_steps" "_law_steps" (defArgs s_law_steps) (defBody s_law_steps) (defScope s_law_steps) [] [] (He.ga K "_law_steps") fd) : FnOk P w K mg base (L2.CX P w) 3 (He.ga K "_law_steps") fd ["_law_pot_here"] (spM K 1 F_law_steps) := by
  refine F.ok sc_law_steps (fun vs H Q E h => ?_) (fun cdv A outer s H vs Q E hr h => ?_)
  · obtain ⟨_, _, _, _, _, hl, _⟩ := h
    exact hl
  exact ⟨_, pss_cons (ps_set (i := 1) sc_law_steps.nd rfl (Or.inl rfl) (pe_lst (pa_nil))) (pss_cons (ps_for (passes_of rfl) rfl (pi_range1 (by rfl) T.f_range (pa_cons (pe_int) (pa_nil))) (pg_name (i := 2) sc_law_steps.nd rfl (Or.inl rfl)) (pss_cons (ps_set (i := 3) sc_law_steps.nd rfl (Or.inl rfl) (Z.pe_cl (E := E) (ok_law_pick T) (hr.mono (by decide)) T.g_law_pick T.k_law_pick (passes_call (W := fun c d _ H => E c d H) (takes_of rfl rfl rfl rfl) fun _ _ _ _ h => h) (pa_cons (pv 0) (pa_cons (pe_lst (pa_cons (pe_int) (pa_cons (pe_int) (pa_cons (pe_int) (pa_cons (pe_int) (pa_cons (pe_int) (pa_cons (pe_int) (pa_cons (pe_op op_add (pe_int) (Z.pe_cl (E := E) (ok_law_draw T) (hr.mono (by decide)) T.g_law_draw T.k_law_draw (passes_call (W := fun c d _ H => E c d H) (takes_of rfl rfl rfl rfl) fun _ _ _ _ h => h) (pa_cons (pv 0) (pa_cons (pe_int) (pa_nil))))) (pa_cons (Z.pe_cl (E := E) (ok_law_draw T) (hr.mono (by decide)) T.g_law_draw T.k_law_draw (passes_call (W := fun c d _ H => E c d H) (takes_of rfl rfl rfl rfl) fun _ _ _ _ h => h) (pa_cons (pv 0) (pa_cons (pe_op op_pow (pe_int) (pe_int)) (pa_nil)))) (pa_nil)))))))))) (pa_nil))))) (pss_one (ps_expr (pe_bm PySem.F.plainAttrs_list PySem.F.slot_list_append PySem.F.type_list_append mt_append (pv 1) (pa_cons (Z.pe_cl (E := E) (ok_law_low T) (hr.mono (by decide)) T.g_law_low T.k_law_low (passes_call (W := fun c d _ H => E c d H) (takes_of rfl rfl rfl rfl) fun _ _ _ _ h => h) (pa_cons (pv 3) (pa_cons (Z.pe_cl (E := E) (ok_law_pick T) (hr.mono (by decide)) T.g_law_pick T.k_law_pick (passes_call (W := fun c d _ H => E c d H) (takes_of rfl rfl rfl rfl) fun _ _ _ _ h => h) (pa_cons (pv 0) (pa_cons (pe_lst (pa_cons (pe_int) (pa_cons (pe_int) (pa_cons (pe_int) (pa_cons (pe_int) (pa_cons (pe_int) (pa_cons (pe_op op_add (pe_int) (Z.pe_cl (E := E) (ok_law_draw T) (hr.mono (by decide)) T.g_law_draw T.k_law_draw (passes_call (W := fun c d _ H => E c d H) (takes_of rfl rfl rfl rfl) fun _ _ _ _ h => h) (pa_cons (pv 0) (pa_cons (pe_int) (pa_nil))))) (pa_nil)))))))) (pa_nil)))) (pa_nil)))) (pa_nil))))))) (pss_cons (ps_if (pt_cmpR op_eq (pe_callB (Z.maxK (K := K) rfl rfl) (by rfl) T.f_max (by decide +kernel) (pa_cons (pe_lc (own := [("_law_step", 4)]) (g := gName 4) (by rfl) sc_law_steps.nd (Z.piListK (K := K) rfl (pv 1)) (blkOk_by (own := [("_law_step", 4)]) (N := N_law_steps) (sc := defScope s_law_steps) (by decide +kernel)) (fun _ _ _ _ _ => pg_name (i := 4) sc_law_steps.nd rfl (Or.inl rfl)) (fun _ _ _ _ _ => pts_nil) (fun _ _ _ _ _ => pe_ix (Z.ixtK (K := K) rfl) (pv 4) (pe_int) (fun _ _ => rfl))) (pa_nil))) (pe_int) (nomark _)) (pss_one (ps_asg (pe_tup (pa_cons (pe_int) (pa_cons (pe_int) (pa_nil)))) (pg_sub (pv 1) (Z.pe_cl (E := E) (ok_law_draw T) (hr.mono (by decide)) T.g_law_draw T.k_law_draw (passes_call (W := fun c d _ H => E c d H) (takes_of rfl rfl rfl rfl) fun _ _ _ _ h => h) (pa_cons (pv 0) (pa_cons (pe_int) (pa_nil)))) set_list))) (pss_nil)) (pss_one (ps_ret (pv 1))))), body_ok (N := N_law_steps) (snd_seq (snd_own 1 (snd_lst (snd_nil))) (snd_seq (snd_for (snd_ir1 (snd_cons (snd_int) (snd_nil))) (snd_gn 2) (snd_seq (snd_asg (snd_call (snd_cons (snd_bor 0) (snd_cons (snd_fz (snd_lst (snd_cons (snd_int) (snd_cons (snd_int) (snd_cons (snd_int) (snd_cons (snd_int) (snd_cons (snd_int) (snd_cons (snd_int) (snd_cons (snd_op os_add (snd_int) (snd_call (snd_cons (snd_bor 0) (snd_cons (snd_int) (snd_nil))))) (snd_cons (snd_call (snd_cons (snd_bor 0) (snd_cons (snd_op os_pow (snd_int) (snd_int)) (snd_nil)))) (snd_nil))))))))))) (snd_nil)))) (snd_gn 3)) (snd_expr (snd_mut (i := 1) mu_append (snd_cons (snd_call (snd_cons (snd_bor 3) (snd_cons (snd_call (snd_cons (snd_bor 0) (snd_cons (snd_fz (snd_lst (snd_cons (snd_int) (snd_cons (snd_int) (snd_cons (snd_int) (snd_cons (snd_int) (snd_cons (snd_int) (snd_cons (snd_op os_add (snd_int) (snd_call (snd_cons (snd_bor 0) (snd_cons (snd_int) (snd_nil))))) (snd_nil))))))))) (snd_nil)))) (snd_nil)))) (snd_nil)))))) (snd_seq (snd_ifS (snd_test (snd_op os_eqS (snd_cb cs_max (snd_cons (snd_fz (snd_lc (vs := [4]) (snd_il (snd_bor 1)) (snd_gn 4) (snd_yes) (snd_op os_ixT (snd_bor 4) (snd_int)) (by decide))) (snd_nil))) (snd_int))) (snd_setItem (i := 1) (snd_tup (snd_cons (snd_int) (snd_cons (snd_int) (snd_nil)))) (snd_call (snd_cons (snd_bor 0) (snd_cons (snd_int) (snd_nil))))) (snd_skip)) (snd_ret (snd_var 1))))) h⟩
theorem ok_law_steps {P : Program} {w : World} {K : PySem.W.Frag} {mg : Str → Option Value} {base : Heap} (T : Txt K mg) : FnR P w K mg base (L2.CX P w) 3 (He.ga K "_law_steps") (spM K 1 F_law_steps) := by
  obtain ⟨fd, F⟩ := T.d_law_steps
  exact Z.raw0 (okb_law_steps T F) (F.bindsN fun _ _ _ _ _ _ us hl => match us, hl with | [_], _ => rfl)
noncomputable def t1_law_points : MG := gN 2
noncomputable def b1_law_points : MS := sExpr (mMut 1 fAppend (mCons (mCall 2 F_law_plus (mCons (mOp fIxL (mBor 1) (mUn fNeg (mC (.int 1)))) (mCons (mBor 2) (mNil)))) (mNil)))
noncomputable def m_law_points : MS := sSeq (sOwn 1 (mLst (mCons (mTup (mCons (mC (.int 0)) (mCons (mC (.int 1)) (mNil)))) (mNil)))) (sSeq (sFor [2] (iL (fz (mSlSL (mBor 0) mNo mNo (mPart (mUn fNeg (mC (.int 1))))))) t1_law_points b1_law_points) (sRet (fz (mSlSL (mBor 1) mNo (mPart (mC (.int 0))) (mPart (mUn fNeg (mC (.int 1))))))))
noncomputable def F_law_points : Fn := fnOf 3 m_law_points
theorem okb_law_points {P : Program} {w : World} {K : PySem.W.Frag} {mg : Str → Option Value} {base : Heap} (T : Txt K mg) {fd : FuncData} (F : FunD K "_law_points" "_law_points" (defArgs s_law_points) (defBody s_law_points) (defScope s_law_points) [] [] (He.ga K "_law_points") fd) : FnOk P w K mg base (L2.CX P w) 4 (He.ga K "_law_points") fd ["_law_steps_here"] (spM K 1 F_law_points) := by
  refine F.ok sc_law_points (fun vs H Q E h => ?_) (fun cdv A outer s H vs Q E hr h => ?_)
  · obtain ⟨_, _, _, _, _, hl, _⟩ := h
    exact hl
  exact ⟨_, pss_cons (ps_set (i := 1) sc_law_points.nd rfl (Or.inl rfl) (pe_lst (pa_cons (pe_tup (pa_cons (pe_int) (pa_cons (pe_int) (pa_nil)))) (pa_nil)))) (pss_cons (ps_for (passes_of rfl) rfl (Z.piListK (K := K) rfl (Z.pe_sliceS (K := K) rfl (pv 0) po_none po_none (po_some (pe_un un_neg (pe_int))))) (pg_name (i := 2) sc_law_points.nd rfl (Or.inl rfl)) (pss_one (ps_expr (pe_bm PySem.F.plainAttrs_list PySem.F.slot_list_append PySem.F.type_list_append mt_append (pv 1) (pa_cons (Z.pe_cl (E := E) (ok_law_plus T) (hr.mono (by decide)) T.g_law_plus T.k_law_plus (passes_call (W := fun c d _ H => E c d H) (takes_of rfl rfl rfl rfl) fun _ _ _ _ h => h) (pa_cons (pe_ix (Z.ixlK (K := K) rfl) (pv 1) (pe_un un_neg (pe_int)) (fun _ _ => rfl)) (pa_cons (pv 2) (pa_nil)))) (pa_nil)))))) (pss_one (ps_ret (Z.pe_sliceS (K := K) rfl (pv 1) po_none (po_some (pe_int)) (po_some (pe_un un_neg (pe_int))))))), body_ok (N := N_law_points) (snd_seq (snd_own 1 (snd_lst (snd_cons (snd_tup (snd_cons (snd_int) (snd_cons (snd_int) (snd_nil)))) (snd_nil)))) (snd_seq (snd_for (snd_il (snd_fz (snd_slSL (snd_bor 0) snd_no snd_no (snd_part (snd_un us_neg (snd_int)))))) (snd_gn 2) (snd_expr (snd_mut (i := 1) mu_append (snd_cons (snd_call (snd_cons (snd_op os_ixL (snd_bor 1) (snd_un us_neg (snd_int))) (snd_cons (snd_bor 2) (snd_nil)))) (snd_nil))))) (snd_ret (snd_fz (snd_slSL (snd_bor 1) snd_no (snd_part (snd_int)) (snd_part (snd_un us_neg (snd_int)))))))) h⟩
theorem ok_law_points {P : Program} {w : World} {K : PySem.W.Frag} {mg : Str → Option Value} {base : Heap} (T : Txt K mg) : FnR P w K mg base (L2.CX P w) 4 (He.ga K "_law_points") (spM K 1 F_law_points) := by
  obtain ⟨fd, F⟩ := T.d_law_points
  exact Z.raw0 (okb_law_points T F) (F.bindsN fun _ _ _ _ _ _ us hl => match us, hl with | [_], _ => rfl)
noncomputable def m_law_number : MS := sSeq (sAsg (mCall 2 F_law_pick (mCons (mBor 0) (mCons (fz (mLst (mCons (mC (.int 1)) (mCons (mC (.int 1)) (mCons (mC (.int 2)) (mCons (mUn fNeg (mC (.int 3))) (mNil))))))) (mNil)))) (gN 2)) (sRet (mIf (mAnd (mTest (mOp fEqS (mOp fIxT (mBor 1) (mC (.int 1))) (mC (.int 1)))) (mTest (mOp fEqS (mCall 2 F_law_draw (mCons (mBor 0) (mCons (mC (.int 2)) (mNil)))) (mC (.int 0))))) (mOp fIxT (mBor 1) (mC (.int 0))) (mMake c_Ratio 3 F_Ratio_init (mCons (mOp fMul (mOp fIxT (mBor 1) (mC (.int 0))) (mBor 2)) (mCons (mOp fMul (mOp fIxT (mBor 1) (mC (.int 1))) (mBor 2)) (mNil))))))
noncomputable def F_law_number : Fn := fnOf 3 m_law_number
theorem okb_law_number {P : Program} {w : World} {K : PySem.W.Frag} {mg : Str → Option Value} {base : Heap} (T : Txt K mg) {fd : FuncData} (F : FunD K "_law_number" "_law_number" (defArgs s_law_number) (defBody s_law_number) (defScope s_law_number) [] [] (He.ga K "_law_number") fd) : FnOk P w K mg base (L2.CX P w) 4 (He.ga K "_law_number") fd ["_law_pot_here", "_law_a"] (spM K 2 F_law_number) := by
  refine F.ok sc_law_number (fun vs H Q E h => ?_) (fun cdv A outer s H vs Q E hr h => ?_)
  · obtain ⟨_, _, _, _, _, hl, _⟩ := h
    exact hl
  exact ⟨_, pss_cons (ps_set (i := 2) sc_law_number.nd rfl (Or.inl rfl) (Z.pe_cl (E := E) (ok_law_pick T) (hr.mono (by decide)) T.g_law_pick T.k_law_pick (passes_call (W := fun c d _ H => E c d H) (takes_of rfl rfl rfl rfl) fun _ _ _ _ h => h) (pa_cons (pv 0) (pa_cons (pe_lst (pa_cons (pe_int) (pa_cons (pe_int) (pa_cons (pe_int) (pa_cons (pe_un un_neg (pe_int)) (pa_nil)))))) (pa_nil))))) (pss_one (ps_ret (pe_ifExp (PW.pt (pw_and (pt_cmpR op_eq (pe_ix (Z.ixtK (K := K) rfl) (pv 1) (pe_int) (fun _ _ => rfl)) (pe_int) (nomark _)) (pw_and1 (pt_cmpR op_eq (Z.pe_cl (E := E) (ok_law_draw T) (hr.mono (by decide)) T.g_law_draw T.k_law_draw (passes_call (W := fun c d _ H => E c d H) (takes_of rfl rfl rfl rfl) fun _ _ _ _ h => h) (pa_cons (pv 0) (pa_cons (pe_int) (pa_nil)))) (pe_int) (nomark _))))) (pe_ix (Z.ixtK (K := K) rfl) (pv 1) (pe_int) (fun _ _ => rfl)) (StX.pe_makeR (E := E) T.mk_Ratio (ok_Ratio_init_f T) (hr.mono (by decide)) rfl T.g_Ratio (passes_call (W := fun c d _ H => E c d H) (takes_of rfl rfl rfl rfl) fun _ _ _ _ h => h) (pa_cons (pe_op op_mulW (pe_ix (Z.ixtK (K := K) rfl) (pv 1) (pe_int) (fun _ _ => rfl)) (pv 2)) (pa_cons (pe_op op_mulW (pe_ix (Z.ixtK (K := K) rfl) (pv 1) (pe_int) (fun _ _ => rfl)) (pv 2)) (pa_nil))))))), body_ok (N := N_law_number) (snd_seq (snd_asg (snd_call (snd_cons (snd_bor 0) (snd_cons (snd_fz (snd_lst (snd_cons (snd_int) (snd_cons (snd_int) (snd_cons (snd_int) (snd_cons (snd_un us_neg (snd_int)) (snd_nil))))))) (snd_nil)))) (snd_gn 2)) (snd_ret (snd_if (snd_and (snd_test (snd_op os_eqS (snd_op os_ixT (snd_bor 1) (snd_int)) (snd_int))) (snd_test (snd_op os_eqS (snd_call (snd_cons (snd_bor 0) (snd_cons (snd_int) (snd_nil)))) (snd_int)))) (snd_op os_ixT (snd_bor 1) (snd_int)) (snd_make (c := c_Ratio) (snd_cons (snd_op os_mul (snd_op os_ixT (snd_bor 1) (snd_int)) (snd_bor 2)) (snd_cons (snd_op os_mul (snd_op os_ixT (snd_bor 1) (snd_int)) (snd_bor 2)) (snd_nil))))))) h⟩
theorem ok_law_number {P : Program} {w : World} {K : PySem.W.Frag} {mg : Str → Option Value} {base : Heap} (T : Txt K mg) : FnR P w K mg base (L2.CX P w) 4 (He.ga K "_law_number") (spM K 2 F_law_number) := by
  obtain ⟨fd, F⟩ := T.d_law_number
  exact Z.raw0 (okb_law_number T F) (F.bindsN fun _ _ _ _ _ _ us hl => match us, hl with | [_, _], _ => rfl)
noncomputable def t1_law_paid : MG := gN 1
noncomputable def c1_law_paid : MT := (mTest (mOp fGt (mOp fIxT (mBor 1) (mC (.int 0))) (mC (.int 0))))
noncomputable def e1_law_paid : ME := mVar 1
noncomputable def m_law_paid : MS := sRet (mCB (f1 fLen) (mCons (fz (mLc (iL (mBor 0)) t1_law_paid c1_law_paid e1_law_paid [1])) (mNil)))
noncomputable def F_law_paid : Fn := fnOf 2 m_law_paid
theorem okb_law_paid {P : Program} {w : World} {K : PySem.W.Frag} {mg : Str → Option Value} {base : Heap} (T : Txt K mg) {fd : FuncData} (F : FunD K "_law_paid" "_law_paid" (defArgs s_law_paid) (defBody s_law_paid) (defScope s_law_paid) [] [] (He.ga K "_law_paid") fd) : FnOk P w K mg base (L2.CX P w) 1 (He.ga K "_law_paid") fd ["_law_points_here"] (spM K 1 F_law_paid) := by
  refine F.ok sc_law_paid (fun vs H Q E h => ?_) (fun cdv A outer s H vs Q E hr h => ?_)
  · obtain ⟨_, _, _, _, _, hl, _⟩ := h
    exact hl
  exact ⟨_, pss_one (ps_ret (pe_callB (Z.lenK (K := K) rfl) (by rfl) T.f_len (by decide +kernel) (pa_cons (pe_lc (own := [("_law_a", 1)]) (g := gName 1) (by rfl) sc_law_paid.nd (Z.piListK (K := K) rfl (pv 0)) (blkOk_by (own := [("_law_a", 1)]) (N := N_law_paid) (sc := defScope s_law_paid) (by decide +kernel)) (fun _ _ _ _ _ => pg_name (i := 1) sc_law_paid.nd rfl (Or.inl rfl)) (fun _ _ _ _ _ => pts_one (pt_cmpR op_gt (pe_ix (Z.ixtK (K := K) rfl) (pv 1) (pe_int) (fun _ _ => rfl)) (pe_int) (nomark _))) (fun _ _ _ _ _ => pv 1)) (pa_nil)))), body_ok (N := N_law_paid) (snd_ret (snd_cb cs_len (snd_cons (snd_fz (snd_lc (vs := [1]) (snd_il (snd_bor 0)) (snd_gn 1) (snd_test (snd_op os_gt (snd_op os_ixT (snd_bor 1) (snd_int)) (snd_int))) (snd_var 1) (by decide))) (snd_nil)))) h⟩
theorem ok_law_paid {P : Program} {w : World} {K : PySem.W.Frag} {mg : Str → Option Value} {base : Heap} (T : Txt K mg) : FnR P w K mg base (L2.CX P w) 1 (He.ga K "_law_paid") (spM K 1 F_law_paid) := by
  obtain ⟨fd, F⟩ := T.d_law_paid
  exact Z.raw0 (okb_law_paid T F) (F.bindsN fun _ _ _ _ _ _ us hl => match us, hl with | [_], _ => rfl)
noncomputable def m_law_shown : MS := sRet (mOp fCatS (mOp fCatS (mOp fCatS (mOp fCatS (mC (.str "Ratio(")) (mCB (f1 fStrI) (mCons (mOp fIxT (mBor 0) (mC (.int 0))) (mNil)))) (mC (.str ", "))) (mCB (f1 fStrI) (mCons (mOp fIxT (mBor 0) (mC (.int 1))) (mNil)))) (mC (.str ")")))
noncomputable def F_law_shown : Fn := fnOf 1 m_law_shown
theorem okb_law_shown {P : Program} {w : World} {K : PySem.W.Frag} {mg : Str → Option Value} {base : Heap} (T : Txt K mg) {fd : FuncData} (F : FunD K "_law_shown" "_law_shown" (defArgs s_law_shown) (defBody s_law_shown) (defScope s_law_shown) [] [] (He.ga K "_law_shown") fd) : FnOk P w K mg base (L2.CX P w) 1 (He.ga K "_law_shown") fd ["_law_a"] (spM K 1 F_law_shown) := by
  refine F.ok sc_law_shown (fun vs H Q E h => ?_) (fun cdv A outer s H vs Q E hr h => ?_)
  · obtain ⟨_, _, _, _, _, hl, _⟩ := h
    exact hl
  exact ⟨_, pss_one (ps_ret (pe_op op_add_str (pe_op op_add_str (pe_op op_add_str (pe_op op_add_str (pe_str) (pe_callTy call_str_int (by rfl) T.f_str (by decide +kernel) (pa_cons (pe_ix (Z.ixtK (K := K) rfl) (pv 0) (pe_int) (fun _ _ => rfl)) (pa_nil)))) (pe_str)) (pe_callTy call_str_int (by rfl) T.f_str (by decide +kernel) (pa_cons (pe_ix (Z.ixtK (K := K) rfl) (pv 0) (pe_int) (fun _ _ => rfl)) (pa_nil)))) (pe_str))), body_ok (N := N_law_shown) (snd_ret (snd_op os_catS (snd_op os_catS (snd_op os_catS (snd_op os_catS (snd_str) (snd_cb cs_strI (snd_cons (snd_op os_ixT (snd_bor 0) (snd_int)) (snd_nil)))) (snd_str)) (snd_cb cs_strI (snd_cons (snd_op os_ixT (snd_bor 0) (snd_int)) (snd_nil)))) (snd_str))) h⟩
theorem ok_law_shown {P : Program} {w : World} {K : PySem.W.Frag} {mg : Str → Option Value} {base : Heap} (T : Txt K mg) : FnR P w K mg base (L2.CX P w) 1 (He.ga K "_law_shown") (spM K 1 F_law_shown) := by
  obtain ⟨fd, F⟩ := T.d_law_shown
  exact Z.raw0 (okb_law_shown T F) (F.bindsN fun _ _ _ _ _ _ us hl => match us, hl with | [_], _ => rfl)
noncomputable def m_law_by_points : MS := sSeq (sIf (mTest (mOp fEqS (mCB (f1 fLen) (mCons (mBor 0) (mNil))) (mC (.int 1)))) (sRet (mMake c_Table 2 (starF 1 F_Table_init) (mCons (mOp fIxL (mBor 0) (mC (.int 0))) (mNil)))) (sSkip)) (sSeq (sIf (mTest (mOp fEqS (mCB (f1 fLen) (mCons (mBor 0) (mNil))) (mC (.int 2)))) (sRet (mMake c_Table 3 (starF 1 F_Table_init) (mCons (mOp fIxL (mBor 0) (mC (.int 0))) (mCons (mOp fIxL (mBor 0) (mC (.int 1))) (mNil))))) (sSkip)) (sSeq (sIf (mTest (mOp fEqS (mCB (f1 fLen) (mCons (mBor 0) (mNil))) (mC (.int 3)))) (sRet (mMake c_Table 4 (starF 1 F_Table_init) (mCons (mOp fIxL (mBor 0) (mC (.int 0))) (mCons (mOp fIxL (mBor 0) (mC (.int 1))) (mCons (mOp fIxL (mBor 0) (mC (.int 2))) (mNil)))))) (sSkip)) (sSeq (sIf (mTest (mOp fEqS (mCB (f1 fLen) (mCons (mBor 0) (mNil))) (mC (.int 4)))) (sRet (mMake c_Table 5 (starF 1 F_Table_init) (mCons (mOp fIxL (mBor 0) (mC (.int 0))) (mCons (mOp fIxL (mBor 0) (mC (.int 1))) (mCons (mOp fIxL (mBor 0) (mC (.int 2))) (mCons (mOp fIxL (mBor 0) (mC (.int 3))) (mNil))))))) (sSkip)) (sRet (mMake c_Table 6 (starF 1 F_Table_init) (mCons (mOp fIxL (mBor 0) (mC (.int 0))) (mCons (mOp fIxL (mBor 0) (mC (.int 1))) (mCons (mOp fIxL (mBor 0) (mC (.int 2))) (mCons (mOp fIxL (mBor 0) (mC (.int 3))) (mCons (mOp fIxL (mBor 0) (mC (.int 4))) (mNil)))))))))))
noncomputable def F_law_by_points : Fn := fnOf 1 m_law_by_points
theorem okb_law_by_points {P : Program} {w : World} {K : PySem.W.Frag} {mg : Str → Option Value} {base : Heap} (T : Txt K mg) {fd : FuncData} (F : FunD K "_law_by_points" "_law_by_points" (defArgs s_law_by_points) (defBody s_law_by_points) (defScope s_law_by_points) [] [] (He.ga K "_law_by_points") fd) : FnOk P w K mg base (L2.CX P w) 9 (He.ga K "_law_by_points") fd ["_law_row"] (spM K 1 F_law_by_points) := by
  refine F.ok sc_law_by_points (fun vs H Q E h => ?_) (fun cdv A outer s H vs Q E hr h => ?_)
  · obtain ⟨_, _, _, _, _, hl, _⟩ := h
    exact hl
  exact ⟨_, pss_cons (ps_if (pt_cmpR op_eq (pe_callB (Z.lenK (K := K) rfl) (by rfl) T.f_len (by decide +kernel) (pa_cons (pv 0) (pa_nil))) (pe_int) (nomark _)) (pss_one (ps_ret (StX.pe_makeR (E := E) T.mk_Table (ok_Table_init T (m := 2)) (hr.mono (by decide)) rfl T.g_Table (passes_call (W := fun c d _ H => E c d H) (takes_of rfl rfl rfl rfl) fun _ _ _ _ h => h) (pa_cons (pe_ix (Z.ixlK (K := K) rfl) (pv 0) (pe_int) (fun _ _ => rfl)) (pa_nil))))) (pss_nil)) (pss_cons (ps_if (pt_cmpR op_eq (pe_callB (Z.lenK (K := K) rfl) (by rfl) T.f_len (by decide +kernel) (pa_cons (pv 0) (pa_nil))) (pe_int) (nomark _)) (pss_one (ps_ret (StX.pe_makeR (E := E) T.mk_Table (ok_Table_init T (m := 3)) (hr.mono (by decide)) rfl T.g_Table (passes_call (W := fun c d _ H => E c d H) (takes_of rfl rfl rfl rfl) fun _ _ _ _ h => h) (pa_cons (pe_ix (Z.ixlK (K := K) rfl) (pv 0) (pe_int) (fun _ _ => rfl)) (pa_cons (pe_ix (Z.ixlK (K := K) rfl) (pv 0) (pe_int) (fun _ _ => rfl)) (pa_nil)))))) (pss_nil)) (pss_cons (ps_if (pt_cmpR op_eq (pe_callB (Z.lenK (K := K) rfl) (by rfl) T.f_len (by decide +kernel) (pa_cons (pv 0) (pa_nil))) (pe_int) (nomark _)) (pss_one (ps_ret (StX.pe_makeR (E := E) T.mk_Table (ok_Table_init T (m := 4)) (hr.mono (by decide)) rfl T.g_Table (passes_call (W := fun c d _ H => E c d H) (takes_of rfl rfl rfl rfl) fun _ _ _ _ h => h) (pa_cons (pe_ix (Z.ixlK (K := K) rfl) (pv 0) (pe_int) (fun _ _ => rfl)) (pa_cons (pe_ix (Z.ixlK (K := K) rfl) (pv 0) (pe_int) (fun _ _ => rfl)) (pa_cons (pe_ix (Z.ixlK (K := K) rfl) (pv 0) (pe_int) (fun _ _ => rfl)) (pa_nil))))))) (pss_nil)) (pss_cons (ps_if (pt_cmpR op_eq (pe_callB (Z.lenK (K := K) rfl) (by rfl) T.f_len (by decide +kernel) (pa_cons (pv 0) (pa_nil))) (pe_int) (nomark _)) (pss_one (ps_ret (StX.pe_makeR (E := E) T.mk_Table (ok_Table_init T (m := 5)) (hr.mono (by decide)) rfl T.g_Table (passes_call (W := fun c d _ H => E c d H) (takes_of rfl rfl rfl rfl) fun _ _ _ _ h => h) (pa_cons (pe_ix (Z.ixlK (K := K) rfl) (pv 0) (pe_int) (fun _ _ => rfl)) (pa_cons (pe_ix (Z.ixlK (K := K) rfl) (pv 0) (pe_int) (fun _ _ => rfl)) (pa_cons (pe_ix (Z.ixlK (K := K) rfl) (pv 0) (pe_int) (fun _ _ => rfl)) (pa_cons (pe_ix (Z.ixlK (K := K) rfl) (pv 0) (pe_int) (fun _ _ => rfl)) (pa_nil)))))))) (pss_nil)) (pss_one (ps_ret (StX.pe_makeR (E := E) T.mk_Table (ok_Table_init T (m := 6)) (hr.mono (by decide)) rfl T.g_Table (passes_call (W := fun c d _ H => E c d H) (takes_of rfl rfl rfl rfl) fun _ _ _ _ h => h) (pa_cons (pe_ix (Z.ixlK (K := K) rfl) (pv 0) (pe_int) (fun _ _ => rfl)) (pa_cons (pe_ix (Z.ixlK (K := K) rfl) (pv 0) (pe_int) (fun _ _ => rfl)) (pa_cons (pe_ix (Z.ixlK (K := K) rfl) (pv 0) (pe_int) (fun _ _ => rfl)) (pa_cons (pe_ix (Z.ixlK (K := K) rfl) (pv 0) (pe_int) (fun _ _ => rfl)) (pa_cons (pe_ix (Z.ixlK (K := K) rfl) (pv 0) (pe_int) (fun _ _ => rfl)) (pa_nil)))))))))))), body_ok (N := N_law_by_points) (snd_seq (snd_ifS (snd_test (snd_op os_eqS (snd_cb cs_len (snd_cons (snd_bor 0) (snd_nil))) (snd_int))) (snd_ret (snd_make (c := c_Table) (snd_cons (snd_op os_ixL (snd_bor 0) (snd_int)) (snd_nil)))) (snd_skip)) (snd_seq (snd_ifS (snd_test (snd_op os_eqS (snd_cb cs_len (snd_cons (snd_bor 0) (snd_nil))) (snd_int))) (snd_ret (snd_make (c := c_Table) (snd_cons (snd_op os_ixL (snd_bor 0) (snd_int)) (snd_cons (snd_op os_ixL (snd_bor 0) (snd_int)) (snd_nil))))) (snd_skip)) (snd_seq (snd_ifS (snd_test (snd_op os_eqS (snd_cb cs_len (snd_cons (snd_bor 0) (snd_nil))) (snd_int))) (snd_ret (snd_make (c := c_Table) (snd_cons (snd_op os_ixL (snd_bor 0) (snd_int)) (snd_cons (snd_op os_ixL (snd_bor 0) (snd_int)) (snd_cons (snd_op os_ixL (snd_bor 0) (snd_int)) (snd_nil)))))) (snd_skip)) (snd_seq (snd_ifS (snd_test (snd_op os_eqS (snd_cb cs_len (snd_cons (snd_bor 0) (snd_nil))) (snd_int))) (snd_ret (snd_make (c := c_Table) (snd_cons (snd_op os_ixL (snd_bor 0) (snd_int)) (snd_cons (snd_op os_ixL (snd_bor 0) (snd_int)) (snd_cons (snd_op os_ixL (snd_bor 0) (snd_int)) (snd_cons (snd_op os_ixL (snd_bor 0) (snd_int)) (snd_nil))))))) (snd_skip)) (snd_ret (snd_make (c := c_Table) (snd_cons (snd_op os_ixL (snd_bor 0) (snd_int)) (snd_cons (snd_op os_ixL (snd_bor 0) (snd_int)) (snd_cons (snd_op os_ixL (snd_bor 0) (snd_int)) (snd_cons (snd_op os_ixL (snd_bor 0) (snd_int)) (snd_cons (snd_op os_ixL (snd_bor 0) (snd_int)) (snd_nil)))))))))))) h⟩
theorem ok_law_by_points {P : Program} {w : World} {K : PySem.W.Frag} {mg : Str → Option Value} {base : Heap} (T : Txt K mg) : FnR P w K mg base (L2.CX P w) 9 (He.ga K "_law_by_points") (spM K 1 F_law_by_points) := by
  obtain ⟨fd, F⟩ := T.d_law_by_points
  exact Z.raw0 (okb_law_by_points T F) (F.bindsN fun _ _ _ _ _ _ us hl => match us, hl with | [_], _ => rfl)
noncomputable def m_law_by_steps : MS := sSeq (sIf (mTest (mOp fEqS (mCB (f1 fLen) (mCons (mBor 0) (mNil))) (mC (.int 1)))) (sRet (mCMeth c_Table 2 (starF 1 F_Table_of_steps) (mCons (mOp fIxL (mBor 0) (mC (.int 0))) (mNil)))) (sSkip)) (sSeq (sIf (mTest (mOp fEqS (mCB (f1 fLen) (mCons (mBor 0) (mNil))) (mC (.int 2)))) (sRet (mCMeth c_Table 3 (starF 1 F_Table_of_steps) (mCons (mOp fIxL (mBor 0) (mC (.int 0))) (mCons (mOp fIxL (mBor 0) (mC (.int 1))) (mNil))))) (sSkip)) (sSeq (sIf (mTest (mOp fEqS (mCB (f1 fLen) (mCons (mBor 0) (mNil))) (mC (.int 3)))) (sRet (mCMeth c_Table 4 (starF 1 F_Table_of_steps) (mCons (mOp fIxL (mBor 0) (mC (.int 0))) (mCons (mOp fIxL (mBor 0) (mC (.int 1))) (mCons (mOp fIxL (mBor 0) (mC (.int 2))) (mNil)))))) (sSkip)) (sSeq (sIf (mTest (mOp fEqS (mCB (f1 fLen) (mCons (mBor 0) (mNil))) (mC (.int 4)))) (sRet (mCMeth c_Table 5 (starF 1 F_Table_of_steps) (mCons (mOp fIxL (mBor 0) (mC (.int 0))) (mCons (mOp fIxL (mBor 0) (mC (.int 1))) (mCons (mOp fIxL (mBor 0) (mC (.int 2))) (mCons (mOp fIxL (mBor 0) (mC (.int 3))) (mNil))))))) (sSkip)) (sRet (mCMeth c_Table 6 (starF 1 F_Table_of_steps) (mCons (mOp fIxL (mBor 0) (mC (.int 0))) (mCons (mOp fIxL (mBor 0) (mC (.int 1))) (mCons (mOp fIxL (mBor 0) (mC (.int 2))) (mCons (mOp fIxL (mBor 0) (mC (.int 3))) (mCons (mOp fIxL (mBor 0) (mC (.int 4))) (mNil)))))))))))
noncomputable def F_law_by_steps : Fn := fnOf 1 m_law_by_steps
theorem okb_law_by_steps {P : Program} {w : World} {K : PySem.W.Frag} {mg : Str → Option Value} {base : Heap} (T : Txt K mg) {fd : FuncData} (F : FunD K "_law_by_steps" "_law_by_steps" (defArgs s_law_by_steps) (defBody s_law_by_steps) (defScope s_law_by_steps) [] [] (He.ga K "_law_by_steps") fd) : FnOk P w K mg base (L2.CX P w) 10 (He.ga K "_law_by_steps") fd ["_law_row"] (spM K 1 F_law_by_steps) := by
  refine F.ok sc_law_by_steps (fun vs H Q E h => ?_) (fun cdv A outer s H vs Q E hr h => ?_)
  · obtain ⟨_, _, _, _, _, hl, _⟩ := h
    exact hl
  exact ⟨_, pss_cons (ps_if (pt_cmpR op_eq (pe_callB (Z.lenK (K := K) rfl) (by rfl) T.f_len (by decide +kernel) (pa_cons (pv 0) (pa_nil))) (pe_int) (nomark _)) (pss_one (ps_ret (ClX.pe_cmeth (E := E) (pe_glob (v := .ref (He.ga K c_Table)) rfl T.g_Table rfl) T.cr_Table T.cm_Table_of_steps (ok_Table_of_steps T (m := 2)) (hr.mono (by decide)) (passes_call (W := fun c d _ H => E c d H) (takes_of rfl rfl rfl rfl) fun _ _ _ _ h => h) (pa_cons (pe_ix (Z.ixlK (K := K) rfl) (pv 0) (pe_int) (fun _ _ => rfl)) (pa_nil))))) (pss_nil)) (pss_cons (ps_if (pt_cmpR op_eq (pe_callB (Z.lenK (K := K) rfl) (by rfl) T.f_len (by decide +kernel) (pa_cons (pv 0) (pa_nil))) (pe_int) (nomark _)) (pss_one (ps_ret (ClX.pe_cmeth (E := E) (pe_glob (v := .ref (He.ga K c_Table)) rfl T.g_Table rfl) T.cr_Table T.cm_Table_of_steps (ok_Table_of_steps T (m := 3)) (hr.mono (by decide)) (passes_call (W := fun c d _ H => E c d H) (takes_of rfl rfl rfl rfl) fun _ _ _ _ h => h) (pa_cons (pe_ix (Z.ixlK (K := K) rfl) (pv 0) (pe_int) (fun _ _ => rfl)) (pa_cons (pe_ix (Z.ixlK (K := K) rfl) (pv 0) (pe_int) (fun _ _ => rfl)) (pa_nil)))))) (pss_nil)) (pss_cons (ps_if (pt_cmpR op_eq (pe_callB (Z.lenK (K := K) rfl) (by rfl) T.f_len (by decide +kernel) (pa_cons (pv 0) (pa_nil))) (pe_int) (nomark _)) (pss_one (ps_ret (ClX.pe_cmeth (E := E) (pe_glob (v := .ref (He.ga K c_Table)) rfl T.g_Table rfl) T.cr_Table T.cm_Table_of_steps (ok_Table_of_steps T (m := 4)) (hr.mono (by decide)) (passes_call (W := fun c d _ H => E c d H) (takes_of rfl rfl rfl rfl) fun _ _ _ _ h => h) (pa_cons (pe_ix (Z.ixlK (K := K) rfl) (pv 0) (pe_int) (fun _ _ => rfl)) (pa_cons (pe_ix (Z.ixlK (K := K) rfl) (pv 0) (pe_int) (fun _ _ => rfl)) (pa_cons (pe_ix (Z.ixlK (K := K) rfl) (pv 0) (pe_int) (fun _ _ => rfl)) (pa_nil))))))) (pss_nil)) (pss_cons (ps_if (pt_cmpR op_eq (pe_callB (Z.lenK (K := K) rfl) (by rfl) T.f_len (by decide +kernel) (pa_cons (pv 0) (pa_nil))) (pe_int) (nomark _)) (pss_one (ps_ret (ClX.pe_cmeth (E := E) (pe_glob (v := .ref (He.ga K c_Table)) rfl T.g_Table rfl) T.cr_Table T.cm_Table_of_steps (ok_Table_of_steps T (m := 5)) (hr.mono (by decide)) (passes_call (W := fun c d _ H => E c d H) (takes_of rfl rfl rfl rfl) fun _ _ _ _ h => h) (pa_cons (pe_ix (Z.ixlK (K := K) rfl) (pv 0) (pe_int) (fun _ _ => rfl)) (pa_cons (pe_ix (Z.ixlK (K := K) rfl) (pv 0) (pe_int) (fun _ _ => rfl)) (pa_cons (pe_ix (Z.ixlK (K := K) rfl) (pv 0) (pe_int) (fun _ _ => rfl)) (pa_cons (pe_ix (Z.ixlK (K := K) rfl) (pv 0) (pe_int) (fun _ _ => rfl)) (pa_nil)))))))) (pss_nil)) (pss_one (ps_ret (ClX.pe_cmeth (E := E) (pe_glob (v := .ref (He.ga K c_Table)) rfl T.g_Table rfl) T.cr_Table T.cm_Table_of_steps (ok_Table_of_steps T (m := 6)) (hr.mono (by decide)) (passes_call (W := fun c d _ H => E c d H) (takes_of rfl rfl rfl rfl) fun _ _ _ _ h => h) (pa_cons (pe_ix (Z.ixlK (K := K) rfl) (pv 0) (pe_int) (fun _ _ => rfl)) (pa_cons (pe_ix (Z.ixlK (K := K) rfl) (pv 0) (pe_int) (fun _ _ => rfl)) (pa_cons (pe_ix (Z.ixlK (K := K) rfl) (pv 0) (pe_int) (fun _ _ => rfl)) (pa_cons (pe_ix (Z.ixlK (K := K) rfl) (pv 0) (pe_int) (fun _ _ => rfl)) (pa_cons (pe_ix (Z.ixlK (K := K) rfl) (pv 0) (pe_int) (fun _ _ => rfl)) (pa_nil)))))))))))), body_ok (N := N_law_by_steps) (snd_seq (snd_ifS (snd_test (snd_op os_eqS (snd_cb cs_len (snd_cons (snd_bor 0) (snd_nil))) (snd_int))) (snd_ret (snd_cmeth (c := c_Table) (snd_cons (snd_op os_ixL (snd_bor 0) (snd_int)) (snd_nil)))) (snd_skip)) (snd_seq (snd_ifS (snd_test (snd_op os_eqS (snd_cb cs_len (snd_cons (snd_bor 0) (snd_nil))) (snd_int))) (snd_ret (snd_cmeth (c := c_Table) (snd_cons (snd_op os_ixL (snd_bor 0) (snd_int)) (snd_cons (snd_op os_ixL (snd_bor 0) (snd_int)) (snd_nil))))) (snd_skip)) (snd_seq (snd_ifS (snd_test (snd_op os_eqS (snd_cb cs_len (snd_cons (snd_bor 0) (snd_nil))) (snd_int))) (snd_ret (snd_cmeth (c := c_Table) (snd_cons (snd_op os_ixL (snd_bor 0) (snd_int)) (snd_cons (snd_op os_ixL (snd_bor 0) (snd_int)) (snd_cons (snd_op os_ixL (snd_bor 0) (snd_int)) (snd_nil)))))) (snd_skip)) (snd_seq (snd_ifS (snd_test (snd_op os_eqS (snd_cb cs_len (snd_cons (snd_bor 0) (snd_nil))) (snd_int))) (snd_ret (snd_cmeth (c := c_Table) (snd_cons (snd_op os_ixL (snd_bor 0) (snd_int)) (snd_cons (snd_op os_ixL (snd_bor 0) (snd_int)) (snd_cons (snd_op os_ixL (snd_bor 0) (snd_int)) (snd_cons (snd_op os_ixL (snd_bor 0) (snd_int)) (snd_nil))))))) (snd_skip)) (snd_ret (snd_cmeth (c := c_Table) (snd_cons (snd_op os_ixL (snd_bor 0) (snd_int)) (snd_cons (snd_op os_ixL (snd_bor 0) (snd_int)) (snd_cons (snd_op os_ixL (snd_bor 0) (snd_int)) (snd_cons (snd_op os_ixL (snd_bor 0) (snd_int)) (snd_cons (snd_op os_ixL (snd_bor 0) (snd_int)) (snd_nil)))))))))))) h⟩
theorem ok_law_by_steps {P : Program} {w : World} {K : PySem.W.Frag} {mg : Str → Option Value} {base : Heap} (T : Txt K mg) : FnR P w K mg base (L2.CX P w) 10 (He.ga K "_law_by_steps") (spM K 1 F_law_by_steps) := by
  obtain ⟨fd, F⟩ := T.d_law_by_steps
  exact Z.raw0 (okb_law_by_steps T F) (F.bindsN fun _ _ _ _ _ _ us hl => match us, hl with | [_], _ => rfl)
/-! ### the law's own steps and points -/
theorem low_nn {u l : Int} (hl : 0 < l) (hu : 0 ≤ u) : 0 ≤ (M.low u l).1 := by
  have h := (M.q_nonneg (M.low_red (u := u) (Int.ne_of_gt hl))).symm
  rw [M.q_low (Int.ne_of_gt hl)] at h
  exact h.mpr ((Rat.divInt_nonneg_iff_of_pos_right hl).mpr hu)
theorem low_scale {a : Fr} {k : Int} (ha : M.Red a) (hk : k ≠ 0) : M.low (a.1 * k) (a.2 * k) = a := by
  have h0 : a.2 * k ≠ 0 := Int.mul_ne_zero (M.red_ne ha) hk
  refine (M.q_eq_iff (M.low_red h0) ha).mp ?_
  rw [M.q_low h0]
  exact (Rat.divInt_eq_divInt_iff h0 (M.red_ne ha)).mpr (by rw [Int.mul_assoc, Int.mul_comm k])
def big6 (d : D) : Prop := ∃ n : Int, d = .int n ∧ 0 ≤ n ∧ n < 1000000
def low30 (d : D) : Prop := ∃ n : Int, d = .int n ∧ 1 ≤ n ∧ n ≤ 30
theorem lsteps_body {as : List Fr} (hs : Stp 20 as) (hl : as.length ≤ 5) (x2 x3 : Slot) {p : Int × Int} (hp : PotOk p) : ∃ a x3' p', b1_law_steps ⟨[.sh .pot, .ow none (.lst (as.map tupD)), x2, x3, .no], p⟩ = .ok (.nx, ⟨[.sh .pot, .ow none (.lst ((as ++ [a]).map tupD)), x2, x3', .no], p'⟩) ∧ Stp 20 (as ++ [a]) ∧ PotOk p' := by
  obtain ⟨d1, p1, e1, a1, b1, hp1⟩ := draw_ex (m := 30) hp (by decide) (by decide)
  obtain ⟨d2, p2, e2, a2, b2, hp2⟩ := draw_ex (m := 1000000) hp1 (by decide) (by decide)
  obtain ⟨u, hu, p3, e3, hp3⟩ := pick_ex (ds := [.int 0, .int 0, .int 1, .int 1, .int 2, .int 3, .int (1 + d1), .int d2]) hp2 (by simp) (by simp)
  obtain ⟨d4, p4, e4, a4, b4, hp4⟩ := draw_ex (m := 30) hp3 (by decide) (by decide)
  obtain ⟨l, hl1, p5, e5, hp5⟩ := pick_ex (ds := [.int 1, .int 1, .int 1, .int 2, .int 3, .int (1 + d4)]) hp4 (by simp) (by simp)
  have hu2 : big6 u := by
    simp at hu
    rcases hu with rfl | rfl | rfl | rfl | rfl | rfl <;> exact ⟨_, rfl, by omega, by omega⟩
  have hl2 : low30 l := by
    simp at hl1
    rcases hl1 with rfl | rfl | rfl | rfl <;> exact ⟨_, rfl, by omega, by omega⟩
  obtain ⟨u, rfl, u0, u1⟩ := hu2
  obtain ⟨l, rfl, l0, l1⟩ := hl2
  have uz : u.natAbs < 2 ^ 20 := by omega
  have lz : l.natAbs < 2 ^ 20 := by omega
  have l00 : l ≠ 0 := by omega
  have e6 := llow_ev (u := u) (l := l) l00 (bt_pow uz) (bt_pow lz) p5
  have c1 : cPow 10 6 = true := by decide
  have kl : as.length < 100000 := by omega
  refine ⟨M.low u l, .sh (.int u), p5, ?_, ?_, hp5⟩
  · simp [fnOf, outsOf, callF, slotsOf, mkSlot, lents, takeBack, views, vals, mVar, mBor, mC, fz, mOp, mUn, mTest, asB, mAnd, mOr, mNot, mAndV, mOrV, mNotV, mIf, mNil, mCons, mLst, mTup, mCB, f1, f2, sSkip, sSeq, sExpr, sRet, sRetN, sBreak, sCont, sNever, sIf, gN, gTs, gLs, gsN, gsC, sAsg, sOwn, sPar, sPar3, sParFE, sParEF, sParFF, argSeq, asL, asT, asS, asI, asV, iL, iT, iS, iR1, iR2, iEn, iZ, hold, noEx, mCall, mMeth, mProp, mMake, fldAt, mFld, putD, sFldSet, mMut, fAppend, fClear0, fRev, fPop, sSetItem, owL, fI, fIc, fNeg, mChain, fIsN, fNotN, fCatS, mOpF, fCat, fRep, fIxL, fIxT, fIxS, mNo, mPart, mSlL, mSlT, mSlS, fLen, fAbs, fInt, fStrI, fAll, fAny, fSum, mCBF, fList, fTuple, mJoin, fFmt, mJs, isiB, fIsi, okRight, mOwnL, mOwnR, mOwn1, onlyStr, mStrO, okLeft, mEqO, mEqO2, onlyNot, mNeO, mCMeth, asSeq, mStar, perm, mMethK, mCallK, mInO, mIdxO, mIdxD, mD0, mLc, wipeS, wipeG, backG, sFor, Mi.allB, fMax2, iEnT, mIxO, mMakeS, mMkLS, mMkL, isCls, mSlSL, mSlST, mCMethK, Mi.allI, fMax, b1_law_steps, e1, e2, e3, e4, e5, e6, c1, kl]
  · refine ⟨fun b hb => ?_, fun b hb => ?_, fun b hb => ?_⟩ <;> rcases List.mem_append.mp hb with hb | hb
    · exact hs.red b hb
    · rw [List.mem_singleton.mp hb]; exact M.low_red l00
    · exact hs.sz b hb
    · rw [List.mem_singleton.mp hb]; exact M.low_sz l00 uz lz
    · exact hs.nn b hb
    · rw [List.mem_singleton.mp hb]; exact low_nn (by omega) u0
theorem foldl_max0 : ∀ (as : List Int) (m : Int), 0 ≤ m → (∀ a ∈ as, 0 ≤ a) → (as.foldl max m = 0 ↔ m = 0 ∧ ∀ a ∈ as, a = 0)
  | [], m, _, _ => by simp
  | a :: as, m, hm, h => by
    have ha := h a (by simp)
    rw [List.foldl_cons, foldl_max0 as (max m a) (by omega) fun b hb => h b (by simp [hb])]
    simp only [List.mem_cons, forall_eq_or_imp]
    constructor
    · rintro ⟨h1, h2⟩
      exact ⟨by omega, by omega, h2⟩
    · rintro ⟨h1, h2, h3⟩
      exact ⟨by omega, h3⟩
theorem Stp.set {m : Nat} {as : List Fr} (h : Stp m as) (j : Nat) {a : Fr} (h1 : M.Red a) (h2 : M.Sz m a) (h3 : 0 ≤ a.1) : Stp m (as.set j a) := by
  refine ⟨fun b hb => ?_, fun b hb => ?_, fun b hb => ?_⟩ <;> rcases List.mem_or_eq_of_mem_set hb with hb | rfl
  · exact h.red b hb
  · exact h1
  · exact h.sz b hb
  · exact h2
  · exact h.nn b hb
  · exact h3
theorem lsteps_ex {p : Int × Int} (hp : PotOk p) : ∃ (as : List Fr) (p' : Int × Int), F_law_steps [.sh .pot] p = .ok (.lst (as.map tupD)) [.no] p' ∧ as.length = 5 ∧ Stp 20 as ∧ (∃ a ∈ as, 0 < a.1) ∧ PotOk p' := by
  have lp : ∃ s', forGo [] t1_law_steps b1_law_steps (rangeItems 0 5) ⟨[.sh .pot, .ow none (.lst []), .no, .no, .no], p⟩ = .ok (.nx, s') ∧ ∃ (as : List Fr) (x2 x3 : Slot) (p' : Int × Int), s' = ⟨[.sh .pot, .ow none (.lst (as.map tupD)), x2, x3, .no], p'⟩ ∧ ([] : List D).length + as.length = 5 ∧ Stp 20 as ∧ PotOk p' := by
    refine for_ind (fun items s' => ∃ (as : List Fr) (x2 x3 : Slot) (p' : Int × Int), s' = ⟨[.sh .pot, .ow none (.lst (as.map tupD)), x2, x3, .no], p'⟩ ∧ items.length + as.length = 5 ∧ Stp 20 as ∧ PotOk p') (fun _ _ _ => by simp [hold]) ?_ ⟨[], .no, .no, p, rfl, by simp [rangeItems], ⟨by simp, by simp, by simp⟩, hp⟩
    rintro d items s' ⟨as, x2, x3, p', rfl, hl, hs, hp'⟩
    simp at hl
    obtain ⟨a, x3', p2, e, hs2, hp2⟩ := lsteps_body hs (by omega) (.sh d) x3 hp'
    exact ⟨⟨[.sh .pot, .ow none (.lst (as.map tupD)), .sh d, x3, .no], p'⟩, _, rfl, .inl e, as ++ [a], _, _, _, rfl, by simp; omega, hs2, hp2⟩
  obtain ⟨_, e1, as, x2, x3, p1, rfl, hl, hs, hp1⟩ := lp
  have hl : as.length = 5 := by simpa using hl
  have e2 : lcGo [(1, .lst (as.map tupD))] t2_law_steps (fun s => .ok (true, s)) e1_law_steps [4] (as.map tupD) ⟨[.sh .pot, .ow none (.lst (as.map tupD)), x2, x3, .no], p1⟩ [] = .ok (as.map (fun a => .int a.1), ⟨[.sh .pot, .ow none (.lst (as.map tupD)), x2, x3, .no], p1⟩) := by
    refine lc_mapp tupD (fun a => .int a.1) (by simp [hold]) (fun a ha => ?_) (by omega)
    simp [fnOf, outsOf, callF, slotsOf, mkSlot, lents, takeBack, views, vals, mVar, mBor, mC, fz, mOp, mUn, mTest, asB, mAnd, mOr, mNot, mAndV, mOrV, mNotV, mIf, mNil, mCons, mLst, mTup, mCB, f1, f2, sSkip, sSeq, sExpr, sRet, sRetN, sBreak, sCont, sNever, sIf, gN, gTs, gLs, gsN, gsC, sAsg, sOwn, sPar, sPar3, sParFE, sParEF, sParFF, argSeq, asL, asT, asS, asI, asV, iL, iT, iS, iR1, iR2, iEn, iZ, hold, noEx, mCall, mMeth, mProp, mMake, fldAt, mFld, putD, sFldSet, mMut, fAppend, fClear0, fRev, fPop, sSetItem, owL, fI, fIc, fNeg, mChain, fIsN, fNotN, fCatS, mOpF, fCat, fRep, fIxL, fIxT, fIxS, mNo, mPart, mSlL, mSlT, mSlS, fLen, fAbs, fInt, fStrI, fAll, fAny, fSum, mCBF, fList, fTuple, mJoin, fFmt, mJs, isiB, fIsi, okRight, mOwnL, mOwnR, mOwn1, onlyStr, mStrO, okLeft, mEqO, mEqO2, onlyNot, mNeO, mCMeth, asSeq, mStar, perm, mMethK, mCallK, mInO, mIdxO, mIdxD, mD0, mLc, wipeS, wipeG, backG, sFor, Mi.allB, fMax2, iEnT, mIxO, mMakeS, mMkLS, mMkL, isCls, mSlSL, mSlST, mCMethK, Mi.allI, fMax, stepLc, t2_law_steps, e1_law_steps, tupD]
  obtain ⟨a, b, c, d, e, rfl⟩ : ∃ a b c d e, as = [a, b, c, d, e] := by
    match as, hl with
    | [a, b, c, d, e], _ => exact ⟨a, b, c, d, e, rfl⟩
  have kr : (5 : Int).toNat = 5 := rfl
  by_cases hz : max a.1 (max b.1 (max c.1 (max d.1 e.1))) = 0
  · obtain ⟨j, p2, e3, j0, j1, hp2⟩ := draw_ex (m := 5) hp1 (by decide) (by decide)
    refine ⟨[a, b, c, d, e].set j.toNat (1, 1), p2, ?_, by simp, hs.set _ (M.red_int 1) ⟨by decide, by decide⟩ (by decide), ⟨(1, 1), List.mem_set (by simp; omega) _, by decide⟩, hp2⟩
    have ix : ixN 5 j = some j.toNat := by
      unfold ixN
      simp [j0, j1]
      try omega
    simp [tupD] at e1 e2
    simp [fnOf, outsOf, callF, slotsOf, mkSlot, lents, takeBack, views, vals, mVar, mBor, mC, fz, mOp, mUn, mTest, asB, mAnd, mOr, mNot, mAndV, mOrV, mNotV, mIf, mNil, mCons, mLst, mTup, mCB, f1, f2, sSkip, sSeq, sExpr, sRet, sRetN, sBreak, sCont, sNever, sIf, gN, gTs, gLs, gsN, gsC, sAsg, sOwn, sPar, sPar3, sParFE, sParEF, sParFF, argSeq, asL, asT, asS, asI, asV, iL, iT, iS, iR1, iR2, iEn, iZ, hold, noEx, mCall, mMeth, mProp, mMake, fldAt, mFld, putD, sFldSet, mMut, fAppend, fClear0, fRev, fPop, sSetItem, owL, fI, fIc, fNeg, mChain, fIsN, fNotN, fCatS, mOpF, fCat, fRep, fIxL, fIxT, fIxS, mNo, mPart, mSlL, mSlT, mSlS, fLen, fAbs, fInt, fStrI, fAll, fAny, fSum, mCBF, fList, fTuple, mJoin, fFmt, mJs, isiB, fIsi, okRight, mOwnL, mOwnR, mOwn1, onlyStr, mStrO, okLeft, mEqO, mEqO2, onlyNot, mNeO, mCMeth, asSeq, mStar, perm, mMethK, mCallK, mInO, mIdxO, mIdxD, mD0, mLc, wipeS, wipeG, backG, sFor, Mi.allB, fMax2, iEnT, mIxO, mMakeS, mMkLS, mMkL, isCls, mSlSL, mSlST, mCMethK, Mi.allI, fMax, F_law_steps, m_law_steps, e1, e2, e3, hz, ix, tupD, List.map_set]
  · refine ⟨[a, b, c, d, e], p1, ?_, rfl, hs, ?_, hp1⟩
    · simp [tupD] at e1 e2
      simp [fnOf, outsOf, callF, slotsOf, mkSlot, lents, takeBack, views, vals, mVar, mBor, mC, fz, mOp, mUn, mTest, asB, mAnd, mOr, mNot, mAndV, mOrV, mNotV, mIf, mNil, mCons, mLst, mTup, mCB, f1, f2, sSkip, sSeq, sExpr, sRet, sRetN, sBreak, sCont, sNever, sIf, gN, gTs, gLs, gsN, gsC, sAsg, sOwn, sPar, sPar3, sParFE, sParEF, sParFF, argSeq, asL, asT, asS, asI, asV, iL, iT, iS, iR1, iR2, iEn, iZ, hold, noEx, mCall, mMeth, mProp, mMake, fldAt, mFld, putD, sFldSet, mMut, fAppend, fClear0, fRev, fPop, sSetItem, owL, fI, fIc, fNeg, mChain, fIsN, fNotN, fCatS, mOpF, fCat, fRep, fIxL, fIxT, fIxS, mNo, mPart, mSlL, mSlT, mSlS, fLen, fAbs, fInt, fStrI, fAll, fAny, fSum, mCBF, fList, fTuple, mJoin, fFmt, mJs, isiB, fIsi, okRight, mOwnL, mOwnR, mOwn1, onlyStr, mStrO, okLeft, mEqO, mEqO2, onlyNot, mNeO, mCMeth, asSeq, mStar, perm, mMethK, mCallK, mInO, mIdxO, mIdxD, mD0, mLc, wipeS, wipeG, backG, sFor, Mi.allB, fMax2, iEnT, mIxO, mMakeS, mMkLS, mMkL, isCls, mSlSL, mSlST, mCMethK, Mi.allI, fMax, F_law_steps, m_law_steps, e1, e2, hz, tupD]
    · refine Classical.byContradiction fun hc => hz ?_
      have : ∀ x ∈ [a, b, c, d, e], x.1 = 0 := fun x hx => by
        have h1 := hs.nn x hx
        have h2 : ¬ 0 < x.1 := fun h => hc ⟨x, hx, h⟩
        omega
      rw [this a (by simp), this b (by simp), this c (by simp), this d (by simp), this e (by simp)]
      decide

/-! ### the law's points, numbers, texts -/
theorem five {α : Type} {as : List α} (hl : as.length = 5) : ∃ a b c d e, as = [a, b, c, d, e] := by
  match as, hl with
  | [a, b, c, d, e], _ => exact ⟨a, b, c, d, e, rfl⟩
theorem pickL5 {α : Type} (a b c d e : α) : Z.pickL [a, b, c, d, e] none none (some (-1)) = [e, d, c, b, a] := by
  have h : sliceRange (sliceBounds none none (some (-1)) 5).1 (sliceBounds none none (some (-1)) 5).2.1 (sliceBounds none none (some (-1)) 5).2.2 = [4, 3, 2, 1, 0] := by decide +kernel
  exact (congrArg (List.filterMap _) h).trans rfl
theorem pickL6 {α : Type} (z a b c d e : α) : Z.pickL [z, a, b, c, d, e] none (some 0) (some (-1)) = [e, d, c, b, a] := by
  have h : sliceRange (sliceBounds none (some 0) (some (-1)) 6).1 (sliceBounds none (some 0) (some (-1)) 6).2.1 (sliceBounds none (some 0) (some (-1)) 6).2.2 = [5, 4, 3, 2, 1] := by decide +kernel
  exact (congrArg (List.filterMap _) h).trans rfl
theorem lpoints_ev {as : List Fr} {m : Nat} (hm : m ≤ 500) (hl : as.length = 5) (hs : Stp m as) (p : Int × Int) : F_law_points [.sh (.lst (as.map tupD))] p = .ok (.lst ((sufs as).map tupD)) [.no] p := by
  have pl : ∀ j a ss, as.drop j = a :: ss → F_law_plus [.sh (tupD (tot ss)), .sh (tupD a)] p = .ok (tupD (tot (a :: ss))) [.no, .no] p := fun j a ss e => by
    have h := hs.drop j
    have hj : (as.drop j).length ≤ 5 := by rw [List.length_drop]; omega
    rw [e] at h hj
    have z := tot_sz h.tail
    have : (m + 1) * ss.length ≤ 501 * 5 := Nat.mul_le_mul (by omega) (by simp at hj; omega)
    exact lplus_ev (z.mono (by omega)) ((h.sz a (by simp)).mono (by omega)) (M.bot_ne (tot_red h.tail) (h.red a (by simp))) p
  obtain ⟨a, b, c, d, e, rfl⟩ := five hl
  have p1 := pl 4 e [] rfl
  have p2 := pl 3 d [e] rfl
  have p3 := pl 2 c [d, e] rfl
  have p4 := pl 1 b [c, d, e] rfl
  have p5 := pl 0 a [b, c, d, e] rfl
  have t0 : tupD (tot []) = .tup [.int 0, .int 1] := rfl
  rw [t0] at p1
  simp [fnOf, outsOf, callF, slotsOf, mkSlot, lents, takeBack, views, vals, mVar, mBor, mC, fz, mOp, mUn, mTest, asB, mAnd, mOr, mNot, mAndV, mOrV, mNotV, mIf, mNil, mCons, mLst, mTup, mCB, f1, f2, sSkip, sSeq, sExpr, sRet, sRetN, sBreak, sCont, sNever, sIf, gN, gTs, gLs, gsN, gsC, sAsg, sOwn, sPar, sPar3, sParFE, sParEF, sParFF, argSeq, asL, asT, asS, asI, asV, iL, iT, iS, iR1, iR2, iEn, iZ, hold, noEx, mCall, mMeth, mProp, mMake, fldAt, mFld, putD, sFldSet, mMut, fAppend, fClear0, fRev, fPop, sSetItem, owL, fI, fIc, fNeg, mChain, fIsN, fNotN, fCatS, mOpF, fCat, fRep, fIxL, fIxT, fIxS, mNo, mPart, mSlL, mSlT, mSlS, fLen, fAbs, fInt, fStrI, fAll, fAny, fSum, mCBF, fList, fTuple, mJoin, fFmt, mJs, isiB, fIsi, okRight, mOwnL, mOwnR, mOwn1, onlyStr, mStrO, okLeft, mEqO, mEqO2, onlyNot, mNeO, mCMeth, asSeq, mStar, perm, mMethK, mCallK, mInO, mIdxO, mIdxD, mD0, mLc, wipeS, wipeG, backG, sFor, Mi.allB, fMax2, iEnT, mIxO, mMakeS, mMkLS, mMkL, isCls, mSlSL, mSlST, mCMethK, Mi.allI, fMax, F_law_points, m_law_points, pickL5, pickL6, forGo, t1_law_points, b1_law_points, p1, p2, p3, p4, p5, sufs, atI, ixN, Z.pickT, Builtin.Slice.sliceAdjust, Builtin.Slice.slicePlaces, List.range_succ]
theorem lpaid_ev {ps : List Fr} (hl : ps.length ≤ 5) (p : Int × Int) : F_law_paid [.sh (.lst (ps.map tupD))] p = .ok (.int (paidN ps)) [.no] p := by
  have e1 : lcGo [] t1_law_paid c1_law_paid e1_law_paid [1] (ps.map tupD) ⟨[.sh (.lst (ps.map tupD)), .no], p⟩ [] = .ok (ps.filterMap (fun a => if 0 < a.1 then some (tupD a) else none), ⟨[.sh (.lst (ps.map tupD)), .no], p⟩) := by
    refine lc_mapf tupD _ (by simp [hold]) (fun a ha => ?_) (by omega)
    by_cases h : 0 < a.1 <;> simp [fnOf, outsOf, callF, slotsOf, mkSlot, lents, takeBack, views, vals, mVar, mBor, mC, fz, mOp, mUn, mTest, asB, mAnd, mOr, mNot, mAndV, mOrV, mNotV, mIf, mNil, mCons, mLst, mTup, mCB, f1, f2, sSkip, sSeq, sExpr, sRet, sRetN, sBreak, sCont, sNever, sIf, gN, gTs, gLs, gsN, gsC, sAsg, sOwn, sPar, sPar3, sParFE, sParEF, sParFF, argSeq, asL, asT, asS, asI, asV, iL, iT, iS, iR1, iR2, iEn, iZ, hold, noEx, mCall, mMeth, mProp, mMake, fldAt, mFld, putD, sFldSet, mMut, fAppend, fClear0, fRev, fPop, sSetItem, owL, fI, fIc, fNeg, mChain, fIsN, fNotN, fCatS, mOpF, fCat, fRep, fIxL, fIxT, fIxS, mNo, mPart, mSlL, mSlT, mSlS, fLen, fAbs, fInt, fStrI, fAll, fAny, fSum, mCBF, fList, fTuple, mJoin, fFmt, mJs, isiB, fIsi, okRight, mOwnL, mOwnR, mOwn1, onlyStr, mStrO, okLeft, mEqO, mEqO2, onlyNot, mNeO, mCMeth, asSeq, mStar, perm, mMethK, mCallK, mInO, mIdxO, mIdxD, mD0, mLc, wipeS, wipeG, backG, sFor, Mi.allB, fMax2, iEnT, mIxO, mMakeS, mMkLS, mMkL, isCls, mSlSL, mSlST, mCMethK, Mi.allI, fMax, stepLc, t1_law_paid, c1_law_paid, e1_law_paid, tupD, h]
  have e2 : (ps.filterMap (fun a => if 0 < a.1 then some (tupD a) else none)).length = paidN ps := by
    clear e1 hl
    induction ps with
    | nil => rfl
    | cons a ps ih =>
      unfold paidN at ih ⊢
      by_cases h : 0 < a.1 <;> simp [List.filterMap_cons, List.filter_cons, h, ih]
  simp [fnOf, outsOf, callF, slotsOf, mkSlot, lents, takeBack, views, vals, mVar, mBor, mC, fz, mOp, mUn, mTest, asB, mAnd, mOr, mNot, mAndV, mOrV, mNotV, mIf, mNil, mCons, mLst, mTup, mCB, f1, f2, sSkip, sSeq, sExpr, sRet, sRetN, sBreak, sCont, sNever, sIf, gN, gTs, gLs, gsN, gsC, sAsg, sOwn, sPar, sPar3, sParFE, sParEF, sParFF, argSeq, asL, asT, asS, asI, asV, iL, iT, iS, iR1, iR2, iEn, iZ, hold, noEx, mCall, mMeth, mProp, mMake, fldAt, mFld, putD, sFldSet, mMut, fAppend, fClear0, fRev, fPop, sSetItem, owL, fI, fIc, fNeg, mChain, fIsN, fNotN, fCatS, mOpF, fCat, fRep, fIxL, fIxT, fIxS, mNo, mPart, mSlL, mSlT, mSlS, fLen, fAbs, fInt, fStrI, fAll, fAny, fSum, mCBF, fList, fTuple, mJoin, fFmt, mJs, isiB, fIsi, okRight, mOwnL, mOwnR, mOwn1, onlyStr, mStrO, okLeft, mEqO, mEqO2, onlyNot, mNeO, mCMeth, asSeq, mStar, perm, mMethK, mCallK, mInO, mIdxO, mIdxD, mD0, mLc, wipeS, wipeG, backG, sFor, Mi.allB, fMax2, iEnT, mIxO, mMakeS, mMkLS, mMkL, isCls, mSlSL, mSlST, mCMethK, Mi.allI, fMax, F_law_paid, m_law_paid, e1, e2]
theorem lshown_ev {a : Fr} (h : M.Sz 1900 a) (p : Int × Int) : F_law_shown [.sh (tupD a)] p = .ok (.str (shown a)) [.no] p := by
  have l1 := log19 h.1
  have l2 := log19 h.2
  have n1 := itx_len h.1
  have n2 := itx_len h.2
  unfold itx at n1 n2
  have z1 : ("Ratio(" : Str).length + (Str.ofString a.1.repr).length ≤ 100000 := by rw [c_ratio]; omega
  have z2 : ("Ratio(" ++ Str.ofString a.1.repr : Str).length + (", " : Str).length ≤ 100000 := by rw [Str.length_append, c_ratio, c_comma]; omega
  have z3 : ("Ratio(" ++ Str.ofString a.1.repr ++ ", " : Str).length + (Str.ofString a.2.repr).length ≤ 100000 := by rw [Str.length_append, Str.length_append, c_ratio, c_comma]; omega
  have z4 : ("Ratio(" ++ Str.ofString a.1.repr ++ ", " ++ Str.ofString a.2.repr : Str).length + (")" : Str).length ≤ 100000 := by rw [Str.length_append, Str.length_append, Str.length_append, c_ratio, c_comma, c_par]; omega
  simp only [tupD]
  simp [fnOf, outsOf, callF, slotsOf, mkSlot, lents, takeBack, views, vals, mVar, mBor, mC, fz, mOp, mUn, mTest, asB, mAnd, mOr, mNot, mAndV, mOrV, mNotV, mIf, mNil, mCons, mLst, mTup, mCB, f1, f2, sSkip, sSeq, sExpr, sRet, sRetN, sBreak, sCont, sNever, sIf, gN, gTs, gLs, gsN, gsC, sAsg, sOwn, sPar, sPar3, sParFE, sParEF, sParFF, argSeq, asL, asT, asS, asI, asV, iL, iT, iS, iR1, iR2, iEn, iZ, hold, noEx, mCall, mMeth, mProp, mMake, fldAt, mFld, putD, sFldSet, mMut, fAppend, fClear0, fRev, fPop, sSetItem, owL, fI, fIc, fNeg, mChain, fIsN, fNotN, fCatS, mOpF, fCat, fRep, fIxL, fIxT, fIxS, mNo, mPart, mSlL, mSlT, mSlS, fLen, fAbs, fInt, fStrI, fAll, fAny, fSum, mCBF, fList, fTuple, mJoin, fFmt, mJs, isiB, fIsi, okRight, mOwnL, mOwnR, mOwn1, onlyStr, mStrO, okLeft, mEqO, mEqO2, onlyNot, mNeO, mCMeth, asSeq, mStar, perm, mMethK, mCallK, mInO, mIdxO, mIdxD, mD0, mLc, wipeS, wipeG, backG, sFor, Mi.allB, fMax2, iEnT, mIxO, mMakeS, mMkLS, mMkL, isCls, mSlSL, mSlST, mCMethK, Mi.allI, fMax, F_law_shown, m_law_shown, atI_one, l1, l2, z1, z2, z3, z4, shown, rrep, itx, Str.empty_append]
theorem lnumber_ex {a : Fr} (ra : M.Red a) (ha : M.Sz 200 a) {p : Int × Int} (hp : PotOk p) : ∃ d p', F_law_number [.sh .pot, .sh (tupD a)] p = .ok d [.no, .no] p' ∧ NumOf d a ∧ PotOk p' := by
  obtain ⟨k, hk, p1, e1, hp1⟩ := pick_ex (ds := [.int 1, .int 1, .int 2, .int (-3)]) hp (by decide) (by decide)
  have hk2 : ∃ n : Int, k = .int n ∧ n ≠ 0 ∧ n.natAbs < 2 ^ 2 := by
    simp at hk
    rcases hk with rfl | rfl | rfl <;> exact ⟨_, rfl, by decide, by decide⟩
  obtain ⟨n, rfl, n0, n1⟩ := hk2
  have c1 : cMul a.1 n = true := cmul_ok ha.1 n1
  have c2 : cMul a.2 n = true := cmul_ok ha.2 n1
  have i1 := fun p => init_ev (t := a.1 * n) (b := a.2 * n) (Int.mul_ne_zero (M.red_ne ra) n0) (bt_mul ha.1 n1) (bt_mul ha.2 n1) p
  rw [low_scale ra n0] at i1
  by_cases h1 : a.2 = 1
  · obtain ⟨j, p2, e2, j0, j1, hp2⟩ := draw_ex (m := 2) hp1 (by decide) (by decide)
    by_cases hj : j = 0
    · refine ⟨.int a.1, p2, ?_, .inr ⟨rfl, h1⟩, hp2⟩
      simp [fnOf, outsOf, callF, slotsOf, mkSlot, lents, takeBack, views, vals, mVar, mBor, mC, fz, mOp, mUn, mTest, asB, mAnd, mOr, mNot, mAndV, mOrV, mNotV, mIf, mNil, mCons, mLst, mTup, mCB, f1, f2, sSkip, sSeq, sExpr, sRet, sRetN, sBreak, sCont, sNever, sIf, gN, gTs, gLs, gsN, gsC, sAsg, sOwn, sPar, sPar3, sParFE, sParEF, sParFF, argSeq, asL, asT, asS, asI, asV, iL, iT, iS, iR1, iR2, iEn, iZ, hold, noEx, mCall, mMeth, mProp, mMake, fldAt, mFld, putD, sFldSet, mMut, fAppend, fClear0, fRev, fPop, sSetItem, owL, fI, fIc, fNeg, mChain, fIsN, fNotN, fCatS, mOpF, fCat, fRep, fIxL, fIxT, fIxS, mNo, mPart, mSlL, mSlT, mSlS, fLen, fAbs, fInt, fStrI, fAll, fAny, fSum, mCBF, fList, fTuple, mJoin, fFmt, mJs, isiB, fIsi, okRight, mOwnL, mOwnR, mOwn1, onlyStr, mStrO, okLeft, mEqO, mEqO2, onlyNot, mNeO, mCMeth, asSeq, mStar, perm, mMethK, mCallK, mInO, mIdxO, mIdxD, mD0, mLc, wipeS, wipeG, backG, sFor, Mi.allB, fMax2, iEnT, mIxO, mMakeS, mMkLS, mMkL, isCls, mSlSL, mSlST, mCMethK, Mi.allI, fMax, F_law_number, m_law_number, tupD, e1, e2, h1, hj, atI_one]
    · refine ⟨ratD a.1 a.2, p2, ?_, .inl rfl, hp2⟩
      rw [h1] at c2 i1
      simp only [ratD, Int.one_mul] at i1 c2
      simp [fnOf, outsOf, callF, slotsOf, mkSlot, lents, takeBack, views, vals, mVar, mBor, mC, fz, mOp, mUn, mTest, asB, mAnd, mOr, mNot, mAndV, mOrV, mNotV, mIf, mNil, mCons, mLst, mTup, mCB, f1, f2, sSkip, sSeq, sExpr, sRet, sRetN, sBreak, sCont, sNever, sIf, gN, gTs, gLs, gsN, gsC, sAsg, sOwn, sPar, sPar3, sParFE, sParEF, sParFF, argSeq, asL, asT, asS, asI, asV, iL, iT, iS, iR1, iR2, iEn, iZ, hold, noEx, mCall, mMeth, mProp, mMake, fldAt, mFld, putD, sFldSet, mMut, fAppend, fClear0, fRev, fPop, sSetItem, owL, fI, fIc, fNeg, mChain, fIsN, fNotN, fCatS, mOpF, fCat, fRep, fIxL, fIxT, fIxS, mNo, mPart, mSlL, mSlT, mSlS, fLen, fAbs, fInt, fStrI, fAll, fAny, fSum, mCBF, fList, fTuple, mJoin, fFmt, mJs, isiB, fIsi, okRight, mOwnL, mOwnR, mOwn1, onlyStr, mStrO, okLeft, mEqO, mEqO2, onlyNot, mNeO, mCMeth, asSeq, mStar, perm, mMethK, mCallK, mInO, mIdxO, mIdxD, mD0, mLc, wipeS, wipeG, backG, sFor, Mi.allB, fMax2, iEnT, mIxO, mMakeS, mMkLS, mMkL, isCls, mSlSL, mSlST, mCMethK, Mi.allI, fMax, F_law_number, m_law_number, tupD, e1, e2, h1, hj, atI_one, c1, c2, i1, ratD]
  · refine ⟨ratD a.1 a.2, p1, ?_, .inl rfl, hp1⟩
    simp only [ratD] at i1
    simp [fnOf, outsOf, callF, slotsOf, mkSlot, lents, takeBack, views, vals, mVar, mBor, mC, fz, mOp, mUn, mTest, asB, mAnd, mOr, mNot, mAndV, mOrV, mNotV, mIf, mNil, mCons, mLst, mTup, mCB, f1, f2, sSkip, sSeq, sExpr, sRet, sRetN, sBreak, sCont, sNever, sIf, gN, gTs, gLs, gsN, gsC, sAsg, sOwn, sPar, sPar3, sParFE, sParEF, sParFF, argSeq, asL, asT, asS, asI, asV, iL, iT, iS, iR1, iR2, iEn, iZ, hold, noEx, mCall, mMeth, mProp, mMake, fldAt, mFld, putD, sFldSet, mMut, fAppend, fClear0, fRev, fPop, sSetItem, owL, fI, fIc, fNeg, mChain, fIsN, fNotN, fCatS, mOpF, fCat, fRep, fIxL, fIxT, fIxS, mNo, mPart, mSlL, mSlT, mSlS, fLen, fAbs, fInt, fStrI, fAll, fAny, fSum, mCBF, fList, fTuple, mJoin, fFmt, mJs, isiB, fIsi, okRight, mOwnL, mOwnR, mOwn1, onlyStr, mStrO, okLeft, mEqO, mEqO2, onlyNot, mNeO, mCMeth, asSeq, mStar, perm, mMethK, mCallK, mInO, mIdxO, mIdxD, mD0, mLc, wipeS, wipeG, backG, sFor, Mi.allB, fMax2, iEnT, mIxO, mMakeS, mMkLS, mMkL, isCls, mSlSL, mSlST, mCMethK, Mi.allI, fMax, F_law_number, m_law_number, tupD, e1, h1, atI_one, c1, c2, i1, ratD]
theorem lnumbers_ex {n : Nat} (Ok : S → Prop) {g : MG} {e : ME} {vs : List Nat} (st : Int × Int → S) (step : ∀ (a : Fr) d p p', F_law_number [.sh .pot, .sh (tupD a)] p = .ok d [.no, .no] p' → stepLc g (fun s => .ok (true, s)) e vs (tupD a) (st p) = .ok (some d, st p')) : ∀ {as : List Fr} {acc : List D} {p : Int × Int}, (∀ a ∈ as, M.Red a ∧ M.Sz 200 a) → acc.length + as.length ≤ 100000 → PotOk p → ∃ (qs : List (D × Fr)) (p' : Int × Int), lcGo [] g (fun s => .ok (true, s)) e vs (as.map tupD) (st p) acc = .ok (acc ++ ds1 qs, st p') ∧ fr2 qs = as ∧ (∀ q ∈ qs, NumOf q.1 q.2) ∧ PotOk p'
  | [], acc, p, _, _, hp => ⟨[], p, by simp [lcGo, hold, ds1], rfl, by simp, hp⟩
  | a :: as, acc, p, h, hz, hp => by
    obtain ⟨d, p1, e1, n1, hp1⟩ := lnumber_ex (h a (by simp)).1 (h a (by simp)).2 hp
    obtain ⟨qs, p2, e2, f2, n2, hp2⟩ := lnumbers_ex (n := n) Ok st step (as := as) (acc := acc ++ [d]) (p := p1) (fun b hb => h b (by simp [hb])) (by simp at hz ⊢; omega) hp1
    refine ⟨(d, a) :: qs, p2, ?_, by simp [fr2] at f2 ⊢; exact f2, fun q hq => ?_, hp2⟩
    · rw [List.map_cons, lcGo_step (by simp [hold]) (step a d p p1 e1) (by simp at hz; omega)]
      simp only [Option.toList]
      rw [e2]
      simp [ds1]
    · rcases List.mem_cons.mp hq with rfl | hq
      · exact n1
      · exact n2 q hq
theorem bypoints_ev {qs : List (D × Fr)} (h : Nums qs) (hf : FallsF (fr2 qs)) (h0 : 1 ≤ qs.length) (hl : qs.length ≤ 5) (p : Int × Int) : F_law_by_points [.sh (.lst (ds1 qs))] p = .ok (tabP (padF (fr2 qs))) [.no] p := by
  have e := star_tab h hf h0 hl p
  rcases qs with _ | ⟨a, _ | ⟨b, _ | ⟨c, _ | ⟨d, _ | ⟨f, _ | ⟨g, qs⟩⟩⟩⟩⟩⟩
  · simp at h0
  · simp [ds1, fr2] at e
    simp [fnOf, outsOf, callF, slotsOf, mkSlot, lents, takeBack, views, vals, mVar, mBor, mC, fz, mOp, mUn, mTest, asB, mAnd, mOr, mNot, mAndV, mOrV, mNotV, mIf, mNil, mCons, mLst, mTup, mCB, f1, f2, sSkip, sSeq, sExpr, sRet, sRetN, sBreak, sCont, sNever, sIf, gN, gTs, gLs, gsN, gsC, sAsg, sOwn, sPar, sPar3, sParFE, sParEF, sParFF, argSeq, asL, asT, asS, asI, asV, iL, iT, iS, iR1, iR2, iEn, iZ, hold, noEx, mCall, mMeth, mProp, mMake, fldAt, mFld, putD, sFldSet, mMut, fAppend, fClear0, fRev, fPop, sSetItem, owL, fI, fIc, fNeg, mChain, fIsN, fNotN, fCatS, mOpF, fCat, fRep, fIxL, fIxT, fIxS, mNo, mPart, mSlL, mSlT, mSlS, fLen, fAbs, fInt, fStrI, fAll, fAny, fSum, mCBF, fList, fTuple, mJoin, fFmt, mJs, isiB, fIsi, okRight, mOwnL, mOwnR, mOwn1, onlyStr, mStrO, okLeft, mEqO, mEqO2, onlyNot, mNeO, mCMeth, asSeq, mStar, perm, mMethK, mCallK, mInO, mIdxO, mIdxD, mD0, mLc, wipeS, wipeG, backG, sFor, Mi.allB, fMax2, iEnT, mIxO, mMakeS, mMkLS, mMkL, isCls, mSlSL, mSlST, mCMethK, Mi.allI, fMax, F_law_by_points, m_law_by_points, ds1, fr2, e, atI, ixN]
  · simp [ds1, fr2] at e
    simp [fnOf, outsOf, callF, slotsOf, mkSlot, lents, takeBack, views, vals, mVar, mBor, mC, fz, mOp, mUn, mTest, asB, mAnd, mOr, mNot, mAndV, mOrV, mNotV, mIf, mNil, mCons, mLst, mTup, mCB, f1, f2, sSkip, sSeq, sExpr, sRet, sRetN, sBreak, sCont, sNever, sIf, gN, gTs, gLs, gsN, gsC, sAsg, sOwn, sPar, sPar3, sParFE, sParEF, sParFF, argSeq, asL, asT, asS, asI, asV, iL, iT, iS, iR1, iR2, iEn, iZ, hold, noEx, mCall, mMeth, mProp, mMake, fldAt, mFld, putD, sFldSet, mMut, fAppend, fClear0, fRev, fPop, sSetItem, owL, fI, fIc, fNeg, mChain, fIsN, fNotN, fCatS, mOpF, fCat, fRep, fIxL, fIxT, fIxS, mNo, mPart, mSlL, mSlT, mSlS, fLen, fAbs, fInt, fStrI, fAll, fAny, fSum, mCBF, fList, fTuple, mJoin, fFmt, mJs, isiB, fIsi, okRight, mOwnL, mOwnR, mOwn1, onlyStr, mStrO, okLeft, mEqO, mEqO2, onlyNot, mNeO, mCMeth, asSeq, mStar, perm, mMethK, mCallK, mInO, mIdxO, mIdxD, mD0, mLc, wipeS, wipeG, backG, sFor, Mi.allB, fMax2, iEnT, mIxO, mMakeS, mMkLS, mMkL, isCls, mSlSL, mSlST, mCMethK, Mi.allI, fMax, F_law_by_points, m_law_by_points, ds1, fr2, e, atI, ixN]
  · simp [ds1, fr2] at e
    simp [fnOf, outsOf, callF, slotsOf, mkSlot, lents, takeBack, views, vals, mVar, mBor, mC, fz, mOp, mUn, mTest, asB, mAnd, mOr, mNot, mAndV, mOrV, mNotV, mIf, mNil, mCons, mLst, mTup, mCB, f1, f2, sSkip, sSeq, sExpr, sRet, sRetN, sBreak, sCont, sNever, sIf, gN, gTs, gLs, gsN, gsC, sAsg, sOwn, sPar, sPar3, sParFE, sParEF, sParFF, argSeq, asL, asT, asS, asI, asV, iL, iT, iS, iR1, iR2, iEn, iZ, hold, noEx, mCall, mMeth, mProp, mMake, fldAt, mFld, putD, sFldSet, mMut, fAppend, fClear0, fRev, fPop, sSetItem, owL, fI, fIc, fNeg, mChain, fIsN, fNotN, fCatS, mOpF, fCat, fRep, fIxL, fIxT, fIxS, mNo, mPart, mSlL, mSlT, mSlS, fLen, fAbs, fInt, fStrI, fAll, fAny, fSum, mCBF, fList, fTuple, mJoin, fFmt, mJs, isiB, fIsi, okRight, mOwnL, mOwnR, mOwn1, onlyStr, mStrO, okLeft, mEqO, mEqO2, onlyNot, mNeO, mCMeth, asSeq, mStar, perm, mMethK, mCallK, mInO, mIdxO, mIdxD, mD0, mLc, wipeS, wipeG, backG, sFor, Mi.allB, fMax2, iEnT, mIxO, mMakeS, mMkLS, mMkL, isCls, mSlSL, mSlST, mCMethK, Mi.allI, fMax, F_law_by_points, m_law_by_points, ds1, fr2, e, atI, ixN]
  · simp [ds1, fr2] at e
    simp [fnOf, outsOf, callF, slotsOf, mkSlot, lents, takeBack, views, vals, mVar, mBor, mC, fz, mOp, mUn, mTest, asB, mAnd, mOr, mNot, mAndV, mOrV, mNotV, mIf, mNil, mCons, mLst, mTup, mCB, f1, f2, sSkip, sSeq, sExpr, sRet, sRetN, sBreak, sCont, sNever, sIf, gN, gTs, gLs, gsN, gsC, sAsg, sOwn, sPar, sPar3, sParFE, sParEF, sParFF, argSeq, asL, asT, asS, asI, asV, iL, iT, iS, iR1, iR2, iEn, iZ, hold, noEx, mCall, mMeth, mProp, mMake, fldAt, mFld, putD, sFldSet, mMut, fAppend, fClear0, fRev, fPop, sSetItem, owL, fI, fIc, fNeg, mChain, fIsN, fNotN, fCatS, mOpF, fCat, fRep, fIxL, fIxT, fIxS, mNo, mPart, mSlL, mSlT, mSlS, fLen, fAbs, fInt, fStrI, fAll, fAny, fSum, mCBF, fList, fTuple, mJoin, fFmt, mJs, isiB, fIsi, okRight, mOwnL, mOwnR, mOwn1, onlyStr, mStrO, okLeft, mEqO, mEqO2, onlyNot, mNeO, mCMeth, asSeq, mStar, perm, mMethK, mCallK, mInO, mIdxO, mIdxD, mD0, mLc, wipeS, wipeG, backG, sFor, Mi.allB, fMax2, iEnT, mIxO, mMakeS, mMkLS, mMkL, isCls, mSlSL, mSlST, mCMethK, Mi.allI, fMax, F_law_by_points, m_law_by_points, ds1, fr2, e, atI, ixN]
  · simp [ds1, fr2] at e
    simp [fnOf, outsOf, callF, slotsOf, mkSlot, lents, takeBack, views, vals, mVar, mBor, mC, fz, mOp, mUn, mTest, asB, mAnd, mOr, mNot, mAndV, mOrV, mNotV, mIf, mNil, mCons, mLst, mTup, mCB, f1, f2, sSkip, sSeq, sExpr, sRet, sRetN, sBreak, sCont, sNever, sIf, gN, gTs, gLs, gsN, gsC, sAsg, sOwn, sPar, sPar3, sParFE, sParEF, sParFF, argSeq, asL, asT, asS, asI, asV, iL, iT, iS, iR1, iR2, iEn, iZ, hold, noEx, mCall, mMeth, mProp, mMake, fldAt, mFld, putD, sFldSet, mMut, fAppend, fClear0, fRev, fPop, sSetItem, owL, fI, fIc, fNeg, mChain, fIsN, fNotN, fCatS, mOpF, fCat, fRep, fIxL, fIxT, fIxS, mNo, mPart, mSlL, mSlT, mSlS, fLen, fAbs, fInt, fStrI, fAll, fAny, fSum, mCBF, fList, fTuple, mJoin, fFmt, mJs, isiB, fIsi, okRight, mOwnL, mOwnR, mOwn1, onlyStr, mStrO, okLeft, mEqO, mEqO2, onlyNot, mNeO, mCMeth, asSeq, mStar, perm, mMethK, mCallK, mInO, mIdxO, mIdxD, mD0, mLc, wipeS, wipeG, backG, sFor, Mi.allB, fMax2, iEnT, mIxO, mMakeS, mMkLS, mMkL, isCls, mSlSL, mSlST, mCMethK, Mi.allI, fMax, F_law_by_points, m_law_by_points, ds1, fr2, e, atI, ixN]
  · simp at hl
theorem star_steps {qs : List (D × Fr)} {m : Nat} (hm : m ≤ 500) (h : ∀ q ∈ qs, NumOf q.1 q.2) (hs : Stp m (fr2 qs)) (hp : ∃ a ∈ fr2 qs, 0 < a.1) (h0 : 1 ≤ qs.length) (hl : qs.length ≤ 5) (p : Int × Int) : starF 1 F_Table_of_steps (.sh (.cls c_Table) :: (ds1 qs).map .sh) p = .ok (tabP (padF (sufs (fr2 qs)))) (.no :: List.replicate (ds1 qs).length .no) p := star1_ev (by simp [ds1]; omega) (ofsteps_ev hm h hs hp h0 hl p)
theorem bysteps_ev {qs : List (D × Fr)} {m : Nat} (hm : m ≤ 500) (h : ∀ q ∈ qs, NumOf q.1 q.2) (hs : Stp m (fr2 qs)) (hp : ∃ a ∈ fr2 qs, 0 < a.1) (h0 : 1 ≤ qs.length) (hl : qs.length ≤ 5) (p : Int × Int) : F_law_by_steps [.sh (.lst (ds1 qs))] p = .ok (tabP (padF (sufs (fr2 qs)))) [.no] p := by
  have e := star_steps hm h hs hp h0 hl p
  rcases qs with _ | ⟨a, _ | ⟨b, _ | ⟨c, _ | ⟨d, _ | ⟨f, _ | ⟨g, qs⟩⟩⟩⟩⟩⟩
  · simp at h0
  · simp [ds1, fr2] at e
    simp [fnOf, outsOf, callF, slotsOf, mkSlot, lents, takeBack, views, vals, mVar, mBor, mC, fz, mOp, mUn, mTest, asB, mAnd, mOr, mNot, mAndV, mOrV, mNotV, mIf, mNil, mCons, mLst, mTup, mCB, f1, f2, sSkip, sSeq, sExpr, sRet, sRetN, sBreak, sCont, sNever, sIf, gN, gTs, gLs, gsN, gsC, sAsg, sOwn, sPar, sPar3, sParFE, sParEF, sParFF, argSeq, asL, asT, asS, asI, asV, iL, iT, iS, iR1, iR2, iEn, iZ, hold, noEx, mCall, mMeth, mProp, mMake, fldAt, mFld, putD, sFldSet, mMut, fAppend, fClear0, fRev, fPop, sSetItem, owL, fI, fIc, fNeg, mChain, fIsN, fNotN, fCatS, mOpF, fCat, fRep, fIxL, fIxT, fIxS, mNo, mPart, mSlL, mSlT, mSlS, fLen, fAbs, fInt, fStrI, fAll, fAny, fSum, mCBF, fList, fTuple, mJoin, fFmt, mJs, isiB, fIsi, okRight, mOwnL, mOwnR, mOwn1, onlyStr, mStrO, okLeft, mEqO, mEqO2, onlyNot, mNeO, mCMeth, asSeq, mStar, perm, mMethK, mCallK, mInO, mIdxO, mIdxD, mD0, mLc, wipeS, wipeG, backG, sFor, Mi.allB, fMax2, iEnT, mIxO, mMakeS, mMkLS, mMkL, isCls, mSlSL, mSlST, mCMethK, Mi.allI, fMax, F_law_by_steps, m_law_by_steps, ds1, fr2, e, atI, ixN]
  · simp [ds1, fr2] at e
    simp [fnOf, outsOf, callF, slotsOf, mkSlot, lents, takeBack, views, vals, mVar, mBor, mC, fz, mOp, mUn, mTest, asB, mAnd, mOr, mNot, mAndV, mOrV, mNotV, mIf, mNil, mCons, mLst, mTup, mCB, f1, f2, sSkip, sSeq, sExpr, sRet, sRetN, sBreak, sCont, sNever, sIf, gN, gTs, gLs, gsN, gsC, sAsg, sOwn, sPar, sPar3, sParFE, sParEF, sParFF, argSeq, asL, asT, asS, asI, asV, iL, iT, iS, iR1, iR2, iEn, iZ, hold, noEx, mCall, mMeth, mProp, mMake, fldAt, mFld, putD, sFldSet, mMut, fAppend, fClear0, fRev, fPop, sSetItem, owL, fI, fIc, fNeg, mChain, fIsN, fNotN, fCatS, mOpF, fCat, fRep, fIxL, fIxT, fIxS, mNo, mPart, mSlL, mSlT, mSlS, fLen, fAbs, fInt, fStrI, fAll, fAny, fSum, mCBF, fList, fTuple, mJoin, fFmt, mJs, isiB, fIsi, okRight, mOwnL, mOwnR, mOwn1, onlyStr, mStrO, okLeft, mEqO, mEqO2, onlyNot, mNeO, mCMeth, asSeq, mStar, perm, mMethK, mCallK, mInO, mIdxO, mIdxD, mD0, mLc, wipeS, wipeG, backG, sFor, Mi.allB, fMax2, iEnT, mIxO, mMakeS, mMkLS, mMkL, isCls, mSlSL, mSlST, mCMethK, Mi.allI, fMax, F_law_by_steps, m_law_by_steps, ds1, fr2, e, atI, ixN]
  · simp [ds1, fr2] at e
    simp [fnOf, outsOf, callF, slotsOf, mkSlot, lents, takeBack, views, vals, mVar, mBor, mC, fz, mOp, mUn, mTest, asB, mAnd, mOr, mNot, mAndV, mOrV, mNotV, mIf, mNil, mCons, mLst, mTup, mCB, f1, f2, sSkip, sSeq, sExpr, sRet, sRetN, sBreak, sCont, sNever, sIf, gN, gTs, gLs, gsN, gsC, sAsg, sOwn, sPar, sPar3, sParFE, sParEF, sParFF, argSeq, asL, asT, asS, asI, asV, iL, iT, iS, iR1, iR2, iEn, iZ, hold, noEx, mCall, mMeth, mProp, mMake, fldAt, mFld, putD, sFldSet, mMut, fAppend, fClear0, fRev, fPop, sSetItem, owL, fI, fIc, fNeg, mChain, fIsN, fNotN, fCatS, mOpF, fCat, fRep, fIxL, fIxT, fIxS, mNo, mPart, mSlL, mSlT, mSlS, fLen, fAbs, fInt, fStrI, fAll, fAny, fSum, mCBF, fList, fTuple, mJoin, fFmt, mJs, isiB, fIsi, okRight, mOwnL, mOwnR, mOwn1, onlyStr, mStrO, okLeft, mEqO, mEqO2, onlyNot, mNeO, mCMeth, asSeq, mStar, perm, mMethK, mCallK, mInO, mIdxO, mIdxD, mD0, mLc, wipeS, wipeG, backG, sFor, Mi.allB, fMax2, iEnT, mIxO, mMakeS, mMkLS, mMkL, isCls, mSlSL, mSlST, mCMethK, Mi.allI, fMax, F_law_by_steps, m_law_by_steps, ds1, fr2, e, atI, ixN]
  · simp [ds1, fr2] at e
    simp [fnOf, outsOf, callF, slotsOf, mkSlot, lents, takeBack, views, vals, mVar, mBor, mC, fz, mOp, mUn, mTest, asB, mAnd, mOr, mNot, mAndV, mOrV, mNotV, mIf, mNil, mCons, mLst, mTup, mCB, f1, f2, sSkip, sSeq, sExpr, sRet, sRetN, sBreak, sCont, sNever, sIf, gN, gTs, gLs, gsN, gsC, sAsg, sOwn, sPar, sPar3, sParFE, sParEF, sParFF, argSeq, asL, asT, asS, asI, asV, iL, iT, iS, iR1, iR2, iEn, iZ, hold, noEx, mCall, mMeth, mProp, mMake, fldAt, mFld, putD, sFldSet, mMut, fAppend, fClear0, fRev, fPop, sSetItem, owL, fI, fIc, fNeg, mChain, fIsN, fNotN, fCatS, mOpF, fCat, fRep, fIxL, fIxT, fIxS, mNo, mPart, mSlL, mSlT, mSlS, fLen, fAbs, fInt, fStrI, fAll, fAny, fSum, mCBF, fList, fTuple, mJoin, fFmt, mJs, isiB, fIsi, okRight, mOwnL, mOwnR, mOwn1, onlyStr, mStrO, okLeft, mEqO, mEqO2, onlyNot, mNeO, mCMeth, asSeq, mStar, perm, mMethK, mCallK, mInO, mIdxO, mIdxD, mD0, mLc, wipeS, wipeG, backG, sFor, Mi.allB, fMax2, iEnT, mIxO, mMakeS, mMkLS, mMkL, isCls, mSlSL, mSlST, mCMethK, Mi.allI, fMax, F_law_by_steps, m_law_by_steps, ds1, fr2, e, atI, ixN]
  · simp [ds1, fr2] at e
    simp [fnOf, outsOf, callF, slotsOf, mkSlot, lents, takeBack, views, vals, mVar, mBor, mC, fz, mOp, mUn, mTest, asB, mAnd, mOr, mNot, mAndV, mOrV, mNotV, mIf, mNil, mCons, mLst, mTup, mCB, f1, f2, sSkip, sSeq, sExpr, sRet, sRetN, sBreak, sCont, sNever, sIf, gN, gTs, gLs, gsN, gsC, sAsg, sOwn, sPar, sPar3, sParFE, sParEF, sParFF, argSeq, asL, asT, asS, asI, asV, iL, iT, iS, iR1, iR2, iEn, iZ, hold, noEx, mCall, mMeth, mProp, mMake, fldAt, mFld, putD, sFldSet, mMut, fAppend, fClear0, fRev, fPop, sSetItem, owL, fI, fIc, fNeg, mChain, fIsN, fNotN, fCatS, mOpF, fCat, fRep, fIxL, fIxT, fIxS, mNo, mPart, mSlL, mSlT, mSlS, fLen, fAbs, fInt, fStrI, fAll, fAny, fSum, mCBF, fList, fTuple, mJoin, fFmt, mJs, isiB, fIsi, okRight, mOwnL, mOwnR, mOwn1, onlyStr, mStrO, okLeft, mEqO, mEqO2, onlyNot, mNeO, mCMeth, asSeq, mStar, perm, mMethK, mCallK, mInO, mIdxO, mIdxD, mD0, mLc, wipeS, wipeG, backG, sFor, Mi.allB, fMax2, iEnT, mIxO, mMakeS, mMkLS, mMkL, isCls, mSlSL, mSlST, mCMethK, Mi.allI, fMax, F_law_by_steps, m_law_by_steps, ds1, fr2, e, atI, ixN]
  · simp at hl

noncomputable def t1_law_is : MG := gN 4
noncomputable def e1_law_is : ME := mCall 1 F_law_shown (mCons (mBor 4) (mNil))
noncomputable def t2_law_is : MG := gN 5
noncomputable def e2_law_is : ME := mIxO c_Table F_Table_getitem (mBor 0) (mBor 5)
noncomputable def m_law_is : MS := sSeq (sAsg (mOp fCatS (mOp fCatS (mC (.str "[")) (mJoin (mC (.str ", ")) (fz (mLc (iL (mBor 1)) t1_law_is (fun s => .ok (true, s)) e1_law_is [4])))) (mC (.str "]"))) (gN 3)) (sSeq (sIf (mOr (mNot (mTest (mCB (fIsi clss) (mCons (mBor 0) (mCons (mC (.cls c_Table)) (mNil)))))) (mTest (mOp fNeS (mCB (f1 (fReprO rpR)) (mCons (mMeth c_Table "points" 1 F_Table_points (mBor 0) (mNil)) (mNil))) (mBor 3)))) (sRet (mC (.bl false))) (sSkip)) (sSeq (sIf (mTest (mOp fNeS (mCB (f1 (fReprO rpR)) (mCons (mMeth c_Table "steps" 1 F_Table_steps (mBor 0) (mNil)) (mNil))) (mOp fCatS (mOp fCatS (mC (.str "[")) (mJoin (mC (.str ", ")) (fz (mLc (iL (mBor 2)) t1_law_is (fun s => .ok (true, s)) e1_law_is [4])))) (mC (.str "]"))))) (sRet (mC (.bl false))) (sSkip)) (sSeq (sIf (mOr (mTest (mOp fNeS (mCB (f1 (fReprO rpR)) (mCons (fz (mLc (iR2 (mCons (mC (.int 1)) (mCons (mC (.int 6)) (mNil)))) t2_law_is (fun s => .ok (true, s)) e2_law_is [5])) (mNil))) (mBor 3))) (mTest (mOp fNeS (mStrO c_Ratio F_Ratio_repr (mCons (mIxO c_Table F_Table_getitem (mBor 0) (mC (.int 5))) (mNil))) (mCall 1 F_law_shown (mCons (mOp fIxL (mBor 1) (mC (.int 4))) (mNil)))))) (sRet (mC (.bl false))) (sSkip)) (sSeq (sAsg (mCall 1 F_law_paid (mCons (mBor 1) (mNil))) (gN 6)) (sRet (mOp fEqS (mCB (f1 (fReprO rpR)) (mCons (fz (mLst (mCons (mProp c_Table F_Table_paid (mBor 0)) (mCons (mVar 0) (mNil))))) (mNil))) (mOp fCatS (mOp fCatS (mOp fCatS (mOp fCatS (mC (.str "[")) (mCB (f1 fStrI) (mCons (mBor 6) (mNil)))) (mC (.str ", Table("))) (mJoin (mC (.str ", ")) (fz (mLc (iL (fz (mSlL (mBor 1) mNo (mPart (mBor 6))))) t1_law_is (fun s => .ok (true, s)) e1_law_is [4])))) (mC (.str ")]")))))))))
noncomputable def F_law_is : Fn := fnOf 7 m_law_is
theorem ok_law_is {P : Program} {w : World} {K : PySem.W.Frag} {mg : Str → Option Value} {base : Heap} (T : Txt K mg) : Z.FnG P w K mg base 9 (He.ga K "_law_is") (spM K 3 F_law_is) := by
  obtain ⟨fd, F⟩ := T.d_law_is
  refine Z.fng F sc_law_is (fun _ _ _ _ _ _ us hl => match us, hl with | [_, _, _], _ => rfl) (fun vs H Q E h => ?_) (fun cdv A outer s H vs Q E hr hg h => ?_)
  · obtain ⟨_, _, _, _, _, hl, _⟩ := h
    exact hl
  exact ⟨_, pss_cons (ps_set (i := 3) sc_law_is.nd rfl (Or.inl rfl) (pe_op op_add_str (pe_op op_add_str (pe_str) (pe_join (pe_str) (pe_lc (own := [("_law_a", 4)]) (g := gName 4) (by rfl) sc_law_is.nd (Z.piListK (K := K) rfl (pv 1)) (blkOk_by (own := [("_law_a", 4)]) (N := N_law_is) (sc := defScope s_law_is) (by decide +kernel)) (fun _ _ _ _ _ => pg_name (i := 4) sc_law_is.nd rfl (Or.inl rfl)) (fun _ _ _ _ _ => pts_nil) (fun _ _ _ _ _ => Z.pe_cl (E := E0) (ok_law_shown T) (hr.mono (by decide)) T.g_law_shown T.k_law_shown passL (pa_cons (pv 4) (pa_nil)))))) (pe_str))) (pss_cons (ps_if (PW.pt (pw_or (pt_not (pt_val (pe_callB (Z.isiK (K := K) rfl) (by rfl) T.f_isinstance (by decide +kernel) (pa_cons (pv 0) (pa_cons (pe_glob (v := .ref (He.ga K c_Table)) rfl T.g_Table rfl) (pa_nil)))))) (pw_or1 (pt_cmpR op_ne (pe_callB (reprO_ok T hg (hr.mono (by decide))) (by rfl) T.f_repr (by decide +kernel) (pa_cons (Z.pe_methR0 (E := E) (pv 0) T.cl_Table T.m_Table_points (ok_Table_points T) (hr.mono (by decide)) (passes_call (W := fun c d _ H => E c d H) (takes_of rfl rfl rfl rfl) fun _ _ _ _ h => h)) (pa_nil))) (pv 3) (nomark _))))) (pss_one (ps_ret (pe_bl))) (pss_nil)) (pss_cons (ps_if (pt_cmpR op_ne (pe_callB (reprO_ok T hg (hr.mono (by decide))) (by rfl) T.f_repr (by decide +kernel) (pa_cons (Z.pe_methR0 (E := E) (pv 0) T.cl_Table T.m_Table_steps (ok_Table_steps T) (hr.mono (by decide)) (passes_call (W := fun c d _ H => E c d H) (takes_of rfl rfl rfl rfl) fun _ _ _ _ h => h)) (pa_nil))) (pe_op op_add_str (pe_op op_add_str (pe_str) (pe_join (pe_str) (pe_lc (own := [("_law_a", 4)]) (g := gName 4) (by rfl) sc_law_is.nd (Z.piListK (K := K) rfl (pv 2)) (blkOk_by (own := [("_law_a", 4)]) (N := N_law_is) (sc := defScope s_law_is) (by decide +kernel)) (fun _ _ _ _ _ => pg_name (i := 4) sc_law_is.nd rfl (Or.inl rfl)) (fun _ _ _ _ _ => pts_nil) (fun _ _ _ _ _ => Z.pe_cl (E := E0) (ok_law_shown T) (hr.mono (by decide)) T.g_law_shown T.k_law_shown passL (pa_cons (pv 4) (pa_nil)))))) (pe_str)) (nomark _)) (pss_one (ps_ret (pe_bl))) (pss_nil)) (pss_cons (ps_if (PW.pt (pw_or (pt_cmpR op_ne (pe_callB (reprO_ok T hg (hr.mono (by decide))) (by rfl) T.f_repr (by decide +kernel) (pa_cons (pe_lc (own := [("_law_place", 5)]) (g := gName 5) (by rfl) sc_law_is.nd (pi_range2 (by rfl) T.f_range (pa_cons (pe_int) (pa_cons (pe_int) (pa_nil)))) (blkOk_by (own := [("_law_place", 5)]) (N := N_law_is) (sc := defScope s_law_is) (by decide +kernel)) (fun _ _ _ _ _ => pg_name (i := 5) sc_law_is.nd rfl (Or.inl rfl)) (fun _ _ _ _ _ => pts_nil) (fun _ _ _ _ _ => Z.pe_ixO (E := E0) T.a_Table_getitem T.i_Table_getitem T.fi_Table_getitem (ok_Table_getitem T) (hr.mono (by decide)) passL (pv 0) (pv 5) (fun _ _ => rfl))) (pa_nil))) (pv 3) (nomark _)) (pw_or1 (pt_cmpR op_ne (pe_callB (Z.call_reprO (E := E) T.a_Ratio_repr T.i_Ratio_repr (ok_Ratio_repr T) (hr.mono (by decide)) (passes_call (W := fun c d _ H => E c d H) (takes_of rfl rfl rfl rfl) fun _ _ _ _ h => h)) (by rfl) T.f_repr (by decide +kernel) (pa_cons (Z.pe_ixO (E := E) T.a_Table_getitem T.i_Table_getitem T.fi_Table_getitem (ok_Table_getitem T) (hr.mono (by decide)) (passes_call (W := fun c d _ H => E c d H) (takes_of rfl rfl rfl rfl) fun _ _ _ _ h => h) (pv 0) (pe_int) (fun _ _ => rfl)) (pa_nil))) (Z.pe_cl (E := E) (ok_law_shown T) (hr.mono (by decide)) T.g_law_shown T.k_law_shown (passes_call (W := fun c d _ H => E c d H) (takes_of rfl rfl rfl rfl) fun _ _ _ _ h => h) (pa_cons (pe_ix (Z.ixlK (K := K) rfl) (pv 1) (pe_int) (fun _ _ => rfl)) (pa_nil))) (nomark _))))) (pss_one (ps_ret (pe_bl))) (pss_nil)) (pss_cons (ps_set (i := 6) sc_law_is.nd rfl (Or.inl rfl) (Z.pe_cl (E := E) (ok_law_paid T) (hr.mono (by decide)) T.g_law_paid T.k_law_paid (passes_call (W := fun c d _ H => E c d H) (takes_of rfl rfl rfl rfl) fun _ _ _ _ h => h) (pa_cons (pv 1) (pa_nil)))) (pss_one (ps_ret (pe_cmpR op_eq (pe_callB (reprO_ok T hg (hr.mono (by decide))) (by rfl) T.f_repr (by decide +kernel) (pa_cons (pe_lst (pa_cons (Z.pe_propR (pv 0) T.cl_Table T.p_Table_paid (ok_Table_paid T) (hr.mono (by decide))) (pa_cons (pv 0) (pa_nil)))) (pa_nil))) (pe_op op_add_str (pe_op op_add_str (pe_op op_add_str (pe_op op_add_str (pe_str) (pe_callTy call_str_int (by rfl) T.f_str (by decide +kernel) (pa_cons (pv 6) (pa_nil)))) (pe_str)) (pe_join (pe_str) (pe_lc (own := [("_law_a", 4)]) (g := gName 4) (by rfl) sc_law_is.nd (Z.piListK (K := K) rfl (pe_slice (Z.sllK (K := K) rfl) (pv 1) po_none (po_some (pv 6)))) (blkOk_by (own := [("_law_a", 4)]) (N := N_law_is) (sc := defScope s_law_is) (by decide +kernel)) (fun _ _ _ _ _ => pg_name (i := 4) sc_law_is.nd rfl (Or.inl rfl)) (fun _ _ _ _ _ => pts_nil) (fun _ _ _ _ _ => Z.pe_cl (E := E0) (ok_law_shown T) (hr.mono (by decide)) T.g_law_shown T.k_law_shown passL (pa_cons (pv 4) (pa_nil)))))) (pe_str)) (nomark _)))))))), body_ok (N := N_law_is) (snd_seq (snd_asg (snd_op os_catS (snd_op os_catS (snd_str) (snd_join (snd_str) (snd_fz (snd_lc (vs := [4]) (snd_il (snd_bor 1)) (snd_gn 4) (snd_yes) (snd_call (snd_cons (snd_bor 4) (snd_nil))) (by decide))))) (snd_str)) (snd_gn 3)) (snd_seq (snd_ifS (snd_or (snd_not (snd_tb (snd_cb (cs_isi T.kn) (snd_cons (snd_bor 0) (snd_cons (snd_cls (c := c_Table)) (snd_nil)))))) (snd_test (snd_op os_neS (snd_cbW cw_reprO (snd_cons (snd_meth (c := c_Table) (snd_bor 0) (snd_nil)) (snd_nil))) (snd_bor 3)))) (snd_ret (snd_bl)) (snd_skip)) (snd_seq (snd_ifS (snd_test (snd_op os_neS (snd_cbW cw_reprO (snd_cons (snd_meth (c := c_Table) (snd_bor 0) (snd_nil)) (snd_nil))) (snd_op os_catS (snd_op os_catS (snd_str) (snd_join (snd_str) (snd_fz (snd_lc (vs := [4]) (snd_il (snd_bor 2)) (snd_gn 4) (snd_yes) (snd_call (snd_cons (snd_bor 4) (snd_nil))) (by decide))))) (snd_str)))) (snd_ret (snd_bl)) (snd_skip)) (snd_seq (snd_ifS (snd_or (snd_test (snd_op os_neS (snd_cbW cw_reprO (snd_cons (snd_fz (snd_lc (vs := [5]) (snd_ir2 (snd_cons (snd_int) (snd_cons (snd_int) (snd_nil)))) (snd_gn 5) (snd_yes) (snd_ixO (c := c_Table) (snd_bor 0) (snd_bor 5)) (by decide))) (snd_nil))) (snd_bor 3))) (snd_test (snd_op os_neS (snd_strO (c := c_Ratio) (snd_cons (snd_ixO (c := c_Table) (snd_bor 0) (snd_int)) (snd_nil))) (snd_call (snd_cons (snd_op os_ixL (snd_bor 1) (snd_int)) (snd_nil)))))) (snd_ret (snd_bl)) (snd_skip)) (snd_seq (snd_asg (snd_call (snd_cons (snd_bor 1) (snd_nil))) (snd_gn 6)) (snd_ret (snd_op os_eqS (snd_cbW cw_reprO (snd_cons (snd_fz (snd_lst (snd_cons (snd_prop (c := c_Table) (snd_bor 0)) (snd_cons (snd_var 0) (snd_nil))))) (snd_nil))) (snd_op os_catS (snd_op os_catS (snd_op os_catS (snd_op os_catS (snd_str) (snd_cb cs_strI (snd_cons (snd_bor 6) (snd_nil)))) (snd_str)) (snd_join (snd_str) (snd_fz (snd_lc (vs := [4]) (snd_il (snd_fz (snd_slL (snd_bor 1) snd_no (snd_part (snd_bor 6))))) (snd_gn 4) (snd_yes) (snd_call (snd_cons (snd_bor 4) (snd_nil))) (by decide))))) (snd_str))))))))) h⟩
noncomputable def t1_law_both : MG := gN 6
noncomputable def e1_law_both : ME := mCall 2 F_law_number (mCons (mBor 0) (mCons (mBor 6) (mNil)))
noncomputable def m_law_both : MS := sSeq (sAsg (mCall 1 F_law_paid (mCons (mBor 1) (mNil))) (gN 3)) (sSeq (sAsg (fz (mSlL (mBor 1) mNo (mPart (mOp fAdd (mBor 3) (mCall 2 F_law_draw (mCons (mBor 0) (mCons (mOp fSub (mC (.int 6)) (mBor 3)) (mNil)))))))) (gN 4)) (sSeq (sAsg (mCall 1 F_law_by_points (mCons (fz (mLc (iL (mBor 4)) t1_law_both (fun s => .ok (true, s)) e1_law_both [6])) (mNil))) (gN 5)) (sSeq (sAsg (fz (mSlL (mBor 2) mNo (mPart (mOp fAdd (mBor 3) (mCall 2 F_law_draw (mCons (mBor 0) (mCons (mOp fSub (mC (.int 6)) (mBor 3)) (mNil)))))))) (gN 4)) (sRet (fz (mLst (mCons (mVar 5) (mCons (mCall 1 F_law_by_steps (mCons (fz (mLc (iL (mBor 4)) t1_law_both (fun s => .ok (true, s)) e1_law_both [6])) (mNil))) (mNil)))))))))
noncomputable def F_law_both : Fn := fnOf 7 m_law_both
theorem okb_law_both {P : Program} {w : World} {K : PySem.W.Frag} {mg : Str → Option Value} {base : Heap} (T : Txt K mg) {fd : FuncData} (F : FunD K "_law_both" "_law_both" (defArgs s_law_both) (defBody s_law_both) (defScope s_law_both) [] [] (He.ga K "_law_both") fd) : FnOk P w K mg base (L2.CX P w) 11 (He.ga K "_law_both") fd ["_law_pot_here", "_law_points_here", "_law_steps_here"] (spM K 3 F_law_both) := by
  refine F.ok sc_law_both (fun vs H Q E h => ?_) (fun cdv A outer s H vs Q E hr h => ?_)
  · obtain ⟨_, _, _, _, _, hl, _⟩ := h
    exact hl
  exact ⟨_, pss_cons (ps_set (i := 3) sc_law_both.nd rfl (Or.inl rfl) (Z.pe_cl (E := E) (ok_law_paid T) (hr.mono (by decide)) T.g_law_paid T.k_law_paid (passes_call (W := fun c d _ H => E c d H) (takes_of rfl rfl rfl rfl) fun _ _ _ _ h => h) (pa_cons (pv 1) (pa_nil)))) (pss_cons (ps_set (i := 4) sc_law_both.nd rfl (Or.inl rfl) (pe_slice (Z.sllK (K := K) rfl) (pv 1) po_none (po_some (pe_op op_add (pv 3) (Z.pe_cl (E := E) (ok_law_draw T) (hr.mono (by decide)) T.g_law_draw T.k_law_draw (passes_call (W := fun c d _ H => E c d H) (takes_of rfl rfl rfl rfl) fun _ _ _ _ h => h) (pa_cons (pv 0) (pa_cons (pe_op op_sub (pe_int) (pv 3)) (pa_nil)))))))) (pss_cons (ps_set (i := 5) sc_law_both.nd rfl (Or.inl rfl) (Z.pe_cl (E := E) (ok_law_by_points T) (hr.mono (by decide)) T.g_law_by_points T.k_law_by_points (passes_call (W := fun c d _ H => E c d H) (takes_of rfl rfl rfl rfl) fun _ _ _ _ h => h) (pa_cons (pe_lc (own := [("_law_a", 6)]) (g := gName 6) (by rfl) sc_law_both.nd (Z.piListK (K := K) rfl (pv 4)) (blkOk_by (own := [("_law_a", 6)]) (N := N_law_both) (sc := defScope s_law_both) (by decide +kernel)) (fun _ _ _ _ _ => pg_name (i := 6) sc_law_both.nd rfl (Or.inl rfl)) (fun _ _ _ _ _ => pts_nil) (fun _ _ _ _ _ => Z.pe_cl (E := E0) (ok_law_number T) (hr.mono (by decide)) T.g_law_number T.k_law_number passL (pa_cons (pv 0) (pa_cons (pv 6) (pa_nil))))) (pa_nil)))) (pss_cons (ps_set (i := 4) sc_law_both.nd rfl (Or.inl rfl) (pe_slice (Z.sllK (K := K) rfl) (pv 2) po_none (po_some (pe_op op_add (pv 3) (Z.pe_cl (E := E) (ok_law_draw T) (hr.mono (by decide)) T.g_law_draw T.k_law_draw (passes_call (W := fun c d _ H => E c d H) (takes_of rfl rfl rfl rfl) fun _ _ _ _ h => h) (pa_cons (pv 0) (pa_cons (pe_op op_sub (pe_int) (pv 3)) (pa_nil)))))))) (pss_one (ps_ret (pe_lst (pa_cons (pv 5) (pa_cons (Z.pe_cl (E := E) (ok_law_by_steps T) (hr.mono (by decide)) T.g_law_by_steps T.k_law_by_steps (passes_call (W := fun c d _ H => E c d H) (takes_of rfl rfl rfl rfl) fun _ _ _ _ h => h) (pa_cons (pe_lc (own := [("_law_a", 6)]) (g := gName 6) (by rfl) sc_law_both.nd (Z.piListK (K := K) rfl (pv 4)) (blkOk_by (own := [("_law_a", 6)]) (N := N_law_both) (sc := defScope s_law_both) (by decide +kernel)) (fun _ _ _ _ _ => pg_name (i := 6) sc_law_both.nd rfl (Or.inl rfl)) (fun _ _ _ _ _ => pts_nil) (fun _ _ _ _ _ => Z.pe_cl (E := E0) (ok_law_number T) (hr.mono (by decide)) T.g_law_number T.k_law_number passL (pa_cons (pv 0) (pa_cons (pv 6) (pa_nil))))) (pa_nil))) (pa_nil))))))))), body_ok (N := N_law_both) (snd_seq (snd_asg (snd_call (snd_cons (snd_bor 1) (snd_nil))) (snd_gn 3)) (snd_seq (snd_asg (snd_fz (snd_slL (snd_bor 1) snd_no (snd_part (snd_op os_add (snd_bor 3) (snd_call (snd_cons (snd_bor 0) (snd_cons (snd_op os_sub (snd_int) (snd_bor 3)) (snd_nil)))))))) (snd_gn 4)) (snd_seq (snd_asg (snd_call (snd_cons (snd_fz (snd_lc (vs := [6]) (snd_il (snd_bor 4)) (snd_gn 6) (snd_yes) (snd_call (snd_cons (snd_bor 0) (snd_cons (snd_bor 6) (snd_nil)))) (by decide))) (snd_nil))) (snd_gn 5)) (snd_seq (snd_asg (snd_fz (snd_slL (snd_bor 2) snd_no (snd_part (snd_op os_add (snd_bor 3) (snd_call (snd_cons (snd_bor 0) (snd_cons (snd_op os_sub (snd_int) (snd_bor 3)) (snd_nil)))))))) (snd_gn 4)) (snd_ret (snd_fz (snd_lst (snd_cons (snd_var 5) (snd_cons (snd_call (snd_cons (snd_fz (snd_lc (vs := [6]) (snd_il (snd_bor 4)) (snd_gn 6) (snd_yes) (snd_call (snd_cons (snd_bor 0) (snd_cons (snd_bor 6) (snd_nil)))) (by decide))) (snd_nil))) (snd_nil)))))))))) h⟩
theorem ok_law_both {P : Program} {w : World} {K : PySem.W.Frag} {mg : Str → Option Value} {base : Heap} (T : Txt K mg) : FnR P w K mg base (L2.CX P w) 11 (He.ga K "_law_both") (spM K 3 F_law_both) := by
  obtain ⟨fd, F⟩ := T.d_law_both
  exact Z.raw0 (okb_law_both T F) (F.bindsN fun _ _ _ _ _ _ us hl => match us, hl with | [_, _, _], _ => rfl)
noncomputable def t1_law_equal_right : MG := gN 6
noncomputable def e1_law_equal_right : ME := mOrV (mEqO clss c_Table F_Table_eq (mBor 1) (mBor 6)) (mEqO2 clss c_Ratio c_Table F_Ratio_eq F_Table_eq (mBor 6) (mBor 1))
noncomputable def m_law_equal_right : MS := sSeq (sIf (mOr (mNot (mTest (mEqO clss c_Table F_Table_eq (mBor 1) (mBor 3)))) (mOr (mTest (mNeO clss c_Table F_Table_eq (mBor 1) (mBor 3))) (mNot (mTest (mEqO clss c_Table F_Table_eq (mBor 3) (mBor 1)))))) (sRet (mC (.bl false))) (sSkip)) (sSeq (sIf (mTest (mOp fNeS (mCB (f1 fRepr) (mCons (fz (mLst (mCons (mEqO clss c_Table F_Table_eq (mBor 1) (mOp fIxL (mBor 4) (mC (.int 0)))) (mCons (mNeO clss c_Table F_Table_eq (mBor 1) (mOp fIxL (mBor 4) (mC (.int 0)))) (mNil))))) (mNil))) (mCB (f1 fRepr) (mCons (fz (mLst (mCons (mOp fEq (mBor 2) (mOp fIxL (mBor 4) (mC (.int 1)))) (mCons (mOp fNe (mBor 2) (mOp fIxL (mBor 4) (mC (.int 1)))) (mNil))))) (mNil))))) (sRet (mC (.bl false))) (sSkip)) (sSeq (sAsg (fz (mLst (mCons (mC .non) (mCons (mVar 2) (mCons (mStrO c_Table F_Table_repr (mCons (mBor 1) (mNil))) (mCons (mMeth c_Table "points" 1 F_Table_points (mBor 1) (mNil)) (mCons (mMeth c_Table "steps" 1 F_Table_steps (mBor 1) (mNil)) (mCons (mCB (f1 fTuple) (mCons (mMeth c_Table "points" 1 F_Table_points (mBor 1) (mNil)) (mNil))) (mCons (mIxO c_Table F_Table_getitem (mBor 1) (mC (.int 1))) (mCons (mProp c_Table F_Table_paid (mBor 1)) (mCons (mC (.bl true)) (mNil)))))))))))) (gN 5)) (sRet (mNotV (mCB (f1 fAny) (mCons (fz (mLc (iL (mBor 5)) t1_law_equal_right (fun s => .ok (true, s)) e1_law_equal_right [6])) (mNil)))))))
noncomputable def F_law_equal_right : Fn := fnOf 7 m_law_equal_right
theorem ok_law_equal_right {P : Program} {w : World} {K : PySem.W.Frag} {mg : Str → Option Value} {base : Heap} (T : Txt K mg) : Z.FnG P w K mg base 8 (He.ga K "_law_equal_right") (spM K 5 F_law_equal_right) := by
  obtain ⟨fd, F⟩ := T.d_law_equal_right
  refine Z.fng F sc_law_equal_right (fun _ _ _ _ _ _ us hl => match us, hl with | [_, _, _, _, _], _ => rfl) (fun vs H Q E h => ?_) (fun cdv A outer s H vs Q E hr hg h => ?_)
  · obtain ⟨_, _, _, _, _, hl, _⟩ := h
    exact hl
  exact ⟨_, pss_cons (ps_if (PW.pt (pw_or (pt_not (pt_cmpR (Z.op_eqO (E := E) (K := K) rfl T.eq_Table (ok_Table_eq T) (hr.mono (by decide)) (passes_call (W := fun c d _ H => E c d H) (takes_of rfl rfl rfl rfl) fun _ _ _ _ h => h)) (pv 1) (pv 3) (nomark _))) (pw_or (pt_cmpR (Z.op_neO (E := E) (K := K) rfl T.eq_Table (ok_Table_eq T) (hr.mono (by decide)) (passes_call (W := fun c d _ H => E c d H) (takes_of rfl rfl rfl rfl) fun _ _ _ _ h => h)) (pv 1) (pv 3) (nomark _)) (pw_or1 (pt_not (pt_cmpR (Z.op_eqO (E := E) (K := K) rfl T.eq_Table (ok_Table_eq T) (hr.mono (by decide)) (passes_call (W := fun c d _ H => E c d H) (takes_of rfl rfl rfl rfl) fun _ _ _ _ h => h)) (pv 3) (pv 1) (nomark _))))))) (pss_one (ps_ret (pe_bl))) (pss_nil)) (pss_cons (ps_if (pt_cmpR op_ne (pe_callB (Z.reprK (K := K) rfl hg hr.units) (by rfl) T.f_repr (by decide +kernel) (pa_cons (pe_lst (pa_cons (pe_cmpR (Z.op_eqO (E := E) (K := K) rfl T.eq_Table (ok_Table_eq T) (hr.mono (by decide)) (passes_call (W := fun c d _ H => E c d H) (takes_of rfl rfl rfl rfl) fun _ _ _ _ h => h)) (pv 1) (pe_ix (Z.ixlK (K := K) rfl) (pv 4) (pe_int) (fun _ _ => rfl)) (nomark _)) (pa_cons (pe_cmpR (Z.op_neO (E := E) (K := K) rfl T.eq_Table (ok_Table_eq T) (hr.mono (by decide)) (passes_call (W := fun c d _ H => E c d H) (takes_of rfl rfl rfl rfl) fun _ _ _ _ h => h)) (pv 1) (pe_ix (Z.ixlK (K := K) rfl) (pv 4) (pe_int) (fun _ _ => rfl)) (nomark _)) (pa_nil)))) (pa_nil))) (pe_callB (Z.reprK (K := K) rfl hg hr.units) (by rfl) T.f_repr (by decide +kernel) (pa_cons (pe_lst (pa_cons (pe_cmpR (Z.eqDK (K := K) rfl hr.units) (pv 2) (pe_ix (Z.ixlK (K := K) rfl) (pv 4) (pe_int) (fun _ _ => rfl)) (nomark _)) (pa_cons (pe_cmpR (Z.neDK (K := K) rfl hr.units) (pv 2) (pe_ix (Z.ixlK (K := K) rfl) (pv 4) (pe_int) (fun _ _ => rfl)) (nomark _)) (pa_nil)))) (pa_nil))) (nomark _)) (pss_one (ps_ret (pe_bl))) (pss_nil)) (pss_cons (ps_set (i := 5) sc_law_equal_right.nd rfl (Or.inl rfl) (pe_lst (pa_cons (pe_non) (pa_cons (pv 2) (pa_cons (pe_callB (Z.call_reprO (E := E) T.a_Table_repr T.i_Table_repr (ok_Table_repr T) (hr.mono (by decide)) (passes_call (W := fun c d _ H => E c d H) (takes_of rfl rfl rfl rfl) fun _ _ _ _ h => h)) (by rfl) T.f_repr (by decide +kernel) (pa_cons (pv 1) (pa_nil))) (pa_cons (Z.pe_methR0 (E := E) (pv 1) T.cl_Table T.m_Table_points (ok_Table_points T) (hr.mono (by decide)) (passes_call (W := fun c d _ H => E c d H) (takes_of rfl rfl rfl rfl) fun _ _ _ _ h => h)) (pa_cons (Z.pe_methR0 (E := E) (pv 1) T.cl_Table T.m_Table_steps (ok_Table_steps T) (hr.mono (by decide)) (passes_call (W := fun c d _ H => E c d H) (takes_of rfl rfl rfl rfl) fun _ _ _ _ h => h)) (pa_cons (pe_callTy (Z.tupleK (K := K) rfl) (by rfl) T.f_tuple (by decide +kernel) (pa_cons (Z.pe_methR0 (E := E) (pv 1) T.cl_Table T.m_Table_points (ok_Table_points T) (hr.mono (by decide)) (passes_call (W := fun c d _ H => E c d H) (takes_of rfl rfl rfl rfl) fun _ _ _ _ h => h)) (pa_nil))) (pa_cons (Z.pe_ixO (E := E) T.a_Table_getitem T.i_Table_getitem T.fi_Table_getitem (ok_Table_getitem T) (hr.mono (by decide)) (passes_call (W := fun c d _ H => E c d H) (takes_of rfl rfl rfl rfl) fun _ _ _ _ h => h) (pv 1) (pe_int) (fun _ _ => rfl)) (pa_cons (Z.pe_propR (pv 1) T.cl_Table T.p_Table_paid (ok_Table_paid T) (hr.mono (by decide))) (pa_cons (pe_bl) (pa_nil)))))))))))) (pss_one (ps_ret (pe_not (pe_callB (Z.anyK (K := K) rfl rfl) (by rfl) T.f_any (by decide +kernel) (pa_cons (pe_lc (own := [("_law_some", 6)]) (g := gName 6) (by rfl) sc_law_equal_right.nd (Z.piListK (K := K) rfl (pv 5)) (blkOk_by (own := [("_law_some", 6)]) (N := N_law_equal_right) (sc := defScope s_law_equal_right) (by decide +kernel)) (fun _ _ _ _ _ => pg_name (i := 6) sc_law_equal_right.nd rfl (Or.inl rfl)) (fun _ _ _ _ _ => pts_nil) (fun _ _ _ _ _ => pe_or (pe_cmpR (Z.op_eqO (E := E0) (K := K) rfl T.eq_Table (ok_Table_eq T) (hr.mono (by decide)) passL) (pv 1) (pv 6) (nomark _)) (pe_one (pe_cmpR (Z.op_or (Z.op_eqO (E := E0) (K := K) rfl T.eq_Ratio (ok_Ratio_eq T) (hr.mono (by decide)) passL) (Z.op_eqO (E := E0) (K := K) rfl T.eq_Table (ok_Table_eq T) (hr.mono (by decide)) passL)) (pv 6) (pv 1) (nomark _))))) (pa_nil)))))))), body_ok (N := N_law_equal_right) (snd_seq (snd_ifS (snd_or (snd_not (snd_test (snd_eqO (c := c_Table) T.kn (by simp [clss]) (snd_bor 1) (snd_bor 3)))) (snd_or (snd_test (snd_neO (c := c_Table) T.kn (by simp [clss]) (snd_bor 1) (snd_bor 3))) (snd_not (snd_test (snd_eqO (c := c_Table) T.kn (by simp [clss]) (snd_bor 3) (snd_bor 1)))))) (snd_ret (snd_bl)) (snd_skip)) (snd_seq (snd_ifS (snd_test (snd_op os_neS (snd_cb cs_repr (snd_cons (snd_fz (snd_lst (snd_cons (snd_eqO (c := c_Table) T.kn (by simp [clss]) (snd_bor 1) (snd_op os_ixL (snd_bor 4) (snd_int))) (snd_cons (snd_neO (c := c_Table) T.kn (by simp [clss]) (snd_bor 1) (snd_op os_ixL (snd_bor 4) (snd_int))) (snd_nil))))) (snd_nil))) (snd_cb cs_repr (snd_cons (snd_fz (snd_lst (snd_cons (snd_op os_eq (snd_bor 2) (snd_op os_ixL (snd_bor 4) (snd_int))) (snd_cons (snd_op os_ne (snd_bor 2) (snd_op os_ixL (snd_bor 4) (snd_int))) (snd_nil))))) (snd_nil))))) (snd_ret (snd_bl)) (snd_skip)) (snd_seq (snd_asg (snd_fz (snd_lst (snd_cons (snd_non) (snd_cons (snd_var 2) (snd_cons (snd_strO (c := c_Table) (snd_cons (snd_bor 1) (snd_nil))) (snd_cons (snd_meth (c := c_Table) (snd_bor 1) (snd_nil)) (snd_cons (snd_meth (c := c_Table) (snd_bor 1) (snd_nil)) (snd_cons (snd_cb cs_tuple (snd_cons (snd_meth (c := c_Table) (snd_bor 1) (snd_nil)) (snd_nil))) (snd_cons (snd_ixO (c := c_Table) (snd_bor 1) (snd_int)) (snd_cons (snd_prop (c := c_Table) (snd_bor 1)) (snd_cons (snd_bl) (snd_nil)))))))))))) (snd_gn 5)) (snd_ret (snd_notV (snd_cb cs_any (snd_cons (snd_fz (snd_lc (vs := [6]) (snd_il (snd_bor 5)) (snd_gn 6) (snd_yes) (snd_orV (snd_eqO (c := c_Table) T.kn (by simp [clss]) (snd_bor 1) (snd_bor 6)) (snd_eqO2 (c := c_Ratio) (c2 := c_Table) T.kn (by simp) (by simp) (snd_bor 6) (snd_bor 1))) (by decide))) (snd_nil)))))))) h⟩
noncomputable def t1_law_fixed_right : MG := gN 4
noncomputable def e1_law_fixed_right : ME := mTup (mCons (mCB (f1 fInt) (mCons (mOp fLt (mBor 4) (mBor 1)) (mNil))) (mCons (mC (.int 1)) (mNil)))
noncomputable def e2_law_fixed_right : ME := mTup (mCons (mCB (f1 fInt) (mCons (mOp fEqS (mBor 4) (mOp fSub (mBor 1) (mC (.int 1)))) (mNil))) (mCons (mC (.int 1)) (mNil)))
noncomputable def b1_law_fixed_right : MS := sAsg (fz (mOpF fCat (fz (mLst (mCons (mTup (mCons (mOp fMul (mOp fIxT (mOp fIxL (mBor 7) (mC (.int 0))) (mC (.int 0))) (mBor 2)) (mCons (mC (.int 1)) (mNil)))) (mNil)))) (mBor 7))) (gN 7)
noncomputable def t2_law_fixed_right : MG := gTs 2 (gsC (gN 8) (gsC (gN 9) (gsN)))
noncomputable def e3_law_fixed_right : ME := mCall 2 F_law_minus (mCons (mBor 8) (mCons (mBor 9) (mNil)))
noncomputable def m_law_fixed_right : MS := sSeq (sAsg (mTup (mCons (mOp fAdd (mC (.int 1)) (mCall 2 F_law_draw (mCons (mBor 0) (mCons (mC (.int 5)) (mNil))))) (mCons (mOp fAdd (mC (.int 1)) (mCall 2 F_law_draw (mCons (mBor 0) (mCons (mCall 2 F_law_pick (mCons (mBor 0) (mCons (fz (mLst (mCons (mC (.int 1)) (mCons (mC (.int 2)) (mCons (mC (.int 5)) (mCons (mC (.int 100)) (mCons (mOp fPow (mC (.int 10)) (mC (.int 29))) (mNil)))))))) (mNil)))) (mNil))))) (mNil)))) (gTs 2 (gsC (gN 1) (gsC (gN 2) (gsN))))) (sSeq (sAsg (fz (mLc (iR1 (mCons (mC (.int 5)) (mNil))) t1_law_fixed_right (fun s => .ok (true, s)) e1_law_fixed_right [4])) (gN 3)) (sSeq (sAsg (fz (mLc (iR1 (mCons (mC (.int 5)) (mNil))) t1_law_fixed_right (fun s => .ok (true, s)) e2_law_fixed_right [4])) (gN 5)) (sSeq (sAsg (mCMeth c_Table 2 F_Table_first_places (mCons (mBor 1) (mNil))) (gN 6)) (sSeq (sIf (mOr (mNot (mTest (mCall 3 F_law_is (mCons (mBor 6) (mCons (mBor 3) (mCons (mBor 5) (mNil))))))) (mNot (mTest (mEqO clss c_Table F_Table_eq (mCMethK c_Table [0] 2 F_Table_first_places (mCons (mBor 1) (mNil))) (mBor 6))))) (sRet (mC (.bl false))) (sSkip)) (sSeq (sAsg (fz (mLst (mCons (mTup (mCons (mC (.int 1)) (mCons (mC (.int 1)) (mNil)))) (mNil)))) (gN 7)) (sSeq (sFor [4, 7] (iR1 (mCons (mOp fSub (mBor 1) (mC (.int 1))) (mNil))) t1_law_fixed_right b1_law_fixed_right) (sSeq (sAsg (fz (mOpF fCat (mBor 7) (fz (mOpF fRep (fz (mLst (mCons (mTup (mCons (mC (.int 0)) (mCons (mC (.int 1)) (mNil)))) (mNil)))) (mOp fSub (mC (.int 5)) (mBor 1)))))) (gN 7)) (sSeq (sAsg (fz (mLc (iZ (mCons (mBor 7) (mCons (fz (mOpF fCat (fz (mSlL (mBor 7) (mPart (mC (.int 1))) mNo)) (fz (mLst (mCons (mTup (mCons (mC (.int 0)) (mCons (mC (.int 1)) (mNil)))) (mNil)))))) (mNil)))) t2_law_fixed_right (fun s => .ok (true, s)) e3_law_fixed_right [8, 9])) (gN 5)) (sSeq (sIf (mNot (mTest (mCall 3 F_law_is (mCons (mCMeth c_Table 3 F_Table_steep (mCons (mBor 2) (mCons (mBor 1) (mNil)))) (mCons (mBor 7) (mCons (mBor 5) (mNil))))))) (sRet (mC (.bl false))) (sSkip)) (sRet (mAndV (mEqO clss c_Table F_Table_eq (mCMethK c_Table [1, 0] 3 F_Table_steep (mCons (mBor 1) (mCons (mBor 2) (mNil)))) (mCMeth c_Table 3 F_Table_steep (mCons (mBor 2) (mCons (mBor 1) (mNil))))) (mEqO clss c_Table F_Table_eq (mCMeth c_Table 3 F_Table_steep (mCons (mC (.int 1)) (mCons (mBor 1) (mNil)))) (mBor 6)))))))))))))
noncomputable def F_law_fixed_right : Fn := fnOf 10 m_law_fixed_right
theorem ok_law_fixed_right {P : Program} {w : World} {K : PySem.W.Frag} {mg : Str → Option Value} {base : Heap} (T : Txt K mg) : Z.FnG P w K mg base 10 (He.ga K "_law_fixed_right") (spM K 1 F_law_fixed_right) := by
  obtain ⟨fd, F⟩ := T.d_law_fixed_right
  refine Z.fng F sc_law_fixed_right (fun _ _ _ _ _ _ us hl => match us, hl with | [_], _ => rfl) (fun vs H Q E h => ?_) (fun cdv A outer s H vs Q E hr hg h => ?_)
  · obtain ⟨_, _, _, _, _, hl, _⟩ := h
    exact hl
  exact ⟨_, pss_cons (ps_asg (pe_tup (pa_cons (pe_op op_add (pe_int) (Z.pe_cl (E := E) (ok_law_draw T) (hr.mono (by decide)) T.g_law_draw T.k_law_draw (passes_call (W := fun c d _ H => E c d H) (takes_of rfl rfl rfl rfl) fun _ _ _ _ h => h) (pa_cons (pv 0) (pa_cons (pe_int) (pa_nil))))) (pa_cons (pe_op op_add (pe_int) (Z.pe_cl (E := E) (ok_law_draw T) (hr.mono (by decide)) T.g_law_draw T.k_law_draw (passes_call (W := fun c d _ H => E c d H) (takes_of rfl rfl rfl rfl) fun _ _ _ _ h => h) (pa_cons (pv 0) (pa_cons (Z.pe_cl (E := E) (ok_law_pick T) (hr.mono (by decide)) T.g_law_pick T.k_law_pick (passes_call (W := fun c d _ H => E c d H) (takes_of rfl rfl rfl rfl) fun _ _ _ _ h => h) (pa_cons (pv 0) (pa_cons (pe_lst (pa_cons (pe_int) (pa_cons (pe_int) (pa_cons (pe_int) (pa_cons (pe_int) (pa_cons (pe_op op_pow (pe_int) (pe_int)) (pa_nil))))))) (pa_nil)))) (pa_nil))))) (pa_nil)))) (Z.pgTupK (K := K) rfl rfl (pgs_cons (pg_name (i := 1) sc_law_fixed_right.nd rfl (Or.inr rfl)) (pgs_cons (pg_name (i := 2) sc_law_fixed_right.nd rfl (Or.inl rfl)) (pgs_nil))))) (pss_cons (ps_setLc (i := 3) (own := [("_law_place", 4)]) (g := gName 4) (by rfl) sc_law_fixed_right.nd rfl rfl (sw_true rfl rfl rfl (by decide +kernel)) (pi_range1 (by rfl) T.f_range (pa_cons (pe_int) (pa_nil))) (blkOk_by (own := [("_law_place", 4)]) (N := N_law_fixed_right) (sc := defScope s_law_fixed_right) (by decide +kernel)) (fun _ _ _ _ _ => pg_name (i := 4) sc_law_fixed_right.nd rfl (Or.inl rfl)) (fun _ _ _ _ _ => pts_nil) (fun _ _ _ _ _ => pe_tup (pa_cons (pe_callTy call_int1 (by rfl) T.f_int (by decide +kernel) (pa_cons (pe_cmpR op_lt (pv 4) (pv 1) (nomark _)) (pa_nil))) (pa_cons (pe_int) (pa_nil))))) (pss_cons (ps_setLc (i := 5) (own := [("_law_place", 4)]) (g := gName 4) (by rfl) sc_law_fixed_right.nd rfl rfl (sw_true rfl rfl rfl (by decide +kernel)) (pi_range1 (by rfl) T.f_range (pa_cons (pe_int) (pa_nil))) (blkOk_by (own := [("_law_place", 4)]) (N := N_law_fixed_right) (sc := defScope s_law_fixed_right) (by decide +kernel)) (fun _ _ _ _ _ => pg_name (i := 4) sc_law_fixed_right.nd rfl (Or.inl rfl)) (fun _ _ _ _ _ => pts_nil) (fun _ _ _ _ _ => pe_tup (pa_cons (pe_callTy call_int1 (by rfl) T.f_int (by decide +kernel) (pa_cons (pe_cmpR op_eq (pv 4) (pe_op op_sub (pv 1) (pe_int)) (nomark _)) (pa_nil))) (pa_cons (pe_int) (pa_nil))))) (pss_cons (ps_set (i := 6) sc_law_fixed_right.nd rfl (Or.inl rfl) (ClX.pe_cmeth (E := E) (pe_glob (v := .ref (He.ga K c_Table)) rfl T.g_Table rfl) T.cr_Table T.cm_Table_first_places (ok_Table_first_places T) (hr.mono (by decide)) (passes_call (W := fun c d _ H => E c d H) (takes_of rfl rfl rfl rfl) fun _ _ _ _ h => h) (pa_cons (pv 1) (pa_nil)))) (pss_cons (ps_if (PW.pt (pw_or (pt_not (pt_val (Z.pe_clG (E := E) (ok_law_is T) (hr.mono (by decide)) hg T.g_law_is T.k_law_is (passes_call (W := fun c d _ H => E c d H) (takes_of rfl rfl rfl rfl) fun _ _ _ _ h => h) (pa_cons (pv 6) (pa_cons (pv 3) (pa_cons (pv 5) (pa_nil))))))) (pw_or1 (pt_not (pt_cmpR (Z.op_eqO (E := E) (K := K) rfl T.eq_Table (ok_Table_eq T) (hr.mono (by decide)) (passes_call (W := fun c d _ H => E c d H) (takes_of rfl rfl rfl rfl) fun _ _ _ _ h => h)) (Z.pe_cmethK (E := E) (pe_glob (v := .ref (He.ga K c_Table)) rfl T.g_Table rfl) T.cr_Table T.cm_Table_first_places (okk_Table_first_places_k T) (hr.mono (by decide)) (passes_call (W := fun c d _ H => E c d H) (takes_of rfl rfl rfl rfl) fun _ _ _ _ h => h) (pk_cons (pv 1) (pk_nil))) (pv 6) (nomark _)))))) (pss_one (ps_ret (pe_bl))) (pss_nil)) (pss_cons (ps_set (i := 7) sc_law_fixed_right.nd rfl (Or.inl rfl) (pe_lst (pa_cons (pe_tup (pa_cons (pe_int) (pa_cons (pe_int) (pa_nil)))) (pa_nil)))) (pss_cons (ps_for (passes_of rfl) rfl (pi_range1 (by rfl) T.f_range (pa_cons (pe_op op_sub (pv 1) (pe_int)) (pa_nil))) (pg_name (i := 4) sc_law_fixed_right.nd rfl (Or.inl rfl)) (pss_one (ps_set (i := 7) sc_law_fixed_right.nd rfl (Or.inl rfl) (pe_op op_cat (pe_lst (pa_cons (pe_tup (pa_cons (pe_op op_mulW (pe_ix (Z.ixtK (K := K) rfl) (pe_ix (Z.ixlK (K := K) rfl) (pv 7) (pe_int) (fun _ _ => rfl)) (pe_int) (fun _ _ => rfl)) (pv 2)) (pa_cons (pe_int) (pa_nil)))) (pa_nil))) (pv 7))))) (pss_cons (ps_set (i := 7) sc_law_fixed_right.nd rfl (Or.inl rfl) (pe_op op_cat (pv 7) (pe_op op_rep (pe_lst (pa_cons (pe_tup (pa_cons (pe_int) (pa_cons (pe_int) (pa_nil)))) (pa_nil))) (pe_op op_sub (pe_int) (pv 1))))) (pss_cons (ps_setLc (i := 5) (own := [("_law_a", 8), ("_law_b", 9)]) (g := gTup K 2 (gCons (gName 8) (gCons (gName 9) (gNil)))) (by rfl) sc_law_fixed_right.nd rfl rfl (sw_true rfl rfl rfl (by decide +kernel)) (Z.piZipK (K := K) rfl (by rfl) T.f_zip (pa_cons (pv 7) (pa_cons (pe_op op_cat (pe_slice (Z.sllK (K := K) rfl) (pv 7) (po_some (pe_int)) po_none) (pe_lst (pa_cons (pe_tup (pa_cons (pe_int) (pa_cons (pe_int) (pa_nil)))) (pa_nil)))) (pa_nil)))) (blkOk_by (own := [("_law_a", 8), ("_law_b", 9)]) (N := N_law_fixed_right) (sc := defScope s_law_fixed_right) (by decide +kernel)) (fun _ _ _ _ _ => Z.pgTupK (K := K) rfl rfl (pgs_cons (pg_name (i := 8) sc_law_fixed_right.nd rfl (Or.inl rfl)) (pgs_cons (pg_name (i := 9) sc_law_fixed_right.nd rfl (Or.inl rfl)) (pgs_nil)))) (fun _ _ _ _ _ => pts_nil) (fun _ _ _ _ _ => Z.pe_cl (E := E0) (ok_law_minus T) (hr.mono (by decide)) T.g_law_minus T.k_law_minus passL (pa_cons (pv 8) (pa_cons (pv 9) (pa_nil))))) (pss_cons (ps_if (pt_not (pt_val (Z.pe_clG (E := E) (ok_law_is T) (hr.mono (by decide)) hg T.g_law_is T.k_law_is (passes_call (W := fun c d _ H => E c d H) (takes_of rfl rfl rfl rfl) fun _ _ _ _ h => h) (pa_cons (ClX.pe_cmeth (E := E) (pe_glob (v := .ref (He.ga K c_Table)) rfl T.g_Table rfl) T.cr_Table T.cm_Table_steep (ok_Table_steep T) (hr.mono (by decide)) (passes_call (W := fun c d _ H => E c d H) (takes_of rfl rfl rfl rfl) fun _ _ _ _ h => h) (pa_cons (pv 2) (pa_cons (pv 1) (pa_nil)))) (pa_cons (pv 7) (pa_cons (pv 5) (pa_nil))))))) (pss_one (ps_ret (pe_bl))) (pss_nil)) (pss_one (ps_ret (pe_and (pe_cmpR (Z.op_eqO (E := E) (K := K) rfl T.eq_Table (ok_Table_eq T) (hr.mono (by decide)) (passes_call (W := fun c d _ H => E c d H) (takes_of rfl rfl rfl rfl) fun _ _ _ _ h => h)) (Z.pe_cmethK (E := E) (pe_glob (v := .ref (He.ga K c_Table)) rfl T.g_Table rfl) T.cr_Table T.cm_Table_steep (okk_Table_steep_k_s T) (hr.mono (by decide)) (passes_call (W := fun c d _ H => E c d H) (takes_of rfl rfl rfl rfl) fun _ _ _ _ h => h) (pk_cons (pv 1) (pk_cons (pv 2) (pk_nil)))) (ClX.pe_cmeth (E := E) (pe_glob (v := .ref (He.ga K c_Table)) rfl T.g_Table rfl) T.cr_Table T.cm_Table_steep (ok_Table_steep T) (hr.mono (by decide)) (passes_call (W := fun c d _ H => E c d H) (takes_of rfl rfl rfl rfl) fun _ _ _ _ h => h) (pa_cons (pv 2) (pa_cons (pv 1) (pa_nil)))) (nomark _)) (pe_one (pe_cmpR (Z.op_eqO (E := E) (K := K) rfl T.eq_Table (ok_Table_eq T) (hr.mono (by decide)) (passes_call (W := fun c d _ H => E c d H) (takes_of rfl rfl rfl rfl) fun _ _ _ _ h => h)) (ClX.pe_cmeth (E := E) (pe_glob (v := .ref (He.ga K c_Table)) rfl T.g_Table rfl) T.cr_Table T.cm_Table_steep (ok_Table_steep T) (hr.mono (by decide)) (passes_call (W := fun c d _ H => E c d H) (takes_of rfl rfl rfl rfl) fun _ _ _ _ h => h) (pa_cons (pe_int) (pa_cons (pv 1) (pa_nil)))) (pv 6) (nomark _))))))))))))))), body_ok (N := N_law_fixed_right) (snd_seq (snd_asg (snd_tup (snd_cons (snd_op os_add (snd_int) (snd_call (snd_cons (snd_bor 0) (snd_cons (snd_int) (snd_nil))))) (snd_cons (snd_op os_add (snd_int) (snd_call (snd_cons (snd_bor 0) (snd_cons (snd_call (snd_cons (snd_bor 0) (snd_cons (snd_fz (snd_lst (snd_cons (snd_int) (snd_cons (snd_int) (snd_cons (snd_int) (snd_cons (snd_int) (snd_cons (snd_op os_pow (snd_int) (snd_int)) (snd_nil)))))))) (snd_nil)))) (snd_nil))))) (snd_nil)))) (snd_gts (n := 2) (snd_gsc (snd_gn 1) (snd_gsc (snd_gn 2) (snd_gsn))))) (snd_seq (snd_asg (snd_fz (snd_lc (vs := [4]) (snd_ir1 (snd_cons (snd_int) (snd_nil))) (snd_gn 4) (snd_yes) (snd_tup (snd_cons (snd_cb cs_int (snd_cons (snd_op os_lt (snd_bor 4) (snd_bor 1)) (snd_nil))) (snd_cons (snd_int) (snd_nil)))) (by decide))) (snd_gn 3)) (snd_seq (snd_asg (snd_fz (snd_lc (vs := [4]) (snd_ir1 (snd_cons (snd_int) (snd_nil))) (snd_gn 4) (snd_yes) (snd_tup (snd_cons (snd_cb cs_int (snd_cons (snd_op os_eqS (snd_bor 4) (snd_op os_sub (snd_bor 1) (snd_int))) (snd_nil))) (snd_cons (snd_int) (snd_nil)))) (by decide))) (snd_gn 5)) (snd_seq (snd_asg (snd_cmeth (c := c_Table) (snd_cons (snd_bor 1) (snd_nil))) (snd_gn 6)) (snd_seq (snd_ifS (snd_or (snd_not (snd_tb (snd_call (snd_cons (snd_bor 6) (snd_cons (snd_bor 3) (snd_cons (snd_bor 5) (snd_nil))))))) (snd_not (snd_test (snd_eqO (c := c_Table) T.kn (by simp [clss]) (snd_cmethK (c := c_Table) rfl (snd_cons (snd_bor 1) (snd_nil))) (snd_bor 6))))) (snd_ret (snd_bl)) (snd_skip)) (snd_seq (snd_asg (snd_fz (snd_lst (snd_cons (snd_tup (snd_cons (snd_int) (snd_cons (snd_int) (snd_nil)))) (snd_nil)))) (snd_gn 7)) (snd_seq (snd_for (snd_ir1 (snd_cons (snd_op os_sub (snd_bor 1) (snd_int)) (snd_nil))) (snd_gn 4) (snd_asg (snd_fz (snd_opF of_cat (snd_fz (snd_lst (snd_cons (snd_tup (snd_cons (snd_op os_mul (snd_op os_ixT (snd_op os_ixL (snd_bor 7) (snd_int)) (snd_int)) (snd_bor 2)) (snd_cons (snd_int) (snd_nil)))) (snd_nil)))) (snd_bor 7))) (snd_gn 7))) (snd_seq (snd_asg (snd_fz (snd_opF of_cat (snd_bor 7) (snd_fz (snd_opF of_rep (snd_fz (snd_lst (snd_cons (snd_tup (snd_cons (snd_int) (snd_cons (snd_int) (snd_nil)))) (snd_nil)))) (snd_op os_sub (snd_int) (snd_bor 1)))))) (snd_gn 7)) (snd_seq (snd_asg (snd_fz (snd_lc (vs := [8, 9]) (snd_iz (snd_cons (snd_bor 7) (snd_cons (snd_fz (snd_opF of_cat (snd_fz (snd_slL (snd_bor 7) (snd_part (snd_int)) snd_no)) (snd_fz (snd_lst (snd_cons (snd_tup (snd_cons (snd_int) (snd_cons (snd_int) (snd_nil)))) (snd_nil)))))) (snd_nil)))) (snd_gts (n := 2) (snd_gsc (snd_gn 8) (snd_gsc (snd_gn 9) (snd_gsn)))) (snd_yes) (snd_call (snd_cons (snd_bor 8) (snd_cons (snd_bor 9) (snd_nil)))) (by decide))) (snd_gn 5)) (snd_seq (snd_ifS (snd_not (snd_tb (snd_call (snd_cons (snd_cmeth (c := c_Table) (snd_cons (snd_bor 2) (snd_cons (snd_bor 1) (snd_nil)))) (snd_cons (snd_bor 7) (snd_cons (snd_bor 5) (snd_nil))))))) (snd_ret (snd_bl)) (snd_skip)) (snd_ret (snd_andV (snd_eqO (c := c_Table) T.kn (by simp [clss]) (snd_cmethK (c := c_Table) rfl (snd_cons (snd_bor 1) (snd_cons (snd_bor 2) (snd_nil)))) (snd_cmeth (c := c_Table) (snd_cons (snd_bor 2) (snd_cons (snd_bor 1) (snd_nil))))) (snd_eqO (c := c_Table) T.kn (by simp [clss]) (snd_cmeth (c := c_Table) (snd_cons (snd_int) (snd_cons (snd_bor 1) (snd_nil)))) (snd_bor 6)))))))))))))) h⟩
noncomputable def t1_law_right : MG := gN 2
noncomputable def b1_law_right : MS := sSeq (sAsg (mCall 1 F_law_steps (mCons (mBor 0) (mNil))) (gN 3)) (sSeq (sAsg (mCall 1 F_law_points (mCons (mBor 3) (mNil))) (gN 4)) (sSeq (sAsg (mCall 3 F_law_both (mCons (mBor 0) (mCons (mBor 4) (mCons (mBor 3) (mNil))))) (gLs 2 (gsC (gN 5) (gsC (gN 6) (gsN))))) (sSeq (sIf (mOr (mNot (mTest (mCall 3 F_law_is (mCons (mBor 5) (mCons (mBor 4) (mCons (mBor 3) (mNil))))))) (mNot (mTest (mCall 3 F_law_is (mCons (mBor 6) (mCons (mBor 4) (mCons (mBor 3) (mNil)))))))) (sRet (mC (.bl false))) (sSkip)) (sSeq (sIf (mOr (mNot (mTest (mCall 5 F_law_equal_right (mCons (mBor 0) (mCons (mBor 5) (mCons (mBor 4) (mCons (mBor 6) (mCons (mBor 1) (mNil))))))))) (mNot (mTest (mCall 1 F_law_fixed_right (mCons (mBor 0) (mNil)))))) (sRet (mC (.bl false))) (sSkip)) (sAsg (fz (mLst (mCons (mVar 5) (mCons (mVar 4) (mNil))))) (gN 1))))))
noncomputable def m_law_right : MS := sSeq (sAsg (fz (mLst (mCons (mMake c_Table 2 (starF 1 F_Table_init) (mCons (mC (.int 1)) (mNil))) (mCons (fz (mOpF fCat (fz (mLst (mCons (mTup (mCons (mC (.int 1)) (mCons (mC (.int 1)) (mNil)))) (mNil)))) (fz (mOpF fRep (fz (mLst (mCons (mTup (mCons (mC (.int 0)) (mCons (mC (.int 1)) (mNil)))) (mNil)))) (mC (.int 4)))))) (mNil))))) (gN 1)) (sSeq (sFor [2, 3, 4, 5, 6, 1] (iR1 (mCons (mC (.int 4)) (mNil))) t1_law_right b1_law_right) (sRet (mC (.bl true))))
noncomputable def F_law_right : Fn := fnOf 7 m_law_right
theorem ok_law_right {P : Program} {w : World} {K : PySem.W.Frag} {mg : Str → Option Value} {base : Heap} (T : Txt K mg) : Z.FnG P w K mg base 12 (He.ga K "_law_right") (spM K 1 F_law_right) := by
  obtain ⟨fd, F⟩ := T.d_law_right
  refine Z.fng F sc_law_right (fun _ _ _ _ _ _ us hl => match us, hl with | [_], _ => rfl) (fun vs H Q E h => ?_) (fun cdv A outer s H vs Q E hr hg h => ?_)
  · obtain ⟨_, _, _, _, _, hl, _⟩ := h
    exact hl
  exact ⟨_, pss_cons (ps_set (i := 1) sc_law_right.nd rfl (Or.inl rfl) (pe_lst (pa_cons (StX.pe_makeR (E := E) T.mk_Table (ok_Table_init T (m := 2)) (hr.mono (by decide)) rfl T.g_Table (passes_call (W := fun c d _ H => E c d H) (takes_of rfl rfl rfl rfl) fun _ _ _ _ h => h) (pa_cons (pe_int) (pa_nil))) (pa_cons (pe_op op_cat (pe_lst (pa_cons (pe_tup (pa_cons (pe_int) (pa_cons (pe_int) (pa_nil)))) (pa_nil))) (pe_op op_rep (pe_lst (pa_cons (pe_tup (pa_cons (pe_int) (pa_cons (pe_int) (pa_nil)))) (pa_nil))) (pe_int))) (pa_nil))))) (pss_cons (ps_for (passes_of rfl) rfl (pi_range1 (by rfl) T.f_range (pa_cons (pe_int) (pa_nil))) (pg_name (i := 2) sc_law_right.nd rfl (Or.inl rfl)) (pss_cons (ps_set (i := 3) sc_law_right.nd rfl (Or.inl rfl) (Z.pe_cl (E := E) (ok_law_steps T) (hr.mono (by decide)) T.g_law_steps T.k_law_steps (passes_call (W := fun c d _ H => E c d H) (takes_of rfl rfl rfl rfl) fun _ _ _ _ h => h) (pa_cons (pv 0) (pa_nil)))) (pss_cons (ps_set (i := 4) sc_law_right.nd rfl (Or.inl rfl) (Z.pe_cl (E := E) (ok_law_points T) (hr.mono (by decide)) T.g_law_points T.k_law_points (passes_call (W := fun c d _ H => E c d H) (takes_of rfl rfl rfl rfl) fun _ _ _ _ h => h) (pa_cons (pv 3) (pa_nil)))) (pss_cons (ps_asg (Z.pe_cl (E := E) (ok_law_both T) (hr.mono (by decide)) T.g_law_both T.k_law_both (passes_call (W := fun c d _ H => E c d H) (takes_of rfl rfl rfl rfl) fun _ _ _ _ h => h) (pa_cons (pv 0) (pa_cons (pv 4) (pa_cons (pv 3) (pa_nil))))) (Z.pgLstK (K := K) rfl rfl (pgs_cons (pg_name (i := 5) sc_law_right.nd rfl (Or.inl rfl)) (pgs_cons (pg_name (i := 6) sc_law_right.nd rfl (Or.inl rfl)) (pgs_nil))))) (pss_cons (ps_if (PW.pt (pw_or (pt_not (pt_val (Z.pe_clG (E := E) (ok_law_is T) (hr.mono (by decide)) hg T.g_law_is T.k_law_is (passes_call (W := fun c d _ H => E c d H) (takes_of rfl rfl rfl rfl) fun _ _ _ _ h => h) (pa_cons (pv 5) (pa_cons (pv 4) (pa_cons (pv 3) (pa_nil))))))) (pw_or1 (pt_not (pt_val (Z.pe_clG (E := E) (ok_law_is T) (hr.mono (by decide)) hg T.g_law_is T.k_law_is (passes_call (W := fun c d _ H => E c d H) (takes_of rfl rfl rfl rfl) fun _ _ _ _ h => h) (pa_cons (pv 6) (pa_cons (pv 4) (pa_cons (pv 3) (pa_nil)))))))))) (pss_one (ps_ret (pe_bl))) (pss_nil)) (pss_cons (ps_if (PW.pt (pw_or (pt_not (pt_val (Z.pe_clG (E := E) (ok_law_equal_right T) (hr.mono (by decide)) hg T.g_law_equal_right T.k_law_equal_right (passes_call (W := fun c d _ H => E c d H) (takes_of rfl rfl rfl rfl) fun _ _ _ _ h => h) (pa_cons (pv 0) (pa_cons (pv 5) (pa_cons (pv 4) (pa_cons (pv 6) (pa_cons (pv 1) (pa_nil))))))))) (pw_or1 (pt_not (pt_val (Z.pe_clG (E := E) (ok_law_fixed_right T) (hr.mono (by decide)) hg T.g_law_fixed_right T.k_law_fixed_right (passes_call (W := fun c d _ H => E c d H) (takes_of rfl rfl rfl rfl) fun _ _ _ _ h => h) (pa_cons (pv 0) (pa_nil)))))))) (pss_one (ps_ret (pe_bl))) (pss_nil)) (pss_one (ps_set (i := 1) sc_law_right.nd rfl (Or.inl rfl) (pe_lst (pa_cons (pv 5) (pa_cons (pv 4) (pa_nil)))))))))))) (pss_one (ps_ret (pe_bl)))), body_ok (N := N_law_right) (snd_seq (snd_asg (snd_fz (snd_lst (snd_cons (snd_make (c := c_Table) (snd_cons (snd_int) (snd_nil))) (snd_cons (snd_fz (snd_opF of_cat (snd_fz (snd_lst (snd_cons (snd_tup (snd_cons (snd_int) (snd_cons (snd_int) (snd_nil)))) (snd_nil)))) (snd_fz (snd_opF of_rep (snd_fz (snd_lst (snd_cons (snd_tup (snd_cons (snd_int) (snd_cons (snd_int) (snd_nil)))) (snd_nil)))) (snd_int))))) (snd_nil))))) (snd_gn 1)) (snd_seq (snd_for (snd_ir1 (snd_cons (snd_int) (snd_nil))) (snd_gn 2) (snd_seq (snd_asg (snd_call (snd_cons (snd_bor 0) (snd_nil))) (snd_gn 3)) (snd_seq (snd_asg (snd_call (snd_cons (snd_bor 3) (snd_nil))) (snd_gn 4)) (snd_seq (snd_asg (snd_call (snd_cons (snd_bor 0) (snd_cons (snd_bor 4) (snd_cons (snd_bor 3) (snd_nil))))) (snd_gls (n := 2) (snd_gsc (snd_gn 5) (snd_gsc (snd_gn 6) (snd_gsn))))) (snd_seq (snd_ifS (snd_or (snd_not (snd_tb (snd_call (snd_cons (snd_bor 5) (snd_cons (snd_bor 4) (snd_cons (snd_bor 3) (snd_nil))))))) (snd_not (snd_tb (snd_call (snd_cons (snd_bor 6) (snd_cons (snd_bor 4) (snd_cons (snd_bor 3) (snd_nil)))))))) (snd_ret (snd_bl)) (snd_skip)) (snd_seq (snd_ifS (snd_or (snd_not (snd_tb (snd_call (snd_cons (snd_bor 0) (snd_cons (snd_bor 5) (snd_cons (snd_bor 4) (snd_cons (snd_bor 6) (snd_cons (snd_bor 1) (snd_nil))))))))) (snd_not (snd_tb (snd_call (snd_cons (snd_bor 0) (snd_nil)))))) (snd_ret (snd_bl)) (snd_skip)) (snd_asg (snd_fz (snd_lst (snd_cons (snd_var 5) (snd_cons (snd_var 4) (snd_nil))))) (snd_gn 1)))))))) (snd_ret (snd_bl)))) h⟩
/-! ### what a table tells, by the law -/
@[simp] theorem asObj_tab (ps : List Fr) : asObj c_Table (tabP ps) = some n_Table := by simp [asObj, tabP, tabD]
@[simp] theorem asObj_tabR (ps : List Fr) : asObj c_Ratio (tabP ps) = none := by simp [asObj, tabP, tabD]
@[simp] theorem asObj_ratO (a : Fr) : asObj c_Ratio (ratO a) = some n_Ratio := by simp [asObj, ratO, ratD]
@[simp] theorem asObj_ratT (a : Fr) : asObj c_Table (ratO a) = none := by simp [asObj, ratO, ratD]
@[simp] theorem blt_tab (ps : List Fr) : blt (tabP ps) = none := rfl
@[simp] theorem blt_ratO (a : Fr) : blt (ratO a) = none := rfl
@[simp] theorem clsOf_tab (ps : List Fr) : clsOf clss (tabP ps) = some c_Table := by simp [clsOf, tabP, tabD]
@[simp] theorem clsOf_ratO (a : Fr) : clsOf clss (ratO a) = some c_Ratio := by simp [clsOf, ratO, ratD]
@[simp] theorem fIxT_0 (a : Fr) : fIxT (tupD a) (.int 0) = some (.int a.1) := by simp [fIxT, tupD]
@[simp] theorem fIxT_1 (a : Fr) : fIxT (tupD a) (.int 1) = some (.int a.2) := by simp [fIxT, tupD, atI_one]
theorem lis_row {qs : List Fr} (hl : qs.length ≤ 5) (h : ∀ a ∈ qs, M.Sz 1900 a) (x0 x1 x2 x3 x5 x6 : Slot) (p : Int × Int) : lcGo [] t1_law_is (fun s => .ok (true, s)) e1_law_is [4] (qs.map tupD) ⟨[x0, x1, x2, x3, .no, x5, x6], p⟩ [] = .ok (qs.map fun a => .str (shown a), ⟨[x0, x1, x2, x3, .no, x5, x6], p⟩) := by
  refine lc_mapp tupD (fun a => .str (shown a)) (by simp [hold]) (fun a ha => ?_) (by omega)
  have e := lshown_ev (h a ha) p
  simp [fnOf, outsOf, callF, slotsOf, mkSlot, lents, takeBack, views, vals, mVar, mBor, mC, fz, mOp, mUn, mTest, asB, mAnd, mOr, mNot, mAndV, mOrV, mNotV, mIf, mNil, mCons, mLst, mTup, mCB, f1, f2, sSkip, sSeq, sExpr, sRet, sRetN, sBreak, sCont, sNever, sIf, gN, gTs, gLs, gsN, gsC, sAsg, sOwn, sPar, sPar3, sParFE, sParEF, sParFF, argSeq, asL, asT, asS, asI, asV, iL, iT, iS, iR1, iR2, iEn, iZ, hold, noEx, mCall, mMeth, mProp, mMake, fldAt, mFld, putD, sFldSet, mMut, fAppend, fClear0, fRev, fPop, sSetItem, owL, fI, fIc, fNeg, mChain, fIsN, fNotN, fCatS, mOpF, fCat, fRep, fIxL, fIxT, fIxS, mNo, mPart, mSlL, mSlT, mSlS, fLen, fAbs, fInt, fStrI, fAll, fAny, fSum, mCBF, fList, fTuple, mJoin, fFmt, mJs, isiB, fIsi, okRight, mOwnL, mOwnR, mOwn1, onlyStr, mStrO, okLeft, mEqO, mEqO2, onlyNot, mNeO, mCMeth, asSeq, mStar, perm, mMethK, mCallK, mInO, mIdxO, mIdxD, mD0, mLc, wipeS, wipeG, backG, sFor, Mi.allB, fMax2, iEnT, mIxO, mMakeS, mMkLS, mMkL, isCls, mSlSL, mSlST, mCMethK, Mi.allI, fMax, stepLc, t1_law_is, e1_law_is, e]
def rowS (ps : List Fr) : Str := "[" ++ rowT ps ++ "]"
theorem c_ket : ("]" : Str).length = 1 := by decide +kernel
theorem c_bra : ("[" : Str).length = 1 := by decide +kernel
theorem c_ctab : (", Table(" : Str).length = 8 := by decide +kernel
theorem c_pk : (")]" : Str).length = 2 := by decide +kernel
theorem told_eq (n : Nat) (ps : List Fr) : listText [itx (n : Int), trep ps] = "[" ++ itx (n : Int) ++ ", Table(" ++ rowT (ps.take (paidN ps)) ++ ")]" := by
  have e1 : (", Table(" : Str) = ", " ++ "Table(" := by decide +kernel
  have e2 : (")]" : Str) = ")" ++ "]" := by decide +kernel
  rw [listText_eq_join, e1, e2, trep]
  simp only [Str.append_assoc, Str.empty_append]
  show "[" ++ (Str.join ", " [itx (n : Int), _] ++ "]") = _
  have : ∀ a b : Str, Str.join ", " [a, b] = a ++ (", " ++ b) := fun a b => by
    simp only [Str.join, Str.append_assoc]
  rw [this]
  simp only [Str.append_assoc]
theorem lis_ev {ps : List Fr} (hl : ps.length = 5) (h : ∀ a ∈ ps, M.Red a ∧ M.Sz 900 a) (p : Int × Int) : F_law_is [.sh (tabP ps), .sh (.lst (ps.map tupD)), .sh (.lst ((dif5 ps).map tupD))] p = .ok (.bl true) [.no, .no, .no] p := by
  have hz : ∀ a ∈ ps, M.Sz 1900 a := fun a ha => (h a ha).2.mono (by decide)
  have dz : ∀ a ∈ dif5 ps, M.Sz 1900 a := by
    obtain ⟨a, b, c, d, e, rfl⟩ := five hl
    have k : ∀ x y : Fr, (M.Red x ∧ M.Sz 900 x) → (M.Red y ∧ M.Sz 900 y) → M.Sz 1900 (M.minus x y) := fun x y hx hy => (M.minus_sz hx.1 hy.1 hx.2 hy.2).mono (by decide)
    have z : M.Red ((0, 1) : Fr) ∧ M.Sz 900 ((0, 1) : Fr) := ⟨M.red_01, by decide, by decide⟩
    intro x hx
    simp [dif5] at hx
    rcases hx with rfl | rfl | rfl | rfl | rfl <;> apply k <;> first | exact z | exact h _ (by simp)
  have dl : (dif5 ps).length = 5 := by obtain ⟨a, b, c, d, e, rfl⟩ := five hl; rfl
  have r1 := fun x0 x1 x2 x3 x5 x6 => lis_row (qs := ps) (by omega) hz x0 x1 x2 x3 x5 x6 p
  have r2 := fun x0 x1 x2 x3 x5 x6 => lis_row (qs := dif5 ps) (by omega) dz x0 x1 x2 x3 x5 x6 p
  have tk : (ps.take (paidN ps)).length ≤ 5 := by rw [List.length_take]; omega
  have tz : ∀ a ∈ ps.take (paidN ps), M.Sz 1900 a := fun a ha => hz a (List.mem_of_mem_take ha)
  have r3 := fun x0 x1 x2 x3 x5 x6 => lis_row (qs := ps.take (paidN ps)) tk tz x0 x1 x2 x3 x5 x6 p
  obtain ⟨l1, l1'⟩ := rowT_len (ps := ps) (by omega) hz
  obtain ⟨l2, l2'⟩ := rowT_len (ps := dif5 ps) (by omega) dz
  obtain ⟨l3, l3'⟩ := rowT_len tk tz
  have p1 := points_ev (ps := ps) (by omega) p
  have p2 : F_Table_steps [.sh (tabP ps)] p = .ok (.lst ((dif5 ps).map ratO)) [.no] p := by
    obtain ⟨a, b, c, d, e, rfl⟩ := five hl
    exact steps_ev (fun x hx => ⟨(h x hx).1, (h x hx).2.mono (by decide)⟩) p
  have p3 := paid_ev (ps := ps) (by omega) p
  have p4 := lpaid_ev (ps := ps) (by omega) p
  have q1 := reprs_ev (ps := ps) (by omega) (by intro e; rw [e] at hl; simp at hl) hz
  have q2 := reprs_ev (ps := dif5 ps) (by omega) (by intro e; rw [e] at dl; simp at dl) dz
  have a1 := allS_map shown ps
  have a2 := allS_map shown (dif5 ps)
  have a3 := allS_map shown (ps.take (paidN ps))
  have j1 : Txt.join ", " (ps.map shown) = rowT ps := rfl
  have j2 : Txt.join ", " ((dif5 ps).map shown) = rowT (dif5 ps) := rfl
  have j3 : Txt.join ", " ((ps.take (paidN ps)).map shown) = rowT (ps.take (paidN ps)) := rfl
  have ct : Mi.cutD (ps.map tupD) none (some (paidN ps : Int)) = (ps.take (paidN ps)).map tupD := by rw [cut_map, cut_take]
  have y1 : ("[" : Str).length + (rowT ps).length ≤ 100000 := by rw [c_bra]; omega
  have y2 : ("[" ++ rowT ps : Str).length + ("]" : Str).length ≤ 100000 := by rw [Str.length_append, c_bra, c_ket]; omega
  have y3 : ("[" : Str).length + (rowT (dif5 ps)).length ≤ 100000 := by rw [c_bra]; omega
  have y4 : ("[" ++ rowT (dif5 ps) : Str).length + ("]" : Str).length ≤ 100000 := by rw [Str.length_append, c_bra, c_ket]; omega
  have pn : paidN ps ≤ 5 := by have := paid_le ps; omega
  have ln : (itx (paidN ps : Int)).length ≤ 11 := itx_len (k := 10) (by omega)
  have lg : ((paidN ps : Nat) : Int).natAbs.log2 < 1920 := log19 (k := 10) (by omega)
  have tq : rpR (tabP ps) = some (trep ps) := rpR_of (.inr ⟨ps, rfl, by omega, hz, rfl⟩)
  have q3 : fReprO rpR (.lst [.int (paidN ps : Int), tabP ps]) = some (.str (listText [itx (paidN ps : Int), trep ps])) := by
    have i2 : itemT rpR (tabP ps) = some (trep ps) := tq
    have i1 : itemT rpR (.int (paidN ps : Int)) = some (itx (paidN ps : Int)) := by
      show (if _ then _ else _) = _
      rw [if_pos lg]
      rfl
    have z : (listText [itx (paidN ps : Int), trep ps]).length ≤ 100000 := by
      rw [told_eq]
      simp only [Str.length_append, c_bra, c_ctab, c_pk]
      omega
    simp [fReprO, textsT, i1, i2, z]
  rw [told_eq] at q3
  have le := lshown_ev (a := ps[4]'(by omega)) (hz _ (List.getElem_mem _)) p
  have rp := rep_ev (hz (ps[4]'(by omega)) (List.getElem_mem _)).1 (hz (ps[4]'(by omega)) (List.getElem_mem _)).2 p
  have it : ∀ (i : Nat) (hi : i < 5), F_Table_getitem [.sh (tabP ps), .sh (.int ((i : Int) + 1))] p = .ok (ratO (ps[i]'(by omega))) [.no, .no] p := fun i hi => item_ev (by simp [show i < ps.length by omega]) hi p
  have r4 : ∀ x1 x2 x3 x4 x6, lcGo [] t2_law_is (fun s => .ok (true, s)) e2_law_is [5] (rangeItems 1 5) ⟨[.sh (tabP ps), x1, x2, x3, x4, .no, x6], p⟩ [] = .ok (ps.map ratO, ⟨[.sh (tabP ps), x1, x2, x3, x4, .no, x6], p⟩) := fun x1 x2 x3 x4 x6 => by
    have z := lc_mapp (gd := []) (g := t2_law_is) (c := fun s => .ok (true, s)) (e := e2_law_is) (vs := [5]) (fun i : Nat => D.int (1 + (i : Int))) (fun i => ratO (ps.getD i (0, 1))) (s := ⟨[.sh (tabP ps), x1, x2, x3, x4, .no, x6], p⟩) (by simp [hold]) (ps := List.range 5) (fun i hi => by
      have hi : i < 5 := by simpa using hi
      have e := it i hi
      rw [Int.add_comm] at e
      have g : ps[i]?.getD (0, 1) = ps[i]'(by omega) := by simp [show i < ps.length by omega]
      simp [fnOf, outsOf, callF, slotsOf, mkSlot, lents, takeBack, views, vals, mVar, mBor, mC, fz, mOp, mUn, mTest, asB, mAnd, mOr, mNot, mAndV, mOrV, mNotV, mIf, mNil, mCons, mLst, mTup, mCB, f1, f2, sSkip, sSeq, sExpr, sRet, sRetN, sBreak, sCont, sNever, sIf, gN, gTs, gLs, gsN, gsC, sAsg, sOwn, sPar, sPar3, sParFE, sParEF, sParFF, argSeq, asL, asT, asS, asI, asV, iL, iT, iS, iR1, iR2, iEn, iZ, hold, noEx, mCall, mMeth, mProp, mMake, fldAt, mFld, putD, sFldSet, mMut, fAppend, fClear0, fRev, fPop, sSetItem, owL, fI, fIc, fNeg, mChain, fIsN, fNotN, fCatS, mOpF, fCat, fRep, fIxL, fIxT, fIxS, mNo, mPart, mSlL, mSlT, mSlS, fLen, fAbs, fInt, fStrI, fAll, fAny, fSum, mCBF, fList, fTuple, mJoin, fFmt, mJs, isiB, fIsi, okRight, mOwnL, mOwnR, mOwn1, onlyStr, mStrO, okLeft, mEqO, mEqO2, onlyNot, mNeO, mCMeth, asSeq, mStar, perm, mMethK, mCallK, mInO, mIdxO, mIdxD, mD0, mLc, wipeS, wipeG, backG, sFor, Mi.allB, fMax2, iEnT, mIxO, mMakeS, mMkLS, mMkL, isCls, mSlSL, mSlST, mCMethK, Mi.allI, fMax, stepLc, t2_law_is, e2_law_is, e, g]) (by simp)
    have g2 : (List.range 5).map (fun i => ratO (ps.getD i (0, 1))) = ps.map ratO := by
      obtain ⟨a, b, c, d, e, rfl⟩ := five hl
      rfl
    rw [g2] at z
    exact z
  have i5 := it 4 (by decide)
  have i6 : atI (ps.map tupD) 4 = some (tupD (ps[4]'(by omega))) := atI_map tupD ps 4 _ (by simp [show 4 < ps.length by omega])
  have w1 : ("[" : Str).length + (Str.ofString ((paidN ps : Nat) : Int).repr).length ≤ 100000 := by rw [c_bra]; unfold itx at ln; omega
  have w2 : ("[" ++ Str.ofString ((paidN ps : Nat) : Int).repr : Str).length + (", Table(" : Str).length ≤ 100000 := by rw [Str.length_append, c_bra, c_ctab]; unfold itx at ln; omega
  have w3 : ("[" ++ Str.ofString ((paidN ps : Nat) : Int).repr ++ ", Table(" : Str).length + (rowT (ps.take (paidN ps))).length ≤ 100000 := by rw [Str.length_append, Str.length_append, c_bra, c_ctab]; unfold itx at ln; omega
  have w4 : ("[" ++ Str.ofString ((paidN ps : Nat) : Int).repr ++ ", Table(" ++ rowT (ps.take (paidN ps)) : Str).length + (")]" : Str).length ≤ 100000 := by rw [Str.length_append, Str.length_append, Str.length_append, c_bra, c_ctab, c_pk]; unfold itx at ln; omega
  simp only [itx] at q3
  generalize ps[4]'(by omega) = a4 at *
  generalize (ps.take (paidN ps)) = ts at *
  generalize dif5 ps = ss at *
  generalize hm1 : ps.map shown = m1 at *
  generalize hm2 : ss.map shown = m2 at *
  generalize hm3 : ts.map shown = m3 at *
  clear it
  simp only [show ((4 : Nat) : Int) + 1 = 5 from rfl] at i5
  have sh : rrep a4.1 a4.2 = shown a4 := rfl
  simp only [ratD] at rp
  have ro : ratO a4 = .obj c_Ratio n_Ratio [.int a4.1, .int a4.2] := rfl
  rw [← ro] at rp
  have lg2 : (paidN ps).log2 < 1920 := by simpa using lg
  simp [fnOf, outsOf, callF, slotsOf, mkSlot, lents, takeBack, views, vals, mVar, mBor, mC, fz, mOp, mUn, mTest, asB, mAnd, mOr, mNot, mAndV, mOrV, mNotV, mIf, mNil, mCons, mLst, mTup, mCB, f1, f2, sSkip, sSeq, sExpr, sRet, sRetN, sBreak, sCont, sNever, sIf, gN, gTs, gLs, gsN, gsC, sAsg, sOwn, sPar, sPar3, sParFE, sParEF, sParFF, argSeq, asL, asT, asS, asI, asV, iL, iT, iS, iR1, iR2, iEn, iZ, hold, noEx, mCall, mMeth, mProp, mMake, fldAt, mFld, putD, sFldSet, mMut, fAppend, fClear0, fRev, fPop, sSetItem, owL, fI, fIc, fNeg, mChain, fIsN, fNotN, fCatS, mOpF, fCat, fRep, fIxL, fIxT, fIxS, mNo, mPart, mSlL, mSlT, mSlS, fLen, fAbs, fInt, fStrI, fAll, fAny, fSum, mCBF, fList, fTuple, mJoin, fFmt, mJs, isiB, fIsi, okRight, mOwnL, mOwnR, mOwn1, onlyStr, mStrO, okLeft, mEqO, mEqO2, onlyNot, mNeO, mCMeth, asSeq, mStar, perm, mMethK, mCallK, mInO, mIdxO, mIdxD, mD0, mLc, wipeS, wipeG, backG, sFor, Mi.allB, fMax2, iEnT, mIxO, mMakeS, mMkLS, mMkL, isCls, mSlSL, mSlST, mCMethK, Mi.allI, fMax, F_law_is, m_law_is, lg2, r1, r2, r3, r4, l1', l2', l3', p1, p2, p3, p4, q1, q2, q3, a1, a2, a3, j1, j2, j3, ct, y1, y2, y3, y4, w1, w2, w3, w4, lg, i5, i6, le, rp, sh]

/-! ### both tables -/
inductive Dn : List Fr → Prop where
  | nil : Dn []
  | cons {a ps} : 0 ≤ a.1 → (a.1 = 0 → a = (0, 1) ∧ ∀ b ∈ ps, b = (0, 1)) → Dn ps → Dn (a :: ps)
theorem tot_dec {m : Nat} {a : Fr} {as : List Fr} (h : Stp m (a :: as)) (e : (tot (a :: as)).1 = 0) : a.1 = 0 ∧ (tot as).1 = 0 := by
  have q := (M.q_zero (tot_red h)).mpr e
  have n1 := tot_nn h.tail
  have n2 := (M.q_nonneg (h.red a (by simp))).mpr (h.nn a (by simp))
  rw [tot_q h] at q
  exact ⟨(M.q_zero (h.red a (by simp))).mp (by grind), (M.q_zero (tot_red h.tail)).mp (by grind)⟩
theorem tot_all0 {m : Nat} : ∀ {as : List Fr}, Stp m as → (tot as).1 = 0 → ∀ b ∈ as, b.1 = 0
  | [], _, _ => by simp
  | a :: as, h, e => by
    obtain ⟨h1, h2⟩ := tot_dec h e
    intro b hb
    rcases List.mem_cons.mp hb with rfl | hb
    · exact h1
    · exact tot_all0 h.tail h2 b hb
theorem sufs_all0 {m : Nat} {as : List Fr} (h : Stp m as) (e : ∀ b ∈ as, b.1 = 0) : ∀ b ∈ sufs as, b = (0, 1) := fun b hb => by
  obtain ⟨j, rfl⟩ := sufs_mem hb
  exact tot_zero (h.drop j) fun c hc => e c (List.mem_of_mem_drop hc)
theorem sufs_dn {m : Nat} : ∀ {as : List Fr}, Stp m as → Dn (sufs as)
  | [], _ => .nil
  | a :: as, h => by
    refine .cons ((M.q_nonneg (tot_red h)).mp (tot_nn h)) (fun e => ?_) (sufs_dn h.tail)
    have z := tot_all0 h e
    exact ⟨tot_zero h z, sufs_all0 h.tail fun b hb => z b (by simp [hb])⟩
theorem dn_take : ∀ {ps : List Fr}, Dn ps → ∀ {n : Nat}, paidN ps ≤ n → ps.take n ++ List.replicate (ps.length - n) (0, 1) = ps
  | [], _, n, _ => by simp
  | a :: ps, .cons h1 h2 h3, n, hn => by
    by_cases h0 : a.1 = 0
    · obtain ⟨e1, e2⟩ := h2 h0
      have : a :: ps = List.replicate (ps.length + 1) (0, 1) := List.eq_replicate_iff.mpr ⟨by simp, fun b hb => by
        rcases List.mem_cons.mp hb with rfl | hb
        · exact e1
        · exact e2 b hb⟩
      rw [this]
      simp only [List.take_replicate, List.length_replicate, List.replicate_append_replicate]
      congr 1
      omega
    · have hp : 0 < a.1 := by omega
      have hk : paidN (a :: ps) = paidN ps + 1 := by simp [paidN, List.filter_cons, hp]
      rw [hk] at hn
      obtain ⟨k, rfl⟩ : ∃ k, n = k + 1 := ⟨n - 1, by omega⟩
      have ih := dn_take h3 (n := k) (by omega)
      simp only [List.take_succ_cons, List.cons_append, List.length_cons, Nat.add_sub_add_right, ih]
theorem pad_take {ps : List Fr} (h : Dn ps) (hl : ps.length = 5) {n : Nat} (h1 : paidN ps ≤ n) (h2 : n ≤ 5) : padF (ps.take n) = ps := by
  unfold padF
  have : 5 - (ps.take n).length = ps.length - n := by rw [List.length_take]; omega
  rw [this]
  exact dn_take h h1
theorem zero_after {m : Nat} : ∀ {as : List Fr}, Stp m as → ∀ {n : Nat}, paidN (sufs as) ≤ n → ∀ b ∈ as.drop n, b.1 = 0
  | [], _, n, _ => by simp
  | a :: as, h, n, hn => by
    by_cases h0 : (tot (a :: as)).1 = 0
    · exact fun b hb => tot_all0 h h0 b (List.mem_of_mem_drop hb)
    · have hp : 0 < (tot (a :: as)).1 := by
        have := (M.q_nonneg (tot_red h)).mp (tot_nn h)
        omega
      have hk : paidN (sufs (a :: as)) = paidN (sufs as) + 1 := by simp [sufs, paidN, List.filter_cons, hp]
      rw [hk] at hn
      obtain ⟨k, rfl⟩ : ∃ k, n = k + 1 := ⟨n - 1, by omega⟩
      exact zero_after h.tail (n := k) (by omega)
theorem tot_take {m : Nat} : ∀ {as : List Fr}, Stp m as → ∀ {n : Nat}, (∀ b ∈ as.drop n, b.1 = 0) → tot (as.take n) = tot as
  | [], _, n, _ => by simp
  | a :: as, h, 0, z => by
    rw [List.take_zero]
    exact (tot_zero h (by simpa using z)).symm
  | a :: as, h, n + 1, z => by
    rw [List.take_succ_cons, tot, tot, tot_take h.tail (n := n) (by simpa using z)]
theorem sufs_take {m : Nat} : ∀ {as : List Fr}, Stp m as → ∀ {n : Nat}, (∀ b ∈ as.drop n, b.1 = 0) → sufs (as.take n) ++ List.replicate (as.length - n) (0, 1) = sufs as
  | [], _, n, _ => by simp [sufs]
  | a :: as, h, 0, z => by
    have z : ∀ b ∈ a :: as, b.1 = 0 := by simpa using z
    have e := List.eq_replicate_iff.mpr ⟨rfl, sufs_all0 h z⟩
    rw [e, sufs_len]
    simp [sufs]
  | a :: as, h, n + 1, z => by
    have z : ∀ b ∈ as.drop n, b.1 = 0 := by simpa using z
    rw [List.take_succ_cons, sufs, sufs, tot, tot, tot_take h.tail z]
    simp only [List.cons_append, List.length_cons, Nat.add_sub_add_right, sufs_take h.tail z]
theorem pad_sufs {m : Nat} {as : List Fr} (h : Stp m as) (hl : as.length = 5) {n : Nat} (hn : n ≤ 5) (z : ∀ b ∈ as.drop n, b.1 = 0) : padF (sufs (as.take n)) = sufs as := by
  unfold padF
  have : 5 - (sufs (as.take n)).length = as.length - n := by rw [sufs_len, List.length_take]; omega
  rw [this]
  exact sufs_take h z
theorem FallsF.take {as : List Fr} (h : FallsF as) (n : Nat) : FallsF (as.take n) where
  first := fun a ha => h.first a (by
    rw [List.getElem?_take] at ha
    split at ha
    · exact ha
    · cases ha)
  next := fun j a b ha hb => by
    rw [List.getElem?_take] at ha hb
    split at ha
    · split at hb
      · exact h.next j a b ha hb
      · cases hb
    · cases ha
theorem paid_pos {ps : List Fr} (h : FallsF ps) (h0 : ps ≠ []) : 1 ≤ paidN ps := by
  cases ps with
  | nil => exact absurd rfl h0
  | cons a ps =>
    have := h.first a rfl
    simp [paidN, List.filter_cons, this]
theorem lboth_ex {as : List Fr} (hl : as.length = 5) (hs : Stp 20 as) (hp0 : ∃ a ∈ as, 0 < a.1) {p : Int × Int} (hp : PotOk p) : ∃ p', F_law_both [.sh .pot, .sh (.lst ((sufs as).map tupD)), .sh (.lst (as.map tupD))] p = .ok (.lst [tabP (sufs as), tabP (sufs as)]) [.no, .no, .no] p' ∧ PotOk p' := by
  have sl : (sufs as).length = 5 := by rw [sufs_len]; exact hl
  have ff := sufs_falls hs hp0
  have dn := sufs_dn hs
  have k1 := paid_pos ff (by intro e; rw [e] at sl; simp at sl)
  have k5 : paidN (sufs as) ≤ 5 := by have := paid_le (sufs as); omega
  have e1 := lpaid_ev (ps := sufs as) (by omega) p
  have rs : ∀ a ∈ sufs as, M.Red a ∧ M.Sz 200 a := fun a ha => by
    obtain ⟨j, rfl⟩ := sufs_mem ha
    refine ⟨tot_red (hs.drop j), (tot_sz (hs.drop j)).mono ?_⟩
    have : (20 + 1) * (as.drop j).length ≤ 21 * 5 := Nat.mul_le_mul_left _ (by rw [List.length_drop]; omega)
    omega
  obtain ⟨K, hK⟩ : ∃ K, K = paidN (sufs as) := ⟨_, rfl⟩
  rw [← hK] at k1 k5 e1
  obtain ⟨i, p1, e2, i0, i1, hp1⟩ := draw_ex (m := 6 - (K : Int)) hp (by omega) (Nat.lt_of_lt_of_le (show (6 - (K : Int)).natAbs < 2 ^ 10 by omega) (Nat.pow_le_pow_right (by decide) (by decide)))
  obtain ⟨n, hn⟩ : ∃ n : Nat, (K : Int) + i = n := ⟨(K + i).toNat, by omega⟩
  have c1 : Mi.cutD ((sufs as).map tupD) none (some (n : Int)) = ((sufs as).take n).map tupD := by rw [cut_map, cut_take]
  obtain ⟨qs, p2, e3, f3, n3, hp2⟩ := lnumbers_ex (n := 0) (fun _ => True) (g := t1_law_both) (e := e1_law_both) (vs := [6]) (fun p => ⟨[.sh .pot, .sh (.lst ((sufs as).map tupD)), .sh (.lst (as.map tupD)), .sh (.int K), .sh (.lst (((sufs as).take n).map tupD)), .no, .no], p⟩) (fun a d p p' e => by simp [fnOf, outsOf, callF, slotsOf, mkSlot, lents, takeBack, views, vals, mVar, mBor, mC, fz, mOp, mUn, mTest, asB, mAnd, mOr, mNot, mAndV, mOrV, mNotV, mIf, mNil, mCons, mLst, mTup, mCB, f1, f2, sSkip, sSeq, sExpr, sRet, sRetN, sBreak, sCont, sNever, sIf, gN, gTs, gLs, gsN, gsC, sAsg, sOwn, sPar, sPar3, sParFE, sParEF, sParFF, argSeq, asL, asT, asS, asI, asV, iL, iT, iS, iR1, iR2, iEn, iZ, hold, noEx, mCall, mMeth, mProp, mMake, fldAt, mFld, putD, sFldSet, mMut, fAppend, fClear0, fRev, fPop, sSetItem, owL, fI, fIc, fNeg, mChain, fIsN, fNotN, fCatS, mOpF, fCat, fRep, fIxL, fIxT, fIxS, mNo, mPart, mSlL, mSlT, mSlS, fLen, fAbs, fInt, fStrI, fAll, fAny, fSum, mCBF, fList, fTuple, mJoin, fFmt, mJs, isiB, fIsi, okRight, mOwnL, mOwnR, mOwn1, onlyStr, mStrO, okLeft, mEqO, mEqO2, onlyNot, mNeO, mCMeth, asSeq, mStar, perm, mMethK, mCallK, mInO, mIdxO, mIdxD, mD0, mLc, wipeS, wipeG, backG, sFor, Mi.allB, fMax2, iEnT, mIxO, mMakeS, mMkLS, mMkL, isCls, mSlSL, mSlST, mCMethK, Mi.allI, fMax, stepLc, t1_law_both, e1_law_both, e]) (as := (sufs as).take n) (acc := []) (p := p1) (fun a ha => rs a (List.mem_of_mem_take ha)) (by simp; omega) hp1
  have ql : qs.length = n := by have := congrArg List.length f3; rw [fr2, List.length_map, List.length_take] at this; omega
  have e4 := bypoints_ev (qs := qs) (fun q hq => by
    have : q.2 ∈ (sufs as).take n := by rw [← f3]; exact List.mem_map.mpr ⟨q, hq, rfl⟩
    obtain ⟨r1, r2⟩ := rs _ (List.mem_of_mem_take this)
    exact ⟨n3 q hq, r1, r2.mono (by decide)⟩) (by rw [f3]; exact ff.take n) (by omega) (by omega) p2
  rw [f3, pad_take dn sl (by omega) (by omega)] at e4
  obtain ⟨j, p3, e5, j0, j1, hp3⟩ := draw_ex (m := 6 - (K : Int)) hp2 (by omega) (Nat.lt_of_lt_of_le (show (6 - (K : Int)).natAbs < 2 ^ 10 by omega) (Nat.pow_le_pow_right (by decide) (by decide)))
  obtain ⟨m, hm⟩ : ∃ m : Nat, (K : Int) + j = m := ⟨(K + j).toNat, by omega⟩
  have c2 : Mi.cutD (as.map tupD) none (some (m : Int)) = (as.take m).map tupD := by rw [cut_map, cut_take]
  have z0 := zero_after hs (n := m) (by omega)
  obtain ⟨ts, p4, e6, f6, n6, hp4⟩ := lnumbers_ex (n := 0) (fun _ => True) (g := t1_law_both) (e := e1_law_both) (vs := [6]) (fun p => ⟨[.sh .pot, .sh (.lst ((sufs as).map tupD)), .sh (.lst (as.map tupD)), .sh (.int K), .sh (.lst ((as.take m).map tupD)), .sh (tabP (sufs as)), .no], p⟩) (fun a d p p' e => by simp [fnOf, outsOf, callF, slotsOf, mkSlot, lents, takeBack, views, vals, mVar, mBor, mC, fz, mOp, mUn, mTest, asB, mAnd, mOr, mNot, mAndV, mOrV, mNotV, mIf, mNil, mCons, mLst, mTup, mCB, f1, f2, sSkip, sSeq, sExpr, sRet, sRetN, sBreak, sCont, sNever, sIf, gN, gTs, gLs, gsN, gsC, sAsg, sOwn, sPar, sPar3, sParFE, sParEF, sParFF, argSeq, asL, asT, asS, asI, asV, iL, iT, iS, iR1, iR2, iEn, iZ, hold, noEx, mCall, mMeth, mProp, mMake, fldAt, mFld, putD, sFldSet, mMut, fAppend, fClear0, fRev, fPop, sSetItem, owL, fI, fIc, fNeg, mChain, fIsN, fNotN, fCatS, mOpF, fCat, fRep, fIxL, fIxT, fIxS, mNo, mPart, mSlL, mSlT, mSlS, fLen, fAbs, fInt, fStrI, fAll, fAny, fSum, mCBF, fList, fTuple, mJoin, fFmt, mJs, isiB, fIsi, okRight, mOwnL, mOwnR, mOwn1, onlyStr, mStrO, okLeft, mEqO, mEqO2, onlyNot, mNeO, mCMeth, asSeq, mStar, perm, mMethK, mCallK, mInO, mIdxO, mIdxD, mD0, mLc, wipeS, wipeG, backG, sFor, Mi.allB, fMax2, iEnT, mIxO, mMakeS, mMkLS, mMkL, isCls, mSlSL, mSlST, mCMethK, Mi.allI, fMax, stepLc, t1_law_both, e1_law_both, e]) (as := as.take m) (acc := []) (p := p3) (fun a ha => ⟨hs.red a (List.mem_of_mem_take ha), (hs.sz a (List.mem_of_mem_take ha)).mono (by decide)⟩) (by simp; omega) hp3
  have tl : ts.length = m := by have := congrArg List.length f6; rw [fr2, List.length_map, List.length_take] at this; omega
  have e7 := bysteps_ev (qs := ts) (m := 20) (by decide) n6 (by rw [f6]; exact hs.take m) (by
    rw [f6]
    obtain ⟨a, ha, h⟩ := hp0
    refine ⟨a, ?_, h⟩
    rw [← List.take_append_drop m as] at ha
    rcases List.mem_append.mp ha with ha | ha
    · exact ha
    · have := z0 a ha; omega) (by omega) (by omega) p4
  rw [f6, pad_sufs hs hl (by omega) z0] at e7
  refine ⟨p4, ?_, hp4⟩
  simp only [List.nil_append] at e3 e6
  generalize ((sufs as).take n).map tupD = T1 at *
  generalize (as.take m).map tupD = T2 at *
  simp [fnOf, outsOf, callF, slotsOf, mkSlot, lents, takeBack, views, vals, mVar, mBor, mC, fz, mOp, mUn, mTest, asB, mAnd, mOr, mNot, mAndV, mOrV, mNotV, mIf, mNil, mCons, mLst, mTup, mCB, f1, f2, sSkip, sSeq, sExpr, sRet, sRetN, sBreak, sCont, sNever, sIf, gN, gTs, gLs, gsN, gsC, sAsg, sOwn, sPar, sPar3, sParFE, sParEF, sParFF, argSeq, asL, asT, asS, asI, asV, iL, iT, iS, iR1, iR2, iEn, iZ, hold, noEx, mCall, mMeth, mProp, mMake, fldAt, mFld, putD, sFldSet, mMut, fAppend, fClear0, fRev, fPop, sSetItem, owL, fI, fIc, fNeg, mChain, fIsN, fNotN, fCatS, mOpF, fCat, fRep, fIxL, fIxT, fIxS, mNo, mPart, mSlL, mSlT, mSlS, fLen, fAbs, fInt, fStrI, fAll, fAny, fSum, mCBF, fList, fTuple, mJoin, fFmt, mJs, isiB, fIsi, okRight, mOwnL, mOwnR, mOwn1, onlyStr, mStrO, okLeft, mEqO, mEqO2, onlyNot, mNeO, mCMeth, asSeq, mStar, perm, mMethK, mCallK, mInO, mIdxO, mIdxD, mD0, mLc, wipeS, wipeG, backG, sFor, Mi.allB, fMax2, iEnT, mIxO, mMakeS, mMkLS, mMkL, isCls, mSlSL, mSlST, mCMethK, Mi.allI, fMax, F_law_both, m_law_both, e1, e2, hn, c1, e3, e4, e5, hm, c2, e6, e7]

/-! ### equal tables, fixed tables -/
theorem teq_odd {ps : List Fr} {d : D} (h : (blt d).isSome = true ∨ ∃ a, d = ratO a) (p : Int × Int) : F_Table_eq [.sh (tabP ps), .sh d] p = .ok (.bl false) [.no, .no] p := by
  rcases h with h | ⟨a, rfl⟩
  · cases d <;> simp at h <;> simp [fnOf, outsOf, callF, slotsOf, mkSlot, lents, takeBack, views, vals, mVar, mBor, mC, fz, mOp, mUn, mTest, asB, mAnd, mOr, mNot, mAndV, mOrV, mNotV, mIf, mNil, mCons, mLst, mTup, mCB, f1, f2, sSkip, sSeq, sExpr, sRet, sRetN, sBreak, sCont, sNever, sIf, gN, gTs, gLs, gsN, gsC, sAsg, sOwn, sPar, sPar3, sParFE, sParEF, sParFF, argSeq, asL, asT, asS, asI, asV, iL, iT, iS, iR1, iR2, iEn, iZ, hold, noEx, mCall, mMeth, mProp, mMake, fldAt, mFld, putD, sFldSet, mMut, fAppend, fClear0, fRev, fPop, sSetItem, owL, fI, fIc, fNeg, mChain, fIsN, fNotN, fCatS, mOpF, fCat, fRep, fIxL, fIxT, fIxS, mNo, mPart, mSlL, mSlT, mSlS, fLen, fAbs, fInt, fStrI, fAll, fAny, fSum, mCBF, fList, fTuple, mJoin, fFmt, mJs, isiB, fIsi, okRight, mOwnL, mOwnR, mOwn1, onlyStr, mStrO, okLeft, mEqO, mEqO2, onlyNot, mNeO, mCMeth, asSeq, mStar, perm, mMethK, mCallK, mInO, mIdxO, mIdxD, mD0, mLc, wipeS, wipeG, backG, sFor, Mi.allB, fMax2, iEnT, mIxO, mMakeS, mMkLS, mMkL, isCls, mSlSL, mSlST, mCMethK, Mi.allI, fMax, F_Table_eq, m_Table_eq]
  · simp [fnOf, outsOf, callF, slotsOf, mkSlot, lents, takeBack, views, vals, mVar, mBor, mC, fz, mOp, mUn, mTest, asB, mAnd, mOr, mNot, mAndV, mOrV, mNotV, mIf, mNil, mCons, mLst, mTup, mCB, f1, f2, sSkip, sSeq, sExpr, sRet, sRetN, sBreak, sCont, sNever, sIf, gN, gTs, gLs, gsN, gsC, sAsg, sOwn, sPar, sPar3, sParFE, sParEF, sParFF, argSeq, asL, asT, asS, asI, asV, iL, iT, iS, iR1, iR2, iEn, iZ, hold, noEx, mCall, mMeth, mProp, mMake, fldAt, mFld, putD, sFldSet, mMut, fAppend, fClear0, fRev, fPop, sSetItem, owL, fI, fIc, fNeg, mChain, fIsN, fNotN, fCatS, mOpF, fCat, fRep, fIxL, fIxT, fIxS, mNo, mPart, mSlL, mSlT, mSlS, fLen, fAbs, fInt, fStrI, fAll, fAny, fSum, mCBF, fList, fTuple, mJoin, fFmt, mJs, isiB, fIsi, okRight, mOwnL, mOwnR, mOwn1, onlyStr, mStrO, okLeft, mEqO, mEqO2, onlyNot, mNeO, mCMeth, asSeq, mStar, perm, mMethK, mCallK, mInO, mIdxO, mIdxD, mD0, mLc, wipeS, wipeG, backG, sFor, Mi.allB, fMax2, iEnT, mIxO, mMakeS, mMkLS, mMkL, isCls, mSlSL, mSlST, mCMethK, Mi.allI, fMax, F_Table_eq, m_Table_eq]
theorem req_tab (a : Fr) (ps : List Fr) (p : Int × Int) : F_Ratio_eq [.sh (ratO a), .sh (tabP ps)] p = .ok (.bl false) [.no, .no] p := eq_odd p (.inr ⟨_, _, _, rfl, by simp, by simp⟩)
theorem tup_int (a : Fr) : intB (tupD a) = true := rfl
theorem tup_dep (a : Fr) : dep (tupD a) ≤ 1 := by simp [tupD, dep, deps]
theorem tupD_inj {a b : Fr} (h : tupD a = tupD b) : a = b := by
  simp [tupD] at h
  exact Prod.ext h.1 h.2
theorem tupDs_inj : ∀ {ps qs : List Fr}, ps.map tupD = qs.map tupD → ps = qs
  | [], [], _ => rfl
  | [], _ :: _, h => by simp at h
  | _ :: _, [], h => by simp at h
  | a :: ps, b :: qs, h => by
    simp only [List.map_cons, List.cons.injEq] at h
    rw [tupD_inj h.1, tupDs_inj h.2]
theorem tupDs_iff {ps qs : List Fr} : ps.map tupD = qs.map tupD ↔ ps = qs := ⟨tupDs_inj, fun h => h ▸ rfl⟩
theorem rows_dep (ps : List Fr) : dep (.lst (ps.map tupD)) ≤ 64 := by
  have := deps_map (n := 1) tup_dep ps
  simp only [dep]
  omega
theorem rows_eq (ps qs : List Fr) : fEq (.lst (ps.map tupD)) (.lst (qs.map tupD)) = some (.bl (decide (ps = qs))) := by
  rw [fEq_ints (a := .lst _) (b := .lst _) (intsB_map tup_int ps) (intsB_map tup_int qs) (rows_dep ps) (rows_dep qs)]
  simp [tupDs_iff]
theorem rows_ne (ps qs : List Fr) : fNe (.lst (ps.map tupD)) (.lst (qs.map tupD)) = some (.bl (!decide (ps = qs))) := by
  rw [fNe_ints (a := .lst _) (b := .lst _) (intsB_map tup_int ps) (intsB_map tup_int qs) (rows_dep ps) (rows_dep qs)]
  simp [tupDs_iff]
theorem odd_step {ps : List Fr} {d : D} (h : (blt d).isSome = true ∨ ∃ a, d = ratO a) (x0 x2 x3 x4 x5 : Slot) (p : Int × Int) : stepLc t1_law_equal_right (fun s => .ok (true, s)) e1_law_equal_right [6] d ⟨[x0, .sh (tabP ps), x2, x3, x4, x5, .no], p⟩ = .ok (some (.bl false), ⟨[x0, .sh (tabP ps), x2, x3, x4, x5, .no], p⟩) := by
  have e := teq_odd (ps := ps) h p
  rcases h with h | ⟨a, rfl⟩
  · cases d <;> simp at h <;> simp [fnOf, outsOf, callF, slotsOf, mkSlot, lents, takeBack, views, vals, mVar, mBor, mC, fz, mOp, mUn, mTest, asB, mAnd, mOr, mNot, mAndV, mOrV, mNotV, mIf, mNil, mCons, mLst, mTup, mCB, f1, f2, sSkip, sSeq, sExpr, sRet, sRetN, sBreak, sCont, sNever, sIf, gN, gTs, gLs, gsN, gsC, sAsg, sOwn, sPar, sPar3, sParFE, sParEF, sParFF, argSeq, asL, asT, asS, asI, asV, iL, iT, iS, iR1, iR2, iEn, iZ, hold, noEx, mCall, mMeth, mProp, mMake, fldAt, mFld, putD, sFldSet, mMut, fAppend, fClear0, fRev, fPop, sSetItem, owL, fI, fIc, fNeg, mChain, fIsN, fNotN, fCatS, mOpF, fCat, fRep, fIxL, fIxT, fIxS, mNo, mPart, mSlL, mSlT, mSlS, fLen, fAbs, fInt, fStrI, fAll, fAny, fSum, mCBF, fList, fTuple, mJoin, fFmt, mJs, isiB, fIsi, okRight, mOwnL, mOwnR, mOwn1, onlyStr, mStrO, okLeft, mEqO, mEqO2, onlyNot, mNeO, mCMeth, asSeq, mStar, perm, mMethK, mCallK, mInO, mIdxO, mIdxD, mD0, mLc, wipeS, wipeG, backG, sFor, Mi.allB, fMax2, iEnT, mIxO, mMakeS, mMkLS, mMkL, isCls, mSlSL, mSlST, mCMethK, Mi.allI, fMax, stepLc, t1_law_equal_right, e1_law_equal_right, e]
  · have e2 := req_tab a ps p
    simp [fnOf, outsOf, callF, slotsOf, mkSlot, lents, takeBack, views, vals, mVar, mBor, mC, fz, mOp, mUn, mTest, asB, mAnd, mOr, mNot, mAndV, mOrV, mNotV, mIf, mNil, mCons, mLst, mTup, mCB, f1, f2, sSkip, sSeq, sExpr, sRet, sRetN, sBreak, sCont, sNever, sIf, gN, gTs, gLs, gsN, gsC, sAsg, sOwn, sPar, sPar3, sParFE, sParEF, sParFF, argSeq, asL, asT, asS, asI, asV, iL, iT, iS, iR1, iR2, iEn, iZ, hold, noEx, mCall, mMeth, mProp, mMake, fldAt, mFld, putD, sFldSet, mMut, fAppend, fClear0, fRev, fPop, sSetItem, owL, fI, fIc, fNeg, mChain, fIsN, fNotN, fCatS, mOpF, fCat, fRep, fIxL, fIxT, fIxS, mNo, mPart, mSlL, mSlT, mSlS, fLen, fAbs, fInt, fStrI, fAll, fAny, fSum, mCBF, fList, fTuple, mJoin, fFmt, mJs, isiB, fIsi, okRight, mOwnL, mOwnR, mOwn1, onlyStr, mStrO, okLeft, mEqO, mEqO2, onlyNot, mNeO, mCMeth, asSeq, mStar, perm, mMethK, mCallK, mInO, mIdxO, mIdxD, mD0, mLc, wipeS, wipeG, backG, sFor, Mi.allB, fMax2, iEnT, mIxO, mMakeS, mMkLS, mMkL, isCls, mSlSL, mSlST, mCMethK, Mi.allI, fMax, stepLc, t1_law_equal_right, e1_law_equal_right, e, e2]
theorem leq_ev {ps qs : List Fr} (hl : ps.length = 5) (ql : qs.length = 5) (h : ∀ a ∈ ps, M.Red a ∧ M.Sz 900 a) (p : Int × Int) : F_law_equal_right [.sh .pot, .sh (tabP ps), .sh (.lst (ps.map tupD)), .sh (tabP ps), .sh (.lst [tabP qs, .lst (qs.map tupD)])] p = .ok (.bl true) [.no, .no, .no, .no, .no] p := by
  have e1 := teq_ev (ps := ps) (qs := ps) rfl p
  have e2 := teq_ev (ps := ps) (qs := qs) (by omega) p
  have e3 := rows_eq ps qs
  have e4 := rows_ne ps qs
  have r : ∀ x1 x2 : Bool, fRepr (.lst [.bl x1, .bl x2]) = some (.str (shw (.lst [.bl x1, .bl x2]))) := fun x1 x2 => repr_leaves rfl (by decide : 2 ≤ 90)
  have e5 := points_ev (ps := ps) (by omega) p
  have e6 : F_Table_steps [.sh (tabP ps)] p = .ok (.lst ((dif5 ps).map ratO)) [.no] p := by
    obtain ⟨a, b, c, d, e, rfl⟩ := five hl
    exact steps_ev (fun x hx => ⟨(h x hx).1, (h x hx).2.mono (by decide)⟩) p
  have e7 := paid_ev (ps := ps) (by omega) p
  have e8 := trep_ev (ps := ps) (by omega) (fun a ha => (h a ha).2.mono (by decide)) p
  have e9 := item_ev (ps := ps) (i := 0) (a := ps[0]'(by omega)) (by simp [show 0 < ps.length by omega]) (by decide) p
  simp only [show ((0 : Nat) : Int) + 1 = 1 from rfl] at e9
  generalize ps[0]'(by omega) = a0 at e9
  have od := fun x5 => lc_pure (gd := []) (g := t1_law_equal_right) (c := fun s => .ok (true, s)) (e := e1_law_equal_right) (vs := [6]) (s := ⟨[.sh .pot, .sh (tabP ps), .sh (.lst (ps.map tupD)), .sh (tabP ps), .sh (.lst [tabP qs, .lst (qs.map tupD)]), x5, .no], p⟩) (fun _ => .bl false) (by simp [hold]) (items := [.non, .lst (ps.map tupD), .str (trep ps), .lst (ps.map ratO), .lst ((dif5 ps).map ratO), .tup (ps.map ratO), ratO a0, .int (paidN ps : Int), .bl true]) (fun d hd => by
    apply odd_step
    simp at hd
    rcases hd with rfl | rfl | rfl | rfl | rfl | rfl | rfl | rfl | rfl <;> first | exact .inr ⟨_, rfl⟩ | exact .inl rfl) (by simp)
  simp only [List.map_cons, List.map_nil] at od
  by_cases hq : ps = qs
  · subst hq
    simp at e1 e3 e4
    simp [fnOf, outsOf, callF, slotsOf, mkSlot, lents, takeBack, views, vals, mVar, mBor, mC, fz, mOp, mUn, mTest, asB, mAnd, mOr, mNot, mAndV, mOrV, mNotV, mIf, mNil, mCons, mLst, mTup, mCB, f1, f2, sSkip, sSeq, sExpr, sRet, sRetN, sBreak, sCont, sNever, sIf, gN, gTs, gLs, gsN, gsC, sAsg, sOwn, sPar, sPar3, sParFE, sParEF, sParFF, argSeq, asL, asT, asS, asI, asV, iL, iT, iS, iR1, iR2, iEn, iZ, hold, noEx, mCall, mMeth, mProp, mMake, fldAt, mFld, putD, sFldSet, mMut, fAppend, fClear0, fRev, fPop, sSetItem, owL, fI, fIc, fNeg, mChain, fIsN, fNotN, fCatS, mOpF, fCat, fRep, fIxL, fIxT, fIxS, mNo, mPart, mSlL, mSlT, mSlS, fLen, fAbs, fInt, fStrI, fAll, fAny, fSum, mCBF, fList, fTuple, mJoin, fFmt, mJs, isiB, fIsi, okRight, mOwnL, mOwnR, mOwn1, onlyStr, mStrO, okLeft, mEqO, mEqO2, onlyNot, mNeO, mCMeth, asSeq, mStar, perm, mMethK, mCallK, mInO, mIdxO, mIdxD, mD0, mLc, wipeS, wipeG, backG, sFor, Mi.allB, fMax2, iEnT, mIxO, mMakeS, mMkLS, mMkL, isCls, mSlSL, mSlST, mCMethK, Mi.allI, fMax, F_law_equal_right, m_law_equal_right, atI_one, e1, e3, e4, r, e5, e6, e7, e8, e9, od]
  · simp [hq] at e1 e2 e3 e4
    simp [fnOf, outsOf, callF, slotsOf, mkSlot, lents, takeBack, views, vals, mVar, mBor, mC, fz, mOp, mUn, mTest, asB, mAnd, mOr, mNot, mAndV, mOrV, mNotV, mIf, mNil, mCons, mLst, mTup, mCB, f1, f2, sSkip, sSeq, sExpr, sRet, sRetN, sBreak, sCont, sNever, sIf, gN, gTs, gLs, gsN, gsC, sAsg, sOwn, sPar, sPar3, sParFE, sParEF, sParFF, argSeq, asL, asT, asS, asI, asV, iL, iT, iS, iR1, iR2, iEn, iZ, hold, noEx, mCall, mMeth, mProp, mMake, fldAt, mFld, putD, sFldSet, mMut, fAppend, fClear0, fRev, fPop, sSetItem, owL, fI, fIc, fNeg, mChain, fIsN, fNotN, fCatS, mOpF, fCat, fRep, fIxL, fIxT, fIxS, mNo, mPart, mSlL, mSlT, mSlS, fLen, fAbs, fInt, fStrI, fAll, fAny, fSum, mCBF, fList, fTuple, mJoin, fFmt, mJs, isiB, fIsi, okRight, mOwnL, mOwnR, mOwn1, onlyStr, mStrO, okLeft, mEqO, mEqO2, onlyNot, mNeO, mCMeth, asSeq, mStar, perm, mMethK, mCallK, mInO, mIdxO, mIdxD, mD0, mLc, wipeS, wipeG, backG, sFor, Mi.allB, fMax2, iEnT, mIxO, mMakeS, mMkLS, mMkL, isCls, mSlSL, mSlST, mCMethK, Mi.allI, fMax, F_law_equal_right, m_law_equal_right, atI_one, e1, e2, e3, e4, r, e5, e6, e7, e8, e9, od]

/-! ### first-k and steep tables -/
theorem ones_ev {n : Nat} (hn : n ≤ 4) (x0 x2 x3 x5 x6 x7 x8 x9 : Slot) (p : Int × Int) : lcGo [] t1_law_fixed_right (fun s => .ok (true, s)) e1_law_fixed_right [4] (rangeItems 0 5) ⟨[x0, .sh (.int ((n : Int) + 1)), x2, x3, .no, x5, x6, x7, x8, x9], p⟩ [] = .ok ((padF (List.replicate (n + 1) (1, 1))).map tupD, ⟨[x0, .sh (.int ((n : Int) + 1)), x2, x3, .no, x5, x6, x7, x8, x9], p⟩) := by
  have : n = 0 ∨ n = 1 ∨ n = 2 ∨ n = 3 ∨ n = 4 := by omega
  rcases this with rfl | rfl | rfl | rfl | rfl <;> simp [fnOf, outsOf, callF, slotsOf, mkSlot, lents, takeBack, views, vals, mVar, mBor, mC, fz, mOp, mUn, mTest, asB, mAnd, mOr, mNot, mAndV, mOrV, mNotV, mIf, mNil, mCons, mLst, mTup, mCB, f1, f2, sSkip, sSeq, sExpr, sRet, sRetN, sBreak, sCont, sNever, sIf, gN, gTs, gLs, gsN, gsC, sAsg, sOwn, sPar, sPar3, sParFE, sParEF, sParFF, argSeq, asL, asT, asS, asI, asV, iL, iT, iS, iR1, iR2, iEn, iZ, hold, noEx, mCall, mMeth, mProp, mMake, fldAt, mFld, putD, sFldSet, mMut, fAppend, fClear0, fRev, fPop, sSetItem, owL, fI, fIc, fNeg, mChain, fIsN, fNotN, fCatS, mOpF, fCat, fRep, fIxL, fIxT, fIxS, mNo, mPart, mSlL, mSlT, mSlS, fLen, fAbs, fInt, fStrI, fAll, fAny, fSum, mCBF, fList, fTuple, mJoin, fFmt, mJs, isiB, fIsi, okRight, mOwnL, mOwnR, mOwn1, onlyStr, mStrO, okLeft, mEqO, mEqO2, onlyNot, mNeO, mCMeth, asSeq, mStar, perm, mMethK, mCallK, mInO, mIdxO, mIdxD, mD0, mLc, wipeS, wipeG, backG, sFor, Mi.allB, fMax2, iEnT, mIxO, mMakeS, mMkLS, mMkL, isCls, mSlSL, mSlST, mCMethK, Mi.allI, fMax, lcGo, rangeItems, List.range_succ, t1_law_fixed_right, e1_law_fixed_right, padF, tupD, List.replicate]
theorem onesd_ev {n : Nat} (hn : n ≤ 4) (x0 x2 x3 x5 x6 x7 x8 x9 : Slot) (p : Int × Int) : lcGo [] t1_law_fixed_right (fun s => .ok (true, s)) e2_law_fixed_right [4] (rangeItems 0 5) ⟨[x0, .sh (.int ((n : Int) + 1)), x2, x3, .no, x5, x6, x7, x8, x9], p⟩ [] = .ok ((dif5 (padF (List.replicate (n + 1) (1, 1)))).map tupD, ⟨[x0, .sh (.int ((n : Int) + 1)), x2, x3, .no, x5, x6, x7, x8, x9], p⟩) := by
  have m1 : M.minus (1, 1) (1, 1) = (0, 1) := by decide
  have m2 : M.minus (1, 1) (0, 1) = (1, 1) := by decide
  have m3 : M.minus (0, 1) (0, 1) = (0, 1) := by decide
  have : n = 0 ∨ n = 1 ∨ n = 2 ∨ n = 3 ∨ n = 4 := by omega
  rcases this with rfl | rfl | rfl | rfl | rfl <;> simp [fnOf, outsOf, callF, slotsOf, mkSlot, lents, takeBack, views, vals, mVar, mBor, mC, fz, mOp, mUn, mTest, asB, mAnd, mOr, mNot, mAndV, mOrV, mNotV, mIf, mNil, mCons, mLst, mTup, mCB, f1, f2, sSkip, sSeq, sExpr, sRet, sRetN, sBreak, sCont, sNever, sIf, gN, gTs, gLs, gsN, gsC, sAsg, sOwn, sPar, sPar3, sParFE, sParEF, sParFF, argSeq, asL, asT, asS, asI, asV, iL, iT, iS, iR1, iR2, iEn, iZ, hold, noEx, mCall, mMeth, mProp, mMake, fldAt, mFld, putD, sFldSet, mMut, fAppend, fClear0, fRev, fPop, sSetItem, owL, fI, fIc, fNeg, mChain, fIsN, fNotN, fCatS, mOpF, fCat, fRep, fIxL, fIxT, fIxS, mNo, mPart, mSlL, mSlT, mSlS, fLen, fAbs, fInt, fStrI, fAll, fAny, fSum, mCBF, fList, fTuple, mJoin, fFmt, mJs, isiB, fIsi, okRight, mOwnL, mOwnR, mOwn1, onlyStr, mStrO, okLeft, mEqO, mEqO2, onlyNot, mNeO, mCMeth, asSeq, mStar, perm, mMethK, mCallK, mInO, mIdxO, mIdxD, mD0, mLc, wipeS, wipeG, backG, sFor, Mi.allB, fMax2, iEnT, mIxO, mMakeS, mMkLS, mMkL, isCls, mSlSL, mSlST, mCMethK, Mi.allI, fMax, lcGo, rangeItems, List.range_succ, t1_law_fixed_right, e2_law_fixed_right, padF, tupD, List.replicate, dif5, m1, m2, m3]
theorem pw_one : ∀ n : Nat, pwF 1 n = List.replicate (n + 1) (1, 1)
  | 0 => rfl
  | n + 1 => by
    have := pw_one n
    simp only [pwF] at this ⊢
    simp [pwI, this, List.replicate_succ, Int.one_pow]
theorem pad5 {as : List Fr} (h : as.length ≤ 5) : (padF as).length = 5 := by simp [padF]; omega
theorem pad_sz {as : List Fr} (h : ∀ a ∈ as, M.Red a ∧ M.Sz 401 a) : ∀ a ∈ padF as, M.Red a ∧ M.Sz 900 a := fun a ha => by
  rcases List.mem_append.mp ha with ha | ha
  · exact ⟨(h a ha).1, (h a ha).2.mono (by decide)⟩
  · rw [List.eq_of_mem_replicate ha]
    exact ⟨M.red_01, by decide, by decide⟩
theorem lpw_ev {s : Int} (hz : s.natAbs < 2 ^ 100) {n : Nat} (hn : n ≤ 4) (x0 x3 x4 x5 x6 x8 x9 : Slot) (p : Int × Int) : ∃ y4, forGo [] t1_law_fixed_right b1_law_fixed_right (rangeItems 0 n) ⟨[x0, .sh (.int ((n : Int) + 1)), .sh (.int s), x3, x4, x5, x6, .sh (.lst [tupD (1, 1)]), x8, x9], p⟩ = .ok (.nx, ⟨[x0, .sh (.int ((n : Int) + 1)), .sh (.int s), x3, y4, x5, x6, .sh (.lst ((pwF s n).map tupD)), x8, x9], p⟩) := by
  have lp : ∃ s', forGo [] t1_law_fixed_right b1_law_fixed_right (rangeItems 0 n) ⟨[x0, .sh (.int ((n : Int) + 1)), .sh (.int s), x3, x4, x5, x6, .sh (.lst [tupD (1, 1)]), x8, x9], p⟩ = .ok (.nx, s') ∧ ∃ j y4, ([] : List D).length + j = n ∧ s' = ⟨[x0, .sh (.int ((n : Int) + 1)), .sh (.int s), x3, y4, x5, x6, .sh (.lst ((pwF s j).map tupD)), x8, x9], p⟩ := by
    refine for_ind (fun ds s' => ∃ j y4, ds.length + j = n ∧ s' = ⟨[x0, .sh (.int ((n : Int) + 1)), .sh (.int s), x3, y4, x5, x6, .sh (.lst ((pwF s j).map tupD)), x8, x9], p⟩) (fun _ _ _ => by simp [hold]) ?_ ⟨0, x4, by simp [rangeItems], rfl⟩
    rintro d ds s' ⟨j, y4, hj, rfl⟩
    obtain ⟨t, ht⟩ := pwI_cons s j
    have hj2 : j ≤ 4 := by simp at hj; omega
    have c1 : cMul (s ^ j) s = true := cmul_ok (n := 401) (Nat.lt_of_lt_of_le (pw_lt hz j) (Nat.pow_le_pow_right (by decide) (by omega))) hz
    have hl : t.length + 1 = j + 1 := by have := pwI_len s j; rw [ht] at this; simpa using this
    have hl2 : 1 + (t.length + 1) ≤ 100000 := by omega
    refine ⟨⟨[x0, .sh (.int ((n : Int) + 1)), .sh (.int s), x3, .sh d, x5, x6, .sh (.lst ((pwF s j).map tupD)), x8, x9], p⟩, ⟨[x0, .sh (.int ((n : Int) + 1)), .sh (.int s), x3, .sh d, x5, x6, .sh (.lst ((pwF s (j + 1)).map tupD)), x8, x9], p⟩, rfl, .inl ?_, j + 1, _, by simp at hj; omega, rfl⟩
    rw [pwF, pwF, pwI, ht]
    simp [fnOf, outsOf, callF, slotsOf, mkSlot, lents, takeBack, views, vals, mVar, mBor, mC, fz, mOp, mUn, mTest, asB, mAnd, mOr, mNot, mAndV, mOrV, mNotV, mIf, mNil, mCons, mLst, mTup, mCB, f1, f2, sSkip, sSeq, sExpr, sRet, sRetN, sBreak, sCont, sNever, sIf, gN, gTs, gLs, gsN, gsC, sAsg, sOwn, sPar, sPar3, sParFE, sParEF, sParFF, argSeq, asL, asT, asS, asI, asV, iL, iT, iS, iR1, iR2, iEn, iZ, hold, noEx, mCall, mMeth, mProp, mMake, fldAt, mFld, putD, sFldSet, mMut, fAppend, fClear0, fRev, fPop, sSetItem, owL, fI, fIc, fNeg, mChain, fIsN, fNotN, fCatS, mOpF, fCat, fRep, fIxL, fIxT, fIxS, mNo, mPart, mSlL, mSlT, mSlS, fLen, fAbs, fInt, fStrI, fAll, fAny, fSum, mCBF, fList, fTuple, mJoin, fFmt, mJs, isiB, fIsi, okRight, mOwnL, mOwnR, mOwn1, onlyStr, mStrO, okLeft, mEqO, mEqO2, onlyNot, mNeO, mCMeth, asSeq, mStar, perm, mMethK, mCallK, mInO, mIdxO, mIdxD, mD0, mLc, wipeS, wipeG, backG, sFor, Mi.allB, fMax2, iEnT, mIxO, mMakeS, mMkLS, mMkL, isCls, mSlSL, mSlST, mCMethK, Mi.allI, fMax, b1_law_fixed_right, c1, hl2, Int.pow_succ, tupD]
  obtain ⟨_, e, j, y4, hj, rfl⟩ := lp
  have hj : j = n := by simpa using hj
  subst hj
  exact ⟨y4, e⟩
theorem ldif_ev {ps : List Fr} (hl : ps.length = 5) (h : ∀ a ∈ ps, M.Red a ∧ M.Sz 900 a) (x0 x1 x2 x3 x4 x5 x6 x7 : Slot) (p : Int × Int) : lcGo [] t2_law_fixed_right (fun s => .ok (true, s)) e3_law_fixed_right [8, 9] (zipItems (ps.map tupD) (Mi.cutD (ps.map tupD) (some 1) none ++ [tupD (0, 1)])) ⟨[x0, x1, x2, x3, x4, x5, x6, x7, .no, .no], p⟩ [] = .ok ((dif5 ps).map tupD, ⟨[x0, x1, x2, x3, x4, x5, x6, x7, .no, .no], p⟩) := by
  obtain ⟨a, b, c, d, e, rfl⟩ := five hl
  have z : M.Red ((0, 1) : Fr) ∧ M.Sz 900 ((0, 1) : Fr) := ⟨M.red_01, by decide, by decide⟩
  have mi : ∀ x y : Fr, (M.Red x ∧ M.Sz 900 x) → (M.Red y ∧ M.Sz 900 y) → F_law_minus [.sh (tupD x), .sh (tupD y)] p = .ok (tupD (M.minus x y)) [.no, .no] p := fun x y hx hy => lminus_ev (hx.2.mono (by decide)) (hy.2.mono (by decide)) (M.bot_ne hx.1 hy.1) p
  have m1 := mi a b (h _ (by simp)) (h _ (by simp))
  have m2 := mi b c (h _ (by simp)) (h _ (by simp))
  have m3 := mi c d (h _ (by simp)) (h _ (by simp))
  have m4 := mi d e (h _ (by simp)) (h _ (by simp))
  have m5 := mi e (0, 1) (h _ (by simp)) z
  simp [fnOf, outsOf, callF, slotsOf, mkSlot, lents, takeBack, views, vals, mVar, mBor, mC, fz, mOp, mUn, mTest, asB, mAnd, mOr, mNot, mAndV, mOrV, mNotV, mIf, mNil, mCons, mLst, mTup, mCB, f1, f2, sSkip, sSeq, sExpr, sRet, sRetN, sBreak, sCont, sNever, sIf, gN, gTs, gLs, gsN, gsC, sAsg, sOwn, sPar, sPar3, sParFE, sParEF, sParFF, argSeq, asL, asT, asS, asI, asV, iL, iT, iS, iR1, iR2, iEn, iZ, hold, noEx, mCall, mMeth, mProp, mMake, fldAt, mFld, putD, sFldSet, mMut, fAppend, fClear0, fRev, fPop, sSetItem, owL, fI, fIc, fNeg, mChain, fIsN, fNotN, fCatS, mOpF, fCat, fRep, fIxL, fIxT, fIxS, mNo, mPart, mSlL, mSlT, mSlS, fLen, fAbs, fInt, fStrI, fAll, fAny, fSum, mCBF, fList, fTuple, mJoin, fFmt, mJs, isiB, fIsi, okRight, mOwnL, mOwnR, mOwn1, onlyStr, mStrO, okLeft, mEqO, mEqO2, onlyNot, mNeO, mCMeth, asSeq, mStar, perm, mMethK, mCallK, mInO, mIdxO, mIdxD, mD0, mLc, wipeS, wipeG, backG, sFor, Mi.allB, fMax2, iEnT, mIxO, mMakeS, mMkLS, mMkL, isCls, mSlSL, mSlST, mCMethK, Mi.allI, fMax, Mi.cutD, HT.sIx, zipItems, lcGo, t2_law_fixed_right, e3_law_fixed_right, m1, m2, m3, m4, m5, dif5]
theorem lfixed_ex {p : Int × Int} (hp : PotOk p) : ∃ p', F_law_fixed_right [.sh .pot] p = .ok (.bl true) [.no] p' ∧ PotOk p' := by
  obtain ⟨i, p1, e1, i0, i1, hp1⟩ := draw_ex (m := 5) hp (by decide) (by decide)
  obtain ⟨k, hk, p2, e2, hp2⟩ := pick_ex (ds := [.int 1, .int 2, .int 5, .int 100, .int (10 ^ 29)]) hp1 (by decide) (by decide)
  have hk2 : ∃ m : Int, k = .int m ∧ 0 < m ∧ m ≤ 10 ^ 29 := by
    simp at hk
    rcases hk with rfl | rfl | rfl | rfl | rfl <;> exact ⟨_, rfl, by decide, by decide⟩
  obtain ⟨m, rfl, m0, m1⟩ := hk2
  have mz : m.natAbs < 2 ^ 99 := by
    have : (10 : Nat) ^ 29 < 2 ^ 99 := by decide
    omega
  obtain ⟨j, p3, e3, j0, j1, hp3⟩ := draw_ex (m := m) hp2 m0 (Nat.lt_of_lt_of_le mz (Nat.pow_le_pow_right (by decide) (by decide)))
  obtain ⟨s, hs⟩ : ∃ s : Int, s = 1 + j := ⟨_, rfl⟩
  have s1 : 1 ≤ s := by omega
  have sz : s.natAbs < 2 ^ 100 := by
    have : (2 : Nat) ^ 99 < 2 ^ 100 := by decide
    omega
  obtain ⟨n, hn⟩ : ∃ n : Nat, 1 + i = (n : Int) + 1 := ⟨i.toNat, by omega⟩
  have hn4 : n ≤ 4 := by omega
  have f1 := first_ev (k := n + 1) (by omega) (by omega) p3
  rw [show ((n + 1 : Nat) : Int) = (n : Int) + 1 by omega] at f1
  have g1 := steep_ev s1 sz hn4 p3
  have g2 := steep_ev (s := 1) (by decide) (by decide) hn4 p3
  rw [pw_one] at g2
  have l1 : (padF (List.replicate (n + 1) ((1, 1) : Fr))).length = 5 := pad5 (by simp; omega)
  have z1 := pad_sz (as := List.replicate (n + 1) ((1, 1) : Fr)) (fun a ha => by rw [List.eq_of_mem_replicate ha]; exact ⟨M.red_int 1, by decide, by decide⟩)
  have l2 : (padF (pwF s n)).length = 5 := pad5 (by simp [pwF, pwI_len]; omega)
  have z2 := pad_sz (as := pwF s n) (pwF_sz sz hn4)
  have a1 := lis_ev l1 z1 p3
  have a2 := lis_ev l2 z2 p3
  have o1 := fun x0 x2 x3 x5 x6 x7 x8 x9 => ones_ev hn4 x0 x2 x3 x5 x6 x7 x8 x9 p3
  have o2 := fun x0 x2 x3 x5 x6 x7 x8 x9 => onesd_ev hn4 x0 x2 x3 x5 x6 x7 x8 x9 p3
  have q1 := teq_ev (ps := padF (List.replicate (n + 1) ((1, 1) : Fr))) rfl p3
  have q2 := teq_ev (ps := padF (pwF s n)) rfl p3
  simp only [decide_true] at q1 q2
  have cp : cPow 10 29 = true := by decide
  have u : (10 : Int) ^ 29 = 100000000000000000000000000000 := by decide
  rw [u] at e2
  have k1 : (-1000000 : Int) ≤ (n : Int) := by omega
  have k2 : (n : Int) ≤ 1000000 := by omega
  have k3 : (n : Int) + 1 - 1 = n := by omega
  have k4 : 5 - ((n : Int) + 1) ≤ 1000000 := by omega
  have k5 : (-1000000 : Int) ≤ 5 - ((n : Int) + 1) := by omega
  have k6 : (5 - ((n : Int) + 1)).toNat = 4 - n := by omega
  have k7 : 4 ≤ 100000 + n := by omega
  obtain ⟨y4, w1⟩ := lpw_ev sz hn4 (.sh .pot) (.sh (.lst ((padF (List.replicate (n + 1) (1, 1))).map tupD))) .no (.sh (.lst ((dif5 (padF (List.replicate (n + 1) (1, 1)))).map tupD))) (.sh (tabP (padF (List.replicate (n + 1) (1, 1))))) .no .no p3
  have w2 := fun x0 x1 x2 x3 x4 x5 x6 x7 => ldif_ev l2 z2 x0 x1 x2 x3 x4 x5 x6 x7 p3
  have pe : (pwF s n).map tupD ++ List.replicate (4 - n) (.tup [.int 0, .int 1]) = (padF (pwF s n)).map tupD := by
    simp [padF, pwF, pwI_len, tupD]
  have pl : (pwF s n).length = n + 1 := by simp [pwF, pwI_len]
  have k8 : n + 1 + (4 - n) ≤ 100000 := by omega
  have cl : (Mi.cutD ((padF (pwF s n)).map tupD) (some 1) none).length + 1 ≤ 100000 := by
    obtain ⟨a, b, c, d, e, he⟩ := five l2
    rw [he]
    simp [Mi.cutD, HT.sIx]
  have t1 : tupD (1, 1) = .tup [.int 1, .int 1] := rfl
  have t0 : tupD (0, 1) = .tup [.int 0, .int 1] := rfl
  rw [t1] at w1
  rw [t0] at w2
  have rl : (((padF (pwF s n)).map tupD).length : Int) = 5 := by simp [l2]
  have pl2 : ((pwF s n).map tupD).length = n + 1 := by simp [pl]
  have ptl : ((padF (pwF s n)).map tupD).length = 5 := by simp [l2]
  generalize (padF (pwF s n)).map tupD = PT at *
  generalize (pwF s n).map tupD = PW at *
  generalize (dif5 (padF (pwF s n))).map tupD = DT at *
  generalize (padF (List.replicate (n + 1) (1, 1))).map tupD = OT at *
  generalize (dif5 (padF (List.replicate (n + 1) (1, 1)))).map tupD = DO at *
  refine ⟨p3, ?_, hp3⟩
  simp [fnOf, outsOf, callF, slotsOf, mkSlot, lents, takeBack, views, vals, mVar, mBor, mC, fz, mOp, mUn, mTest, asB, mAnd, mOr, mNot, mAndV, mOrV, mNotV, mIf, mNil, mCons, mLst, mTup, mCB, f1, f2, sSkip, sSeq, sExpr, sRet, sRetN, sBreak, sCont, sNever, sIf, gN, gTs, gLs, gsN, gsC, sAsg, sOwn, sPar, sPar3, sParFE, sParEF, sParFF, argSeq, asL, asT, asS, asI, asV, iL, iT, iS, iR1, iR2, iEn, iZ, hold, noEx, mCall, mMeth, mProp, mMake, fldAt, mFld, putD, sFldSet, mMut, fAppend, fClear0, fRev, fPop, sSetItem, owL, fI, fIc, fNeg, mChain, fIsN, fNotN, fCatS, mOpF, fCat, fRep, fIxL, fIxT, fIxS, mNo, mPart, mSlL, mSlT, mSlS, fLen, fAbs, fInt, fStrI, fAll, fAny, fSum, mCBF, fList, fTuple, mJoin, fFmt, mJs, isiB, fIsi, okRight, mOwnL, mOwnR, mOwn1, onlyStr, mStrO, okLeft, mEqO, mEqO2, onlyNot, mNeO, mCMeth, asSeq, mStar, perm, mMethK, mCallK, mInO, mIdxO, mIdxD, mD0, mLc, wipeS, wipeG, backG, sFor, Mi.allB, fMax2, iEnT, mIxO, mMakeS, mMkLS, mMkL, isCls, mSlSL, mSlST, mCMethK, Mi.allI, fMax, F_law_fixed_right, m_law_fixed_right, e1, e2, e3, hn, ← hs, u, cp, f1, g1, g2, a1, a2, o1, o2, q1, q2, k1, k2, k3, k4, k5, k6, k7, k8, w1, w2, pl2, ptl, pe, cl, repD]

/-! ### the law -/
theorem dif_sufs {m : Nat} {as : List Fr} (hl : as.length = 5) (hs : Stp m as) : dif5 (sufs as) = as := by
  have k : ∀ j a ss, as.drop j = a :: ss → M.minus (tot (a :: ss)) (tot ss) = a := fun j a ss e => by
    have h := hs.drop j
    rw [e] at h
    refine (M.q_eq_iff (M.minus_red (tot_red h) (tot_red h.tail)) (h.red a (by simp))).mp ?_
    rw [M.q_minus (tot_red h) (tot_red h.tail), tot_q h]
    grind
  obtain ⟨a, b, c, d, e, rfl⟩ := five hl
  have k1 := k 0 a [b, c, d, e] rfl
  have k2 := k 1 b [c, d, e] rfl
  have k3 := k 2 c [d, e] rfl
  have k4 := k 3 d [e] rfl
  have k5 := k 4 e [] rfl
  rw [show tot [] = (0, 1) from rfl] at k5
  simp only [sufs, dif5, k1, k2, k3, k4, k5]
abbrev Good (qs : List Fr) : Prop := qs.length = 5
def stR (qs : List Fr) (x2 x3 x4 x5 x6 : Slot) (p : Int × Int) : S := ⟨[.sh .pot, .sh (.lst [tabP qs, .lst (qs.map tupD)]), x2, x3, x4, x5, x6], p⟩
theorem turn_ok {qs : List Fr} (hq : Good qs) (x2 x3 x4 x5 x6 : Slot) {p : Int × Int} (hp : PotOk p) : ∃ rs y3 y4 y5 y6 p', b1_law_right (stR qs x2 x3 x4 x5 x6 p) = .ok (.nx, stR rs x2 y3 y4 y5 y6 p') ∧ Good rs ∧ PotOk p' := by
  obtain ⟨as, p1, e1, hl, hs, hp0, hp1⟩ := lsteps_ex hp
  have e2 := lpoints_ev (m := 20) (by decide) hl hs p1
  obtain ⟨p2, e3, hp2⟩ := lboth_ex hl hs hp0 hp1
  have sl : (sufs as).length = 5 := by rw [sufs_len]; exact hl
  have rs : ∀ a ∈ sufs as, M.Red a ∧ M.Sz 900 a := fun a ha => by
    obtain ⟨j, rfl⟩ := sufs_mem ha
    refine ⟨tot_red (hs.drop j), (tot_sz (hs.drop j)).mono ?_⟩
    have : (20 + 1) * (as.drop j).length ≤ 21 * 5 := Nat.mul_le_mul_left _ (by rw [List.length_drop]; omega)
    omega
  have e4 := lis_ev sl rs p2
  rw [dif_sufs hl hs] at e4
  have e5 := leq_ev sl hq rs p2
  obtain ⟨p3, e6, hp3⟩ := lfixed_ex hp2
  exact ⟨sufs as, .sh (.lst (as.map tupD)), .sh (.lst ((sufs as).map tupD)), .sh (tabP (sufs as)), .sh (tabP (sufs as)), p3, by simp [fnOf, outsOf, callF, slotsOf, mkSlot, lents, takeBack, views, vals, mVar, mBor, mC, fz, mOp, mUn, mTest, asB, mAnd, mOr, mNot, mAndV, mOrV, mNotV, mIf, mNil, mCons, mLst, mTup, mCB, f1, f2, sSkip, sSeq, sExpr, sRet, sRetN, sBreak, sCont, sNever, sIf, gN, gTs, gLs, gsN, gsC, sAsg, sOwn, sPar, sPar3, sParFE, sParEF, sParFF, argSeq, asL, asT, asS, asI, asV, iL, iT, iS, iR1, iR2, iEn, iZ, hold, noEx, mCall, mMeth, mProp, mMake, fldAt, mFld, putD, sFldSet, mMut, fAppend, fClear0, fRev, fPop, sSetItem, owL, fI, fIc, fNeg, mChain, fIsN, fNotN, fCatS, mOpF, fCat, fRep, fIxL, fIxT, fIxS, mNo, mPart, mSlL, mSlT, mSlS, fLen, fAbs, fInt, fStrI, fAll, fAny, fSum, mCBF, fList, fTuple, mJoin, fFmt, mJs, isiB, fIsi, okRight, mOwnL, mOwnR, mOwn1, onlyStr, mStrO, okLeft, mEqO, mEqO2, onlyNot, mNeO, mCMeth, asSeq, mStar, perm, mMethK, mCallK, mInO, mIdxO, mIdxD, mD0, mLc, wipeS, wipeG, backG, sFor, Mi.allB, fMax2, iEnT, mIxO, mMakeS, mMkLS, mMkL, isCls, mSlSL, mSlST, mCMethK, Mi.allI, fMax, stR, b1_law_right, e1, e2, e3, e4, e5, e6], sl, hp3⟩
theorem tab1_ev (p : Int × Int) : starF 1 F_Table_init [.ow (some 0) (.obj c_Table [] []), .sh (.int 1)] p = .ok .non [.ow (some 0) (tabP (padF [(1, 1)])), .no] p := by
  have e := star_tab (qs := [(.int 1, (1, 1))]) (fun q hq => by
    rw [List.mem_singleton.mp hq]
    exact ⟨.inr ⟨rfl, rfl⟩, M.red_int 1, by decide, by decide⟩) ⟨fun a ha => by simp at ha; rw [← ha]; decide, fun j a b ha hb => by simp at hb⟩ (by simp) (by simp) p
  simpa [ds1, fr2] using e
theorem right_ex : ∀ p, PotOk p → ∃ outs p', F_law_right [.sh .pot] p = .ok (.bl true) outs p' ∧ PotOk p' ∧ outs = [.no] := by
  intro p hp
  have e0 := tab1_ev p
  have e1 : ∃ s', forGo [] t1_law_right b1_law_right (rangeItems 0 4) (stR (padF [(1, 1)]) .no .no .no .no .no p) = .ok (.nx, s') ∧ ∃ qs x2 x3 x4 x5 x6 p', s' = stR qs x2 x3 x4 x5 x6 p' ∧ Good qs ∧ PotOk p' := by
    refine for_ind (fun _ s => ∃ qs x2 x3 x4 x5 x6 p', s = stR qs x2 x3 x4 x5 x6 p' ∧ Good qs ∧ PotOk p') (fun _ _ _ => by simp [hold]) ?_ ⟨_, _, _, _, _, _, _, rfl, rfl, hp⟩
    rintro d ds s ⟨qs, x2, x3, x4, x5, x6, p', rfl, hq, hp'⟩
    obtain ⟨rs, y3, y4, y5, y6, p2, e, hr, hp2⟩ := turn_ok hq (.sh d) x3 x4 x5 x6 hp'
    exact ⟨_, _, rfl, .inl e, _, _, _, _, _, _, _, rfl, hr, hp2⟩
  obtain ⟨_, e2, qs, x2, x3, x4, x5, x6, p', rfl, _, hp'⟩ := e1
  refine ⟨[.no], p', ?_, hp', rfl⟩
  have pd : (padF [((1, 1) : Fr)]).map tupD = [.tup [.int 1, .int 1], .tup [.int 0, .int 1], .tup [.int 0, .int 1], .tup [.int 0, .int 1], .tup [.int 0, .int 1]] := rfl
  simp only [stR, pd] at e2
  simp [fnOf, outsOf, callF, slotsOf, mkSlot, lents, takeBack, views, vals, mVar, mBor, mC, fz, mOp, mUn, mTest, asB, mAnd, mOr, mNot, mAndV, mOrV, mNotV, mIf, mNil, mCons, mLst, mTup, mCB, f1, f2, sSkip, sSeq, sExpr, sRet, sRetN, sBreak, sCont, sNever, sIf, gN, gTs, gLs, gsN, gsC, sAsg, sOwn, sPar, sPar3, sParFE, sParEF, sParFF, argSeq, asL, asT, asS, asI, asV, iL, iT, iS, iR1, iR2, iEn, iZ, hold, noEx, mCall, mMeth, mProp, mMake, fldAt, mFld, putD, sFldSet, mMut, fAppend, fClear0, fRev, fPop, sSetItem, owL, fI, fIc, fNeg, mChain, fIsN, fNotN, fCatS, mOpF, fCat, fRep, fIxL, fIxT, fIxS, mNo, mPart, mSlL, mSlT, mSlS, fLen, fAbs, fInt, fStrI, fAll, fAny, fSum, mCBF, fList, fTuple, mJoin, fFmt, mJs, isiB, fIsi, okRight, mOwnL, mOwnR, mOwn1, onlyStr, mStrO, okLeft, mEqO, mEqO2, onlyNot, mNeO, mCMeth, asSeq, mStar, perm, mMethK, mCallK, mInO, mIdxO, mIdxD, mD0, mLc, wipeS, wipeG, backG, sFor, Mi.allB, fMax2, iEnT, mIxO, mMakeS, mMkLS, mMkL, isCls, mSlSL, mSlST, mCMethK, Mi.allI, fMax, F_law_right, m_law_right, e0, e2, repD, List.replicate]

theorem same_new {H : Hp} {p : Addr} {o : HO} (h : H p = none) : Same H (upd H p o) := fun b u e => by
  rw [upd_ne (ne_of_none e h)]
  exact e
def Pot (H : Hp) (p : Addr) : Prop := ∃ x y : Int, H p = some (.lst [.int x, .int y]) ∧ 0 ≤ x ∧ 0 ≤ y ∧ y < 4294967296
/-- all but the pot stands, the pot is one still -/
structure Grow (p : Addr) (H H' : Hp) : Prop where
  kp : ∀ b o, b ≠ p → H b = some o → H' b = some o
  pot : Pot H' p
def spPot (K : PySem.W.Frag) : Sp := fun vs H Q _ => ∃ (a : Addr) (ns : List Int) (k : Nat), vs = [.ref a, .int k] ∧ SqL K H a (ns.map V.int) ∧ k ≤ 100 ∧ ∀ (p : Addr) (H' : Hp), H p = none → Same H H' → Pot H' p → Q (.ref p) H'
theorem okb_law_pot {P : Program} {w : World} {K : PySem.W.Frag} {mg : Str → Option Value} {base : Heap} (T : Txt K mg) {fd : FuncData} (F : FunD K "_law_pot" "_law_pot" (defArgs s_law_pot) (defBody s_law_pot) (defScope s_law_pot) [] [] (He.ga K "_law_pot") fd) : FnOk P w K mg base (L2.CX P w) 1 (He.ga K "_law_pot") fd ["_law_script", "_law_at"] (spPot K) := by
  refine F.ok sc_law_pot (fun vs H Q E h => ?_) (fun cdv A outer s H vs Q E hr h => ?_)
  · obtain ⟨a, ns, j, rfl, hs, hj, k⟩ := h
    rfl
  obtain ⟨a, ns, j, rfl, hs, hj, k⟩ := h
  refine ⟨_, PSs.nox (pss_cons (ps_set (i := 2) sc_law_pot.nd rfl (Or.inl rfl) (pe_ifExp (pt_cmpR op_lt (pv 1) (pe_callB (Z.lenK (K := K) rfl) (by rfl) T.f_len (by decide +kernel) (pa_cons (pv 0) pa_nil)) (nomark _)) (pe_callB call_abs (by rfl) T.f_abs (by decide +kernel) (pa_cons (pe_ix (Z.ixlK (K := K) rfl) (pv 0) (pv 1) (fun _ _ => rfl)) pa_nil)) (pe_op op_add (pe_op op_mulW (pe_int) (pv 1)) (pe_int)))) (pss_one (ps_ret (pe_lst (pa_cons (pe_callB (call_max2 rfl) (by rfl) T.f_max (by decide +kernel) (pa_cons (pe_int) (pa_cons (pe_op op_sub (pv 2) (pe_op op_pow (pe_int) (pe_int))) pa_nil))) (pa_cons (pe_op op_add (pe_op op_mod (pe_callTy call_int1 (by rfl) T.f_int (by decide +kernel) (pa_cons (pe_op op_add (pe_op op_add (pe_op op_mulW (pe_op op_mod (pe_callTy call_int1 (by rfl) T.f_int (by decide +kernel) (pa_cons (pv 2) pa_nil)) (pe_int)) (pe_int)) (pe_op op_mulW (pe_int) (pv 1))) (pe_int)) pa_nil)) (pe_int)) (pe_int)) pa_nil)))))), ?_⟩
  refine ⟨_, rfl, _, rfl, _, _, rfl, Or.inl ⟨_, hs, rfl⟩, _, _, rfl, rfl, _, rfl, ?_⟩
  have fin : ∀ c : Int, 0 ≤ c → ∃ x y : Int, x = (if c - 10 ^ Int.toNat 18 > 0 then c - 10 ^ Int.toNat 18 else 0) ∧ y = (c % 2147483563 * 40361 + 9103 * (j : Int) + 71) % 2147483497 + 1 ∧ 0 ≤ x ∧ 0 ≤ y ∧ y < 4294967296 := fun c hc => by
    refine ⟨_, _, rfl, rfl, ?_, ?_, ?_⟩
    · split <;> omega
    · have := Int.emod_nonneg (c % 2147483563 * 40361 + 9103 * (j : Int) + 71) (show (2147483497 : Int) ≠ 0 by decide)
      omega
    · have := Int.emod_lt_of_pos (c % 2147483563 * 40361 + 9103 * (j : Int) + 71) (show (0 : Int) < 2147483497 by decide)
      omega
  have small : ∀ c : Int, CMulW (c % 2147483563) 40361 := fun c => by
    have h1 := Int.emod_nonneg c (show (2147483563 : Int) ≠ 0 by decide)
    have h2 := Int.emod_lt_of_pos c (show (0 : Int) < 2147483563 by decide)
    exact wide_mul (a := 32) (b := 32) (by omega) (by decide) (by decide) (by decide) (by decide)
  have len : (ns.map V.int).length = ns.length := List.length_map ..
  by_cases hl : (j : Int) < ((ns.map V.int).length : Int)
  · rw [decide_eq_true hl]
    have hj2 : j < ns.length := by omega
    have get : atI (ns.map V.int) (j : Int) = some (V.int ns[j]) := atI_nat (by simp [hj2])
    refine iteT ⟨_, rfl, _, rfl, a, _, _, _, rfl, rfl, hs, get, _, rfl, ?_⟩
    have hc : 0 ≤ (if ns[j] < 0 then -ns[j] else ns[j]) := by split <;> omega
    generalize (if ns[j] < 0 then -ns[j] else ns[j]) = c at hc ⊢
    refine ⟨_, rfl, _, _, rfl, rfl, ⟨by decide, by decide, by decide⟩, _, _, rfl, rfl, _, _, rfl, ?_⟩
    refine ⟨_, rfl, .inl ⟨_, rfl, _, _, rfl, rfl, (by show (0 : Int) < 2147483563; decide), _, _, rfl, rfl, small _, _, rfl, _, _, rfl, rfl, wide_mul (a := 32) (b := 32) (by decide) (by omega) (by decide) (by decide) (by decide), _, _, rfl, rfl, _, _, rfl, rfl, .inl ⟨_, rfl, _, _, rfl, rfl, (by show (0 : Int) < 2147483497; decide), _, _, rfl, rfl, (by show 2 ≤ sizeLine; decide), fun p hp => ?_⟩⟩⟩
    obtain ⟨x, y, ex, ey, h0, h1, h2⟩ := fin c hc
    exact k p _ hp (same_new hp) ⟨x, y, by rw [ex, ey]; exact upd_same, h0, h1, h2⟩
  · rw [decide_eq_false hl]
    refine iteF ⟨_, rfl, _, _, rfl, rfl, wide_mul (a := 32) (b := 32) (by decide) (by omega) (by decide) (by decide) (by decide), _, _, rfl, rfl, ?_⟩
    have hc : 0 ≤ 37 * (j : Int) + 11 := by omega
    refine ⟨_, rfl, _, _, rfl, rfl, ⟨by decide, by decide, by decide⟩, _, _, rfl, rfl, _, _, rfl, ?_⟩
    refine ⟨_, rfl, .inl ⟨_, rfl, _, _, rfl, rfl, (by show (0 : Int) < 2147483563; decide), _, _, rfl, rfl, small _, _, rfl, _, _, rfl, rfl, wide_mul (a := 32) (b := 32) (by decide) (by omega) (by decide) (by decide) (by decide), _, _, rfl, rfl, _, _, rfl, rfl, .inl ⟨_, rfl, _, _, rfl, rfl, (by show (0 : Int) < 2147483497; decide), _, _, rfl, rfl, (by show 2 ≤ sizeLine; decide), fun p hp => ?_⟩⟩⟩
    obtain ⟨x, y, ex, ey, h0, h1, h2⟩ := fin _ hc
    exact k p _ hp (same_new hp) ⟨x, y, by rw [ex, ey]; exact upd_same, h0, h1, h2⟩
theorem ok_law_pot {P : Program} {w : World} {K : PySem.W.Frag} {mg : Str → Option Value} {base : Heap} (T : Txt K mg) : FnR P w K mg base (L2.CX P w) 1 (He.ga K "_law_pot") (spPot K) := by
  obtain ⟨fd, F⟩ := T.d_law_pot
  exact Z.raw0 (okb_law_pot T F) (F.bindsN fun _ _ _ _ _ _ us hl => match us, hl with | [_, _], _ => rfl)
def spLaw (K : PySem.W.Frag) : Sp := fun vs H Q _ => ∃ (a : Addr) (ns : List Int), vs = [.ref a] ∧ SqL K H a (ns.map V.int) ∧ ns.length ≤ 1000 ∧ ∀ H', Q (.bl true) H'
theorem sql_keep {K : PySem.W.Frag} {H H' : Hp} {a : Addr} {xs : List V} (h : SqL K H a xs) (e : ∀ b o, H b = some o → H' b = some o) : SqL K H' a xs :=
  h.elim (fun h => .inl (h.elim (fun h => .inl (e _ _ h)) fun ⟨o, h⟩ => .inr ⟨o, e _ _ h⟩)) fun h => .inr h
theorem ok_law {P : Program} {w : World} {K : PySem.W.Frag} {mg : Str → Option Value} {base : Heap} (T : Txt K mg) : Z.FnG P w K mg base 13 (He.ga K "law") (spLaw K) := by
  obtain ⟨fd, F⟩ := T.d_law
  refine Z.fng F sc_law (fun _ _ _ _ _ _ us hl => match us, hl with | [_], _ => rfl) (fun vs H Q E h => ?_) (fun cdv A outer s H vs Q E hr hg h => ?_)
  · obtain ⟨a, ns, rfl, hs, hl, k⟩ := h
    rfl
  obtain ⟨a, ns, rfl, hs, hl, k⟩ := h
  refine ⟨_, PSs.nox (pss_one (ps_ret (pe_callB (Z.allK (K := K) rfl rfl) (by rfl) T.f_all (by decide +kernel) (pa_cons (pe_lc (own := [("_law_at", 1)]) (g := gName 1) (by rfl) sc_law.nd (pi_range1 (by rfl) T.f_range (pa_cons (pe_callB (call_max2 rfl) (by rfl) T.f_max (by decide +kernel) (pa_cons (pe_int) (pa_cons (pe_callB (call_min2 rfl) (by rfl) T.f_min (by decide +kernel) (pa_cons (pe_callB (Z.lenK (K := K) rfl) (by rfl) T.f_len (by decide +kernel) (pa_cons (pv 0) pa_nil)) (pa_cons (pe_int) pa_nil))) pa_nil))) pa_nil)) (blkOk_by (own := [("_law_at", 1)]) (N := N_law) (sc := defScope s_law) (by decide +kernel)) (fun _ _ _ _ _ => pg_name (i := 1) sc_law.nd rfl (Or.inl rfl)) (fun _ _ _ _ _ => pts_nil) (fun _ _ _ _ _ => Z.pe_clG (E := E0) (ok_law_right T) (hr.mono (by decide)) hg T.g_law_right T.k_law_right passL (pa_cons (Z.pe_cl (E := E0) (ok_law_pot T) (hr.mono (by decide)) T.g_law_pot T.k_law_pot passL (pa_cons (pv 0) (pa_cons (pv 1) pa_nil))) pa_nil))) pa_nil)))), ?_⟩
  refine ⟨_, rfl, _, _, rfl, Or.inl ⟨_, hs, rfl⟩, _, _, rfl, _, _, rfl, _, rfl, ?_, ?_, fun D hD => ?_⟩
  · split <;> split <;> omega
  · split <;> split <;> omega
  have small : (if (if (3 : Int) < ((ns.map V.int).length : Int) then (3 : Int) else ((ns.map V.int).length : Int)) > 1 then (if (3 : Int) < ((ns.map V.int).length : Int) then (3 : Int) else ((ns.map V.int).length : Int)) else 1).toNat ≤ 3 := by
    split <;> split <;> omega
  generalize (if (if (3 : Int) < ((ns.map V.int).length : Int) then (3 : Int) else ((ns.map V.int).length : Int)) > 1 then (if (3 : Int) < ((ns.map V.int).length : Int) then (3 : Int) else ((ns.map V.int).length : Int)) else 1).toNat = m at small
  refine lc_range (fun i H' => Same H H' ∧ H' D = some (.lst (List.replicate i (.bl true)))) ⟨same_new hD, upd_same⟩ ?_ ?_
  · rintro i H1 hi ⟨s1, hD1⟩
    have hi3 : i < 3 := Nat.lt_of_lt_of_le hi small
    refine ⟨rfl, ?_⟩
    refine ⟨_, rfl, _, rfl, a, ns, i, by rw [Int.zero_add], sql_keep hs s1, by omega, fun p H2 hp s2 pot => ?_⟩
    obtain ⟨x0, y0, e1, e2⟩ := pot
    refine right_ok (pot := PotOk) right_ex e1 e2 fun H3 g3 _ => ?_
    have dp : D ≠ p := ne_of_none hD1 hp
    refine ⟨_, g3 _ _ dp (s2 _ _ hD1), ?_, fun b o e => ?_, ?_⟩
    · rw [List.length_replicate, sizeLine_eq]
      omega
    · rw [upd_ne (ne_of_none e hD)]
      exact g3 _ _ (ne_of_none (s1 _ _ e) hp) (s2 _ _ (s1 _ _ e))
    · rw [upd_same, ← List.replicate_succ']
  · rintro H1 ⟨s1, hD1⟩
    refine ⟨D, List.replicate _ true, rfl, SqL.of (by rw [List.map_replicate]; exact hD1), ?_⟩
    rw [List.all_replicate, show (if m = 0 then true else id true) = true by split <;> rfl]
    exact k _
abbrev DA (at_ : PySem.W.Frag → Addr) (name qual : Str) (st : Stmt) (dfl : List He.Dv) : He5.DefA := ⟨at_, name, qual, defArgs st, defBody st, defScope st, dfl, []⟩
def dd_is_integer : He5.DefA := DA (fun K => He.ga K "is_integer") "is_integer" "is_integer" s_is_integer []
def dd_is_count : He5.DefA := DA (fun K => He.ga K "is_count") "is_count" "is_count" s_is_count []
def dd_is_number : He5.DefA := DA (fun K => He.ga K "is_number") "is_number" "is_number" s_is_number []
def dd_want_number : He5.DefA := DA (fun K => He.ga K "want_number") "want_number" "want_number" s_want_number []
def dd_as_ratio : He5.DefA := DA (fun K => He.ga K "as_ratio") "as_ratio" "as_ratio" s_as_ratio []
def dd_common_divisor : He5.DefA := DA (fun K => He.ga K "common_divisor") "common_divisor" "common_divisor" s_common_divisor []
def dd_Ratio_init : He5.DefA := DA (fun K => He.ma K (He.ga K "Ratio") "__init__") "__init__" "Ratio.__init__" s_Ratio_init [.int 1]
def dd_Ratio_sign : He5.DefA := DA (fun K => He5.wf K (He.ga K "Ratio") "property" "sign") "sign" "Ratio.sign" s_Ratio_sign []
def dd_Ratio_is_below : He5.DefA := DA (fun K => He.ma K (He.ga K "Ratio") "is_below") "is_below" "Ratio.is_below" s_Ratio_is_below []
def dd_Ratio_add : He5.DefA := DA (fun K => He.ma K (He.ga K "Ratio") "__add__") "__add__" "Ratio.__add__" s_Ratio_add []
def dd_Ratio_sub : He5.DefA := DA (fun K => He.ma K (He.ga K "Ratio") "__sub__") "__sub__" "Ratio.__sub__" s_Ratio_sub []
def dd_Ratio_neg : He5.DefA := DA (fun K => He.ma K (He.ga K "Ratio") "__neg__") "__neg__" "Ratio.__neg__" s_Ratio_neg []
def dd_Ratio_eq : He5.DefA := DA (fun K => He.ma K (He.ga K "Ratio") "__eq__") "__eq__" "Ratio.__eq__" s_Ratio_eq []
def dd_Ratio_repr : He5.DefA := DA (fun K => He.ma K (He.ga K "Ratio") "__repr__") "__repr__" "Ratio.__repr__" s_Ratio_repr []
def dd_is_place : He5.DefA := DA (fun K => He.ga K "is_place") "is_place" "is_place" s_is_place []
def dd_filled : He5.DefA := DA (fun K => He.ga K "filled") "filled" "filled" s_filled []
def dd_is_right_at : He5.DefA := DA (fun K => He.ga K "is_right_at") "is_right_at" "is_right_at" s_is_right_at []
def dd_want_few : He5.DefA := DA (fun K => He.ga K "want_few") "want_few" "want_few" s_want_few []
def dd_Table_init : He5.DefA := DA (fun K => He.ma K (He.ga K "Table") "__init__") "__init__" "Table.__init__" s_Table_init []
def dd_Table_of_steps : He5.DefA := DA (fun K => He5.wf K (He.ga K "Table") "classmethod" "of_steps") "of_steps" "Table.of_steps" s_Table_of_steps []
def dd_Table_first_places : He5.DefA := DA (fun K => He5.wf K (He.ga K "Table") "classmethod" "first_places") "first_places" "Table.first_places" s_Table_first_places []
def dd_Table_steep : He5.DefA := DA (fun K => He5.wf K (He.ga K "Table") "classmethod" "steep") "steep" "Table.steep" s_Table_steep []
def dd_Table_paid : He5.DefA := DA (fun K => He5.wf K (He.ga K "Table") "property" "paid") "paid" "Table.paid" s_Table_paid []
def dd_Table_points : He5.DefA := DA (fun K => He.ma K (He.ga K "Table") "points") "points" "Table.points" s_Table_points []
def dd_Table_steps : He5.DefA := DA (fun K => He.ma K (He.ga K "Table") "steps") "steps" "Table.steps" s_Table_steps []
def dd_Table_getitem : He5.DefA := DA (fun K => He.ma K (He.ga K "Table") "__getitem__") "__getitem__" "Table.__getitem__" s_Table_getitem []
def dd_Table_eq : He5.DefA := DA (fun K => He.ma K (He.ga K "Table") "__eq__") "__eq__" "Table.__eq__" s_Table_eq []
def dd_Table_repr : He5.DefA := DA (fun K => He.ma K (He.ga K "Table") "__repr__") "__repr__" "Table.__repr__" s_Table_repr []
def dd_law_pot : He5.DefA := DA (fun K => He.ga K "_law_pot") "_law_pot" "_law_pot" s_law_pot []
def dd_law_draw : He5.DefA := DA (fun K => He.ga K "_law_draw") "_law_draw" "_law_draw" s_law_draw []
def dd_law_pick : He5.DefA := DA (fun K => He.ga K "_law_pick") "_law_pick" "_law_pick" s_law_pick []
def dd_law_common : He5.DefA := DA (fun K => He.ga K "_law_common") "_law_common" "_law_common" s_law_common []
def dd_law_low : He5.DefA := DA (fun K => He.ga K "_law_low") "_law_low" "_law_low" s_law_low []
def dd_law_plus : He5.DefA := DA (fun K => He.ga K "_law_plus") "_law_plus" "_law_plus" s_law_plus []
def dd_law_minus : He5.DefA := DA (fun K => He.ga K "_law_minus") "_law_minus" "_law_minus" s_law_minus []
def dd_law_steps : He5.DefA := DA (fun K => He.ga K "_law_steps") "_law_steps" "_law_steps" s_law_steps []
def dd_law_points : He5.DefA := DA (fun K => He.ga K "_law_points") "_law_points" "_law_points" s_law_points []
def dd_law_number : He5.DefA := DA (fun K => He.ga K "_law_number") "_law_number" "_law_number" s_law_number []
def dd_law_paid : He5.DefA := DA (fun K => He.ga K "_law_paid") "_law_paid" "_law_paid" s_law_paid []
def dd_law_shown : He5.DefA := DA (fun K => He.ga K "_law_shown") "_law_shown" "_law_shown" s_law_shown []
def dd_law_is : He5.DefA := DA (fun K => He.ga K "_law_is") "_law_is" "_law_is" s_law_is []
def dd_law_by_points : He5.DefA := DA (fun K => He.ga K "_law_by_points") "_law_by_points" "_law_by_points" s_law_by_points []
def dd_law_by_steps : He5.DefA := DA (fun K => He.ga K "_law_by_steps") "_law_by_steps" "_law_by_steps" s_law_by_steps []
def dd_law_both : He5.DefA := DA (fun K => He.ga K "_law_both") "_law_both" "_law_both" s_law_both []
def dd_law_equal_right : He5.DefA := DA (fun K => He.ga K "_law_equal_right") "_law_equal_right" "_law_equal_right" s_law_equal_right []
def dd_law_fixed_right : He5.DefA := DA (fun K => He.ga K "_law_fixed_right") "_law_fixed_right" "_law_fixed_right" s_law_fixed_right []
def dd_law_right : He5.DefA := DA (fun K => He.ga K "_law_right") "_law_right" "_law_right" s_law_right []
def dd_law : He5.DefA := DA (fun K => He.ga K "law") "law" "law" s_law []
def fns : List He5.DefA := [dd_is_integer, dd_is_count, dd_is_number, dd_want_number, dd_as_ratio, dd_common_divisor, dd_Ratio_init, dd_Ratio_sign, dd_Ratio_is_below, dd_Ratio_add, dd_Ratio_sub, dd_Ratio_neg, dd_Ratio_eq, dd_Ratio_repr, dd_is_place, dd_filled, dd_is_right_at, dd_want_few, dd_Table_init, dd_Table_of_steps, dd_Table_first_places, dd_Table_steep, dd_Table_paid, dd_Table_points, dd_Table_steps, dd_Table_getitem, dd_Table_eq, dd_Table_repr, dd_law_pot, dd_law_draw, dd_law_pick, dd_law_common, dd_law_low, dd_law_plus, dd_law_minus, dd_law_steps, dd_law_points, dd_law_number, dd_law_paid, dd_law_shown, dd_law_is, dd_law_by_points, dd_law_by_steps, dd_law_both, dd_law_equal_right, dd_law_fixed_right, dd_law_right, dd_law]
def exs0 : List (PySem.W.Frag → Bool) := [(He.Fa.free "isinstance").ok, (He.Fa.free "int").ok, (He.Fa.free "bool").ok, (He.Fa.free "abs").ok, (He.Fa.free "str").ok, (He.Fa.free "len").ok, (He.Fa.free "max").ok, (He.Fa.free "min").ok, (He.Fa.free "range").ok, (He.Fa.free "divmod").ok, (He.Fa.free "repr").ok, (He.Fa.free "all").ok, (He.Fa.free "any").ok, (He.Fa.free "zip").ok, (He.Fa.free "enumerate").ok, (He.Fa.free "list").ok, (He.Fa.free "tuple").ok, (He.Fa.int "MOST_PLACES" 5).ok, (fun K => knownB K clss), (He.Fa.glo "Ratio").ok, (He.Fa.cls "Ratio").ok, (He.Fa.mkr "Ratio").ok, (He.Fa.noat "Ratio" "own_top").ok, (He.Fa.noat "Ratio" "own_bottom").ok, (He.Fa.glo "Table").ok, (He.Fa.cls "Table").ok, (He.Fa.mkr "Table").ok, (He.Fa.noat "Table" "own_points").ok, (fun K => PySem.W.readsIn K (He.ga K "Table") (.type "type")), (fun K => decide (PySem.W.specialIn K (.ref (He.ga K "Table")) "__getattribute__" = some (some (.builtin "type.__getattribute__"))))]
def exs1 : List (PySem.W.Frag → Bool) := [(He.Fa.glo "is_integer").ok, (He.Fa.keep "is_integer").ok, (He.Fa.glo "is_count").ok, (He.Fa.keep "is_count").ok, (He.Fa.glo "is_number").ok, (He.Fa.keep "is_number").ok, (He.Fa.glo "want_number").ok, (He.Fa.keep "want_number").ok, (He.Fa.glo "as_ratio").ok, (He.Fa.keep "as_ratio").ok, (He.Fa.glo "common_divisor").ok, (He.Fa.keep "common_divisor").ok, (He.Fa.meth "Ratio" "__init__").ok, (fun K => Z.propB K (He.ga K "Ratio") "sign"), (He.Fa.meth "Ratio" "is_below").ok, (He.Fa.meth "Ratio" "__add__").ok, (fun K => PySem.W.selfFirst K (He.ga K "Ratio")), (He.Fa.meth "Ratio" "__radd__").ok, (fun K => rightB K c_Ratio "add"), (He.Fa.meth "Ratio" "__sub__").ok, (He.Fa.meth "Ratio" "__rsub__").ok, (fun K => rightB K c_Ratio "sub"), (He.Fa.meth "Ratio" "__neg__").ok, (He.Fa.meth "Ratio" "__eq__").ok, (fun K => decide (PySem.W.mroIn K (He.ga K "Ratio") (.type "object") = some true)), (fun K => Z.eqcB K (He.ga K "Ratio")), (He.Fa.meth "Ratio" "__repr__").ok, (He.Fa.glo "is_place").ok, (He.Fa.keep "is_place").ok, (He.Fa.glo "filled").ok]
def exs2 : List (PySem.W.Frag → Bool) := [(He.Fa.keep "filled").ok, (He.Fa.glo "is_right_at").ok, (He.Fa.keep "is_right_at").ok, (He.Fa.glo "want_few").ok, (He.Fa.keep "want_few").ok, (He.Fa.meth "Table" "__init__").ok, (fun K => He5.wrapB K (He.ga K "Table") "classmethod" "classmethod.__get__" "of_steps"), (fun K => PySem.W.fnIn K (He5.wf K (He.ga K "Table") "classmethod" "of_steps")), (fun K => He5.wrapB K (He.ga K "Table") "classmethod" "classmethod.__get__" "first_places"), (fun K => PySem.W.fnIn K (He5.wf K (He.ga K "Table") "classmethod" "first_places")), (fun K => He5.wrapB K (He.ga K "Table") "classmethod" "classmethod.__get__" "steep"), (fun K => PySem.W.fnIn K (He5.wf K (He.ga K "Table") "classmethod" "steep")), (fun K => Z.propB K (He.ga K "Table") "paid"), (He.Fa.meth "Table" "points").ok, (He.Fa.meth "Table" "steps").ok, (He.Fa.meth "Table" "__getitem__").ok, (fun K => PySem.W.fnIn K (He.ma K (He.ga K "Table") "__getitem__")), (He.Fa.meth "Table" "__eq__").ok, (fun K => decide (PySem.W.mroIn K (He.ga K "Table") (.type "object") = some true)), (fun K => Z.eqcB K (He.ga K "Table")), (He.Fa.meth "Table" "__repr__").ok, (He.Fa.glo "_law_pot").ok, (He.Fa.keep "_law_pot").ok, (He.Fa.glo "_law_draw").ok, (He.Fa.keep "_law_draw").ok, (He.Fa.glo "_law_pick").ok, (He.Fa.keep "_law_pick").ok, (He.Fa.glo "_law_common").ok, (He.Fa.keep "_law_common").ok, (He.Fa.glo "_law_low").ok]
def exs3 : List (PySem.W.Frag → Bool) := [(He.Fa.keep "_law_low").ok, (He.Fa.glo "_law_plus").ok, (He.Fa.keep "_law_plus").ok, (He.Fa.glo "_law_minus").ok, (He.Fa.keep "_law_minus").ok, (He.Fa.glo "_law_steps").ok, (He.Fa.keep "_law_steps").ok, (He.Fa.glo "_law_points").ok, (He.Fa.keep "_law_points").ok, (He.Fa.glo "_law_number").ok, (He.Fa.keep "_law_number").ok, (He.Fa.glo "_law_paid").ok, (He.Fa.keep "_law_paid").ok, (He.Fa.glo "_law_shown").ok, (He.Fa.keep "_law_shown").ok, (He.Fa.glo "_law_is").ok, (He.Fa.keep "_law_is").ok, (He.Fa.glo "_law_by_points").ok, (He.Fa.keep "_law_by_points").ok, (He.Fa.glo "_law_by_steps").ok, (He.Fa.keep "_law_by_steps").ok, (He.Fa.glo "_law_both").ok, (He.Fa.keep "_law_both").ok, (He.Fa.glo "_law_equal_right").ok, (He.Fa.keep "_law_equal_right").ok, (He.Fa.glo "_law_fixed_right").ok, (He.Fa.keep "_law_fixed_right").ok, (He.Fa.glo "_law_right").ok, (He.Fa.keep "_law_right").ok, (He.Fa.glo "law").ok]
def exs4 : List (PySem.W.Frag → Bool) := [(He.Fa.keep "law").ok]
def exs : List (PySem.W.Frag → Bool) := exs0 ++ exs1 ++ exs2 ++ exs3 ++ exs4
abbrev RR : PySem.W.OpenRow := PySem.W.OpenLaw.row PySem.Challenge.rw_anypoints_k15_tables_told
abbrev hk : PySem.W.Hook := Z.hookZ 6 exs fns
def ob (s : PySem.W.SharedT) : He.AlD := Z.obsZG 6 exs fns (HandSHeadRun.getT s)
theorem ob_eq (s : PySem.W.SharedT) : ob s = hk.obs s.abs := Z.obsZG_eq (HandSHeadRun.getT_eq s)
def names0 : List Str := ["_wall", "PointsError", "InvalidNumber", "InvalidPoints", "InvalidPlace", "InvalidTable", "StateError", "DividedByZero", "is_integer", "is_count", "is_number", "want_number", "as_ratio", "common_divisor", "Ratio", "MOST_PLACES", "want_table", "is_place", "filled", "is_right_at", "want_few", "Table", "_law_pot", "_law_draw", "_law_pick", "_law_common", "_law_low", "_law_plus", "_law_minus", "_law_times"]
def names1 : List Str := ["_law_steps", "_law_points", "_law_number", "_law_paid", "_law_shown", "_law_is", "_law_by_points", "_law_by_steps", "_law_both", "_law_equal_right", "_law_fixed_right", "_law_right"]
def names : List Str := names0 ++ names1
theorem run (w : World) : HandSHeadRun.RunEq RR (PySem.W.view RR.prog [46]) hk ob 6000 names w := by
  intro os
  kernel_rfl
theorem txt_of {K : PySem.W.Frag} {h : Heap} {mg : Str → Option Value} (X : K.In h) (G : h.Ns mainGlobals mg) (c : Z.SaysZ exs fns K) : Txt K mg where
  f_isinstance := He.free_ok X G (c.fact 0)
  f_int := He.free_ok X G (c.fact 1)
  f_bool := He.free_ok X G (c.fact 2)
  f_abs := He.free_ok X G (c.fact 3)
  f_str := He.free_ok X G (c.fact 4)
  f_len := He.free_ok X G (c.fact 5)
  f_max := He.free_ok X G (c.fact 6)
  f_min := He.free_ok X G (c.fact 7)
  f_range := He.free_ok X G (c.fact 8)
  f_divmod := He.free_ok X G (c.fact 9)
  f_repr := He.free_ok X G (c.fact 10)
  f_all := He.free_ok X G (c.fact 11)
  f_any := He.free_ok X G (c.fact 12)
  f_zip := He.free_ok X G (c.fact 13)
  f_enumerate := He.free_ok X G (c.fact 14)
  f_list := He.free_ok X G (c.fact 15)
  f_tuple := He.free_ok X G (c.fact 16)
  g_MOST_PLACES := He.int_ok X G (c.fact 17)
  kn := known_of (c.fact 18)
  g_Ratio := He.glo_ok X G (c.fact 19)
  cl_Ratio := He.cls_ok (c.fact 20)
  mk_Ratio := He.mkr_ok (c.fact 21)
  n_Ratio_own_top := He.noat_ok (c.fact 22)
  n_Ratio_own_bottom := He.noat_ok (c.fact 23)
  g_Table := He.glo_ok X G (c.fact 24)
  cl_Table := He.cls_ok (c.fact 25)
  mk_Table := He.mkr_ok (c.fact 26)
  n_Table_own_points := He.noat_ok (c.fact 27)
  cr_Table := ⟨c.fact 28, of_decide_eq_true (c.fact 29)⟩
  d_is_integer := c.def_ 0 (d := dd_is_integer) rfl
  g_is_integer := He.glo_ok X G (c.fact 30)
  k_is_integer := He.keep_ok (c.fact 31)
  d_is_count := c.def_ 1 (d := dd_is_count) rfl
  g_is_count := He.glo_ok X G (c.fact 32)
  k_is_count := He.keep_ok (c.fact 33)
  d_is_number := c.def_ 2 (d := dd_is_number) rfl
  g_is_number := He.glo_ok X G (c.fact 34)
  k_is_number := He.keep_ok (c.fact 35)
  d_want_number := c.def_ 3 (d := dd_want_number) rfl
  g_want_number := He.glo_ok X G (c.fact 36)
  k_want_number := He.keep_ok (c.fact 37)
  d_as_ratio := c.def_ 4 (d := dd_as_ratio) rfl
  g_as_ratio := He.glo_ok X G (c.fact 38)
  k_as_ratio := He.keep_ok (c.fact 39)
  d_common_divisor := c.def_ 5 (d := dd_common_divisor) rfl
  g_common_divisor := He.glo_ok X G (c.fact 40)
  k_common_divisor := He.keep_ok (c.fact 41)
  d_Ratio_init := c.def_ 6 (d := dd_Ratio_init) rfl
  m_Ratio_init := He.meth_ok (c.fact 42)
  d_Ratio_sign := c.def_ 7 (d := dd_Ratio_sign) rfl
  p_Ratio_sign := Z.prop_ok (c.fact 43)
  d_Ratio_is_below := c.def_ 8 (d := dd_Ratio_is_below) rfl
  m_Ratio_is_below := He.meth_ok (c.fact 44)
  d_Ratio_add := c.def_ 9 (d := dd_Ratio_add) rfl
  m_Ratio_add := He.meth_ok (c.fact 45)
  o_Ratio_add := ⟨c.fact 46, (He.meth_ok (c.fact 45)).at_, (He.meth_ok (c.fact 45)).fn, ⟨_, (He.meth_ok (c.fact 47)).at_, .inr ⟨_, rfl⟩⟩⟩
  r_Ratio_add := c.fact 48
  d_Ratio_sub := c.def_ 10 (d := dd_Ratio_sub) rfl
  m_Ratio_sub := He.meth_ok (c.fact 49)
  o_Ratio_sub := ⟨c.fact 46, (He.meth_ok (c.fact 49)).at_, (He.meth_ok (c.fact 49)).fn, ⟨_, (He.meth_ok (c.fact 50)).at_, .inr ⟨_, rfl⟩⟩⟩
  r_Ratio_sub := c.fact 51
  d_Ratio_neg := c.def_ 11 (d := dd_Ratio_neg) rfl
  m_Ratio_neg := He.meth_ok (c.fact 52)
  a_Ratio_neg := (He.meth_ok (c.fact 52)).at_
  i_Ratio_neg := (He.meth_ok (c.fact 52)).fn
  d_Ratio_eq := c.def_ 12 (d := dd_Ratio_eq) rfl
  m_Ratio_eq := He.meth_ok (c.fact 53)
  a_Ratio_eq := (He.meth_ok (c.fact 53)).at_
  i_Ratio_eq := (He.meth_ok (c.fact 53)).fn
  eq_Ratio := Z.eqc_ok (He.meth_ok (c.fact 53)).at_ (He.meth_ok (c.fact 53)).fn (of_decide_eq_true (c.fact 54)) (c.fact 55)
  d_Ratio_repr := c.def_ 13 (d := dd_Ratio_repr) rfl
  m_Ratio_repr := He.meth_ok (c.fact 56)
  a_Ratio_repr := (He.meth_ok (c.fact 56)).at_
  i_Ratio_repr := (He.meth_ok (c.fact 56)).fn
  d_is_place := c.def_ 14 (d := dd_is_place) rfl
  g_is_place := He.glo_ok X G (c.fact 57)
  k_is_place := He.keep_ok (c.fact 58)
  d_filled := c.def_ 15 (d := dd_filled) rfl
  g_filled := He.glo_ok X G (c.fact 59)
  k_filled := He.keep_ok (c.fact 60)
  d_is_right_at := c.def_ 16 (d := dd_is_right_at) rfl
  g_is_right_at := He.glo_ok X G (c.fact 61)
  k_is_right_at := He.keep_ok (c.fact 62)
  d_want_few := c.def_ 17 (d := dd_want_few) rfl
  g_want_few := He.glo_ok X G (c.fact 63)
  k_want_few := He.keep_ok (c.fact 64)
  d_Table_init := c.def_ 18 (d := dd_Table_init) rfl
  m_Table_init := He.meth_ok (c.fact 65)
  d_Table_of_steps := c.def_ 19 (d := dd_Table_of_steps) rfl
  cm_Table_of_steps := He5.cmet_of (c.fact 66) (c.fact 67)
  d_Table_first_places := c.def_ 20 (d := dd_Table_first_places) rfl
  cm_Table_first_places := He5.cmet_of (c.fact 68) (c.fact 69)
  d_Table_steep := c.def_ 21 (d := dd_Table_steep) rfl
  cm_Table_steep := He5.cmet_of (c.fact 70) (c.fact 71)
  d_Table_paid := c.def_ 22 (d := dd_Table_paid) rfl
  p_Table_paid := Z.prop_ok (c.fact 72)
  d_Table_points := c.def_ 23 (d := dd_Table_points) rfl
  m_Table_points := He.meth_ok (c.fact 73)
  d_Table_steps := c.def_ 24 (d := dd_Table_steps) rfl
  m_Table_steps := He.meth_ok (c.fact 74)
  d_Table_getitem := c.def_ 25 (d := dd_Table_getitem) rfl
  m_Table_getitem := He.meth_ok (c.fact 75)
  a_Table_getitem := (He.meth_ok (c.fact 75)).at_
  i_Table_getitem := (He.meth_ok (c.fact 75)).fn
  fi_Table_getitem := c.fact 76
  d_Table_eq := c.def_ 26 (d := dd_Table_eq) rfl
  m_Table_eq := He.meth_ok (c.fact 77)
  a_Table_eq := (He.meth_ok (c.fact 77)).at_
  i_Table_eq := (He.meth_ok (c.fact 77)).fn
  eq_Table := Z.eqc_ok (He.meth_ok (c.fact 77)).at_ (He.meth_ok (c.fact 77)).fn (of_decide_eq_true (c.fact 78)) (c.fact 79)
  d_Table_repr := c.def_ 27 (d := dd_Table_repr) rfl
  m_Table_repr := He.meth_ok (c.fact 80)
  a_Table_repr := (He.meth_ok (c.fact 80)).at_
  i_Table_repr := (He.meth_ok (c.fact 80)).fn
  d_law_pot := c.def_ 28 (d := dd_law_pot) rfl
  g_law_pot := He.glo_ok X G (c.fact 81)
  k_law_pot := He.keep_ok (c.fact 82)
  d_law_draw := c.def_ 29 (d := dd_law_draw) rfl
  g_law_draw := He.glo_ok X G (c.fact 83)
  k_law_draw := He.keep_ok (c.fact 84)
  d_law_pick := c.def_ 30 (d := dd_law_pick) rfl
  g_law_pick := He.glo_ok X G (c.fact 85)
  k_law_pick := He.keep_ok (c.fact 86)
  d_law_common := c.def_ 31 (d := dd_law_common) rfl
  g_law_common := He.glo_ok X G (c.fact 87)
  k_law_common := He.keep_ok (c.fact 88)
  d_law_low := c.def_ 32 (d := dd_law_low) rfl
  g_law_low := He.glo_ok X G (c.fact 89)
  k_law_low := He.keep_ok (c.fact 90)
  d_law_plus := c.def_ 33 (d := dd_law_plus) rfl
  g_law_plus := He.glo_ok X G (c.fact 91)
  k_law_plus := He.keep_ok (c.fact 92)
  d_law_minus := c.def_ 34 (d := dd_law_minus) rfl
  g_law_minus := He.glo_ok X G (c.fact 93)
  k_law_minus := He.keep_ok (c.fact 94)
  d_law_steps := c.def_ 35 (d := dd_law_steps) rfl
  g_law_steps := He.glo_ok X G (c.fact 95)
  k_law_steps := He.keep_ok (c.fact 96)
  d_law_points := c.def_ 36 (d := dd_law_points) rfl
  g_law_points := He.glo_ok X G (c.fact 97)
  k_law_points := He.keep_ok (c.fact 98)
  d_law_number := c.def_ 37 (d := dd_law_number) rfl
  g_law_number := He.glo_ok X G (c.fact 99)
  k_law_number := He.keep_ok (c.fact 100)
  d_law_paid := c.def_ 38 (d := dd_law_paid) rfl
  g_law_paid := He.glo_ok X G (c.fact 101)
  k_law_paid := He.keep_ok (c.fact 102)
  d_law_shown := c.def_ 39 (d := dd_law_shown) rfl
  g_law_shown := He.glo_ok X G (c.fact 103)
  k_law_shown := He.keep_ok (c.fact 104)
  d_law_is := c.def_ 40 (d := dd_law_is) rfl
  g_law_is := He.glo_ok X G (c.fact 105)
  k_law_is := He.keep_ok (c.fact 106)
  d_law_by_points := c.def_ 41 (d := dd_law_by_points) rfl
  g_law_by_points := He.glo_ok X G (c.fact 107)
  k_law_by_points := He.keep_ok (c.fact 108)
  d_law_by_steps := c.def_ 42 (d := dd_law_by_steps) rfl
  g_law_by_steps := He.glo_ok X G (c.fact 109)
  k_law_by_steps := He.keep_ok (c.fact 110)
  d_law_both := c.def_ 43 (d := dd_law_both) rfl
  g_law_both := He.glo_ok X G (c.fact 111)
  k_law_both := He.keep_ok (c.fact 112)
  d_law_equal_right := c.def_ 44 (d := dd_law_equal_right) rfl
  g_law_equal_right := He.glo_ok X G (c.fact 113)
  k_law_equal_right := He.keep_ok (c.fact 114)
  d_law_fixed_right := c.def_ 45 (d := dd_law_fixed_right) rfl
  g_law_fixed_right := He.glo_ok X G (c.fact 115)
  k_law_fixed_right := He.keep_ok (c.fact 116)
  d_law_right := c.def_ 46 (d := dd_law_right) rfl
  g_law_right := He.glo_ok X G (c.fact 117)
  k_law_right := He.keep_ok (c.fact 118)
  d_law := c.def_ 47 (d := dd_law) rfl
  g_law := He.glo_ok X G (c.fact 119)
  k_law := He.keep_ok (c.fact 120)
theorem law_ok {P : Program} {w : World} {K : PySem.W.Frag} {h : Heap} {mg : Str → Option Value} {f : Addr} (X : K.In h) (G : h.Ns mainGlobals mg) (hfa : mg ("law" : Str) = some (.ref f)) (c : Z.SaysZ exs fns K) :
    ∀ base : Heap, K.In base → base.Ns mainGlobals mg → Z.FnG P w K mg base 13 f (spLaw K) := by
  have T := txt_of X G c
  have e := hfa.symm.trans T.g_law
  cases e
  exact fun base _ _ => ok_law T
end A57
open PySem PySem.W PySem.Calls PyProof.Rows
theorem PySem.Challenge.cw_anypoints_k15_tables_told_holds : PySem.Challenge.rw_anypoints_k15_tables_told.Holds := by
  w_on; o_law
  refine HandSHeadRun.head_any (r := A57.RR) (q := view A57.RR.prog [46]) (H := A57.hk) (ob := A57.ob) (M := 6000) (loose := A57.names) (d := HandSHeadRun.topDef A57.RR.prog 46) (kwd := []) A57.ob_eq
    (by kernel_rfl) (fun s => by kernel_rfl) A57.run (by kernel_rfl) (by kernel_rfl) (by kernel_rfl) (by rfl) (by first | assumption | decide +kernel) (by decide +kernel) ⟨rfl, rfl, rfl, rfl, rfl, by decide +kernel⟩ ?hw ?hc
  case hw => w_witness2
  case hc =>
    refine Z.walk_g (l := PySem.Challenge.rw_anypoints_k15_tables_told) (n := 63) (k := 13) rfl (by decide) (by kernel_rfl) ⟨rfl, by decide, by decide⟩ ?F
    intro w mg fa h Y G hmg0
    obtain ⟨K, KX, c⟩ := Y
    have hmg : mg ("law" : PySem.Str) = some (.ref fa) := by
      have e : (HandSHeadRun.topDef A57.RR.prog 46).name = ("law" : PySem.Str) := by kernel_rfl
      rw [← e]
      exact hmg0
    exact ⟨K, A57.spLaw K, KX, fun H a ns hl hS => ⟨a, ns, rfl, hS, Nat.le_trans hl (by decide), fun _ => rfl⟩, A57.law_ok (P := (PySem.Challenge.rw_anypoints_k15_tables_told).prog) (w := w) KX G hmg c⟩
