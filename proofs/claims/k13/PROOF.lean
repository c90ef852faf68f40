import PyProof.Rows.All
import Wide.All
import OpenK.AllK
import Wide.FinOn
import KE.KStateDown
import HandS.ForMost
import HandS.ForExc
import HandS.Defaults
import HandS.Star
import HandS.ClsMeth
import HandS.Property
import HandS.MakeKw
import HandS.MakeKwOnly
import HandS.IsInst
import HandS.FStr
import HandS.Wide
import HandS.WideBits
import HandS.Style
import HandS.Flow
import HandS.Zip
import HandS.CallLocal
import HandS.Head0
import HandS.Head1
import HandS.Head2
import HandS.HeadEnd
import HandS.HeadHook1
import HandS.HeadHook2
import HandS.HeadNt
import KE.KCallOwn
import HandS.SlotsOwn
import KE.KOpsOwn
import HandS.Walk
import PySem.Challenge.RW_anypoints_k13_what_numbers_and_names_are
set_option Elab.async false
set_option linter.all false
set_option maxRecDepth 100000
set_option maxHeartbeats 4000000
namespace Z
open PySem PySem.W PySem.Calls PyProof.Rows He
def obsZ (ex : List (Frag → Bool)) (fn : List He5.DefA) (K : Frag) : He.AlD := ((ex.all fun f => f K) && fn.all fun d => d.ok K, fn.map fun d => He5.fnA K (d.at_ K))
def SaysZ (ex : List (Frag → Bool)) (fn : List He5.DefA) (K : Frag) : Prop := obsZ ex fn K = He5.valA fn
def obsZG (n : Nat) (ex : List (Frag → Bool)) (fn : List He5.DefA) (g : Addr → Option Obj) : He.AlD := obsZ ex fn (frG g (He5.asA g n))
def hookZ (n : Nat) (ex : List (Frag → Bool)) (fn : List He5.DefA) : PySem.W.Hook where
  α := He.AlD
  obs := fun s => obsZG n ex fn s.heap.get?
  val := fun _ => He5.valA fn
  says := fun _ h => ∃ K : Frag, K.In h ∧ SaysZ ex fn K
  of := fun _ _ e => ⟨_, frG_in, e⟩
  keeps := fun _ _ _ ⟨K, hK, c⟩ k => ⟨K, Frag.In.keeps hK k, c⟩
theorem obsZG_eq {n : Nat} {ex : List (Frag → Bool)} {fn : List He5.DefA} {g : Addr → Option Obj} {s : Shared} (h : ∀ a, g a = s.heap.get? a) : obsZG n ex fn g = (hookZ n ex fn).obs s := by
  have e : g = s.heap.get? := funext h
  rw [e] <;> rfl
section
variable {ex : List (Frag → Bool)} {fn : List He5.DefA} {K : Frag}
theorem SaysZ.fact (c : SaysZ ex fn K) (i : Nat) {f : Frag → Bool} (h : ex[i]? = some f := by rfl) : f K = true := by
  have c1 := (ba (show ((ex.all fun f => f K) && fn.all fun d => d.ok K) = true from congrArg (fun z : He.AlD => z.1) c)).1
  exact List.all_eq_true.mp c1 f (List.mem_of_getElem? h)
theorem SaysZ.def_ (c : SaysZ ex fn K) (i : Nat) {d : He5.DefA} (h : fn[i]? = some d := by rfl) : ∃ fd, L2.FunD K d.name d.qual d.params d.body d.scope (d.dvs K) (d.kws K) (d.at_ K) fd := by
  have c2 := (ba (show ((ex.all fun f => f K) && fn.all fun d => d.ok K) = true from congrArg (fun z : He.AlD => z.1) c)).2
  have e : fn.map (fun d => He5.fnA K (d.at_ K)) = fn.map He5.DefA.val := congrArg (fun z : He.AlD => z.2) c
  have e2 : (fn.map fun d => He5.fnA K (d.at_ K))[i]? = (fn.map He5.DefA.val)[i]? := by rw [e]
  rw [List.getElem?_map, List.getElem?_map, h] at e2
  exact He5.DefA.funD (Option.some.inj e2) (List.all_eq_true.mp c2 d (List.mem_of_getElem? h))
end
end Z

namespace Z
open PySem PySem.Spec PyProof.Rows L2
/-! ### defs to promises -/
/-- a promise that wants to know that no list is being shown -/
def FnG (P : Program) (w : World) (K : PySem.W.Frag) (mg : Str → Option Value) (base : Heap) (k : Nat) (f : Addr) (sp : Sp) : Prop :=
  ∀ (A : Around), Room k A → A.guards = some [] → ∀ (outer : List Env) (s : Shared) (H : Hp) (us : List Value) (vs : List V) (Q : VK) (E : XK), Env0 P w K mg base A outer s H → Vals vs us → sp vs H Q E →
    codeAny (model P w) A (.call (.ref f) ⟨us, []⟩) (CR (L2.CX P w) outer P w H s Q E) s
section
variable {P : Program} {w : World} {K : PySem.W.Frag} {mg : Str → Option Value} {base : Heap} {x qual : Str} {st : Stmt} {kws : List (Str × V)} {f : Addr} {fd : FuncData} {N ps : List Str} {k : Nat} {sp : Sp}
abbrev BodyOf (P : Program) (w : World) (K : PySem.W.Frag) (mg : Str → Option Value) (base : Heap) (N : List Str) (qual : Str) (st : Stmt) (f : Addr) (k : Nat) (sp : Sp) : Prop :=
  ∀ (cdv : Value) (A : Around) (outer : List Env) (s : Shared) (H : Hp) (vs : List V) (Q : VK) (E : XK), Room k (A.deeper (envOfC qual (defScope st) s.heap.objs.size f cdv)) → sp vs H Q E →
      ∃ t, PSs (cxOf (L2.CX P w) P w K mg base N qual (defScope st) f cdv A outer s H E) (defBody st) t ∧ t { nx := fun _ H' => Q .non H', rt := Q } (start N vs) H
abbrev BindsAll (x qual : Str) (st : Stmt) (ps : List Str) : Prop :=
  ∀ (kV doc pm : Value) (an : Option Addr) (cdv ct : Value) (us : List Value), us.length = ps.length → bindArgs (PySem.W.fnOf x qual (defArgs st) (defBody st) (defScope st) .none kV doc pm an cdv ct) ⟨us, []⟩ = pure (ps.zip us)
theorem fnr (F : FunD K x qual (defArgs st) (defBody st) (defScope st) [] kws f fd) (S : FnScope N ps (defScope st)) (hb : BindsAll x qual st ps) (len : ∀ vs H Q E, sp vs H Q E → vs.length = ps.length)
    (hbody : BodyOf P w K mg base N qual st f k sp) : FnR P w K mg base (L2.CX P w) (k + 1) f sp := by
  have G := (F.ok (CX := L2.CX P w) (k := k) S len hbody).raw (F.bindsN hb) .nil
  refine G.imp fun vs H Q E h => ?_
  show sp (vs ++ []) H Q E
  rw [List.append_nil]
  exact h
theorem fng (F : FunD K x qual (defArgs st) (defBody st) (defScope st) [] kws f fd) (S : FnScope N ps (defScope st)) (hb : BindsAll x qual st ps) (len : ∀ vs H Q E, sp vs H Q E → vs.length = ps.length)
    (hbody : ∀ (cdv : Value) (A : Around) (outer : List Env) (s : Shared) (H : Hp) (vs : List V) (Q : VK) (E : XK), Room k (A.deeper (envOfC qual (defScope st) s.heap.objs.size f cdv)) → A.guards = some [] → sp vs H Q E →
      ∃ t, PSs (cxOf (L2.CX P w) P w K mg base N qual (defScope st) f cdv A outer s H E) (defBody st) t ∧ t { nx := fun _ H' => Q .non H', rt := Q } (start N vs) H) : FnG P w K mg base (k + 1) f sp := by
  intro A hr hg outer s H us vs Q E e0 r h
  obtain ⟨oc, od, dV, kV, doc, pm, an, cdv, ct, osl, efd, lk, hcd, hD, _⟩ := F.ex
  have eD : dV = .none := by
    rcases hD with z | z
    · exact z.2
    · exact absurd rfl z.1
  subst eD
  subst efd
  have hl : us.length = ps.length := r.length.symm.trans (len _ _ _ _ h)
  refine StX.run_bnd (G := fun ws H2 => ws = vs ∧ H2 = H) lk hcd S hr e0 (fun A' Ex Q' hq => ?_) fun s2 H2 ws g hr2 => ?_
  · rw [hb kV doc pm an cdv ct us hl]
    exact wpAny_pure (hq s H vs us e0 Un.refl rfl (fun _ _ z => z) r (len _ _ _ _ h) ⟨rfl, rfl⟩)
  · obtain ⟨rfl, rfl⟩ := g
    exact hbody cdv A outer s2 H2 ws Q E hr2 hg h
end
section
variable {P : Program} {w : World} {K : PySem.W.Frag} {mg : Str → Option Value} {base : Heap} {x qual : Str} {st : Stmt} {kws : List (Str × V)} {f : Addr} {fd : FuncData} {N ps : List Str} {pv : Str} {k : Nat} {spb : Sp}
/-- def f(a, .., *v) -/
theorem fnstar (F : FunD K x qual (defArgs st) (defBody st) (defScope st) [] kws f fd) (S : FnScope N (ps ++ [pv]) (defScope st))
    (hb : ∀ (kV doc pm : Value) (an : Option Addr) (cdv ct : Value) (us rest : List Value), us.length = ps.length → bindArgs (PySem.W.fnOf x qual (defArgs st) (defBody st) (defScope st) .none kV doc pm an cdv ct) ⟨us ++ rest, []⟩ = (newTuple rest >>= fun t => pure (ps.zip us ++ [(pv, t)])))
    (hbody : BodyOf P w K mg base N qual st f k spb) :
    FnR P w K mg base (L2.CX P w) (k + 1) f (fun vs H Q E => ∃ ws rest, vs = ws ++ rest ∧ ws.length = ps.length ∧ rest.length ≤ sizeLine ∧ ∀ p, H p = Option.none → spb (ws ++ [V.ref p]) (upd H p (.tup rest)) Q E) := by
  obtain ⟨oc, od, dV, kV, doc, pm, an, cdv, ct, osl, efd, lk, hcd, hD, _⟩ := F.ex
  have eD : dV = .none := by
    rcases hD with z | z
    · exact z.2
    · exact absurd rfl z.1
  subst eD
  subst efd
  exact StX.fn_star lk hcd S StX.cxUp (hb kV doc pm an cdv ct) (hbody cdv)
end
/-! ### calls of such -/
section
variable {X : Cx} {k : Nat} {f : Addr} {sp : Sp} {E : XK} {x : Str} {p pos : Pos} {e : Expr} {es : List Expr} {t : TA} {CX : CXT}
def tCl (sp : Sp) (E : XK) (t : TA) : TE := fun σ H Q => t σ H fun vs H1 => sp vs H1 Q E
theorem run_g {pins : List (Addr × Obj)} {σ : L2.St} {H : Hp} {s : Shared} {Q : VK} {us : List Value} {vs : List V} (F : FnG X.prog X.w X.K X.mg X.base k f sp) (hr : Room k X.A) (hg : X.A.guards = some []) (hx : Passes (L2.CX X.prog X.w) X E)
    (I : Inv X pins σ H s) (r : Vals vs us) (h : sp vs H Q E) : wpAny (model X.prog X.w) X.A (call (.ref f) us) (EP X pins σ Q) X.xe s := by
  refine wpAny_call (codeAny_mono (F X.A hr hg X.stack s H us vs Q E I.env0 r h) fun res s' hq => ?_)
  match res, hq with
  | .error er, hq => exact hx pins σ H s er s' I hq
  | .ok (.ret u), hq => exact I.after hq
/-- f(e, ..) by either promise -/
theorem pe_cl (F : FnR X.prog X.w X.K X.mg X.base CX k f sp) (hr : Room k X.A) (hm : X.mg x = some (.ref f)) (hk : PySem.W.keepIn X.K (.ref f) = true) (hx : Passes CX X E) (ha : PA X (e :: es) t) (hg : Gl X x := by rfl)
    (hdb : (x == ("__debug__" : Str)) = false := by decide) (he : starEach (e :: es) X.env = (false, eval e X.env) :: starEach es X.env := by rfl) (hpl : (backTo pos (starEach es X.env)).any (·.1) = false := by rfl) :
    PE X (.Call (.Name x p) (e :: es) [] pos) (tCl sp E t) := by
  constructor
  intro pins s σ H Q I h
  refine wpAny_Call_Name_kw (ld_glob I hg hm (PySem.W.callWith_K (h₀ := X.base) I.ok.mod.kin hk (thn (ha.run pos pins s σ H _ I h) fun us s1 z => ?_) he hpl) hdb)
  obtain ⟨vs, H1, I1, r, q⟩ := z
  exact ⟨I1.kIn, wpAny_call (run_fnR F hr hx I1 r q)⟩
theorem pe_clG (F : FnG X.prog X.w X.K X.mg X.base k f sp) (hr : Room k X.A) (hgd : X.A.guards = some []) (hm : X.mg x = some (.ref f)) (hk : PySem.W.keepIn X.K (.ref f) = true) (hx : Passes (L2.CX X.prog X.w) X E) (ha : PA X (e :: es) t) (hg : Gl X x := by rfl)
    (hdb : (x == ("__debug__" : Str)) = false := by decide) (he : starEach (e :: es) X.env = (false, eval e X.env) :: starEach es X.env := by rfl) (hpl : (backTo pos (starEach es X.env)).any (·.1) = false := by rfl) :
    PE X (.Call (.Name x p) (e :: es) [] pos) (tCl sp E t) := by
  constructor
  intro pins s σ H Q I h
  refine wpAny_Call_Name_kw (ld_glob I hg hm (PySem.W.callWith_K (h₀ := X.base) I.ok.mod.kin hk (thn (ha.run pos pins s σ H _ I h) fun us s1 z => ?_) he hpl) hdb)
  obtain ⟨vs, H1, I1, r, q⟩ := z
  exact ⟨I1.kIn, run_g F hr hgd hx I1 r q⟩
end
end Z

namespace Z
open PySem PySem.Spec PyProof.Rows L2
open PySem.W (Frag Looks findIn subIn isFn selfFirst InstAt)
/-! ### own operators -/
/-- the class at C has the operator's def at f -/
structure OpC (K : Frag) (C : Addr) (nm : String) (f : Addr) : Prop where
  sf : selfFirst K C = true
  at_ : findIn K (.ref C) (PySem.dunder nm) = some (some (.ref f))
  fn : isFn K (.ref f) = true
  rf : ∃ rc, findIn K (.ref C) (dunderR nm) = some rc ∧ (rc = none ∨ ∃ g : Addr, rc = some (.ref g))
/-- the class at C has the reflected def at f -/
structure OpR' (K : Frag) (C : Addr) (nm : String) (f : Addr) : Prop where
  sf : selfFirst K C = true
  own : ∃ g : Addr, findIn K (.ref C) (PySem.dunder nm) = some (some (.ref g))
  at_ : findIn K (.ref C) (dunderR nm) = some (some (.ref f))
  fn : isFn K (.ref f) = true
  nint : subIn K (.ref C) (.type "int") = some false
section
variable {X : Cx} {pins : List (Addr × Obj)} {σ : L2.St} {H : Hp} {s : Shared}
theorem inst_at {a C dx : Addr} {fs : List (Str × V)} (I : Inv X pins σ H s) (h : H a = some (.ins C dx fs)) : ∃ od, InstAt s.heap a (PySem.W.instObj C dx) C (some od) := by
  obtain ⟨mA, O, _⟩ := ins_get I.hok h
  obtain ⟨od, J, _⟩ := O.look
  exact ⟨od, J⟩
theorem looks_ref {M : Model} {h : Heap} {a : Addr} {o : Obj} (e : h.get? a = some o) : Looks M h (typeOf (.ref a)) o.cls := by
  intro A Q E t k q
  exact wpAny_typeOf_ref (k a o e) q
/-- a value's type -/
theorem looks_ty {M : Model} {x : V} {u t : Value} (I : Inv X pins σ H s) (rx : RelV x u) (ty : TyX X.K H x t) : Looks M s.heap (typeOf u) t := by
  cases ty with
  | base b =>
    cases b with
    | non => cases (show u = Value.none from rx); exact Looks.of_pure rfl
    | bl y => cases (show u = Value.bool y from rx); exact Looks.of_pure rfl
    | int i => obtain ⟨tk, e⟩ := (show ∃ t, u = Value.int i t from rx); subst e; exact Looks.of_pure rfl
    | str y => obtain ⟨tk, e⟩ := (show ∃ t, u = Value.str y t from rx); subst e; exact Looks.of_pure rfl
    | flt y => obtain ⟨tk, e⟩ := (show ∃ t, u = Value.float y t from rx); subst e; exact Looks.of_pure rfl
    | @lst a xs ea =>
      cases (show u = Value.ref a from rx)
      have z := I.hok a _ ea
      obtain ⟨_, _, n, _, h1⟩ := z
      exact looks_ref h1
    | @frz a ob xs ea =>
      cases (show u = Value.ref a from rx)
      have z := I.hok a _ ea
      obtain ⟨_, _, _, n, _, h1⟩ := z
      exact looks_ref h1
    | @tup a xs ea =>
      cases (show u = Value.ref a from rx)
      have z := I.hok a _ ea
      obtain ⟨_, _, _, o, h1, h2, _⟩ := z
      exact h2 ▸ looks_ref h1
    | @dK a kvs ea =>
      cases (show u = Value.ref a from rx)
      have z := I.hok a _ ea
      obtain ⟨_, _, vs, _, o, es, ep, h1, h2, _⟩ := z
      exact h2.1 ▸ looks_ref h1
    | @dT a kvs ea =>
      cases (show u = Value.ref a from rx)
      have z := I.hok a _ ea
      obtain ⟨_, _, vs, _, o, es, ep, h1, h2, _⟩ := z
      exact h2.1 ▸ looks_ref h1
    | @ins a C dx fs ea =>
      cases (show u = Value.ref a from rx)
      obtain ⟨od, J⟩ := inst_at I ea
      exact J.type
  | byt y => obtain ⟨tk, e⟩ := (show ∃ t, u = Value.bytes y t from rx); subst e; exact Looks.of_pure rfl
  | @set a S n ea =>
    cases (show u = Value.ref a from rx)
    have z := I.hok a _ ea
    obtain ⟨o, _, _, _, e, ex, _⟩ := z
    exact ex.1 ▸ looks_ref e
  | @kList a o e c => cases (show u = Value.ref a from rx); exact c ▸ looks_ref (I.kIn a o e)
  | @kTuple a o e c => cases (show u = Value.ref a from rx); exact c ▸ looks_ref (I.kIn a o e)
  | @kDict a o e c => cases (show u = Value.ref a from rx); exact c ▸ looks_ref (I.kIn a o e)
  | @fTuple a ob xs ea =>
    cases (show u = Value.ref a from rx)
    have z := I.hok a _ ea
    obtain ⟨_, _, _, _, o, h1, h2, _⟩ := z
    exact h2 ▸ looks_ref h1
  | @fDict a ob kvs ea =>
    cases (show u = Value.ref a from rx)
    have z := I.hok a _ ea
    obtain ⟨_, _, _, vs, _, o, es, ep, h1, h2, _⟩ := z
    exact h2.1 ▸ looks_ref h1
end
section
variable {prog : Program} {w : World} {A : Around} {E : Value → Shared → Prop} {s : Shared} {K : Frag} {x C f : Addr} {ox : Obj} {od : Option Obj}
/-- an instance on the left, anything of a built-in type on the right -/
theorem own_left {op : Operator} {b : Value} {T : String} {fo ro : Option Value} {Q : Value → Shared → Prop} (X : K.In s.heap) (I : InstAt s.heap x ox C od) (c : OpC K C op.info.2 f) (hb : Looks (model prog w) s.heap (typeOf b) (.type T))
    (h1 : findIn K (.type T) (PySem.dunder op.info.2) = some fo) (h2 : findIn K (.type T) (dunderR op.info.2) = some ro) (h3 : subIn K (.type T) (.ref C) = some false)
    (h : wpAny (model prog w) A (call (.ref f) [.ref x, b]) (PySem.W.CmpBack Q) E s) : wpAny (model prog w) A (binaryOp op (.ref x) b) Q E s := by
  obtain ⟨cd, rest, hcd, hm⟩ := PySem.W.ksp_first c.sf
  obtain ⟨rc, hr, hp⟩ := c.rf
  have hat := c.at_
  have hfn := c.fn
  generalize hi : op.info = pr at *
  obtain ⟨sym, nm⟩ := pr
  have go := PySem.W.ksp_try X I hat hfn h
  obtain ⟨hh, gs, dr, tk, os⟩ := s
  have L1 : Looks (model prog w) hh (typeOf (.ref x)) (.ref C) := I.type
  have L2 : Looks (model prog w) hh (typeOf b) (.type T) := hb
  have L3 : Looks (model prog w) hh (fillsNumberSlot (.ref C) nm) true := PySem.W.fills_K X hcd hm hat
  have L4 : Looks (model prog w) hh (fillsNumberSlot (.type T) nm) ((fo.isSome && !isSeqSlot fo) || (ro.isSome && !isSeqSlot ro)) := PySem.W.ksp_fillsT X h1 h2
  have L5 : Looks (model prog w) hh (isSubtype (.type T) (.ref C)) false := PySem.W.looks_subIn X h3
  have L6 : Looks (model prog w) hh (numberSlotInPython (.ref C) nm) true := PySem.W.ksp_inPy X hat hr hp
  have L7 : Looks (model prog w) hh (numberSlotInPython (.type T) nm) false := Looks.of_pure rfl
  have L8 : Looks (model prog w) hh (typeLookup (.type T) (dunderR nm)) ro := PySem.W.looks_findIn X h2
  have two : (Value.ref C == Value.type T) = false := by
    cases e : (Value.ref C == Value.type T) with
    | false => rfl
    | true => exact nomatch (beq_iff_eq.mp e)
  generalize ((fo.isSome && !isSeqSlot fo) || (ro.isSome && !isSeqSlot ro)) = rb at L4
  simp only [binaryOp, hi]
  refine wpAny_holding (wpAny_bind ?_)
  unfold binaryOp1
  refine wpAny_bind (L1.at (wpAny_bind (L2.at (wpAny_bind (L3.at ?_)))))
  simp only [two, Bool.false_eq_true, if_false]
  cases rb
  all_goals
    ksp_lk
    refine wpAny_mono go (fun r s' z => ?_) fun _ _ z => z
    obtain ⟨v, er, q⟩ := z
    subst er
    ksp_lk
    exact q
theorem fills_R {M : Model} {h : Heap} {nm : String} {cd : ClassData} {rest : List Value} {g : Addr} (X : K.In h) (hc : PySem.W.clsIn K C = some cd) (hm : cd.mro = .ref C :: rest) (hs : findIn K (.ref C) (PySem.dunder nm) = some (some (.ref g))) : Looks M h (fillsNumberSlot (.ref C) nm) true := PySem.W.fills_K X hc hm hs
/-- int's own slot declines an instance -/
theorem int_declines {g : Int → Int → Sem PySem.Fin} {nm : String} {i : Int} {t : Tok} {Q : PySem.Fin → Shared → Prop} {o : Obj} (ho : s.heap.get? x = some o) (hd : o.data = .plain)
    (h : Q (.done (.ret .notImplemented)) s) : wpAny (model prog w) A (Builtin.Int.intBinary nm g false ⟨[.int i t, .ref x], []⟩) Q E s := by
  show wpAny _ _ (do
    let some y ← asInt? (.ref x) | rule "int.binary.not-an-int"; ret .notImplemented
    if false then g y i else g i y) _ _ _
  refine wpAny_bind ?_
  unfold asInt?
  refine wpAny_bind (wpAny_load ho ?_)
  simp only [hd]
  refine wpAny_pure ?_
  exact wpAny_bind (wpAny_rule (wpAny_pure h))
/-- what of the int's slot is asked -/
structure IntSlot (nm : String) (idl : String) : Prop where
  sl : Slot "int" (PySem.dunder nm) idl
  ent : ∃ (b : String) (g : Int → Int → Sem PySem.Fin), entryFor table idl = some (Builtin.Int.intBinary b g false)
  arg : ∀ a b, argsOk idl ⟨[a, b], []⟩
  fl : fillsNumberSlot (.type "int") nm = pure true
theorem is_add : IntSlot "add" "int.__add__" := ⟨PySem.F.slot_int_add, ⟨_, _, PySem.F.entry_int_add⟩, PySem.F.args_int_add_2, PySem.F.fills_int_add⟩
theorem is_sub : IntSlot "sub" "int.__sub__" := ⟨PySem.F.slot_int_sub, ⟨_, _, PySem.F.entry_int_sub⟩, PySem.F.args_int_sub_2, PySem.F.fills_int_sub⟩
theorem is_mul : IntSlot "mul" "int.__mul__" := ⟨PySem.F.slot_int_mul, ⟨_, _, PySem.F.entry_int_mul⟩, PySem.F.args_int_mul_2, PySem.F.fills_int_mul⟩
/-- an int on the left, an instance on the right -/
theorem own_right {op : Operator} {i : Int} {t : Tok} {idl : String} {Q : Value → Shared → Prop} (X : K.In s.heap) (I : InstAt s.heap x ox C od) (hpl : ox.data = .plain) (c : OpR' K C op.info.2 f) (sl : IntSlot op.info.2 idl)
    (h : wpAny (model prog w) A (call (.ref f) [.ref x, .int i t]) (PySem.W.CmpBack Q) E s) : wpAny (model prog w) A (binaryOp op (.int i t) (.ref x)) Q E s := by
  obtain ⟨cd, rest, hcd, hm⟩ := PySem.W.ksp_first c.sf
  obtain ⟨g, hg⟩ := c.own
  obtain ⟨bn, bf, hent⟩ := sl.ent
  have hat := c.at_
  have hfn := c.fn
  have hsl := sl.sl
  have hfl := sl.fl
  have hni := c.nint
  generalize hi : op.info = pr at *
  obtain ⟨sym, nm⟩ := pr
  have go := PySem.W.ksp_try X I hat hfn h
  have dec : wpAny (model prog w) A (tryMethod (.int i t) (PySem.dunder nm) (.ref x)) (fun r s' => r = none ∧ s' = s) E s :=
    wpAny_tryMethod_declines (typeIs_int s i t) hsl (wpAny_call_entry hsl (typeIs_int s i t) hent (int_declines I.at_ hpl ⟨_, rfl, rfl, rfl, rfl⟩) (sl.arg _ _))
  obtain ⟨hh, gs, dr, tk, os⟩ := s
  have L1 : Looks (model prog w) hh (typeOf (.int i t)) (.type "int") := Looks.of_pure rfl
  have L2 : Looks (model prog w) hh (typeOf (.ref x)) (.ref C) := I.type
  have L3 : Looks (model prog w) hh (fillsNumberSlot (.type "int") nm) true := Looks.of_pure hfl
  have L4 : Looks (model prog w) hh (fillsNumberSlot (.ref C) nm) true := PySem.W.fills_K X hcd hm hg
  have L5 : Looks (model prog w) hh (isSubtype (.ref C) (.type "int")) false := PySem.W.looks_subIn X hni
  have L6 : Looks (model prog w) hh (numberSlotInPython (.type "int") nm) false := Looks.of_pure rfl
  have two : (Value.type "int" == Value.ref C) = false := by
    cases e : (Value.type "int" == Value.ref C) with
    | false => rfl
    | true => exact nomatch (beq_iff_eq.mp e)
  simp only [binaryOp, hi]
  refine wpAny_holding (wpAny_bind ?_)
  unfold binaryOp1
  refine wpAny_bind (L1.at (wpAny_bind (L2.at (wpAny_bind (L3.at ?_)))))
  simp only [two, Bool.false_eq_true, if_false]
  ksp_lk
  refine wpAny_mono dec (fun r s' z => ?_) fun _ _ z => z
  obtain ⟨er, es⟩ := z
  subst er
  subst es
  ksp_lk
  refine wpAny_mono go (fun r s' z => ?_) fun _ _ z => z
  obtain ⟨v, er, q⟩ := z
  subst er
  ksp_lk
  exact q
end
/-! ### the same over the layer -/
section
variable {X : Cx} {k : Nat} {f C : Addr} {sp : Sp} {E : XK} {op : Operator} {CX : CXT}
/-- what may stand on the right -/
def RightOk (K : Frag) (C : Addr) (nm : String) (H : Hp) (y : V) : Prop :=
  (∃ b dy gs, y = .ref b ∧ H b = some (.ins C dy gs)) ∨ ∃ (T : String) (fo ro : Option Value), TyX K H y (.type T) ∧ findIn K (.type T) (PySem.dunder nm) = some fo ∧ findIn K (.type T) (dunderR nm) = some ro ∧ subIn K (.type T) (.ref C) = some false
def rOwnL (K : Frag) (C : Addr) (nm : String) (sp : Sp) (E : XK) : R2 := fun x y H Q => ∃ a dx fs, x = .ref a ∧ H a = some (.ins C dx fs) ∧ RightOk K C nm H y ∧ sp [x, y] H Q E
theorem op_ownL (c : OpC X.K C op.info.2 f) (F : FnR X.prog X.w X.K X.mg X.base CX k f sp) (hr : Room k X.A) (hx : Passes CX X E) : OpR X (binaryOp op) (rOwnL X.K C op.info.2 sp E) := by
  intro pins s σ H x y v u Q I rx ry h
  obtain ⟨a, dx, fs, rfl, ha, ry2, q⟩ := h
  cases (show v = Value.ref a from rx)
  obtain ⟨od, J⟩ := inst_at I ha
  have go : wpAny (model X.prog X.w) X.A (call (.ref f) [.ref a, u]) (PySem.W.CmpBack (EP X pins σ Q)) X.xe s :=
    wpAny_mono (wpAny_call (run_fnR (us := [.ref a, u]) (vs := [.ref a, y]) F hr hx I (.cons rfl (.cons ry .nil)) q)) (fun z s' hz => by
      have hz2 := hz
      obtain ⟨zv, H', I', rz, qz⟩ := hz2
      exact SlX.cmpback rz hz) fun _ _ z => z
  rcases ry2 with ⟨b, dy, gs, rfl, hb⟩ | ⟨T, fo, ro, ty, h1, h2, h3⟩
  · cases (show u = Value.ref b from ry)
    obtain ⟨od2, J2⟩ := inst_at I hb
    obtain ⟨m, hF⟩ := I.fr
    exact PySem.W.binop_K hF I.ok.mod.kin J J2.type c.sf c.at_ c.fn go
  · exact own_left I.kIn J c (looks_ty I ry ty) h1 h2 h3 go
def rOwnR (C : Addr) (sp : Sp) (E : XK) : R2 := fun x y H Q => ∃ i b dx fs, x = .int i ∧ y = .ref b ∧ H b = some (.ins C dx fs) ∧ sp [y, x] H Q E
theorem op_ownR {idl : String} (c : OpR' X.K C op.info.2 f) (sl : IntSlot op.info.2 idl) (F : FnR X.prog X.w X.K X.mg X.base CX k f sp) (hr : Room k X.A) (hx : Passes CX X E) : OpR X (binaryOp op) (rOwnR C sp E) := by
  intro pins s σ H x y v u Q I rx ry h
  obtain ⟨i, b, dx, fs, rfl, rfl, hb, q⟩ := h
  cases (show u = Value.ref b from ry)
  have rx2 := rx
  obtain ⟨t, rfl⟩ := rx2
  obtain ⟨od, J⟩ := inst_at I hb
  refine own_right I.kIn J rfl c sl (wpAny_mono (wpAny_call (run_fnR (us := [.ref b, .int i t]) (vs := [.ref b, .int i]) F hr hx I (.cons rfl (.cons rx .nil)) q)) (fun z s' hz => ?_) fun _ _ z => z)
  have hz2 := hz
  obtain ⟨zv, H', I', rz, qz⟩ := hz2
  exact SlX.cmpback rz hz
/-- - in front -/
def rNeg (C : Addr) (sp : Sp) (E : XK) : V → Hp → VK → Prop := fun x H Q => ∃ a dx fs, x = .ref a ∧ H a = some (.ins C dx fs) ∧ sp [x] H Q E
theorem un_own (h1 : findIn X.K (.ref C) "__neg__" = some (some (.ref f))) (h2 : isFn X.K (.ref f) = true) (F : FnR X.prog X.w X.K X.mg X.base CX k f sp) (hr : Room k X.A) (hx : Passes CX X E) : UnR X (unaryOp .USub) (rNeg C sp E) := by
  intro pins s σ H x v Q I rx h
  obtain ⟨a, dx, fs, rfl, ha, q⟩ := h
  cases (show v = Value.ref a from rx)
  obtain ⟨od, J⟩ := inst_at I ha
  obtain ⟨m, hF⟩ := I.fr
  exact PySem.W.ksp_neg hF I.ok.mod.kin J h1 h2 (wpAny_call (run_fnR (us := [.ref a]) (vs := [.ref a]) F hr hx I (.cons rfl .nil) q))
end
end Z

namespace Z
open PySem PySem.Spec PyProof.Rows L2
open PySem.W (Frag Looks findIn subIn isFn selfFirst InstAt)
/-! ### a property's record -/
def propB (K : Frag) (C : Addr) (m : Str) : Bool := He.eqO (findIn K (.ref C) m) (some (some (.ref (He.ma K C m)))) && (decide (PySem.W.specialIn K (.ref (He.ma K C m)) "__get__" = some (some (.builtin "property.__get__"))) &&
  (decide (PySem.W.takesIn K (.ref (He.ma K C m)) = some true) && (match PySem.W.recIn K (He.ma K C m) "property" with
    | some (.ref _ :: _) => true
    | _ => false)))
theorem prop_ok {K : Frag} {C : Addr} {m : Str} (h : propB K C m = true) : PropOf K C m (He.ma K C m) (He5.wf K C "property" m) := by
  obtain ⟨h1, h⟩ := He.ba h
  obtain ⟨h2, h⟩ := He.ba h
  obtain ⟨h3, h4⟩ := He.ba h
  refine ⟨He.eqO_ok h1, of_decide_eq_true h2, of_decide_eq_true h3, ?_⟩
  unfold He5.wf
  split at h4
  · rename_i f r e
    rw [e]
    exact ⟨r, rfl⟩
  · cases h4
/-! ### below a body: one frame of the machine's own more -/
section
variable {X : Cx} {k : Nat} {f C p : Addr} {sp : Sp} {E : XK} {CX : CXT} {pins : List (Addr × Obj)} {σ : L2.St} {H : Hp} {s : Shared}
theorem run_in {A : Around} {Q : VK} {us : List Value} {ws : List V} (F : FnR X.prog X.w X.K X.mg X.base CX k f sp) (hr : Room k A) (e0 : Env0 X.prog X.w X.K X.mg X.base A X.stack s H) (hx : Passes CX X E) (I : Inv X pins σ H s) (r : Vals ws us)
    (h : sp ws H Q E) : wpAny (model X.prog X.w) A (call (.ref f) us) (EP X pins σ Q) X.xe s := wpAny_call (SlX.run_at F hr e0 hx I r h)
theorem room1 {A : Around} (hr : Room (k + 1) A) : Room k A.in1 := Room.in1 hr
/-- str(o), o an instance -/
def rStrO (C : Addr) (sp : Sp) (E : XK) : List V → Hp → VK → Prop := fun xs H Q => ∃ a dx fs, xs = [V.ref a] ∧ H a = some (.ins C dx fs) ∧ sp [.ref a] H (fun z H' => ∃ y, z = .str y ∧ Q z H') E
theorem strback {Q : VK} {v : Value} {s' : Shared} (h : EP X pins σ (fun z H' => ∃ y, z = .str y ∧ Q z H') v s') : PySem.W.StrBack (EP X pins σ Q) v s' := by
  obtain ⟨z, H', I', rz, y, ey, q⟩ := h
  subst ey
  have rz2 := rz
  obtain ⟨t, et⟩ := rz2
  subst et
  exact ⟨_, H', I', rz, q⟩
theorem call_strO (h1 : findIn X.K (.ref C) "__str__" = some (some (.ref f))) (h2 : isFn X.K (.ref f) = true) (F : FnR X.prog X.w X.K X.mg X.base CX k f sp) (hr : Room (k + 2) X.A) (hx : Passes CX X E) : CallR X (.type "str") (rStrO C sp E) := by
  intro pins s σ H xs us Q I r h
  obtain ⟨a, dx, fs, rfl, ha, q⟩ := h
  obtain ⟨u, rfl, ru⟩ := vals1 r
  cases (show u = Value.ref a from ru)
  obtain ⟨od, J⟩ := inst_at I ha
  have hr2 := room1 (room1 hr)
  refine PySem.W.kso_call hr2.units0 I.kIn J h1 h2 (wpAny_mono (run_in (us := [.ref a]) (ws := [.ref a]) F hr2 I.env0.in1.in1 hx I (.cons rfl .nil) q) (fun z s' hz => strback hz) fun _ _ z => z)
/-- repr(o) -/
theorem call_reprO (h1 : findIn X.K (.ref C) "__repr__" = some (some (.ref f))) (h2 : isFn X.K (.ref f) = true) (F : FnR X.prog X.w X.K X.mg X.base CX k f sp) (hr : Room (k + 1) X.A) (hx : Passes CX X E) : CallR X (.builtin "repr") (rStrO C sp E) := by
  intro pins s σ H xs us Q I r h
  obtain ⟨a, dx, fs, rfl, ha, q⟩ := h
  obtain ⟨u, rfl, ru⟩ := vals1 r
  cases (show u = Value.ref a from ru)
  obtain ⟨od, J⟩ := inst_at I ha
  obtain ⟨m, hF⟩ := I.fr
  have hr2 := room1 hr
  exact PySem.W.repr_K hr2.units0 hF I.ok.mod.kin J h1 h2 (wpAny_mono (run_in (us := [.ref a]) (ws := [.ref a]) F hr2 I.env0.in1 hx I (.cons rfl .nil) q) (fun z s' hz => strback hz) fun _ _ z => z)
/-- repr of data -/
def rReprD (K : Frag) : List V → Hp → VK → Prop := fun xs H Q => ∃ a d, xs = [V.ref a] ∧ Dp K H (.ref a) d ∧ d.showable = true ∧ d.depth ≤ 60 ∧ d.shown.length ≤ sizeLine ∧ Q (.str d.shown) H
mutual
theorem noDict : ∀ {K : Frag} {H : Hp} {v : V} (d : PyData), Dp K H v d → d.hasDict = false
  | _, _, _, .none, _ => rfl
  | _, _, _, .bool _, _ => rfl
  | _, _, _, .int _, _ => rfl
  | _, _, _, .str _, _ => rfl
  | _, _, _, .list ds, .lst _ h => by
    show PyData.hasDictAll ds = false
    exact noDictAll ds h
  | _, _, _, .tuple ds, .tup _ h => by
    show PyData.hasDictAll ds = false
    exact noDictAll ds h
theorem noDictAll : ∀ {K : Frag} {H : Hp} {vs : List V} (ds : List PyData), DpAll K H vs ds → PyData.hasDictAll ds = false
  | _, _, _, [], _ => rfl
  | _, _, _, d :: ds, .cons h1 h2 => by
    show (d.hasDict || PyData.hasDictAll ds) = false
    rw [noDict d h1, noDictAll ds h2] <;> rfl
end
theorem call_reprD (hg : X.A.guards = some []) (hu : X.A.units + 64 < cLine) : CallR X (.builtin "repr") (rReprD X.K) := by
  intro pins s σ H xs us Q I r h
  obtain ⟨a, d, rfl, hd, hs, hp, hz, q⟩ := h
  obtain ⟨u, rfl, ru⟩ := vals1 r
  cases (show u = Value.ref a from ru)
  obtain ⟨as, rd⟩ := Dp.reads I d _ _ hd ru
  refine repr_of_reads' rd hs (PyData.noDict_hsm (noDict d hd)) hg (by omega) (fun b o e => e) (fun h' t tk kp => ?_) hz
  exact ⟨.str d.shown, H, I.kept kp, ⟨t, rfl⟩, q⟩
/-- e.f, a property, by a positional promise -/
def tPropR (C : Addr) (sp : Sp) (E : XK) (ta : TE) : TE := fun σ H Q => ta σ H fun x H1 => ∃ a dx fs, x = .ref a ∧ H1 a = some (.ins C dx fs) ∧ sp [.ref a] H1 Q E
theorem pe_propR {e : Expr} {nm : Str} {pos : Pos} {ta : TE} (he : PE X e ta) (c : Cls X.K C) (hp : PropOf X.K C nm p f) (F : FnR X.prog X.w X.K X.mg X.base (L2.CX X.prog X.w) k f sp) (hr : Room (k + 1) X.A)
    (hab : attributeBase e nm X.env (eval e X.env) = eval e X.env := by rfl) : PE X (.Attribute e nm pos) (tPropR C sp E0 ta) := by
  constructor
  intro pins s σ H Q I h
  refine attr_of hab (thn (he.run pins s σ H _ I h) fun u s1 z => ?_)
  obtain ⟨x, H1, I1, rx, a, dx, fs, ex, ea, q⟩ := z
  subst ex
  cases (show u = Value.ref a from rx)
  obtain ⟨od, J⟩ := inst_at I1 ea
  obtain ⟨rest, hrec⟩ := hp.rec_
  have hc : (PySem.W.clsIn X.K C).isSome = true := by
    obtain ⟨cd, e1, _⟩ := PySem.W.any_some c.hd
    simp [e1]
  have I2 := I1.tok (s1.toks + 1)
  refine PySem.W.get_bind I1.kIn J (PySem.W.plainGet_of (c.get nm)).1 (PySem.W.findObj_data hc hp.at_ hp.get hp.tak) (PySem.W.plainGet_of (c.get nm)).2 (wpAny_call ?_)
  refine PySem.W.prop_get (s := { s1 with toks := s1.toks + 1 }) I1.kIn hrec (codeAny_mono (F X.A.in1 X.stack { s1 with toks := s1.toks + 1 } H1 [.ref a] [.ref a] Q E0 (room1 hr) I2.env0.in1 (.cons rfl .nil) q) fun res s' hq => ?_)
  match res, hq with
  | .error er, hq => exact False.elim (passL (X := X.nox) pins σ H1 _ er s' (I2.wish _) hq)
  | .ok (.ret w), hq =>
    have z := I2.after hq
    obtain ⟨v, H', I3, rv, q3⟩ := z
    show wpAny _ _ (handedOut w) _ _ _
    rw [PySem.W.handedOut_of (handed_of rv)]
    exact wpAny_pure ⟨v, H', I3, rv, q3⟩
/-- o.m() and o.m(e, ..) by a positional promise: pe_methR; without arguments -/
theorem pe_methR0 {o : Expr} {m : Str} {ta : TE} {apos pos : Pos} {pl : Sem Bool} (he : PE X o ta) (c : Cls X.K C) (hm : Meth X.K C m f) (F : FnR X.prog X.w X.K X.mg X.base CX k f sp) (hr : Room k X.A) (hx : Passes CX X E)
    (ht : eval (.Call (.Attribute o m apos) [] [] pos) X.env = (do
      let ov ← eval o X.env
      standAt apos.atName
      let (f, first) ← holding [ov] (getMethod ov m pl)
      callWith pos f first (backTo pos (starEach [] X.env)) (backToKw pos (keywordEach [] X.env))) := by rfl) :
    PE X (.Call (.Attribute o m apos) [] [] pos) (tMethR C m sp E ta tNil) := by
  constructor
  intro pins s σ H Q I h
  refine PySem.W.methodCall_KW (pl := pl) (thn (he.run pins s σ H _ I h) fun u s1 z => ?_) ht
  obtain ⟨x, H1, I1, rx, a, dx, fs, ex, ea, l, q⟩ := z
  subst ex
  cases (show u = Value.ref a from rx)
  exact getmeth_ok I1 ea c hm l (PySem.W.callWith_K0 (first := [.ref a]) I1.kIn hm.kp (wpAny_call (run_fnR (us := [.ref a]) (vs := [.ref a]) F hr hx I1 (.cons rfl .nil) q)))
/-! ### keywords -/
/-- a promise by positional values and the values of the keywords ks -/
def FnK (P : Program) (w : World) (K : Frag) (mg : Str → Option Value) (base : Heap) (CX : CXT) (k : Nat) (f : Addr) (n : Nat) (ks : List Str) (sp : List V → List V → Hp → VK → XK → Prop) : Prop :=
  ∀ (A : Around) (outer : List Env) (s : Shared) (H : Hp) (us ws : List Value) (vs zs : List V) (Q : VK) (E : XK), Room k A → Env0 P w K mg base A outer s H → Vals vs us → Vals zs ws → vs.length = n → zs.length = ks.length → sp vs zs H Q E →
    codeAny (model P w) A (.call (.ref f) ⟨us, ks.zip ws⟩) (CR CX outer P w H s Q E) s
theorem fnk {P : Program} {w : World} {K : Frag} {mg : Str → Option Value} {base : Heap} {fd : FuncData} {ps ks : List Str} {n : Nat} {g : List Value → List Value → List Value} {gV : List V → List V → List V} (F : FnOk P w K mg base CX k f fd ps sp) (hb : KBn K fd ps n ks g gV) :
    FnK P w K mg base CX k f n ks (fun vs zs H Q E => sp (gV vs zs) H Q E) := by
  intro A outer s H us ws vs zs Q E hr e0 r1 r2 l1 l2 h
  exact F.run A outer s H ⟨us, ks.zip ws⟩ (g us ws) (gV vs zs) Q E hr e0 (hb.to s us ws (e0.mod.kin.keeps fun b o e => (e0.bs b o e).1) (r1.length.symm.trans l1) (r2.length.symm.trans l2)) (hb.rel r1 r2) h
theorem run_k {pins : List (Addr × Obj)} {σ : L2.St} {H : Hp} {s : Shared} {Q : VK} {us ws : List Value} {vs zs : List V} {n : Nat} {ks : List Str} {spk : List V → List V → Hp → VK → XK → Prop} (F : FnK X.prog X.w X.K X.mg X.base CX k f n ks spk) (hr : Room k X.A)
    (hx : Passes CX X E) (I : Inv X pins σ H s) (r1 : Vals vs us) (r2 : Vals zs ws) (l1 : vs.length = n) (l2 : zs.length = ks.length) (h : spk vs zs H Q E) : wpAny (model X.prog X.w) X.A (call (.ref f) us (ks.zip ws)) (EP X pins σ Q) X.xe s := by
  refine wpAny_call (codeAny_mono (F X.A X.stack s H us ws vs zs Q E hr I.env0 r1 r2 l1 l2 h) fun res s' hq => ?_)
  match res, hq with
  | .error er, hq => exact hx pins σ H s er s' I hq
  | .ok (.ret u), hq => exact I.after hq
/-- o.m(k = v, ..) -/
def tMethK (C : Addr) (m : Str) (ks : List Str) (spk : List V → List V → Hp → VK → XK → Prop) (E : XK) (ta : TE) (tk : TA) : TE := fun σ H Q => ta σ H fun x H1 => ∃ a dx fs, x = .ref a ∧ H1 a = some (.ins C dx fs) ∧ fs.lookup m = none ∧
  tk σ H1 fun zs H2 => zs.length = ks.length ∧ spk [.ref a] zs H2 Q E
theorem pe_methK {o : Expr} {m : Str} {ta : TE} {tk : TA} {kws : List Keyword} {ks : List Str} {apos pos : Pos} {pl : Sem Bool} {spk : List V → List V → Hp → VK → XK → Prop} (he : PE X o ta) (c : Cls X.K C) (hm : Meth X.K C m f)
    (F : FnK X.prog X.w X.K X.mg X.base CX k f 1 ks spk) (hr : Room k X.A) (hx : Passes CX X E) (hkw : PK X kws tk) (hall : (backToKw pos (keywordEach kws X.env)).all (·.1.isSome) = true := by rfl) (hks : (backToKw pos (keywordEach kws X.env)).filterMap (·.1) = ks := by rfl)
    (hpl : ((backTo pos (starEach [] X.env)).any (·.1) || (backToKw pos (keywordEach kws X.env)).any (·.1.isNone)) = false := by rfl)
    (ht : eval (.Call (.Attribute o m apos) [] kws pos) X.env = (do
      let ov ← eval o X.env
      standAt apos.atName
      let (f, first) ← holding [ov] (getMethod ov m pl)
      callWith pos f first (backTo pos (starEach [] X.env)) (backToKw pos (keywordEach kws X.env))) := by rfl) :
    PE X (.Call (.Attribute o m apos) [] kws pos) (tMethK C m ks spk E ta tk) := by
  constructor
  intro pins s σ H Q I h
  refine PySem.W.methodCall_KW (pl := pl) (thn (he.run pins s σ H _ I h) fun u s1 z => ?_) ht
  obtain ⟨x, H1, I1, rx, a, dx, fs, ex, ea, l, q⟩ := z
  subst ex
  cases (show u = Value.ref a from rx)
  refine getmeth_ok I1 ea c hm l (PySem.W.callWith_KW0 (first := [.ref a]) (h₀ := X.base) I1.ok.mod.kin hm.kp hall (thn (hkw.run pos pins s1 σ H1 _ I1 q) fun ws s2 z => ?_) hpl)
  obtain ⟨zs, H2, I2, rz, l2, q2⟩ := z
  rw [hks]
  exact ⟨I2.kIn, run_k (us := [.ref a]) (vs := [.ref a]) F hr hx I2 (.cons rfl .nil) rz rfl l2 q2⟩
/-- f(k = v, ..) -/
def tClK (ks : List Str) (spk : List V → List V → Hp → VK → XK → Prop) (E : XK) (tk : TA) : TE := fun σ H Q => tk σ H fun zs H2 => zs.length = ks.length ∧ spk [] zs H2 Q E
theorem pe_clK {x : Str} {tk : TA} {kws : List Keyword} {ks : List Str} {np pos : Pos} {spk : List V → List V → Hp → VK → XK → Prop} (F : FnK X.prog X.w X.K X.mg X.base CX k f 0 ks spk) (hr : Room k X.A) (hm : X.mg x = some (.ref f)) (hk : PySem.W.keepIn X.K (.ref f) = true) (hx : Passes CX X E) (hkw : PK X kws tk)
    (hg : Gl X x := by rfl) (hall : (backToKw pos (keywordEach kws X.env)).all (·.1.isSome) = true := by rfl) (hks : (backToKw pos (keywordEach kws X.env)).filterMap (·.1) = ks := by rfl)
    (hpl : ((backTo pos (starEach [] X.env)).any (·.1) || (backToKw pos (keywordEach kws X.env)).any (·.1.isNone)) = false := by rfl) (hdb : (x == ("__debug__" : Str)) = false := by decide) :
    PE X (.Call (.Name x np) [] kws pos) (tClK ks spk E tk) := by
  constructor
  intro pins s σ H Q I h
  refine wpAny_Call_Name_kw (ld_glob I hg hm (PySem.W.callWith_KW0 (first := []) (h₀ := X.base) I.ok.mod.kin hk hall (thn (hkw.run pos pins s σ H _ I h) fun ws s2 z => ?_) hpl) hdb)
  obtain ⟨zs, H2, I2, rz, l2, q2⟩ := z
  rw [hks]
  exact ⟨I2.kIn, run_k (us := []) (vs := []) F hr hx I2 .nil rz rfl l2 q2⟩
/-- C(k = v, ..) -/
def tMkK (C : Addr) (ks : List Str) (spk : List V → List V → Hp → VK → XK → Prop) (E : XK) (tk : TA) : TE := fun σ H Q => tk σ H fun zs H2 => zs.length = ks.length ∧ ∀ x dx, H2 x = none → H2 dx = none → dx ≠ x →
  spk [.ref x] zs (upd (upd H2 dx (.own x)) x (.ins C dx [])) (fun v H3 => v = .non ∧ Q (.ref x) H3) E
theorem pe_mkK {x : Str} {tk : TA} {kws : List Keyword} {ks : List Str} {np pos : Pos} {spk : List V → List V → Hp → VK → XK → Prop} (M : Mk X.K C f) (F : FnK X.prog X.w X.K X.mg X.base CX k f 1 ks spk) (hr : Room (k + 1) X.A) (hm : X.mg x = some (.ref C)) (hx : Passes CX X E) (hkw : PK X kws tk)
    (hg : Gl X x := by rfl) (hall : (backToKw pos (keywordEach kws X.env)).all (·.1.isSome) = true := by rfl) (hks : (backToKw pos (keywordEach kws X.env)).filterMap (·.1) = ks := by rfl)
    (hpl : ((backTo pos (starEach [] X.env)).any (·.1) || (backToKw pos (keywordEach kws X.env)).any (·.1.isNone)) = false := by rfl) (hdb : (x == ("__debug__" : Str)) = false := by decide) :
    PE X (.Call (.Name x np) [] kws pos) (tMkK C ks spk E tk) := by
  constructor
  intro pins s σ H Q I h
  refine wpAny_Call_Name_kw (ld_glob I hg hm (PySem.W.callWith_KW0 (first := []) (h₀ := X.base) I.ok.mod.kin M.kp hall (thn (hkw.run pos pins s σ H _ I h) fun ws s2 z => ?_) hpl) hdb)
  obtain ⟨zs, H2, I2, rz, l2, q2⟩ := z
  rw [hks]
  refine ⟨I2.kIn, ?_⟩
  have J := Inv.made (C := C) I2
  have hq := q2 (s2.heap.objs.size + 1) s2.heap.objs.size (I2.hok.fresh (Nat.le_succ _)) (I2.hok.fresh (Nat.le_refl _)) (Nat.ne_of_lt (Nat.lt_succ_self _))
  refine wpAny_call (make_map (f := f) I2.kIn M.makes M.init (beq_iff_eq.mp M.fn) (codeAny_mono (F _ X.stack _ _ [Value.ref (s2.heap.objs.size + 1)] ws [V.ref (s2.heap.objs.size + 1)] zs _ E (hr.make C [] (ks.zip ws)) (J.env0.make C [] (ks.zip ws)) (.cons rfl .nil) rz rfl l2 hq) fun res s' hq' => ?_))
  match res, hq' with
  | .error er, hq' => exact hx pins σ _ _ er s' J hq'
  | .ok (.ret u), hq' =>
    have z := J.after hq'
    obtain ⟨v, H', I3, rv, ev, q3⟩ := z
    subst ev
    exact ⟨rv, ⟨V.ref (s2.heap.objs.size + 1), H', I3, rfl, q3⟩⟩
/-! ### a class held by a local name: cls(e, ..) -/
def tMkL (i : Nat) (C : Addr) (sp : Sp) (E : XK) (t : TA) : TE := fun σ H Q => σ[i]? = some (some (.ref C)) ∧ StX.tMakeR C sp E t σ H Q
theorem pe_mkL {i : Nat} {x : Str} {np pos : Pos} {e : Expr} {es : List Expr} {t : TA} (M : Mk X.K C f) (F : FnR X.prog X.w X.K X.mg X.base CX k f sp) (hr : Room (k + 1) X.A) (hx : Passes CX X E) (ha : PA X (e :: es) t) (hv : PE X (.Name x np) (tVar i))
    (he : starEach (e :: es) X.env = (false, eval e X.env) :: starEach es X.env := by rfl) (hpl : (backTo pos (starEach es X.env)).any (·.1) = false := by rfl) : PE X (.Call (.Name x np) (e :: es) [] pos) (tMkL i C sp E t) := by
  constructor
  intro pins s σ H Q I h
  obtain ⟨hi, h⟩ := h
  refine wpAny_Call_Name_kw (thn (hv.run pins s σ H (fun v H1 => v = .ref C ∧ H1 = H) I ⟨_, hi, rfl, rfl⟩) fun u s1 z => ?_)
  obtain ⟨v, H1, I1, rv, ev, eH⟩ := z
  subst ev
  subst eH
  cases (show u = Value.ref C from rv)
  refine PySem.W.callWith_K (h₀ := X.base) I1.ok.mod.kin M.kp (thn (ha.run pos pins s1 σ H1 _ I1 h) fun us s2 z => ?_) he hpl
  obtain ⟨vs, H2, I2, r, q⟩ := z
  exact ⟨I2.kIn, StX.run_makeR M F hr hx I2 r q⟩
/-! ### C.m() of a classmethod, without arguments -/
theorem pe_cmeth0 {o : Expr} {m : Str} {ta : TE} {apos pos : Pos} {pl : Sem Bool} {mc : Value} {pr : Addr} (he : PE X o ta) (r : ClX.CRead X.K C mc) (c : ClX.CMet X.K C mc m pr f) (F : FnR X.prog X.w X.K X.mg X.base CX k f sp) (hr : Room k X.A) (hx : Passes CX X E)
    (ht : eval (.Call (.Attribute o m apos) [] [] pos) X.env = (do
      let ov ← eval o X.env
      standAt apos.atName
      let (f, first) ← holding [ov] (getMethod ov m pl)
      callWith pos f first (backTo pos (starEach [] X.env)) (backToKw pos (keywordEach [] X.env))) := by rfl) :
    PE X (.Call (.Attribute o m apos) [] [] pos) (ClX.tCMeth C sp E ta tNil) := by
  constructor
  intro pins s σ H Q I h
  refine PySem.W.methodCall_KW (pl := pl) (thn (he.run pins s σ H _ I h) fun u s1 z => ?_) ht
  obtain ⟨x, H1, I1, rx, ex, q⟩ := z
  subst ex
  cases (show u = Value.ref C from rx)
  refine ClX.getmethcm_ok I1 r c fun s2 I2 => ?_
  exact PySem.W.callWith_M0 (first := []) ⟨ClX.pin_at I2, I2.kIn⟩ c.fi (ClX.run_cm (us := []) (vs := []) F hr hx I2 .nil q)
end
end Z

namespace Z
open PySem PySem.Spec PyProof.Rows L2
open PySem.W (Frag Looks findIn subIn isFn selfFirst InstAt)
/-! ### numbers -/
def CDz (_ j : Int) : Prop := j ≠ 0 ∧ j.natAbs.log2 < 9000
section
variable {X : Cx}
theorem op_fdivZ : OpR X (binaryOp .FloorDiv) (rI CDz fun i j => .int (i.fdiv j)) := opI fun i j _ _ _ _ _ hc q => floordiv_int hc.1 q (.inl (PyProof.noPylong_of_log2 hc.2))
def CDp (_ j : Int) : Prop := 0 < j ∧ j.natAbs.log2 < 9000
theorem call_divmodZ : CallR X (.builtin "divmod") (fun xs H Q => ∃ i j, xs = [.int i, .int j] ∧ CDp i j ∧ ∀ p, H p = none → Q (.ref p) (upd H p (.tup [.int (i / j), .int (i % j)]))) := by
  intro pins s σ H xs us Q I r h
  obtain ⟨i, j, e, ⟨h1, h2⟩, q⟩ := h
  exact call_divmodW pins s σ H xs us Q I r ⟨i, j, e, ⟨h1, PyProof.noPylong_of_log2 h2⟩, q⟩
/-- two lists of unlike lengths are not equal -/
def rEqN (K : Frag) : R2 := fun x y H Q => ∃ a b xs ys, x = .ref a ∧ y = .ref b ∧ SqL K H a xs ∧ SqL K H b ys ∧ xs.length ≠ ys.length ∧ Q (.bl false) H
theorem op_eqN (hu : X.A.units < cLine) : OpR X (compareOp .Eq) (rEqN X.K) := by
  intro pins s σ H x y v u Q I rx ry h
  obtain ⟨a, b, xs, ys, rfl, rfl, h1, h2, hn, q⟩ := h
  cases (show v = Value.ref a from rx)
  cases (show u = Value.ref b from ry)
  obtain ⟨i1, r1, p1, _⟩ := I.list h1
  obtain ⟨i2, r2, p2, _⟩ := I.list h2
  have z : (i1.toArray.size != i2.toArray.size) = true := by
    simp only [List.size_toArray, bne_iff_ne]
    rw [← r1.length, ← r2.length]
    exact hn
  exact SeqAt.eq_list_lengthsAt p1.isList p2.isList z hu ⟨.bl false, H, I, rfl, q⟩
end
/-! ### the end of a law -/
section
theorem end_g {P : Program} {w : World} {K : Frag} {mg mb : Str → Option Value} {k : Nat} {fa a : Addr} {sp : Sp} {s1 : Shared} {vs : List Value} {ns : List Int} (KX : K.In s1.heap) (hns : s1.heap.Ns mainGlobals mg) (hb : s1.heap.Ns builtinsNs mb)
    (hbb : ∀ x : Str, x ≠ "__name__" → mb x = bootBuiltins x) (hlim : s1.heap.NoLimit) (hg : s1.gens = #[]) (ha : s1.heap.get? a = some { cls := .type "list", data := .seq vs.toArray }) (hi : IntsAre vs ns) (hl : ns.length ≤ sizeLine) (hr : Room k callerA)
    (F : ∀ base : Heap, K.In base → base.Ns mainGlobals mg → FnG P w K mg base k fa sp) (hsp : ∀ H : Hp, SqL K H a (ns.map V.int) → sp [.ref a] H (fun v _ => v = .bl true) E0) :
    codeAny (model P w) callerA (.call (.ref fa) ⟨[.ref a], []⟩) (fun r s' => r = .ok (.ret (.bool true)) ∧ OldK s1.heap s'.heap ∧ s'.os = s1.os ∧ AllBare s'.gens) s1 := by
  have rv : Vals (ns.map V.int) vs := vals_ints hi
  have lv : vs.length = ns.length := hi.length
  -- nothing is tracked but the script, where it is no object of the module
  generalize eo : ({ cls := .type "list", data := .seq vs.toArray } : Obj) = ob at ha
  let H : Hp := fun b => if b = a ∧ K.lookup a = none then some (.frz ob (.lst (ns.map V.int))) else none
  have hH : ∀ b u, H b = some u → b = a ∧ K.lookup a = none ∧ u = .frz ob (.lst (ns.map V.int)) := fun b u e => by
    have e2 : (if b = a ∧ K.lookup a = none then some (HO.frz ob (.lst (ns.map V.int))) else none) = some u := e
    by_cases c : b = a ∧ K.lookup a = none
    · rw [if_pos c] at e2
      exact ⟨c.1, c.2, (Option.some.inj e2).symm⟩
    · rw [if_neg c] at e2
      cases e2
  have hset : ∀ b o es ep, s1.heap.get? b = some o → o.data = .dict es ep → H b = none := fun b o es ep e d => by
    cases q : H b with
    | none => rfl
    | some u =>
      obtain ⟨eb, _, _⟩ := hH b u q
      rw [eb, ha] at e
      rw [← Option.some.inj e, ← eo] at d
      cases d
  have hin : ∀ b o, K.lookup b = some o → H b = none := fun b o e => by
    cases q : H b with
    | none => rfl
    | some u =>
      obtain ⟨eb, en, _⟩ := hH b u q
      rw [eb, en] at e
      cases e
  have KB : K.In (hidT s1.heap H) := fun b o e => hidT_get (KX b o e) (hin b o e)
  have nsB : ∀ {b : Addr} {m : Str → Option Value}, s1.heap.Ns b m → (hidT s1.heap H).Ns b m := fun z => by
    obtain ⟨o, es, ep, e, d, r⟩ := z
    exact ⟨o, es, ep, hidT_get e (hset _ o es ep e d), d, r⟩
  have hM : Mod K mg (hidT s1.heap H) := by
    refine ⟨KB, nsB hns, ⟨mb, nsB hb, hbb⟩, ?_⟩
    obtain ⟨mc, z1, z2⟩ := hlim
    exact ⟨mc, nsB z1, z2⟩
  have hok : HOk P w H s1.heap := fun b u e => by
    obtain ⟨eb, _, eu⟩ := hH b u e
    subst eu
    subst eb
    refine ⟨ha, ?_⟩
    rw [← eo] at ha
    exact ⟨by rw [List.length_map]; exact hl, vs, _, rv, ha⟩
  have e0 : Env0 P w K mg (hidT s1.heap H) callerA [] s1 H :=
    { frames := rfl, mod := hM, bs := fun b o e => of_hidT e, bsz := Nat.le_of_eq (hidT_size _ _), funs := trivial, frf := fun b z => absurd (show b ∈ ([] : List Addr) from z) (by simp), hok := hok, bare := .of_eq hg }
  have hS : SqL K H a (ns.map V.int) := by
    cases q : K.lookup a with
    | none => exact .inl (.inr ⟨ob, if_pos ⟨rfl, q⟩⟩)
    | some o =>
      have e := KX a o q
      rw [ha] at e
      have eq2 : o = { cls := .type "list", data := .seq vs.toArray } := by rw [← Option.some.inj e, ← eo]
      subst eq2
      exact .inr ⟨_, vs.toArray, _, q, rfl, rfl, rfl, by rw [List.size_toArray, lv]; exact hl, by simpa using rv⟩
  refine codeAny_mono (F _ KB (nsB hns) callerA hr rfl [] s1 H [.ref a] [.ref a] _ E0 e0 (.cons rfl .nil) (hsp H hS)) fun r s' z => ?_
  match r, z with
  | .error e, z =>
    obtain ⟨_, _, _, _, _, _, _, _, _, _, _, _, bad⟩ := z
    exact bad.elim
  | .ok (.ret u), z =>
    obtain ⟨v, H', os, bare, un, hok', ru, qv⟩ := z
    subst qv
    cases (show u = Value.bool true from ru)
    refine ⟨rfl, OldK.of_keep fun b o e => ?_, os, bare⟩
    cases q : H b with
    | none => exact un.keep b o e q (fun y => absurd (show b ∈ ([] : List Addr) from y) (by simp)) (by simp)
    | some u =>
      obtain ⟨eb, _, eu⟩ := hH b u q
      subst eu
      have y := un.frzs b ob _ q
      have y2 := (hok' b _ y).1
      rw [eb, ha] at e
      rw [y2, Option.some.inj e]
theorem walk_g {l : PySem.W.OpenLaw} {n k : Nat} {q : Program} {loose : List Str} {XP : (Str → Option Value) → Heap → Prop} {YP : World → Heap → Prop} {d : DefRec} (hn : l.most = some n) (hn2 : n ≤ sizeLine) (hdf : d.params.defaults = []) (hr : Room k callerA)
    (F : ∀ (w : World) (mg : Str → Option Value) (fa : Addr) (h : Heap), YP w h → h.Ns mainGlobals mg → mg d.name = some (.ref fa) → ∃ (K : Frag) (sp : Sp), K.In h ∧
      (∀ (H : Hp) (a : Addr) (ns : List Int), ns.length ≤ n → SqL K H a (ns.map V.int) → sp [.ref a] H (fun v _ => v = .bl true) E0) ∧ ∀ base : Heap, K.In base → base.Ns mainGlobals mg → FnG l.prog w K mg base k fa sp) :
    PySem.W.WalkO q loose XP YP l.row.toRowW d [] (fun f vs => PySem.call f vs) := by
  refine Att.attach_call hn hdf fun w s0 s1 mg mb fa o pm cd doc a vs ns G Y ho hd hcd hmg hobj hints hlen hg => ?_
  obtain ⟨K, sp, KX, hsp, hF⟩ := F w mg fa _ Y G.T.g hmg
  exact end_g KX G.T.g G.T.b G.T.builtins G.T.nolimit hg hobj hints (Nat.le_trans hlen hn2) hr hF fun H hS => hsp H a ns hlen hS
end
end Z

namespace Z
open PySem PySem.Spec PyProof.Rows L2
/-! ### texts and how long they show -/
def Okc (x : Str) : Prop := ∀ c ∈ x.cps.toList, c < 16 ^ 8
theorem okc_of (s : String) : Okc (Str.ofString s) := fun c hc => by
  have e : (Str.ofString s).cps.toList = s.toList.map Char.toNat := by
    rw [Str.ofString_eq_toList]
  rw [e] at hc
  obtain ⟨ch, _, rfl⟩ := List.mem_map.mp hc
  have h := ch.valid
  have h2 : ch.toNat < 1114112 := by
    rcases h with h | h
    · show ch.val.toNat < 1114112
      omega
    · show ch.val.toNat < 1114112
      omega
  omega
theorem okc_app {x y : Str} (hx : Okc x) (hy : Okc y) : Okc (x ++ y) := fun c hc => by
  rw [Str.cps_append, Array.toList_append] at hc
  rcases List.mem_append.mp hc with h | h
  · exact hx c h
  · exact hy c h
theorem listText_le (ts : List Str) : (listText ts).length ≤ piled ts + 2 := by
  unfold listText
  rw [Str.length_append]
  have e1 : ("]" : Str).length = 1 := by decide +kernel
  have e2 : ("[" : Str).length = 1 := by decide +kernel
  cases ts with
  | nil =>
    show ("[" : Str).length + _ ≤ _
    omega
  | cons t r =>
    show (textFrom 1 (("[" : Str) ++ (if 0 > 0 then ", " else "" : String) ++ t) r).length + _ ≤ _
    rw [textFrom_length_pos r 1 _ (by decide), Str.length_append, Str.length_append, piled_cons]
    have e3 : (Str.ofString (if 0 > 0 then ", " else "" : String)).length = 0 := by decide +kernel
    have e4 : ((if 0 > 0 then ", " else "" : String) : Str).length = 0 := e3
    omega
theorem rep_le {x : Str} {n : Nat} (h : Okc x) (hn : x.length ≤ n) : (reprText x).length ≤ 10 * n + 2 := by
  have := StrLaws.reprText_len x h
  omega
/-! ### either of two rules -/
theorem op_or {X : Cx} {f : Value → Value → Sem Value} {r1 r2 : R2} (h1 : OpR X f r1) (h2 : OpR X f r2) : OpR X f (fun x y H Q => r1 x y H Q ∨ r2 x y H Q) := by
  intro pins s σ H x y v u Q I rx ry h
  rcases h with h | h
  · exact h1 pins s σ H x y v u Q I rx ry h
  · exact h2 pins s σ H x y v u Q I rx ry h
theorem op_eqL {X : Cx} (hu : X.A.units + 64 < cLine) : OpR X (compareOp .Eq) (fun x y H Q => rEqD X.K x y H Q ∨ rEqN X.K x y H Q) := op_or (op_eqD hu) (op_eqN (by omega))
theorem raw0 {P : Program} {w : World} {K : PySem.W.Frag} {mg : Str → Option Value} {base : Heap} {CX : CXT} {k : Nat} {f : Addr} {fd : FuncData} {ps : List Str} {sp : Sp} (F : FnOk P w K mg base CX k f fd ps sp) (b : Binds K fd ps []) : FnR P w K mg base CX k f sp := by
  refine (F.raw b .nil).imp fun vs H Q E h => ?_
  show sp (vs ++ []) H Q E
  rw [List.append_nil]
  exact h
/-! ### keywords of a def without defaults -/
section
variable {K : PySem.W.Frag} {x qual : Str} {params : Arguments} {body : List Stmt} {scope : Scope} {kws : List (Str × V)} {f : Addr} {fd : FuncData} {ps : List Str}
theorem kbN (F : FunD K x qual params body scope [] kws f fd) (n : Nat) (ks : List Str) (g : {α : Type} → List α → List α → List α)
    (hrel : ∀ {vs zs : List V} {us ws : List Value}, Vals vs us → Vals zs ws → Vals (g vs zs) (g us ws))
    (h : ∀ (kV doc pm : Value) (an : Option Addr) (cdv ct : Value) (us ws : List Value), us.length = n → ws.length = ks.length → bindArgs (PySem.W.fnOf x qual params body scope .none kV doc pm an cdv ct) ⟨us, ks.zip ws⟩ = pure (ps.zip (g us ws))) :
    KBn K fd ps n ks (fun us ws => g us ws) (fun vs zs => g vs zs) := by
  obtain ⟨oc, od, dV, kV, doc, pm, an, cdv, ct, osl, e1, lk, hcd, hD, hK⟩ := F.ex
  subst e1
  rcases hD with ⟨_, e2⟩ | ⟨e2, _⟩
  · subst e2
    exact ⟨fun s us ws _ l1 l2 => .of_eq (h kV doc pm an cdv ct us ws l1 l2), fun r1 r2 => hrel r1 r2⟩
  · exact absurd rfl e2
end
end Z

namespace Z
open PySem PySem.Spec PyProof.Rows L2
/-! ### the rules that look into the module, told which it is: a comprehension's block has the def's -/
section
variable {X : Cx} {K : PySem.W.Frag}
theorem lenK (hK : X.K = K) : CallR X (.builtin "len") (fun xs H Q => ∃ x n, xs = [x] ∧ LenV K x H n ∧ Q (.int n) H) := by
  subst hK
  exact call_len
theorem ixlK (hK : X.K = K) : IxR X (rIxL K) := by
  subst hK
  exact ix_list
theorem ixtK (hK : X.K = K) : IxR X (rIxT K) := by
  subst hK
  exact ix_tup
theorem eqDK (hK : X.K = K) (hu : X.A.units + 64 < cLine) : OpR X (compareOp .Eq) (rEqD K) := by
  subst hK
  exact op_eqD hu
theorem neDK (hK : X.K = K) (hu : X.A.units + 64 < cLine) : OpR X (compareOp .NotEq) (rNeD K) := by
  subst hK
  exact op_neD hu
theorem eqLK (hK : X.K = K) (hu : X.A.units + 64 < cLine) : OpR X (compareOp .Eq) (fun x y H Q => rEqD K x y H Q ∨ rEqN K x y H Q) := by
  subst hK
  exact op_eqL hu
theorem isiK (hK : X.K = K) : CallR X (.builtin "isinstance") (rIsi K) := by
  subst hK
  exact call_isi
theorem allK (hK : X.K = K) (hc : X.calm = true) : CallR X (.builtin "all") (rAll K) := by
  subst hK
  exact cr_all hc
theorem anyK (hK : X.K = K) (hc : X.calm = true) : CallR X (.builtin "any") (rAny K) := by
  subst hK
  exact cr_any hc
theorem sumK (hK : X.K = K) (hc : X.calm = true) : CallR X (.builtin "sum") (rSum K) := by
  subst hK
  exact cr_sum hc
theorem reprK (hK : X.K = K) (hg : X.A.guards = some []) (hu : X.A.units + 64 < cLine) : CallR X (.builtin "repr") (rReprD K) := by
  subst hK
  exact call_reprD hg hu
theorem sllK (hK : X.K = K) : SlR X (rSlL K) := by
  subst hK
  exact sl_list
theorem sltK (hK : X.K = K) : SlR X (rSlT K) := by
  subst hK
  exact sl_tup
theorem listK (hK : X.K = K) : CallR X (.type "list") (fun xs H Q => ∃ p ys, xs = [.ref p] ∧ (SqL K H p ys ∨ SqT K H p ys) ∧ ∀ l, H l = none → Q (.ref l) (upd H l (.lst ys))) := by
  subst hK
  exact call_list_of
theorem tupleK (hK : X.K = K) : CallR X (.type "tuple") (fun xs H Q => ∃ p ys, xs = [.ref p] ∧ ((SqL K H p ys ∧ ∀ l, H l = none → Q (.ref l) (upd H l (.tup ys))) ∨ (SqT K H p ys ∧ Q (.ref p) H))) := by
  subst hK
  exact call_tuple_of
theorem piListK {tg l : Expr} {tl : TE} (hK : X.K = K) (hl : PE X l tl) : PI X tg l (iList K tl) := by
  subst hK
  exact pi_list hl
theorem piTupK {tg l : Expr} {tl : TE} (hK : X.K = K) (hl : PE X l tl) : PI X tg l (iTup K tl) := by
  subst hK
  exact pi_tup hl
theorem pgTupK {es : List Expr} {k : Nat} {pos : Pos} {t : TGs} {n : Nat} (hK : X.K = K) (hc : X.calm = true) (h : PGs X es t)
    (hn : (assignEach es X.env).length = n := by rfl) (hst : (assignEach es X.env).findIdx? (·.1) = none := by rfl) : PG X (.Tuple es k pos) (gTup K n t) := by
  subst hK
  exact pg_tup hc h hn hst
end
end Z

/-! fractions in lowest terms -/
namespace M
def sg (u l : Int) : Int := if l < 0 then -(Int.gcd u l : Int) else (Int.gcd u l : Int)
def low (u l : Int) : Int × Int := (u.fdiv (sg u l), l.fdiv (sg u l))
theorem sg_abs (u l : Int) : (sg u l).natAbs = Int.gcd u l := by
  unfold sg
  split
  · rw [Int.natAbs_neg, Int.natAbs_natCast]
  · exact Int.natAbs_natCast _
theorem gcd_pos {u l : Int} (h : l ≠ 0) : 0 < Int.gcd u l := Int.gcd_pos_of_ne_zero_right u h
theorem sg_ne {u l : Int} (h : l ≠ 0) : sg u l ≠ 0 := fun e => by
  have h1 := sg_abs u l
  rw [e] at h1
  have h2 := gcd_pos (u := u) h
  simp at h1
  omega
theorem sg_dvd_l (u l : Int) : sg u l ∣ l := by
  rw [← Int.natAbs_dvd_natAbs, sg_abs]
  exact Int.natAbs_dvd_natAbs.mpr (Int.gcd_dvd_right u l)
theorem sg_dvd_u (u l : Int) : sg u l ∣ u := by
  rw [← Int.natAbs_dvd_natAbs, sg_abs]
  exact Int.natAbs_dvd_natAbs.mpr (Int.gcd_dvd_left u l)
theorem fdiv_of {g q : Int} (h : g ≠ 0) : (g * q).fdiv g = q := Int.mul_fdiv_cancel_left q h
/-- both parts are quotients -/
theorem low_quot {u l : Int} (h : l ≠ 0) : u = sg u l * (low u l).1 ∧ l = sg u l * (low u l).2 := by
  obtain ⟨a, ha⟩ := sg_dvd_u u l
  obtain ⟨b, hb⟩ := sg_dvd_l u l
  have hg := sg_ne (u := u) h
  have e1 : (low u l).1 = a := by
    show u.fdiv (sg u l) = a
    rw [show u.fdiv (sg u l) = (sg u l * a).fdiv (sg u l) from by rw [← ha]]
    exact fdiv_of hg
  have e2 : (low u l).2 = b := by
    show l.fdiv (sg u l) = b
    rw [show l.fdiv (sg u l) = (sg u l * b).fdiv (sg u l) from by rw [← hb]]
    exact fdiv_of hg
  rw [e1, e2]
  exact ⟨ha, hb⟩
theorem low_pos {u l : Int} (h : l ≠ 0) : 0 < (low u l).2 := by
  obtain ⟨_, e⟩ := low_quot (u := u) h
  have hp := gcd_pos (u := u) h
  by_cases c : l < 0
  · have s : sg u l = -(Int.gcd u l : Int) := if_pos c
    rw [s] at e
    generalize (low u l).2 = b at *
    generalize Int.gcd u l = g at *
    have h1 : (g : Int) * b = -l := by
      rw [e]
      rw [Int.neg_mul]
      omega
    have h2 : 0 < (g : Int) * b := by omega
    exact Int.pos_of_mul_pos_right h2 (by omega)
  · have s : sg u l = (Int.gcd u l : Int) := if_neg c
    rw [s] at e
    generalize (low u l).2 = b at *
    generalize Int.gcd u l = g at *
    have h2 : 0 < (g : Int) * b := by omega
    exact Int.pos_of_mul_pos_right h2 (by omega)
/-- in lowest terms, the bottom above 0 -/
def Red (p : Int × Int) : Prop := 0 < p.2 ∧ Int.gcd p.1 p.2 = 1
theorem low_red {u l : Int} (h : l ≠ 0) : Red (low u l) := by
  refine ⟨low_pos h, ?_⟩
  obtain ⟨e1, e2⟩ := low_quot (u := u) h
  have hp := gcd_pos (u := u) h
  have e : Int.gcd u l = (sg u l).natAbs * Int.gcd (low u l).1 (low u l).2 := by
    have z := Int.gcd_mul_left (sg u l) (low u l).1 (low u l).2
    rw [← e1, ← e2] at z
    exact z
  rw [sg_abs] at e
  have e3 : Int.gcd u l * 1 = Int.gcd u l * Int.gcd (low u l).1 (low u l).2 := by omega
  exact (Nat.eq_of_mul_eq_mul_left hp e3).symm
theorem sg_red {p : Int × Int} (h : Red p) : sg p.1 p.2 = 1 := by
  unfold sg
  rw [if_neg (by have := h.1; omega), h.2]
  rfl
theorem low_of_red {p : Int × Int} (h : Red p) : low p.1 p.2 = p := by
  unfold low
  rw [sg_red h]
  rw [Int.fdiv_one, Int.fdiv_one]
theorem red_int (n : Int) : Red (n, 1) := ⟨Int.one_pos, Int.gcd_one_right n⟩
theorem low_int (n : Int) : low n 1 = (n, 1) := low_of_red (red_int n)
theorem red_neg {p : Int × Int} (h : Red p) : Red (-p.1, p.2) := ⟨h.1, by
  show Int.gcd (-p.1) p.2 = 1
  rw [Int.neg_gcd]
  exact h.2⟩
theorem quot_le {g q : Int} (h : g ≠ 0) : q.natAbs ≤ (g * q).natAbs := by
  rw [Int.natAbs_mul]
  exact Nat.le_mul_of_pos_left _ (Int.natAbs_pos.mpr h)
theorem low_le1 {u l : Int} (h : l ≠ 0) : (low u l).1.natAbs ≤ u.natAbs := by
  have e := (low_quot (u := u) h).1
  have z := quot_le (q := (low u l).1) (sg_ne (u := u) h)
  rw [← e] at z
  exact z
theorem low_le2 {u l : Int} (h : l ≠ 0) : (low u l).2.natAbs ≤ l.natAbs := by
  have e := (low_quot (u := u) h).2
  have z := quot_le (q := (low u l).2) (sg_ne (u := u) h)
  rw [← e] at z
  exact z
/-- both parts below 2 ^ n -/
def Sz (n : Nat) (p : Int × Int) : Prop := p.1.natAbs < 2 ^ n ∧ p.2.natAbs < 2 ^ n
theorem Sz.mono {n m : Nat} {p : Int × Int} (h : Sz n p) (hm : n ≤ m) : Sz m p := ⟨Nat.lt_of_lt_of_le h.1 (Nat.pow_le_pow_right (by decide) hm), Nat.lt_of_lt_of_le h.2 (Nat.pow_le_pow_right (by decide) hm)⟩
theorem low_sz {u l : Int} {n : Nat} (h : l ≠ 0) (h1 : u.natAbs < 2 ^ n) (h2 : l.natAbs < 2 ^ n) : Sz n (low u l) := ⟨Nat.lt_of_le_of_lt (low_le1 h) h1, Nat.lt_of_le_of_lt (low_le2 h) h2⟩
theorem mul_lt {a b : Int} {n m : Nat} (h1 : a.natAbs < 2 ^ n) (h2 : b.natAbs < 2 ^ m) : (a * b).natAbs < 2 ^ (n + m) := by
  rw [Int.natAbs_mul, Nat.pow_add]
  exact Nat.mul_lt_mul'' h1 h2
theorem add_lt {a b : Int} {n : Nat} (h1 : a.natAbs < 2 ^ n) (h2 : b.natAbs < 2 ^ n) : (a + b).natAbs < 2 ^ (n + 1) := by
  have := Int.natAbs_add_le a b
  rw [Nat.pow_succ]
  omega
theorem sub_lt {a b : Int} {n : Nat} (h1 : a.natAbs < 2 ^ n) (h2 : b.natAbs < 2 ^ n) : (a - b).natAbs < 2 ^ (n + 1) := by
  have h : (a - b).natAbs ≤ a.natAbs + b.natAbs := by omega
  rw [Nat.pow_succ]
  omega
/-- the sum of two fractions -/
def plus (p q : Int × Int) : Int × Int := low (p.1 * q.2 + q.1 * p.2) (p.2 * q.2)
def minus (p q : Int × Int) : Int × Int := low (p.1 * q.2 - q.1 * p.2) (p.2 * q.2)
def times (p q : Int × Int) : Int × Int := low (p.1 * q.1) (p.2 * q.2)
theorem bot_ne {p q : Int × Int} (hp : Red p) (hq : Red q) : p.2 * q.2 ≠ 0 := by
  have := Int.mul_pos hp.1 hq.1
  omega
theorem plus_red {p q : Int × Int} (hp : Red p) (hq : Red q) : Red (plus p q) := low_red (bot_ne hp hq)
theorem minus_red {p q : Int × Int} (hp : Red p) (hq : Red q) : Red (minus p q) := low_red (bot_ne hp hq)
theorem times_red {p q : Int × Int} (hp : Red p) (hq : Red q) : Red (times p q) := low_red (bot_ne hp hq)
theorem plus_sz {p q : Int × Int} {n m : Nat} (hp : Red p) (hq : Red q) (h1 : Sz n p) (h2 : Sz m q) : Sz (n + m + 1) (plus p q) := by
  refine low_sz (bot_ne hp hq) (add_lt (mul_lt h1.1 h2.2) ?_) ?_
  · have z := mul_lt h2.1 h1.2
    rw [Nat.add_comm] at z
    exact z
  · exact Nat.lt_of_lt_of_le (mul_lt h1.2 h2.2) (Nat.pow_le_pow_right (by decide) (Nat.le_succ _))
theorem minus_sz {p q : Int × Int} {n m : Nat} (hp : Red p) (hq : Red q) (h1 : Sz n p) (h2 : Sz m q) : Sz (n + m + 1) (minus p q) := by
  refine low_sz (bot_ne hp hq) (sub_lt (mul_lt h1.1 h2.2) ?_) ?_
  · have z := mul_lt h2.1 h1.2
    rw [Nat.add_comm m n] at z
    exact z
  · exact Nat.lt_of_lt_of_le (mul_lt h1.2 h2.2) (Nat.pow_le_pow_right (by decide) (by omega))
theorem times_sz {p q : Int × Int} {n m : Nat} (hp : Red p) (hq : Red q) (h1 : Sz n p) (h2 : Sz m q) : Sz (n + m) (times p q) :=
  low_sz (bot_ne hp hq) (mul_lt h1.1 h2.1) (mul_lt h1.2 h2.2)
/-- less an addend is the sum with its opposite -/
theorem minus_plus (p q : Int × Int) : plus p (-q.1, q.2) = minus p q := by
  unfold plus minus
  show low (p.1 * q.2 + -q.1 * p.2) (p.2 * q.2) = _
  rw [Int.neg_mul, ← Int.sub_eq_add_neg]
/-- the loop of the greatest common divisor -/
theorem gcd_step {m n : Int} (h1 : 0 ≤ m) (h2 : 0 < n) : Int.gcd n (m % n) = Int.gcd m n := by
  obtain ⟨a, rfl⟩ := Int.eq_ofNat_of_zero_le h1
  obtain ⟨b, rfl⟩ := Int.eq_ofNat_of_zero_le (Int.le_of_lt h2)
  show Nat.gcd b (((a : Int) % (b : Int)).natAbs) = Nat.gcd a b
  rw [← Int.natCast_emod, Int.natAbs_natCast, Nat.gcd_comm a b, Nat.gcd_rec b a, Nat.gcd_comm]
theorem gcd_end {m : Int} (h : 0 ≤ m) : (Int.gcd m 0 : Int) = m := by
  rw [Int.gcd_zero_right]
  omega
theorem gcd_abs (u l : Int) : Int.gcd (if u < 0 then -u else u) (if l < 0 then -l else l) = Int.gcd u l := by
  split <;> split <;> simp [Int.neg_gcd, Int.gcd_neg]
end M

namespace A57
open PySem PySem.Spec PyProof.Rows L2
def top (i : Nat) : Stmt := PySem.Challenge.pw_anypoints_k13_what_numbers_and_names_are.main.body.getD i (.Pass ⟨0, 0, 0, 0⟩)
abbrev s_is_integer : Stmt := top 12
abbrev N_is_integer : List Str := ["value"]
theorem sc_is_integer : FnScope ["value"] ["value"] (defScope s_is_integer) := ⟨rfl, rfl, rfl, by decide +kernel, rfl, by decide +kernel, by decide +kernel⟩
abbrev s_is_count : Stmt := top 13
abbrev N_is_count : List Str := ["value"]
theorem sc_is_count : FnScope ["value"] ["value"] (defScope s_is_count) := ⟨rfl, rfl, rfl, by decide +kernel, rfl, by decide +kernel, by decide +kernel⟩
abbrev s_is_number : Stmt := top 14
abbrev N_is_number : List Str := ["value"]
theorem sc_is_number : FnScope ["value"] ["value"] (defScope s_is_number) := ⟨rfl, rfl, rfl, by decide +kernel, rfl, by decide +kernel, by decide +kernel⟩
abbrev s_is_name : Stmt := top 15
abbrev N_is_name : List Str := ["value", "sign"]
theorem sc_is_name : FnScope ["value", "sign"] ["value"] (defScope s_is_name) := ⟨rfl, rfl, rfl, by decide +kernel, rfl, by decide +kernel, by decide +kernel⟩
abbrev s_want_number : Stmt := top 16
abbrev N_want_number : List Str := ["value"]
theorem sc_want_number : FnScope ["value"] ["value"] (defScope s_want_number) := ⟨rfl, rfl, rfl, by decide +kernel, rfl, by decide +kernel, by decide +kernel⟩
abbrev s_as_ratio : Stmt := top 17
abbrev N_as_ratio : List Str := ["value"]
theorem sc_as_ratio : FnScope ["value"] ["value"] (defScope s_as_ratio) := ⟨rfl, rfl, rfl, by decide +kernel, rfl, by decide +kernel, by decide +kernel⟩
abbrev s_common_divisor : Stmt := top 18
abbrev N_common_divisor : List Str := ["one", "other"]
theorem sc_common_divisor : FnScope ["one", "other"] ["one", "other"] (defScope s_common_divisor) := ⟨rfl, rfl, rfl, by decide +kernel, rfl, by decide +kernel, by decide +kernel⟩
abbrev s_Ratio_init : Stmt := inClass (top 19) 0
abbrev N_Ratio_init : List Str := ["self", "top", "bottom", "divisor"]
theorem sc_Ratio_init : FnScope ["self", "top", "bottom", "divisor"] ["self", "top", "bottom"] (defScope s_Ratio_init) := ⟨rfl, rfl, rfl, by decide +kernel, rfl, by decide +kernel, by decide +kernel⟩
abbrev s_Ratio_sign : Stmt := inClass (top 19) 4
abbrev N_Ratio_sign : List Str := ["self"]
theorem sc_Ratio_sign : FnScope ["self"] ["self"] (defScope s_Ratio_sign) := ⟨rfl, rfl, rfl, by decide +kernel, rfl, by decide +kernel, by decide +kernel⟩
abbrev s_Ratio_is_below : Stmt := inClass (top 19) 6
abbrev N_Ratio_is_below : List Str := ["self", "other", "mate"]
theorem sc_Ratio_is_below : FnScope ["self", "other", "mate"] ["self", "other"] (defScope s_Ratio_is_below) := ⟨rfl, rfl, rfl, by decide +kernel, rfl, by decide +kernel, by decide +kernel⟩
abbrev s_Ratio_str : Stmt := inClass (top 19) 15
abbrev N_Ratio_str : List Str := ["self"]
theorem sc_Ratio_str : FnScope ["self"] ["self"] (defScope s_Ratio_str) := ⟨rfl, rfl, rfl, by decide +kernel, rfl, by decide +kernel, by decide +kernel⟩
abbrev s_filled : Stmt := top 24
abbrev N_filled : List Str := ["numbers", "number"]
theorem sc_filled : FnScope ["numbers", "number"] ["numbers"] (defScope s_filled) := ⟨rfl, rfl, rfl, by decide +kernel, rfl, by decide +kernel, by decide +kernel⟩
abbrev s_is_right_at : Stmt := top 25
abbrev N_is_right_at : List Str := ["points", "position", "number"]
theorem sc_is_right_at : FnScope ["points", "position", "number"] ["points", "position"] (defScope s_is_right_at) := ⟨rfl, rfl, rfl, by decide +kernel, rfl, by decide +kernel, by decide +kernel⟩
abbrev s_want_few : Stmt := top 26
abbrev N_want_few : List Str := ["numbers"]
theorem sc_want_few : FnScope ["numbers"] ["numbers"] (defScope s_want_few) := ⟨rfl, rfl, rfl, by decide +kernel, rfl, by decide +kernel, by decide +kernel⟩
abbrev s_Table_init : Stmt := inClass (top 27) 0
abbrev N_Table_init : List Str := ["self", "points", "position"]
theorem sc_Table_init : FnScope ["self", "points", "position"] ["self", "points"] (defScope s_Table_init) := ⟨rfl, rfl, rfl, by decide +kernel, rfl, by decide +kernel, by decide +kernel⟩
abbrev s_law_pot : Stmt := top 29
abbrev N_law_pot : List Str := ["_law_script", "_law_k", "_law_cell"]
theorem sc_law_pot : FnScope ["_law_script", "_law_k", "_law_cell"] ["_law_script", "_law_k"] (defScope s_law_pot) := ⟨rfl, rfl, rfl, by decide +kernel, rfl, by decide +kernel, by decide +kernel⟩
abbrev s_law_draw : Stmt := top 30
abbrev N_law_draw : List Str := ["_law_pot_here", "_law_many", "_law_digit"]
theorem sc_law_draw : FnScope ["_law_pot_here", "_law_many", "_law_digit"] ["_law_pot_here", "_law_many"] (defScope s_law_draw) := ⟨rfl, rfl, rfl, by decide +kernel, rfl, by decide +kernel, by decide +kernel⟩
abbrev s_law_pick : Stmt := top 31
abbrev N_law_pick : List Str := ["_law_pot_here", "_law_some"]
theorem sc_law_pick : FnScope ["_law_pot_here", "_law_some"] ["_law_pot_here", "_law_some"] (defScope s_law_pick) := ⟨rfl, rfl, rfl, by decide +kernel, rfl, by decide +kernel, by decide +kernel⟩
abbrev s_law_word : Stmt := top 32
abbrev N_law_word : List Str := ["_law_pot_here", "_law_letters", "_law_turn"]
theorem sc_law_word : FnScope ["_law_pot_here", "_law_letters", "_law_turn"] ["_law_pot_here"] (defScope s_law_word) := ⟨rfl, rfl, rfl, by decide +kernel, rfl, by decide +kernel, by decide +kernel⟩
abbrev s_law_bent : Stmt := top 33
abbrev N_law_bent : List Str := ["_law_pot_here", "_law_word_here", "_law_signs", "_law_way", "_law_at", "_law_sign"]
theorem sc_law_bent : FnScope ["_law_pot_here", "_law_word_here", "_law_signs", "_law_way", "_law_at", "_law_sign"] ["_law_pot_here", "_law_word_here"] (defScope s_law_bent) := ⟨rfl, rfl, rfl, by decide +kernel, rfl, by decide +kernel, by decide +kernel⟩
abbrev s_law_is_name : Stmt := top 34
abbrev N_law_is_name : List Str := ["_law_word_here", "_law_small", "_law_sign"]
theorem sc_law_is_name : FnScope ["_law_word_here", "_law_small", "_law_sign"] ["_law_word_here"] (defScope s_law_is_name) := ⟨rfl, rfl, rfl, by decide +kernel, rfl, by decide +kernel, by decide +kernel⟩
abbrev s_law_told : Stmt := top 35
abbrev N_law_told : List Str := ["_law_thing", "_law_found"]
theorem sc_law_told : FnScope ["_law_thing", "_law_found"] ["_law_thing"] (defScope s_law_told) := ⟨rfl, rfl, rfl, by decide +kernel, rfl, by decide +kernel, by decide +kernel⟩
abbrev s_law_integer_right : Stmt := top 36
abbrev N_law_integer_right : List Str := ["_law_pot_here", "_law_size", "_law_n", "_law_thing", "_law_due", "_law_ratio_now"]
theorem sc_law_integer_right : FnScope ["_law_pot_here", "_law_size", "_law_n", "_law_thing", "_law_due", "_law_ratio_now"] ["_law_pot_here"] (defScope s_law_integer_right) := ⟨rfl, rfl, rfl, by decide +kernel, rfl, by decide +kernel, by decide +kernel⟩
abbrev s_law_odd_right : Stmt := top 37
abbrev N_law_odd_right : List Str := ["_law_pot_here", "_law_some", "_law_thing"]
theorem sc_law_odd_right : FnScope ["_law_pot_here", "_law_some", "_law_thing"] ["_law_pot_here"] (defScope s_law_odd_right) := ⟨rfl, rfl, rfl, by decide +kernel, rfl, by decide +kernel, by decide +kernel⟩
abbrev s_law_right : Stmt := top 38
abbrev N_law_right : List Str := ["_law_pot_here", "_law_turn", "_law_word_here", "_law_some"]
theorem sc_law_right : FnScope ["_law_pot_here", "_law_turn", "_law_word_here", "_law_some"] ["_law_pot_here"] (defScope s_law_right) := ⟨rfl, rfl, rfl, by decide +kernel, rfl, by decide +kernel, by decide +kernel⟩
abbrev s_law : Stmt := top 39
abbrev N_law : List Str := ["_law_script", "_law_k"]
theorem sc_law : FnScope ["_law_script", "_law_k"] ["_law_script"] (defScope s_law) := ⟨rfl, rfl, rfl, by decide +kernel, rfl, by decide +kernel, by decide +kernel⟩
structure Txt (K : PySem.W.Frag) (mg : Str → Option Value) : Prop where
  f_isinstance : mg "isinstance" = none
  f_int : mg "int" = none
  f_bool : mg "bool" = none
  f_abs : mg "abs" = none
  f_str : mg "str" = none
  f_len : mg "len" = none
  f_max : mg "max" = none
  f_min : mg "min" = none
  f_range : mg "range" = none
  f_divmod : mg "divmod" = none
  f_repr : mg "repr" = none
  f_all : mg "all" = none
  f_zip : mg "zip" = none
  g_LETTERS : ∃ t, mg "LETTERS" = some (.str "abcdefghijklmnopqrstuvwxyz" t)
  g_MOST_LETTERS : ∃ t, mg "MOST_LETTERS" = some (.int 8 t)
  g_MOST_PLACES : ∃ t, mg "MOST_PLACES" = some (.int 5 t)
  g_Ratio : mg "Ratio" = some (.ref (He.ga K "Ratio"))
  cl_Ratio : Cls K (He.ga K "Ratio")
  mk_Ratio : Mk K (He.ga K "Ratio") (He.ma K (He.ga K "Ratio") "__init__")
  n_Ratio_own_top : NoAttr K (He.ga K "Ratio") "own_top"
  n_Ratio_own_bottom : NoAttr K (He.ga K "Ratio") "own_bottom"
  ca_Ratio : PySem.W.findIn K (.ref (He.ga K "Ratio")) "__class__" = some (some (.builtin "object.__class__"))
  cm_Ratio : PySem.W.mroIn K (He.ga K "Ratio") (.type "object") = some true
  ki_Ratio_Ratio : PySem.W.kitOne K (.ref (He.ga K "Ratio")) (.ref (He.ga K "Ratio")) = some true
  ki_Ratio_Table : PySem.W.kitOne K (.ref (He.ga K "Ratio")) (.ref (He.ga K "Table")) = some false
  kt_Ratio_int : PySem.W.kitOne K (.ref (He.ga K "Ratio")) (.type "int") = some false
  kt_Ratio_bool : PySem.W.kitOne K (.ref (He.ga K "Ratio")) (.type "bool") = some false
  kt_Ratio_str : PySem.W.kitOne K (.ref (He.ga K "Ratio")) (.type "str") = some false
  kt_Ratio_list : PySem.W.kitOne K (.ref (He.ga K "Ratio")) (.type "list") = some false
  kt_Ratio_tuple : PySem.W.kitOne K (.ref (He.ga K "Ratio")) (.type "tuple") = some false
  kt_Ratio_dict : PySem.W.kitOne K (.ref (He.ga K "Ratio")) (.type "dict") = some false
  kb_int_Ratio : PySem.W.kitOne K (.type "int") (.ref (He.ga K "Ratio")) = some false
  kb_bool_Ratio : PySem.W.kitOne K (.type "bool") (.ref (He.ga K "Ratio")) = some false
  kb_str_Ratio : PySem.W.kitOne K (.type "str") (.ref (He.ga K "Ratio")) = some false
  kb_list_Ratio : PySem.W.kitOne K (.type "list") (.ref (He.ga K "Ratio")) = some false
  kb_tuple_Ratio : PySem.W.kitOne K (.type "tuple") (.ref (He.ga K "Ratio")) = some false
  kb_dict_Ratio : PySem.W.kitOne K (.type "dict") (.ref (He.ga K "Ratio")) = some false
  kb_NoneType_Ratio : PySem.W.kitOne K (.type "NoneType") (.ref (He.ga K "Ratio")) = some false
  g_Table : mg "Table" = some (.ref (He.ga K "Table"))
  cl_Table : Cls K (He.ga K "Table")
  mk_Table : Mk K (He.ga K "Table") (He.ma K (He.ga K "Table") "__init__")
  n_Table_own_points : NoAttr K (He.ga K "Table") "own_points"
  ca_Table : PySem.W.findIn K (.ref (He.ga K "Table")) "__class__" = some (some (.builtin "object.__class__"))
  cm_Table : PySem.W.mroIn K (He.ga K "Table") (.type "object") = some true
  ki_Table_Ratio : PySem.W.kitOne K (.ref (He.ga K "Table")) (.ref (He.ga K "Ratio")) = some false
  ki_Table_Table : PySem.W.kitOne K (.ref (He.ga K "Table")) (.ref (He.ga K "Table")) = some true
  kt_Table_int : PySem.W.kitOne K (.ref (He.ga K "Table")) (.type "int") = some false
  kt_Table_bool : PySem.W.kitOne K (.ref (He.ga K "Table")) (.type "bool") = some false
  kt_Table_str : PySem.W.kitOne K (.ref (He.ga K "Table")) (.type "str") = some false
  kt_Table_list : PySem.W.kitOne K (.ref (He.ga K "Table")) (.type "list") = some false
  kt_Table_tuple : PySem.W.kitOne K (.ref (He.ga K "Table")) (.type "tuple") = some false
  kt_Table_dict : PySem.W.kitOne K (.ref (He.ga K "Table")) (.type "dict") = some false
  kb_int_Table : PySem.W.kitOne K (.type "int") (.ref (He.ga K "Table")) = some false
  kb_bool_Table : PySem.W.kitOne K (.type "bool") (.ref (He.ga K "Table")) = some false
  kb_str_Table : PySem.W.kitOne K (.type "str") (.ref (He.ga K "Table")) = some false
  kb_list_Table : PySem.W.kitOne K (.type "list") (.ref (He.ga K "Table")) = some false
  kb_tuple_Table : PySem.W.kitOne K (.type "tuple") (.ref (He.ga K "Table")) = some false
  kb_dict_Table : PySem.W.kitOne K (.type "dict") (.ref (He.ga K "Table")) = some false
  kb_NoneType_Table : PySem.W.kitOne K (.type "NoneType") (.ref (He.ga K "Table")) = some false
  oc : PySem.W.specialIn K (.builtin "object.__class__") "__get__" = some (some (.builtin "getset_descriptor.__get__"))
  ot : PySem.W.takesIn K (.builtin "object.__class__") = some true
  d_is_integer : ∃ fd, FunD K "is_integer" "is_integer" (defArgs s_is_integer) (defBody s_is_integer) (defScope s_is_integer) [] [] (He.ga K "is_integer") fd
  g_is_integer : mg "is_integer" = some (.ref (He.ga K "is_integer"))
  k_is_integer : PySem.W.keepIn K (.ref (He.ga K "is_integer")) = true
  d_is_count : ∃ fd, FunD K "is_count" "is_count" (defArgs s_is_count) (defBody s_is_count) (defScope s_is_count) [] [] (He.ga K "is_count") fd
  g_is_count : mg "is_count" = some (.ref (He.ga K "is_count"))
  k_is_count : PySem.W.keepIn K (.ref (He.ga K "is_count")) = true
  d_is_number : ∃ fd, FunD K "is_number" "is_number" (defArgs s_is_number) (defBody s_is_number) (defScope s_is_number) [] [] (He.ga K "is_number") fd
  g_is_number : mg "is_number" = some (.ref (He.ga K "is_number"))
  k_is_number : PySem.W.keepIn K (.ref (He.ga K "is_number")) = true
  d_is_name : ∃ fd, FunD K "is_name" "is_name" (defArgs s_is_name) (defBody s_is_name) (defScope s_is_name) [] [] (He.ga K "is_name") fd
  g_is_name : mg "is_name" = some (.ref (He.ga K "is_name"))
  k_is_name : PySem.W.keepIn K (.ref (He.ga K "is_name")) = true
  d_want_number : ∃ fd, FunD K "want_number" "want_number" (defArgs s_want_number) (defBody s_want_number) (defScope s_want_number) [] [] (He.ga K "want_number") fd
  g_want_number : mg "want_number" = some (.ref (He.ga K "want_number"))
  k_want_number : PySem.W.keepIn K (.ref (He.ga K "want_number")) = true
  d_as_ratio : ∃ fd, FunD K "as_ratio" "as_ratio" (defArgs s_as_ratio) (defBody s_as_ratio) (defScope s_as_ratio) [] [] (He.ga K "as_ratio") fd
  g_as_ratio : mg "as_ratio" = some (.ref (He.ga K "as_ratio"))
  k_as_ratio : PySem.W.keepIn K (.ref (He.ga K "as_ratio")) = true
  d_common_divisor : ∃ fd, FunD K "common_divisor" "common_divisor" (defArgs s_common_divisor) (defBody s_common_divisor) (defScope s_common_divisor) [] [] (He.ga K "common_divisor") fd
  g_common_divisor : mg "common_divisor" = some (.ref (He.ga K "common_divisor"))
  k_common_divisor : PySem.W.keepIn K (.ref (He.ga K "common_divisor")) = true
  d_Ratio_init : ∃ fd, FunD K "__init__" "Ratio.__init__" (defArgs s_Ratio_init) (defBody s_Ratio_init) (defScope s_Ratio_init) [V.int 1] [] (He.ma K (He.ga K "Ratio") "__init__") fd
  m_Ratio_init : Meth K (He.ga K "Ratio") "__init__" (He.ma K (He.ga K "Ratio") "__init__")
  d_Ratio_sign : ∃ fd, FunD K "sign" "Ratio.sign" (defArgs s_Ratio_sign) (defBody s_Ratio_sign) (defScope s_Ratio_sign) [] [] (He5.wf K (He.ga K "Ratio") "property" "sign") fd
  p_Ratio_sign : PropOf K (He.ga K "Ratio") "sign" (He.ma K (He.ga K "Ratio") "sign") (He5.wf K (He.ga K "Ratio") "property" "sign")
  d_Ratio_is_below : ∃ fd, FunD K "is_below" "Ratio.is_below" (defArgs s_Ratio_is_below) (defBody s_Ratio_is_below) (defScope s_Ratio_is_below) [] [] (He.ma K (He.ga K "Ratio") "is_below") fd
  m_Ratio_is_below : Meth K (He.ga K "Ratio") "is_below" (He.ma K (He.ga K "Ratio") "is_below")
  d_Ratio_str : ∃ fd, FunD K "__str__" "Ratio.__str__" (defArgs s_Ratio_str) (defBody s_Ratio_str) (defScope s_Ratio_str) [] [] (He.ma K (He.ga K "Ratio") "__str__") fd
  m_Ratio_str : Meth K (He.ga K "Ratio") "__str__" (He.ma K (He.ga K "Ratio") "__str__")
  a_Ratio_str : PySem.W.findIn K (.ref (He.ga K "Ratio")) "__str__" = some (some (.ref (He.ma K (He.ga K "Ratio") "__str__")))
  i_Ratio_str : PySem.W.isFn K (.ref (He.ma K (He.ga K "Ratio") "__str__")) = true
  d_filled : ∃ fd, FunD K "filled" "filled" (defArgs s_filled) (defBody s_filled) (defScope s_filled) [] [] (He.ga K "filled") fd
  g_filled : mg "filled" = some (.ref (He.ga K "filled"))
  k_filled : PySem.W.keepIn K (.ref (He.ga K "filled")) = true
  d_is_right_at : ∃ fd, FunD K "is_right_at" "is_right_at" (defArgs s_is_right_at) (defBody s_is_right_at) (defScope s_is_right_at) [] [] (He.ga K "is_right_at") fd
  g_is_right_at : mg "is_right_at" = some (.ref (He.ga K "is_right_at"))
  k_is_right_at : PySem.W.keepIn K (.ref (He.ga K "is_right_at")) = true
  d_want_few : ∃ fd, FunD K "want_few" "want_few" (defArgs s_want_few) (defBody s_want_few) (defScope s_want_few) [] [] (He.ga K "want_few") fd
  g_want_few : mg "want_few" = some (.ref (He.ga K "want_few"))
  k_want_few : PySem.W.keepIn K (.ref (He.ga K "want_few")) = true
  d_Table_init : ∃ fd, FunD K "__init__" "Table.__init__" (defArgs s_Table_init) (defBody s_Table_init) (defScope s_Table_init) [] [] (He.ma K (He.ga K "Table") "__init__") fd
  m_Table_init : Meth K (He.ga K "Table") "__init__" (He.ma K (He.ga K "Table") "__init__")
  d_law_pot : ∃ fd, FunD K "_law_pot" "_law_pot" (defArgs s_law_pot) (defBody s_law_pot) (defScope s_law_pot) [] [] (He.ga K "_law_pot") fd
  g_law_pot : mg "_law_pot" = some (.ref (He.ga K "_law_pot"))
  k_law_pot : PySem.W.keepIn K (.ref (He.ga K "_law_pot")) = true
  d_law_draw : ∃ fd, FunD K "_law_draw" "_law_draw" (defArgs s_law_draw) (defBody s_law_draw) (defScope s_law_draw) [] [] (He.ga K "_law_draw") fd
  g_law_draw : mg "_law_draw" = some (.ref (He.ga K "_law_draw"))
  k_law_draw : PySem.W.keepIn K (.ref (He.ga K "_law_draw")) = true
  d_law_pick : ∃ fd, FunD K "_law_pick" "_law_pick" (defArgs s_law_pick) (defBody s_law_pick) (defScope s_law_pick) [] [] (He.ga K "_law_pick") fd
  g_law_pick : mg "_law_pick" = some (.ref (He.ga K "_law_pick"))
  k_law_pick : PySem.W.keepIn K (.ref (He.ga K "_law_pick")) = true
  d_law_word : ∃ fd, FunD K "_law_word" "_law_word" (defArgs s_law_word) (defBody s_law_word) (defScope s_law_word) [] [] (He.ga K "_law_word") fd
  g_law_word : mg "_law_word" = some (.ref (He.ga K "_law_word"))
  k_law_word : PySem.W.keepIn K (.ref (He.ga K "_law_word")) = true
  d_law_bent : ∃ fd, FunD K "_law_bent" "_law_bent" (defArgs s_law_bent) (defBody s_law_bent) (defScope s_law_bent) [] [] (He.ga K "_law_bent") fd
  g_law_bent : mg "_law_bent" = some (.ref (He.ga K "_law_bent"))
  k_law_bent : PySem.W.keepIn K (.ref (He.ga K "_law_bent")) = true
  d_law_is_name : ∃ fd, FunD K "_law_is_name" "_law_is_name" (defArgs s_law_is_name) (defBody s_law_is_name) (defScope s_law_is_name) [] [] (He.ga K "_law_is_name") fd
  g_law_is_name : mg "_law_is_name" = some (.ref (He.ga K "_law_is_name"))
  k_law_is_name : PySem.W.keepIn K (.ref (He.ga K "_law_is_name")) = true
  d_law_told : ∃ fd, FunD K "_law_told" "_law_told" (defArgs s_law_told) (defBody s_law_told) (defScope s_law_told) [] [] (He.ga K "_law_told") fd
  g_law_told : mg "_law_told" = some (.ref (He.ga K "_law_told"))
  k_law_told : PySem.W.keepIn K (.ref (He.ga K "_law_told")) = true
  d_law_integer_right : ∃ fd, FunD K "_law_integer_right" "_law_integer_right" (defArgs s_law_integer_right) (defBody s_law_integer_right) (defScope s_law_integer_right) [] [] (He.ga K "_law_integer_right") fd
  g_law_integer_right : mg "_law_integer_right" = some (.ref (He.ga K "_law_integer_right"))
  k_law_integer_right : PySem.W.keepIn K (.ref (He.ga K "_law_integer_right")) = true
  d_law_odd_right : ∃ fd, FunD K "_law_odd_right" "_law_odd_right" (defArgs s_law_odd_right) (defBody s_law_odd_right) (defScope s_law_odd_right) [] [] (He.ga K "_law_odd_right") fd
  g_law_odd_right : mg "_law_odd_right" = some (.ref (He.ga K "_law_odd_right"))
  k_law_odd_right : PySem.W.keepIn K (.ref (He.ga K "_law_odd_right")) = true
  d_law_right : ∃ fd, FunD K "_law_right" "_law_right" (defArgs s_law_right) (defBody s_law_right) (defScope s_law_right) [] [] (He.ga K "_law_right") fd
  g_law_right : mg "_law_right" = some (.ref (He.ga K "_law_right"))
  k_law_right : PySem.W.keepIn K (.ref (He.ga K "_law_right")) = true
  d_law : ∃ fd, FunD K "law" "law" (defArgs s_law) (defBody s_law) (defScope s_law) [] [] (He.ga K "law") fd
  g_law : mg "law" = some (.ref (He.ga K "law"))
  k_law : PySem.W.keepIn K (.ref (He.ga K "law")) = true
/-! ### numbers and ratios in the heap -/
abbrev RC (K : PySem.W.Frag) : Addr := He.ga K "Ratio"
def rfs (t b : Int) : List (Str × V) := [("own_top", .int t), ("own_bottom", .int b)]
/-- v is a Ratio of the two integers -/
def RatV (K : PySem.W.Frag) (H : Hp) (v : V) (p : Int × Int) : Prop := (∃ a dx, v = .ref a ∧ H a = some (.ins (RC K) dx (rfs p.1 p.2))) ∧ M.Red p
/-- v is a number -/
def NumV (K : PySem.W.Frag) (H : Hp) (v : V) (p : Int × Int) : Prop := RatV K H v p ∨ ∃ n, v = .int n ∧ p = (n, 1)
theorem RatV.up {K : PySem.W.Frag} {H H' : Hp} {v : V} {p : Int × Int} (h : RatV K H v p) (s : Same H H') : RatV K H' v p := by
  obtain ⟨⟨a, dx, e, ha⟩, r⟩ := h
  exact ⟨⟨a, dx, e, s _ _ ha⟩, r⟩
theorem NumV.up {K : PySem.W.Frag} {H H' : Hp} {v : V} {p : Int × Int} (h : NumV K H v p) (s : Same H H') : NumV K H' v p := by
  rcases h with h | h
  · exact .inl (h.up s)
  · exact .inr h
theorem NumV.red {K : PySem.W.Frag} {H : Hp} {v : V} {p : Int × Int} (h : NumV K H v p) : M.Red p := by
  rcases h with h | ⟨n, _, e⟩
  · exact h.2
  · rw [e]
    exact M.red_int n
theorem same_new {H : Hp} {p : Addr} {o : HO} (h : H p = none) : Same H (upd H p o) := fun b u e => by
  rw [upd_ne (ne_of_none e h)]
  exact e
/-- what isinstance says of a value: of int, of bool, of Ratio -/
structure Kind (K : PySem.W.Frag) (H : Hp) (v : V) (bi bb br : Bool) : Prop where
  ex : ∃ t, TyX K H v t ∧ PySem.W.kitOne K t (.type "int") = some bi ∧ PySem.W.kitOne K t (.type "bool") = some bb ∧ PySem.W.kitOne K t (.ref (RC K)) = some br
section
variable {K : PySem.W.Frag} {mg : Str → Option Value} {H : Hp}
theorem ty_rat (T : Txt K mg) {a dx : Addr} {fs : List (Str × V)} (h : H a = some (.ins (RC K) dx fs)) : TyX K H (.ref a) (.ref (RC K)) := .base (.ins h T.cl_Ratio T.ca_Ratio T.oc T.ot T.cm_Ratio)
theorem kind_rat (T : Txt K mg) {v : V} {p : Int × Int} (h : RatV K H v p) : Kind K H v false false true := by
  obtain ⟨⟨a, dx, rfl, ha⟩, _⟩ := h
  exact ⟨_, ty_rat T ha, T.kt_Ratio_int, T.kt_Ratio_bool, T.ki_Ratio_Ratio⟩
theorem kind_int (T : Txt K mg) (n : Int) : Kind K H (.int n) true false false := ⟨_, .base (.int n), kit_ty (by decide +kernel), kit_ty (by decide +kernel), T.kb_int_Ratio⟩
theorem kind_num (T : Txt K mg) {v : V} {p : Int × Int} (h : NumV K H v p) : ∃ bi bb br, Kind K H v bi bb br ∧ ((bi && !bb) || br) = true := by
  rcases h with h | ⟨n, rfl, _⟩
  · exact ⟨_, _, _, kind_rat T h, rfl⟩
  · exact ⟨_, _, _, kind_int T n, rfl⟩
end
/-! ### is_integer, is_number, want_number -/
def spIsInt (K : PySem.W.Frag) : Sp := fun vs H Q _ => ∃ v bi bb br, vs = [v] ∧ Kind K H v bi bb br ∧ Q (.bl (bi && !bb)) H
def spIsNum (K : PySem.W.Frag) : Sp := fun vs H Q _ => ∃ v bi bb br, vs = [v] ∧ Kind K H v bi bb br ∧ Q (.bl ((bi && !bb) || br)) H
def spWant (K : PySem.W.Frag) : Sp := fun vs H Q _ => ∃ v bi bb br, vs = [v] ∧ Kind K H v bi bb br ∧ ((bi && !bb) || br) = true ∧ Q .non H
theorem okb_is_integer {P : Program} {w : World} {K : PySem.W.Frag} {mg : Str → Option Value} {base : Heap} (T : Txt K mg) {fd : FuncData} (F : FunD K "is_integer" "is_integer" (defArgs s_is_integer) (defBody s_is_integer) (defScope s_is_integer) [] [] (He.ga K "is_integer") fd) : FnOk P w K mg base (L2.CX P w) 1 (He.ga K "is_integer") fd ["value"] ((spIsInt K)) := by
  refine F.ok sc_is_integer (fun vs H Q E h => ?_) (fun cdv A outer s H vs Q E hr h => ?_)
  · obtain ⟨v, bi, bb, br, rfl, ⟨t, ty, h1, h2, h3⟩, k⟩ := h
    rfl
  obtain ⟨v, bi, bb, br, rfl, ⟨t, ty, h1, h2, h3⟩, k⟩ := h
  refine ⟨_, PSs.nox (pss_one (ps_ret (pe_and (pe_callB (Z.isiK (K := K) rfl) (by rfl) T.f_isinstance (by decide +kernel) (pa_cons (pv 0) (pa_cons (pe_bltn (v := .ty "int") rfl T.f_int (by decide +kernel) rfl) pa_nil))) (pe_one (pe_not (pe_callB (Z.isiK (K := K) rfl) (by rfl) T.f_isinstance (by decide +kernel) (pa_cons (pv 0) (pa_cons (pe_bltn (v := .ty "bool") rfl T.f_bool (by decide +kernel) rfl) pa_nil)))))))), ?_⟩
  refine ⟨_, rfl, v, .ty "int", t, _, bi, rfl, .ty _, ty, h1, _, rfl, ?_⟩
  cases bi with
  | false => exact iteF k
  | true => exact iteT ⟨_, rfl, v, .ty "bool", t, _, bb, rfl, .ty _, ty, h2, _, rfl, k⟩
theorem ok_is_integer {P : Program} {w : World} {K : PySem.W.Frag} {mg : Str → Option Value} {base : Heap} (T : Txt K mg) : FnR P w K mg base (L2.CX P w) 1 (He.ga K "is_integer") ((spIsInt K)) := by
  obtain ⟨fd, F⟩ := T.d_is_integer
  exact Z.raw0 (okb_is_integer T F) (F.bindsN fun _ _ _ _ _ _ us hl => match us, hl with | [_], _ => rfl)
theorem okb_is_number {P : Program} {w : World} {K : PySem.W.Frag} {mg : Str → Option Value} {base : Heap} (T : Txt K mg) {fd : FuncData} (F : FunD K "is_number" "is_number" (defArgs s_is_number) (defBody s_is_number) (defScope s_is_number) [] [] (He.ga K "is_number") fd) : FnOk P w K mg base (L2.CX P w) 2 (He.ga K "is_number") fd ["value"] ((spIsNum K)) := by
  refine F.ok sc_is_number (fun vs H Q E h => ?_) (fun cdv A outer s H vs Q E hr h => ?_)
  · obtain ⟨v, bi, bb, br, rfl, kd, k⟩ := h
    rfl
  obtain ⟨v, bi, bb, br, rfl, kd, k⟩ := h
  refine ⟨_, PSs.nox (pss_one (ps_ret (pe_or (Z.pe_cl (E := E0) (ok_is_integer T) (hr.mono (by decide)) T.g_is_integer T.k_is_integer passL (pa_cons (pv 0) pa_nil)) (pe_one (pe_callB (Z.isiK (K := K) rfl) (by rfl) T.f_isinstance (by decide +kernel) (pa_cons (pv 0) (pa_cons (pe_glob (v := .ref (He.ga K "Ratio")) rfl T.g_Ratio rfl) pa_nil))))))), ?_⟩
  have kd2 := kd
  obtain ⟨t, ty, h1, h2, h3⟩ := kd2
  refine ⟨_, rfl, v, bi, bb, br, rfl, kd, _, rfl, ?_⟩
  cases e : (bi && !bb) with
  | true =>
    rw [e] at k
    exact iteT k
  | false =>
    rw [e] at k
    exact iteF ⟨_, rfl, v, .ref (RC K), t, _, br, rfl, .own _, ty, h3, k⟩
theorem ok_is_number {P : Program} {w : World} {K : PySem.W.Frag} {mg : Str → Option Value} {base : Heap} (T : Txt K mg) : FnR P w K mg base (L2.CX P w) 2 (He.ga K "is_number") ((spIsNum K)) := by
  obtain ⟨fd, F⟩ := T.d_is_number
  exact Z.raw0 (okb_is_number T F) (F.bindsN fun _ _ _ _ _ _ us hl => match us, hl with | [_], _ => rfl)
theorem okb_want_number {P : Program} {w : World} {K : PySem.W.Frag} {mg : Str → Option Value} {base : Heap} (T : Txt K mg) {fd : FuncData} (F : FunD K "want_number" "want_number" (defArgs s_want_number) (defBody s_want_number) (defScope s_want_number) [] [] (He.ga K "want_number") fd) : FnOk P w K mg base (L2.CX P w) 3 (He.ga K "want_number") fd ["value"] ((spWant K)) := by
  refine F.ok sc_want_number (fun vs H Q E h => ?_) (fun cdv A outer s H vs Q E hr h => ?_)
  · obtain ⟨v, bi, bb, br, rfl, kd, hb, k⟩ := h
    rfl
  obtain ⟨v, bi, bb, br, rfl, kd, hb, k⟩ := h
  refine ⟨_, PSs.nox (pss_one (ps_if (pt_not (pt_val (Z.pe_cl (E := E0) (ok_is_number T) (hr.mono (by decide)) T.g_is_number T.k_is_number passL (pa_cons (pv 0) pa_nil)))) (pss_never) (pss_nil))), ?_⟩
  refine ⟨_, rfl, v, bi, bb, br, rfl, kd, _, rfl, ?_⟩
  rw [hb]
  exact iteF k
theorem ok_want_number {P : Program} {w : World} {K : PySem.W.Frag} {mg : Str → Option Value} {base : Heap} (T : Txt K mg) : FnR P w K mg base (L2.CX P w) 3 (He.ga K "want_number") ((spWant K)) := by
  obtain ⟨fd, F⟩ := T.d_want_number
  exact Z.raw0 (okb_want_number T F) (F.bindsN fun _ _ _ _ _ _ us hl => match us, hl with | [_], _ => rfl)
/-! ### common_divisor -/
def spGcd : Sp := fun vs H Q _ => ∃ m n : Int, vs = [.int m, .int n] ∧ 0 ≤ m ∧ 0 ≤ n ∧ Q (.int (Int.gcd m n : Int)) H
theorem okb_common_divisor {P : Program} {w : World} {K : PySem.W.Frag} {mg : Str → Option Value} {base : Heap} (T : Txt K mg) {fd : FuncData} (F : FunD K "common_divisor" "common_divisor" (defArgs s_common_divisor) (defBody s_common_divisor) (defScope s_common_divisor) [] [] (He.ga K "common_divisor") fd) : FnOk P w K mg base (L2.CX P w) 1 (He.ga K "common_divisor") fd ["one", "other"] (spGcd) := by
  refine F.ok sc_common_divisor (fun vs H Q E h => ?_) (fun cdv A outer s H vs Q E hr h => ?_)
  · obtain ⟨m, n, rfl, hm, hn, k⟩ := h
    rfl
  obtain ⟨m, n, rfl, hm, hn, k⟩ := h
  refine ⟨_, PSs.nox (pss_cons (ps_while PassesOwn.never (pt_cmpR op_gt (pv 1) (pe_int) (nomark _)) (pss_one (ps_par (i := 0) (j := 1) (by rfl) sc_common_divisor.nd rfl rfl (by decide) rfl rfl (pa_cons (pv 1) (pa_cons (pe_op op_mod (pv 0) (pv 1)) pa_nil)) (by rfl)))) (pss_one (ps_ret (pv 0)))), ?_⟩
  refine ⟨fun c σ H' => ∃ a b : Int, σ = [some (.int a), some (.int b)] ∧ H' = H ∧ 0 ≤ a ∧ 0 ≤ b ∧ Int.gcd a b = Int.gcd m n ∧ c = b.toNat, ⟨_, m, n, rfl, rfl, hm, hn, rfl, rfl⟩, ?_⟩
  rintro c σ H' ⟨a, b, rfl, rfl, ha, hb, hg, rfl⟩
  refine ⟨_, rfl, _, _, rfl, rfl, _, rfl, ?_⟩
  by_cases hp : 0 < b
  · rw [decide_eq_true hp]
    refine iteT ⟨fun σ' H2 => ∃ m', m' < b.toNat ∧ ∃ a2 b2 : Int, σ' = [some (.int a2), some (.int b2)] ∧ H2 = H' ∧ 0 ≤ a2 ∧ 0 ≤ b2 ∧ Int.gcd a2 b2 = Int.gcd m n ∧ m' = b2.toNat, fun _ _ z => z, ?_⟩
    refine ⟨_, rfl, _, rfl, _, rfl, _, _, rfl, rfl, hp, _, _, rfl, ?_⟩
    have h1 := Int.emod_nonneg a (Int.ne_of_gt hp)
    have h2 := Int.emod_lt_of_pos a hp
    exact ⟨(a % b).toNat, by omega, b, a % b, rfl, rfl, hb, h1, (M.gcd_step ha hp).trans hg, rfl⟩
  · rw [decide_eq_false hp]
    have e : b = 0 := by omega
    subst e
    refine iteF ⟨_, rfl, ?_⟩
    rw [← hg, M.gcd_end ha] at k
    exact k
theorem ok_common_divisor {P : Program} {w : World} {K : PySem.W.Frag} {mg : Str → Option Value} {base : Heap} (T : Txt K mg) : FnR P w K mg base (L2.CX P w) 1 (He.ga K "common_divisor") (spGcd) := by
  obtain ⟨fd, F⟩ := T.d_common_divisor
  exact Z.raw0 (okb_common_divisor T F) (F.bindsN fun _ _ _ _ _ _ us hl => match us, hl with | [_, _], _ => rfl)
/-! ### Ratio.__init__ -/
theorem log_lt {x : Int} {n : Nat} (h : x.natAbs < 2 ^ n) (h0 : 0 < n) : x.natAbs.log2 < n := PySem.Flt.log2_lt_of h0 h
/-- the object x was made with the two integers; all else stands -/
def spInit (K : PySem.W.Frag) : Sp := fun vs H Q _ => ∃ (x dx : Addr) (t b : Int), vs = [.ref x, .int t, .int b] ∧ H x = some (.ins (RC K) dx []) ∧ b ≠ 0 ∧ t.natAbs < 2 ^ 8000 ∧ b.natAbs < 2 ^ 8000 ∧
  ∀ H', (∀ c o, c ≠ x → H c = some o → H' c = some o) → H' x = some (.ins (RC K) dx (rfs (M.low t b).1 (M.low t b).2)) → Q .non H'
theorem fst_ne : ¬ (("own_top" : Str) = "own_bottom") := by decide +kernel
theorem put_both (t b : Int) : putF "own_bottom" (.int b) (putF "own_top" (.int t) []) = rfs t b := by
  show (if ("own_top" : Str) = "own_bottom" then _ else (("own_top" : Str), V.int t) :: putF "own_bottom" (.int b) []) = _
  rw [if_neg fst_ne]
  rfl
theorem okb_Ratio_init {P : Program} {w : World} {K : PySem.W.Frag} {mg : Str → Option Value} {base : Heap} (T : Txt K mg) {fd : FuncData} (F : FunD K "__init__" "Ratio.__init__" (defArgs s_Ratio_init) (defBody s_Ratio_init) (defScope s_Ratio_init) [V.int 1] [] (He.ma K (He.ga K "Ratio") "__init__") fd) : FnOk P w K mg base (L2.CX P w) 2 (He.ma K (He.ga K "Ratio") "__init__") fd ["self", "top", "bottom"] ((spInit K)) := by
  refine F.ok sc_Ratio_init (fun vs H Q E h => ?_) (fun cdv A outer s H vs Q E hr h => ?_)
  · obtain ⟨x, dx, t, b, rfl, hx, hb, ht, hz, k⟩ := h
    rfl
  obtain ⟨x, dx, t, b, rfl, hx, hb, ht, hz, k⟩ := h
  refine ⟨_, PSs.nox (pss_cons (ps_if (pt_not (pt_val (Z.pe_cl (E := E0) (ok_is_integer T) (hr.mono (by decide)) T.g_is_integer T.k_is_integer passL (pa_cons (pv 1) pa_nil)))) (pss_never) (pss_nil)) (pss_cons (ps_if (PW.pt (pw_or (pt_not (pt_val (Z.pe_cl (E := E0) (ok_is_integer T) (hr.mono (by decide)) T.g_is_integer T.k_is_integer passL (pa_cons (pv 2) pa_nil)))) (pw_or1 (pt_cmpR op_eq (pv 2) (pe_int) (nomark _))))) (pss_never) (pss_nil)) (pss_cons (ps_set (i := 3) sc_Ratio_init.nd rfl (Or.inl rfl) (Z.pe_cl (E := E0) (ok_common_divisor T) (hr.mono (by decide)) T.g_common_divisor T.k_common_divisor passL (pa_cons (pe_callB call_abs (by rfl) T.f_abs (by decide +kernel) (pa_cons (pv 1) pa_nil)) (pa_cons (pe_callB call_abs (by rfl) T.f_abs (by decide +kernel) (pa_cons (pv 2) pa_nil)) pa_nil)))) (pss_cons (ps_if (pt_cmpR op_lt (pv 2) (pe_int) (nomark _)) (pss_one (ps_set (i := 3) sc_Ratio_init.nd rfl (Or.inl rfl) (pe_un un_neg (pv 3)))) (pss_nil)) (pss_cons (ps_fld (pv 0) (pe_op Z.op_fdivZ (pv 1) (pv 3)) rfl) (pss_one (ps_fld (pv 0) (pe_op Z.op_fdivZ (pv 2) (pv 3)) rfl))))))), ?_⟩
  refine ⟨_, rfl, _, _, _, _, rfl, kind_int T t, _, rfl, iteF ?_⟩
  refine ⟨_, rfl, _, _, _, _, rfl, kind_int T b, _, rfl, iteF ⟨_, rfl, rfl, _, rfl, ?_⟩⟩
  have nb : decide (V.int b = V.int 0) = false := decide_eq_false fun e => hb (V.int.inj e)
  rw [nb]
  refine iteF ?_
  -- divisor
  refine ⟨_, rfl, _, rfl, _, rfl, _, rfl, _, _, rfl, ?_, ?_, ?_⟩
  · split <;> omega
  · split <;> omega
  rw [M.gcd_abs]
  refine ⟨_, rfl, _, _, rfl, rfl, _, rfl, ?_⟩
  have gp := M.gcd_pos (u := t) hb
  have gz : Int.gcd t b < 2 ^ 8000 := Nat.lt_of_le_of_lt (Nat.le_of_dvd (Int.natAbs_pos.mpr hb) (by have := Int.natAbs_dvd_natAbs.mpr (Int.gcd_dvd_right t b); simpa using this)) hz
  have step : ∀ (g : Int), g = M.sg t b → Z.CDz t g ∧ Z.CDz b g := fun g e => by
    have h1 : g ≠ 0 := e ▸ M.sg_ne hb
    have h2 : g.natAbs.log2 < 9000 := Nat.lt_trans (log_lt (n := 8000) (by rw [e, M.sg_abs]; exact gz) (by decide)) (by decide)
    exact ⟨⟨h1, h2⟩, ⟨h1, h2⟩⟩
  by_cases hn : b < 0
  · rw [decide_eq_true hn]
    have e : -(Int.gcd t b : Int) = M.sg t b := (if_pos hn).symm
    obtain ⟨c1, c2⟩ := step _ e
    refine iteT ⟨_, rfl, _, rfl, ?_⟩
    refine ⟨_, rfl, _, rfl, _, _, rfl, rfl, c1, _, rfl, x, RC K, dx, _, rfl, hx, T.cl_Ratio, T.n_Ratio_own_top, (by decide), ?_⟩
    refine ⟨_, rfl, _, rfl, _, _, rfl, rfl, c2, _, rfl, x, RC K, dx, _, rfl, upd_same, T.cl_Ratio, T.n_Ratio_own_bottom, (by show 1 < 1000; decide), ?_⟩
    refine k _ (fun c o hc e => by rw [upd_ne hc, upd_ne hc]; exact e) ?_
    rw [upd_same, put_both, e]
    rfl
  · rw [decide_eq_false hn]
    have e : (Int.gcd t b : Int) = M.sg t b := (if_neg hn).symm
    obtain ⟨c1, c2⟩ := step _ e
    refine iteF ?_
    refine ⟨_, rfl, _, rfl, _, _, rfl, rfl, c1, _, rfl, x, RC K, dx, _, rfl, hx, T.cl_Ratio, T.n_Ratio_own_top, (by decide), ?_⟩
    refine ⟨_, rfl, _, rfl, _, _, rfl, rfl, c2, _, rfl, x, RC K, dx, _, rfl, upd_same, T.cl_Ratio, T.n_Ratio_own_bottom, (by show 1 < 1000; decide), ?_⟩
    refine k _ (fun c o hc e => by rw [upd_ne hc, upd_ne hc]; exact e) ?_
    rw [upd_same, put_both, e]
    rfl
section
variable {P : Program} {w : World} {K : PySem.W.Frag} {mg : Str → Option Value} {base : Heap}
theorem ok_Ratio_init1 (T : Txt K mg) : FnR P w K mg base (L2.CX P w) 2 (He.ma K (He.ga K "Ratio") "__init__") (fun vs H Q E => spInit K (vs ++ [.int 1]) H Q E) := by
  obtain ⟨fd, F⟩ := T.d_Ratio_init
  obtain ⟨ds, r, b⟩ := F.binds1 (ps := ["self", "top", "bottom"]) 2 0 (by decide) rfl fun _ _ _ _ _ _ _ us its h1 h2 => match us, its, h1, h2 with | [_, _], [_], _, _ => ⟨_, rfl, rfl⟩
  exact (okb_Ratio_init T F).raw b r
theorem ok_Ratio_init2 (T : Txt K mg) : FnR P w K mg base (L2.CX P w) 2 (He.ma K (He.ga K "Ratio") "__init__") (fun vs H Q E => spInit K (vs ++ []) H Q E) := by
  obtain ⟨fd, F⟩ := T.d_Ratio_init
  obtain ⟨ds, r, b⟩ := F.binds1 (ps := ["self", "top", "bottom"]) 3 1 (by decide) rfl fun _ _ _ _ _ _ _ us its h1 h2 => match us, its, h1, h2 with | [_, _, _], [_], _, _ => ⟨_, rfl, rfl⟩
  exact (okb_Ratio_init T F).raw b r
theorem okk_Ratio_init_bottom_top (T : Txt K mg) : Z.FnK P w K mg base (L2.CX P w) 2 (He.ma K (He.ga K "Ratio") "__init__") 1 ["bottom", "top"] (fun vs zs H Q E => spInit K (vs ++ [zs.getD 1 .non, zs.getD 0 .non]) H Q E) := by
  obtain ⟨fd, F⟩ := T.d_Ratio_init
  obtain ⟨its, b⟩ := F.kbindsD (ps := ["self", "top", "bottom"]) 1 ["bottom", "top"] (fun {α} us ds ws => us ++ (ws.drop 1).take 1 ++ ws.take 1) (by decide) (fun r1 r2 r3 => (r1.append ((r3.drop 1).take 1)).append (r3.take 1))
    fun _ _ _ _ _ _ _ us its ws h1 h2 h3 => match us, its, ws, h1, h2, h3 with | [_], [_], [_, _], _, _, _ => ⟨_, rfl, rfl⟩
  have G := Z.fnk (okb_Ratio_init (P := P) (w := w) (base := base) T F) b
  intro A outer s H us ws vs zs Q E hr e0 r1 r2 l1 l2 h
  refine G A outer s H us ws vs zs Q E hr e0 r1 r2 l1 l2 ?_
  match zs, l2 with
  | [z1, z2], _ =>
    show spInit K (vs ++ [z2] ++ [z1]) H Q E
    rw [List.append_assoc]
    exact h
theorem made_ok {H H' : Hp} {x dx : Addr} {t b : Int} (hb : b ≠ 0) (hx : H x = none) (hd : H dx = none) (kp : ∀ c o, c ≠ x → upd (upd H dx (.own x)) x (.ins (RC K) dx []) c = some o → H' c = some o)
    (h' : H' x = some (.ins (RC K) dx (rfs (M.low t b).1 (M.low t b).2))) : Same H H' ∧ RatV K H' (.ref x) (M.low t b) := by
  refine ⟨fun c o e => ?_, ⟨x, dx, rfl, h'⟩, M.low_red hb⟩
  have nx := ne_of_none e hx
  exact kp c o nx (by rw [upd_ne nx, upd_ne (ne_of_none e hd)]; exact e)
/-- a new Ratio -/
theorem mk_ratio {H : Hp} {Q : VK} {E : XK} {t b : Int} (hb : b ≠ 0) (ht : t.natAbs < 2 ^ 8000) (hz : b.natAbs < 2 ^ 8000) (k : ∀ r H', Same H H' → RatV K H' r (M.low t b) → Q r H') :
    ∀ x dx : Addr, H x = none → H dx = none → dx ≠ x → spInit K [.ref x, .int t, .int b] (upd (upd H dx (.own x)) x (.ins (RC K) dx [])) (fun v H2 => v = .non ∧ Q (.ref x) H2) E := by
  intro x dx hx hd ne
  refine ⟨x, dx, t, b, rfl, upd_same, hb, ht, hz, fun H' kp h' => ⟨rfl, k _ H' (fun c o e => ?_) ⟨⟨x, dx, rfl, h'⟩, M.low_red hb⟩⟩⟩
  have nx := ne_of_none e hx
  exact kp c o nx (by rw [upd_ne nx, upd_ne (ne_of_none e hd)]; exact e)
end
theorem rfs_top (t b : Int) : (rfs t b).lookup ("own_top" : Str) = some (V.int t) := by simp [rfs, List.lookup]
theorem rfs_bot (t b : Int) : (rfs t b).lookup ("own_bottom" : Str) = some (V.int b) := by
  have e : (("own_bottom" : Str) == "own_top") = false := by decide +kernel
  simp [rfs, List.lookup, e]
theorem rfs_no (t b : Int) {m : Str} (h1 : (m == ("own_top" : Str)) = false) (h2 : (m == ("own_bottom" : Str)) = false) : (rfs t b).lookup m = none := by simp [rfs, List.lookup, h1, h2]
/-! ### as_ratio -/
def spAs (K : PySem.W.Frag) : Sp := fun vs H Q _ => ∃ v p, vs = [v] ∧ NumV K H v p ∧ M.Sz 7000 p ∧ ∀ r H', Same H H' → RatV K H' r p → Q r H'
theorem okb_as_ratio {P : Program} {w : World} {K : PySem.W.Frag} {mg : Str → Option Value} {base : Heap} (T : Txt K mg) {fd : FuncData} (F : FunD K "as_ratio" "as_ratio" (defArgs s_as_ratio) (defBody s_as_ratio) (defScope s_as_ratio) [] [] (He.ga K "as_ratio") fd) : FnOk P w K mg base (L2.CX P w) 4 (He.ga K "as_ratio") fd ["value"] ((spAs K)) := by
  refine F.ok sc_as_ratio (fun vs H Q E h => ?_) (fun cdv A outer s H vs Q E hr h => ?_)
  · obtain ⟨v, p, rfl, hv, hz, k⟩ := h
    rfl
  obtain ⟨v, p, rfl, hv, hz, k⟩ := h
  refine ⟨_, PSs.nox (pss_one (ps_ret (pe_ifExp (pt_val (pe_callB (Z.isiK (K := K) rfl) (by rfl) T.f_isinstance (by decide +kernel) (pa_cons (pv 0) (pa_cons (pe_glob (v := .ref (He.ga K "Ratio")) rfl T.g_Ratio rfl) pa_nil)))) (pv 0) (StX.pe_makeR (E := E0) T.mk_Ratio (ok_Ratio_init1 T) (hr.mono (by decide)) rfl T.g_Ratio passL (pa_cons (pv 0) pa_nil))))), ?_⟩
  rcases hv with hv | ⟨n, rfl, rfl⟩
  · have hv2 := hv
    obtain ⟨⟨a, dx, rfl, ha⟩, _⟩ := hv2
    exact ⟨_, rfl, _, .ref (RC K), _, _, true, rfl, .own _, ty_rat T ha, T.ki_Ratio_Ratio, _, rfl, iteT ⟨_, rfl, k _ _ (Same.refl _) hv⟩⟩
  · refine ⟨_, rfl, _, .ref (RC K), _, _, false, rfl, .own _, .base (.int n), T.kb_int_Ratio, _, rfl, iteF ⟨_, rfl, ?_⟩⟩
    refine mk_ratio (by decide) (Nat.lt_trans hz.1 (Nat.pow_lt_pow_right (by decide) (by decide))) (Nat.lt_trans hz.2 (Nat.pow_lt_pow_right (by decide) (by decide))) fun r H' s h' => ?_
    rw [M.low_int] at h'
    exact k r H' s h'
theorem ok_as_ratio {P : Program} {w : World} {K : PySem.W.Frag} {mg : Str → Option Value} {base : Heap} (T : Txt K mg) : FnR P w K mg base (L2.CX P w) 4 (He.ga K "as_ratio") ((spAs K)) := by
  obtain ⟨fd, F⟩ := T.d_as_ratio
  exact Z.raw0 (okb_as_ratio T F) (F.bindsN fun _ _ _ _ _ _ us hl => match us, hl with | [_], _ => rfl)
/-! ### top, bottom, sign -/
def spTop (K : PySem.W.Frag) : Sp := fun vs H Q _ => ∃ v p, vs = [v] ∧ RatV K H v p ∧ Q (.int p.1) H
def spBot (K : PySem.W.Frag) : Sp := fun vs H Q _ => ∃ v p, vs = [v] ∧ RatV K H v p ∧ Q (.int p.2) H
def sgn (n : Int) : Int := (if decide (0 < n) = true then 1 else 0) - (if decide (n < 0) = true then 1 else 0)
def spSign (K : PySem.W.Frag) : Sp := fun vs H Q _ => ∃ v p, vs = [v] ∧ RatV K H v p ∧ Q (.int (sgn p.1)) H
theorem okb_Ratio_sign {P : Program} {w : World} {K : PySem.W.Frag} {mg : Str → Option Value} {base : Heap} (T : Txt K mg) {fd : FuncData} (F : FunD K "sign" "Ratio.sign" (defArgs s_Ratio_sign) (defBody s_Ratio_sign) (defScope s_Ratio_sign) [] [] (He5.wf K (He.ga K "Ratio") "property" "sign") fd) : FnOk P w K mg base (L2.CX P w) 1 (He5.wf K (He.ga K "Ratio") "property" "sign") fd ["self"] ((spSign K)) := by
  refine F.ok sc_Ratio_sign (fun vs H Q E h => ?_) (fun cdv A outer s H vs Q E hr h => ?_)
  · obtain ⟨_, p, rfl, ⟨⟨a, dx, rfl, ha⟩, _⟩, k⟩ := h
    rfl
  obtain ⟨_, p, rfl, ⟨⟨a, dx, rfl, ha⟩, _⟩, k⟩ := h
  refine ⟨_, PSs.nox (pss_one (ps_ret (pe_op op_sub (pe_callTy call_int1 (by rfl) T.f_int (by decide +kernel) (pa_cons (pe_cmpR op_gt (pe_fld (pv 0) rfl) (pe_int) (nomark _)) pa_nil)) (pe_callTy call_int1 (by rfl) T.f_int (by decide +kernel) (pa_cons (pe_cmpR op_lt (pe_fld (pv 0) rfl) (pe_int) (nomark _)) pa_nil))))), ?_⟩
  refine ⟨_, rfl, a, _, dx, _, _, rfl, ha, T.cl_Ratio, T.n_Ratio_own_top, rfs_top _ _, _, _, rfl, rfl, .inr ⟨_, rfl, ?_⟩⟩
  exact ⟨_, rfl, a, _, dx, _, _, rfl, ha, T.cl_Ratio, T.n_Ratio_own_top, rfs_top _ _, _, _, rfl, rfl, .inr ⟨_, rfl, _, _, rfl, rfl, k⟩⟩
theorem ok_Ratio_sign {P : Program} {w : World} {K : PySem.W.Frag} {mg : Str → Option Value} {base : Heap} (T : Txt K mg) : FnR P w K mg base (L2.CX P w) 1 (He5.wf K (He.ga K "Ratio") "property" "sign") ((spSign K)) := by
  obtain ⟨fd, F⟩ := T.d_Ratio_sign
  exact Z.raw0 (okb_Ratio_sign T F) (F.bindsN fun _ _ _ _ _ _ us hl => match us, hl with | [_], _ => rfl)
/-! ### the operators -/
def spNeg (K : PySem.W.Frag) : Sp := fun vs H Q _ => ∃ v p, vs = [v] ∧ RatV K H v p ∧ M.Sz 7000 p ∧ ∀ r H', Same H H' → RatV K H' r (-p.1, p.2) → Q r H'
theorem sz8 {n : Nat} {x : Int} (h : x.natAbs < 2 ^ n) (hn : n ≤ 8000) : x.natAbs < 2 ^ 8000 := Nat.lt_of_lt_of_le h (Nat.pow_le_pow_right (by decide) hn)
theorem mul_ok {x y : Int} (h1 : x.natAbs < 2 ^ 3000) (h2 : y.natAbs < 2 ^ 3000) : CMulW x y := wide_mul h1 h2 (by decide) (by decide) (by decide)
/-- a two-place operator: f of the two fractions, the sizes below 2 ^ 3000 -/
def spBin (K : PySem.W.Frag) (f : Int × Int → Int × Int → Int × Int) : Sp := fun vs H Q _ => ∃ v w p q, vs = [v, w] ∧ RatV K H v p ∧ NumV K H w q ∧ M.Sz 3000 p ∧ M.Sz 3000 q ∧ ∀ r H', Same H H' → RatV K H' r (f p q) → Q r H'
theorem m7 {p : Int × Int} (h : M.Sz 3000 p) : M.Sz 7000 p := h.mono (by decide)
/-- the quotient -/
def divd (p q : Int × Int) : Int × Int := M.low (p.1 * q.2) (p.2 * q.1)
def spOver (K : PySem.W.Frag) : Sp := fun vs H Q _ => ∃ v w p q, vs = [v, w] ∧ RatV K H v p ∧ NumV K H w q ∧ M.Sz 3000 p ∧ M.Sz 3000 q ∧ q.1 ≠ 0 ∧ ∀ r H', Same H H' → RatV K H' r (divd p q) → Q r H'
def below (p q : Int × Int) : Bool := decide (p.1 * q.2 < q.1 * p.2)
def spBelow (K : PySem.W.Frag) : Sp := fun vs H Q _ => ∃ v w p q, vs = [v, w] ∧ RatV K H v p ∧ NumV K H w q ∧ M.Sz 3000 p ∧ M.Sz 3000 q ∧ ∀ H', Same H H' → Q (.bl (below p q)) H'
theorem okb_Ratio_is_below {P : Program} {w : World} {K : PySem.W.Frag} {mg : Str → Option Value} {base : Heap} (T : Txt K mg) {fd : FuncData} (F : FunD K "is_below" "Ratio.is_below" (defArgs s_Ratio_is_below) (defBody s_Ratio_is_below) (defScope s_Ratio_is_below) [] [] (He.ma K (He.ga K "Ratio") "is_below") fd) : FnOk P w K mg base (L2.CX P w) 5 (He.ma K (He.ga K "Ratio") "is_below") fd ["self", "other"] ((spBelow K)) := by
  refine F.ok sc_Ratio_is_below (fun vs H Q E h => ?_) (fun cdv A outer s H vs Q E hr h => ?_)
  · obtain ⟨_, w, p, q, rfl, ⟨⟨a, dx, rfl, ha⟩, hp⟩, hw, zp, zq, k⟩ := h
    rfl
  obtain ⟨_, w, p, q, rfl, ⟨⟨a, dx, rfl, ha⟩, hp⟩, hw, zp, zq, k⟩ := h
  refine ⟨_, PSs.nox (pss_cons (ps_expr (Z.pe_cl (E := E0) (ok_want_number T) (hr.mono (by decide)) T.g_want_number T.k_want_number passL (pa_cons (pv 1) pa_nil))) (pss_cons (ps_set (i := 2) sc_Ratio_is_below.nd rfl (Or.inl rfl) (Z.pe_cl (E := E0) (ok_as_ratio T) (hr.mono (by decide)) T.g_as_ratio T.k_as_ratio passL (pa_cons (pv 1) pa_nil))) (pss_one (ps_ret (pe_cmpR op_lt (pe_op op_mulW (pe_fld (pv 0) rfl) (pe_fld (pv 2) rfl)) (pe_op op_mulW (pe_fld (pv 2) rfl) (pe_fld (pv 0) rfl)) (nomark _)))))), ?_⟩
  obtain ⟨bi, bb, br, kd, ek⟩ := kind_num T hw
  refine ⟨_, rfl, w, bi, bb, br, rfl, kd, ek, ?_⟩
  refine ⟨_, rfl, w, q, rfl, hw, m7 zq, fun m H1 s1 hm => ?_⟩
  obtain ⟨⟨b, dy, rfl, hb⟩, hq⟩ := hm
  have ha1 := s1 _ _ ha
  refine ⟨_, rfl, a, _, dx, _, _, rfl, ha1, T.cl_Ratio, T.n_Ratio_own_top, rfs_top _ _, _, rfl, b, _, dy, _, _, rfl, hb, T.cl_Ratio, T.n_Ratio_own_bottom, rfs_bot _ _, _, _, rfl, rfl, mul_ok zp.1 zq.2, ?_⟩
  refine ⟨_, rfl, b, _, dy, _, _, rfl, hb, T.cl_Ratio, T.n_Ratio_own_top, rfs_top _ _, _, rfl, a, _, dx, _, _, rfl, ha1, T.cl_Ratio, T.n_Ratio_own_bottom, rfs_bot _ _, _, _, rfl, rfl, mul_ok zq.1 zp.2, _, _, rfl, rfl, ?_⟩
  exact k H1 s1
theorem ok_Ratio_is_below {P : Program} {w : World} {K : PySem.W.Frag} {mg : Str → Option Value} {base : Heap} (T : Txt K mg) : FnR P w K mg base (L2.CX P w) 5 (He.ma K (He.ga K "Ratio") "is_below") ((spBelow K)) := by
  obtain ⟨fd, F⟩ := T.d_Ratio_is_below
  exact Z.raw0 (okb_Ratio_is_below T F) (F.bindsN fun _ _ _ _ _ _ us hl => match us, hl with | [_, _], _ => rfl)
/-! ### what may stand on the right of an operator -/
section
variable {K : PySem.W.Frag} {H : Hp} {C : Addr}
theorem mro_int : PySem.fastBuiltinMro "int" = some [.type "int", .type "object"] := by kernel_rfl
theorem sub_int_own : PySem.W.subIn K (.type "int") (.ref C) = some false := by
  show (PySem.fastBuiltinMro "int").map _ = _
  rw [mro_int]
  rfl
theorem right_add (n : Int) : Z.RightOk K C "add" H (.int n) := .inr ⟨"int", some (.builtin "int.__add__"), some (.builtin "int.__radd__"), .base (.int n), by show PySem.fastLookup _ _ = _; kernel_rfl, by show PySem.fastLookup _ _ = _; kernel_rfl, sub_int_own⟩
theorem right_sub (n : Int) : Z.RightOk K C "sub" H (.int n) := .inr ⟨"int", some (.builtin "int.__sub__"), some (.builtin "int.__rsub__"), .base (.int n), by show PySem.fastLookup _ _ = _; kernel_rfl, by show PySem.fastLookup _ _ = _; kernel_rfl, sub_int_own⟩
theorem right_mul (n : Int) : Z.RightOk K C "mul" H (.int n) := .inr ⟨"int", some (.builtin "int.__mul__"), some (.builtin "int.__rmul__"), .base (.int n), by show PySem.fastLookup _ _ = _; kernel_rfl, by show PySem.fastLookup _ _ = _; kernel_rfl, sub_int_own⟩
theorem right_num {nm : String} {v : V} {p : Int × Int} (h : NumV K H v p) (hi : ∀ n, Z.RightOk K (RC K) nm H (.int n)) : Z.RightOk K (RC K) nm H v := by
  rcases h with ⟨⟨a, dx, rfl, ha⟩, _⟩ | ⟨n, rfl, _⟩
  · exact .inl ⟨a, dx, _, rfl, ha⟩
  · exact hi n
end
/-! the reflected ones: f with its sides exchanged -/
/-! other - self -/
/-! ### texts -/
def itx (n : Int) : Str := Str.ofString (toString n)
theorem itx_len {n : Int} (h : n.natAbs < 2 ^ 1900) : (itx n).length ≤ 1901 := by
  have e := PySem.int_text_length_le (k := 1900) (by decide) (log_lt h (by decide))
  unfold itx
  rw [PySem.ofString_length]
  exact e
theorem log19 {n : Int} (h : n.natAbs < 2 ^ 1900) : n.natAbs.log2 < 1920 := Nat.lt_trans (log_lt h (by decide)) (by decide)
def rstr (p : Int × Int) : Str := if p.2 = 1 then itx p.1 else itx p.1 ++ "/" ++ itx p.2
def rrep (p : Int × Int) : Str := "Ratio(" ++ itx p.1 ++ ", " ++ itx p.2 ++ ")"
def spStr (K : PySem.W.Frag) : Sp := fun vs H Q _ => ∃ v p, vs = [v] ∧ RatV K H v p ∧ M.Sz 1900 p ∧ Q (.str (rstr p)) H
def spRep (K : PySem.W.Frag) : Sp := fun vs H Q _ => ∃ v p, vs = [v] ∧ RatV K H v p ∧ M.Sz 1900 p ∧ Q (.str (rrep p)) H
theorem len_small {x : Str} (h : x.length ≤ 100000) : x.length ≤ sizeLine := Nat.le_trans h (by rw [sizeLine_eq]; decide)
theorem okb_Ratio_str {P : Program} {w : World} {K : PySem.W.Frag} {mg : Str → Option Value} {base : Heap} (T : Txt K mg) {fd : FuncData} (F : FunD K "__str__" "Ratio.__str__" (defArgs s_Ratio_str) (defBody s_Ratio_str) (defScope s_Ratio_str) [] [] (He.ma K (He.ga K "Ratio") "__str__") fd) : FnOk P w K mg base (L2.CX P w) 1 (He.ma K (He.ga K "Ratio") "__str__") fd ["self"] ((spStr K)) := by
  refine F.ok sc_Ratio_str (fun vs H Q E h => ?_) (fun cdv A outer s H vs Q E hr h => ?_)
  · obtain ⟨_, p, rfl, ⟨⟨a, dx, rfl, ha⟩, hp⟩, hz, k⟩ := h
    rfl
  obtain ⟨_, p, rfl, ⟨⟨a, dx, rfl, ha⟩, hp⟩, hz, k⟩ := h
  refine ⟨_, PSs.nox (pss_cons (ps_if (pt_cmpR op_eq (pe_fld (pv 0) rfl) (pe_int) (nomark _)) (pss_one (ps_ret (pe_callTy call_str_int (by rfl) T.f_str (by decide +kernel) (pa_cons (pe_fld (pv 0) rfl) pa_nil)))) (pss_nil)) (pss_one (ps_ret (pe_joined (.cons (pe_fmt (pe_fld (pv 0) rfl)) (.cons (pe_str) (.cons (pe_fmt (pe_fld (pv 0) rfl)) .nil))))))), ?_⟩
  refine ⟨_, rfl, a, _, dx, _, _, rfl, ha, T.cl_Ratio, T.n_Ratio_own_bottom, rfs_bot _ _, rfl, _, rfl, ?_⟩
  have l1 := itx_len hz.1
  have l2 := itx_len hz.2
  by_cases h1 : p.2 = 1
  · rw [decide_eq_true (by rw [h1])]
    refine iteT ⟨_, rfl, a, _, dx, _, _, rfl, ha, T.cl_Ratio, T.n_Ratio_own_top, rfs_top _ _, _, rfl, log19 hz.1, ?_⟩
    unfold rstr at k
    rw [if_pos h1] at k
    exact k
  · rw [decide_eq_false (fun e => h1 (V.int.inj e))]
    unfold rstr at k
    rw [if_neg h1] at k
    refine iteF ⟨_, rfl, a, _, dx, _, _, rfl, ha, T.cl_Ratio, T.n_Ratio_own_top, rfs_top _ _, .inr ⟨_, rfl, log19 hz.1, _, rfl, ?_, _, rfl, ?_, _, rfl, a, _, dx, _, _, rfl, ha, T.cl_Ratio, T.n_Ratio_own_bottom, rfs_bot _ _, .inr ⟨_, rfl, log19 hz.2, _, rfl, ?_, ?_⟩⟩⟩
    · rw [Str.empty_append]
      exact len_small (Nat.le_trans l1 (by decide))
    · rw [Str.empty_append]
      refine len_small ?_
      show (itx p.1 ++ "/").length ≤ _
      rw [Str.length_append]
      have : ("/" : Str).length = 1 := by decide +kernel
      omega
    · rw [Str.empty_append]
      refine len_small ?_
      show (itx p.1 ++ "/" ++ itx p.2).length ≤ _
      rw [Str.length_append, Str.length_append]
      have : ("/" : Str).length = 1 := by decide +kernel
      omega
    · rw [Str.empty_append]
      exact k
theorem ok_Ratio_str {P : Program} {w : World} {K : PySem.W.Frag} {mg : Str → Option Value} {base : Heap} (T : Txt K mg) : FnR P w K mg base (L2.CX P w) 1 (He.ma K (He.ga K "Ratio") "__str__") ((spStr K)) := by
  obtain ⟨fd, F⟩ := T.d_Ratio_str
  exact Z.raw0 (okb_Ratio_str T F) (F.bindsN fun _ _ _ _ _ _ us hl => match us, hl with | [_], _ => rfl)
/-! ### Ratio.total -/
theorem paired_get {α β : Type} {R : α → β → Prop} : ∀ {xs : List α} {ys : List β} {i : Nat} {x : α}, Paired R xs ys → xs[i]? = some x → ∃ y, ys[i]? = some y ∧ R x y
  | _, _, _, _, .nil, e => by simp at e
  | _, _, 0, _, .cons r _, e => by
    simp at e
    subst e
    exact ⟨_, rfl, r⟩
  | _, _, i + 1, x, .cons _ t, e => by
    obtain ⟨y, h1, h2⟩ := paired_get (i := i) (x := x) t (by simpa using e)
    exact ⟨y, by simpa using h1, h2⟩
theorem paired_up {α β : Type} {R R' : α → β → Prop} : ∀ {xs : List α} {ys : List β}, Paired R xs ys → (∀ x y, R x y → R' x y) → Paired R' xs ys
  | _, _, .nil, _ => .nil
  | _, _, .cons r t, f => .cons (f _ _ r) (paired_up t f)
abbrev NumsV (K : PySem.W.Frag) (H : Hp) : List V → List (Int × Int) → Prop := Paired (NumV K H)
def sumF (qs : List (Int × Int)) : Int × Int := qs.foldl M.plus (0, 1)
theorem take_next {α : Type} {l : List α} {i : Nat} {x : α} (h : l[i]? = some x) : l.take (i + 1) = l.take i ++ [x] := by
  rw [List.take_add_one, h]
  rfl
theorem sumF_next {qs : List (Int × Int)} {i : Nat} {q : Int × Int} (h : qs[i]? = some q) : sumF (qs.take (i + 1)) = M.plus (sumF (qs.take i)) q := by
  unfold sumF
  rw [take_next h, List.foldl_append]
  rfl
theorem red01 : M.Red (0, 1) := M.red_int 0
theorem sumF_red {qs : List (Int × Int)} (h : ∀ q ∈ qs, M.Red q) : ∀ i, M.Red (sumF (qs.take i))
  | 0 => red01
  | i + 1 => by
    cases e : qs[i]? with
    | none =>
      have z := sumF_red h i
      have le : qs.length ≤ i := List.getElem?_eq_none_iff.mp e
      rw [List.take_of_length_le le] at z
      rw [List.take_of_length_le (by omega)]
      exact z
    | some q =>
      rw [sumF_next e]
      exact M.plus_red (sumF_red h i) (h q (List.mem_of_getElem? e))
theorem sumF_sz {qs : List (Int × Int)} {n : Nat} (h : ∀ q ∈ qs, M.Red q) (hz : ∀ q ∈ qs, M.Sz n q) : ∀ i, M.Sz (i * (n + 1) + 1) (sumF (qs.take i))
  | 0 => by
    rw [Nat.zero_mul, Nat.zero_add]
    exact ⟨by show (0 : Int).natAbs < 2 ^ 1; decide, by show (1 : Int).natAbs < 2 ^ 1; decide⟩
  | i + 1 => by
    cases e : qs[i]? with
    | none =>
      have z := sumF_sz h hz i
      have le : qs.length ≤ i := List.getElem?_eq_none_iff.mp e
      rw [List.take_of_length_le le] at z
      rw [List.take_of_length_le (by omega)]
      exact z.mono (by rw [Nat.add_mul]; omega)
    | some q =>
      rw [sumF_next e]
      have z := M.plus_sz (sumF_red h i) (h q (List.mem_of_getElem? e)) (sumF_sz h hz i) (hz q (List.mem_of_getElem? e))
      exact z.mono (by rw [Nat.add_mul]; omega)
theorem nums_red {K : PySem.W.Frag} {H : Hp} : ∀ {xs : List V} {qs : List (Int × Int)}, NumsV K H xs qs → ∀ q ∈ qs, M.Red q
  | _, _, .nil, _, h => by cases h
  | _, _, .cons r t, q, h => by
    rcases List.mem_cons.mp h with e | e
    · rw [e]
      exact r.red
    · exact nums_red t q e
/-- the body: cls and the tuple of the numbers -/
def spTotB (K : PySem.W.Frag) : Sp := fun vs H Q _ => ∃ (t : Addr) (xs : List V) (qs : List (Int × Int)), vs = [.ref (RC K), .ref t] ∧ H t = some (.tup xs) ∧ NumsV K H xs qs ∧ qs.length ≤ 8 ∧ (∀ q ∈ qs, M.Sz 300 q) ∧
  ∀ r H', Same H H' → RatV K H' r (sumF qs) → Q r H'
/-- Ratio.total(x, ..) -/
def spTot (K : PySem.W.Frag) : Sp := fun vs H Q _ => ∃ (xs : List V) (qs : List (Int × Int)), vs = .ref (RC K) :: xs ∧ NumsV K H xs qs ∧ qs.length ≤ 8 ∧ (∀ q ∈ qs, M.Sz 300 q) ∧ ∀ r H', Same H H' → RatV K H' r (sumF qs) → Q r H'

/-! ### tables -/
abbrev TC (K : PySem.W.Frag) : Addr := He.ga K "Table"
def tfs (l : Addr) : List (Str × V) := [("own_points", .ref l)]
/-- v is a Table of these five -/
def TabV (K : PySem.W.Frag) (H : Hp) (v : V) (qs : List (Int × Int)) : Prop := ∃ a dx l rs, v = .ref a ∧ H a = some (.ins (TC K) dx (tfs l)) ∧ H l = some (.lst rs) ∧ Paired (RatV K H) rs qs ∧ qs.length = 5
def spFew (K : PySem.W.Frag) : Sp := fun vs H Q _ => ∃ (v : V) (n : Nat), vs = [v] ∧ LenV K v H n ∧ 1 ≤ n ∧ n ≤ 5 ∧ Q .non H
theorem okb_want_few {P : Program} {w : World} {K : PySem.W.Frag} {mg : Str → Option Value} {base : Heap} (T : Txt K mg) {fd : FuncData} (F : FunD K "want_few" "want_few" (defArgs s_want_few) (defBody s_want_few) (defScope s_want_few) [] [] (He.ga K "want_few") fd) : FnOk P w K mg base (L2.CX P w) 1 (He.ga K "want_few") fd ["numbers"] ((spFew K)) := by
  refine F.ok sc_want_few (fun vs H Q E h => ?_) (fun cdv A outer s H vs Q E hr h => ?_)
  · obtain ⟨v, n, rfl, hl, h1, h5, k⟩ := h
    rfl
  obtain ⟨v, n, rfl, hl, h1, h5, k⟩ := h
  refine ⟨_, PSs.nox (pss_one (ps_if (pt_not (pt_chain op_le op_le (pe_int) (pe_callB (Z.lenK (K := K) rfl) (by rfl) T.f_len (by decide +kernel) (pa_cons (pv 0) pa_nil)) (pe_glob (v := .int 5) rfl T.g_MOST_PLACES.choose_spec ⟨_, rfl⟩))) (pss_never) (pss_nil))), ?_⟩
  refine ⟨_, rfl, _, n, rfl, hl, _, _, rfl, rfl, _, rfl, ?_⟩
  rw [decide_eq_true (show (1 : Int) ≤ (n : Int) by omega)]
  refine iteT ⟨_, _, rfl, rfl, _, rfl, ?_⟩
  rw [decide_eq_true (show (n : Int) ≤ 5 by omega)]
  exact iteF k
theorem ok_want_few {P : Program} {w : World} {K : PySem.W.Frag} {mg : Str → Option Value} {base : Heap} (T : Txt K mg) : FnR P w K mg base (L2.CX P w) 1 (He.ga K "want_few") ((spFew K)) := by
  obtain ⟨fd, F⟩ := T.d_want_few
  exact Z.raw0 (okb_want_few T F) (F.bindsN fun _ _ _ _ _ _ us hl => match us, hl with | [_], _ => rfl)
/-! is the number at this place right -/
def rightAt (qs : List (Int × Int)) (i : Nat) : Bool := if i = 0 then decide (0 < sgn (qs.getD i (0, 1)).1) else decide (0 ≤ sgn (qs.getD i (0, 1)).1) && !below (qs.getD (i - 1) (0, 1)) (qs.getD i (0, 1))
theorem getD_of {α : Type} {l : List α} {i : Nat} {x d : α} (h : l[i]? = some x) : l.getD i d = x := by
  rw [List.getD_eq_getElem?_getD, h]
  rfl
def spRightAt (K : PySem.W.Frag) : Sp := fun vs H Q _ => ∃ (t : Addr) (xs : List V) (qs : List (Int × Int)) (i : Nat), vs = [.ref t, .int i] ∧ H t = some (.tup xs) ∧ NumsV K H xs qs ∧ i < xs.length ∧ (∀ q ∈ qs, M.Sz 3000 q) ∧ ∀ H', Same H H' → Q (.bl (rightAt qs i)) H'
theorem okb_is_right_at {P : Program} {w : World} {K : PySem.W.Frag} {mg : Str → Option Value} {base : Heap} (T : Txt K mg) {fd : FuncData} (F : FunD K "is_right_at" "is_right_at" (defArgs s_is_right_at) (defBody s_is_right_at) (defScope s_is_right_at) [] [] (He.ga K "is_right_at") fd) : FnOk P w K mg base (L2.CX P w) 6 (He.ga K "is_right_at") fd ["points", "position"] ((spRightAt K)) := by
  refine F.ok sc_is_right_at (fun vs H Q E h => ?_) (fun cdv A outer s H vs Q E hr h => ?_)
  · obtain ⟨t, xs, qs, i, rfl, ht, hn, hi, hz, k⟩ := h
    rfl
  obtain ⟨t, xs, qs, i, rfl, ht, hn, hi, hz, k⟩ := h
  refine ⟨_, PSs.nox (pss_cons (ps_set (i := 2) sc_is_right_at.nd rfl (Or.inl rfl) (pe_ix (Z.ixtK (K := K) rfl) (pv 0) (pv 1) (fun _ _ => rfl))) (pss_cons (ps_if (pt_not (pt_val (Z.pe_cl (E := E0) (ok_is_number T) (hr.mono (by decide)) T.g_is_number T.k_is_number passL (pa_cons (pv 2) pa_nil)))) (pss_one (ps_ret (pe_bl))) (pss_nil)) (pss_cons (ps_if (pt_cmpR op_eq (pv 1) (pe_int) (nomark _)) (pss_one (ps_ret (pe_cmpR op_gt (Z.pe_propR (Z.pe_cl (E := E0) (ok_as_ratio T) (hr.mono (by decide)) T.g_as_ratio T.k_as_ratio passL (pa_cons (pv 2) pa_nil)) T.cl_Ratio T.p_Ratio_sign (ok_Ratio_sign T) (hr.mono (by decide))) (pe_int) (nomark _)))) (pss_nil)) (pss_one (ps_ret (pe_and (pe_cmpR op_ge (Z.pe_propR (Z.pe_cl (E := E0) (ok_as_ratio T) (hr.mono (by decide)) T.g_as_ratio T.k_as_ratio passL (pa_cons (pv 2) pa_nil)) T.cl_Ratio T.p_Ratio_sign (ok_Ratio_sign T) (hr.mono (by decide))) (pe_int) (nomark _)) (pe_one (pe_not (pe_methR (E := E0) (Z.pe_cl (E := E0) (ok_as_ratio T) (hr.mono (by decide)) T.g_as_ratio T.k_as_ratio passL (pa_cons (pe_ix (Z.ixtK (K := K) rfl) (pv 0) (pe_op op_sub (pv 1) (pe_int)) (fun _ _ => rfl)) pa_nil)) T.cl_Ratio T.m_Ratio_is_below (ok_Ratio_is_below T) (hr.mono (by decide)) passL (pa_cons (pv 2) pa_nil)))))))))), ?_⟩
  have hx : xs[i]? = some xs[i] := List.getElem?_eq_getElem hi
  obtain ⟨q, hq, nq⟩ := paired_get hn hx
  have ax : atI xs (i : Int) = some xs[i] := atI_nat hx
  obtain ⟨bi, bb, br, kd, ek⟩ := kind_num T nq
  refine ⟨_, rfl, _, rfl, t, _, _, _, rfl, rfl, SqT.of ht, ax, ?_⟩
  refine ⟨_, rfl, _, bi, bb, br, rfl, kd, ?_⟩
  rw [ek]
  refine ⟨_, rfl, iteF ⟨_, rfl, rfl, _, rfl, ?_⟩⟩
  have zq := (hz q (List.mem_of_getElem? hq)).mono (by decide : 3000 ≤ 7000)
  by_cases c : i = 0
  · subst c
    rw [show decide (V.int ((0 : Nat) : Int) = V.int 0) = true from rfl]
    refine iteT ⟨_, rfl, _, q, rfl, nq, zq, fun r H1 s1 h1 => ?_⟩
    have h1b := h1
    obtain ⟨⟨a, dx, rfl, ha⟩, _⟩ := h1b
    refine ⟨a, dx, _, rfl, ha, _, q, rfl, h1, _, _, rfl, rfl, ?_⟩
    have z := k H1 s1
    unfold rightAt at z
    rw [if_pos rfl, getD_of hq] at z
    exact z
  · rw [decide_eq_false (fun z => c (by have := V.int.inj z; omega))]
    refine iteF ⟨_, rfl, _, q, rfl, nq, zq, fun r H1 s1 h1 => ?_⟩
    have h1b := h1
    obtain ⟨⟨a, dx, rfl, ha⟩, _⟩ := h1b
    have k1 : ∀ H', Same H H' → Q (.bl (decide (0 ≤ sgn q.1) && !below (qs.getD (i - 1) (0, 1)) q)) H' := fun H' s' => by
      have z := k H' s'
      unfold rightAt at z
      rw [if_neg c, getD_of hq] at z
      exact z
    refine ⟨a, dx, _, rfl, ha, _, q, rfl, h1, _, _, rfl, rfl, _, rfl, ?_⟩
    cases hs : decide (0 ≤ sgn q.1) with
    | false =>
      rw [hs] at k1
      exact iteF (k1 H1 s1)
    | true =>
      rw [hs] at k1
      have hx2 : xs[i - 1]? = some xs[i - 1] := List.getElem?_eq_getElem (by omega)
      obtain ⟨p, hp, np⟩ := paired_get hn hx2
      have ax2 : atI xs ((i : Int) - 1) = some xs[i - 1] := by
        have z := atI_nat hx2
        rw [show (((i - 1 : Nat)) : Int) = (i : Int) - 1 by omega] at z
        exact z
      have zp := hz p (List.mem_of_getElem? hp)
      refine iteT ⟨_, rfl, _, rfl, _, _, rfl, rfl, t, _, _, _, rfl, rfl, SqT.of (s1 _ _ ht), ax2, _, p, rfl, np.up s1, zp.mono (by decide), fun r2 H2 s2 h2 => ?_⟩
      have h2b := h2
      obtain ⟨⟨b, dy, rfl, hb⟩, _⟩ := h2b
      have no : (rfs p.1 p.2).lookup ("is_below" : Str) = none := rfs_no _ _ (by decide +kernel) (by decide +kernel)
      refine ⟨b, dy, _, rfl, hb, no, _, rfl, _, _, p, q, rfl, h2, (nq.up s1).up s2, zp, hz q (List.mem_of_getElem? hq), fun H3 s3 => ⟨_, rfl, ?_⟩⟩
      have z := k1 H3 ((s1.trans s2).trans s3)
      rw [getD_of hp] at z
      exact z
theorem ok_is_right_at {P : Program} {w : World} {K : PySem.W.Frag} {mg : Str → Option Value} {base : Heap} (T : Txt K mg) : FnR P w K mg base (L2.CX P w) 6 (He.ga K "is_right_at") ((spRightAt K)) := by
  obtain ⟨fd, F⟩ := T.d_is_right_at
  exact Z.raw0 (okb_is_right_at T F) (F.bindsN fun _ _ _ _ _ _ us hl => match us, hl with | [_, _], _ => rfl)
theorem RatV.lst {K : PySem.W.Frag} {H : Hp} {v : V} {q : Int × Int} {l : Addr} {xs : List V} {o : HO} (h : RatV K H v q) (hl : H l = some (.lst xs)) : RatV K (upd H l o) v q := by
  obtain ⟨⟨a, dx, e, ha⟩, r⟩ := h
  exact ⟨⟨a, dx, e, by rw [upd_ne (ne_of ha hl (fun z => by cases z))]; exact ha⟩, r⟩
theorem paired_snoc {α β : Type} {R : α → β → Prop} : ∀ {xs : List α} {ys : List β} {x : α} {y : β}, Paired R xs ys → R x y → Paired R (xs ++ [x]) (ys ++ [y])
  | _, _, _, _, .nil, r => .cons r .nil
  | _, _, _, _, .cons r t, r2 => .cons r (paired_snoc t r2)
theorem paired_app {α β : Type} {R : α → β → Prop} : ∀ {xs xs2 : List α} {ys ys2 : List β}, Paired R xs ys → Paired R xs2 ys2 → Paired R (xs ++ xs2) (ys ++ ys2)
  | _, _, _, _, .nil, r => r
  | _, _, _, _, .cons r t, r2 => .cons r (paired_app t r2)
theorem paired_rep {α β : Type} {R : α → β → Prop} {x : α} {y : β} (h : R x y) : ∀ n : Nat, Paired R (List.replicate n x) (List.replicate n y)
  | 0 => .nil
  | n + 1 => .cons h (paired_rep h n)
theorem flat_one {α : Type} (x : α) : ∀ n : Nat, (List.replicate n [x]).flatten = List.replicate n x
  | 0 => rfl
  | n + 1 => by
    rw [List.replicate_succ, List.flatten_cons, flat_one x n, List.replicate_succ]
    rfl
/-- filled up with noughts -/
def fillQ (qs : List (Int × Int)) : List (Int × Int) := qs ++ List.replicate (5 - qs.length) (0, 1)
def spFilled (K : PySem.W.Frag) : Sp := fun vs H Q _ => ∃ (t : Addr) (xs : List V) (qs : List (Int × Int)), vs = [.ref t] ∧ H t = some (.tup xs) ∧ NumsV K H xs qs ∧ qs.length ≤ 5 ∧ (∀ q ∈ qs, M.Sz 3000 q) ∧ ∀ (l : Addr) (rs : List V) (H' : Hp), H l = none → Same H H' → H' l = some (.lst rs) → Paired (RatV K H') rs (fillQ qs) → Q (.ref l) H'
theorem okb_filled {P : Program} {w : World} {K : PySem.W.Frag} {mg : Str → Option Value} {base : Heap} (T : Txt K mg) {fd : FuncData} (F : FunD K "filled" "filled" (defArgs s_filled) (defBody s_filled) (defScope s_filled) [] [] (He.ga K "filled") fd) : FnOk P w K mg base (L2.CX P w) 5 (He.ga K "filled") fd ["numbers"] ((spFilled K)) := by
  refine F.ok sc_filled (fun vs H Q E h => ?_) (fun cdv A outer s H vs Q E hr h => ?_)
  · obtain ⟨t, xs, qs, rfl, ht, hn, hl, hz, k⟩ := h
    rfl
  obtain ⟨t, xs, qs, rfl, ht, hn, hl, hz, k⟩ := h
  refine ⟨_, PSs.nox (pss_one (ps_ret (pe_op op_cat (pe_lc (own := [("number", 1)]) (g := gName 1) (by rfl) sc_filled.nd (Z.piTupK (K := K) rfl (pv 0)) (blkOk_by (own := [("number", 1)]) (N := N_filled) (sc := defScope s_filled) (by decide +kernel)) (fun _ _ _ _ _ => pg_name (i := 1) sc_filled.nd rfl (Or.inl rfl)) (fun _ _ _ _ _ => pts_nil) (fun _ _ _ _ _ => Z.pe_cl (E := E0) (ok_as_ratio T) (hr.mono (by decide)) T.g_as_ratio T.k_as_ratio passL (pa_cons (pv 1) pa_nil))) (pe_op op_rep (pe_lst (pa_cons (StX.pe_makeR (E := E0) T.mk_Ratio (ok_Ratio_init1 T) (hr.mono (by decide)) rfl T.g_Ratio passL (pa_cons (pe_int) pa_nil)) pa_nil)) (pe_op op_sub (pe_glob (v := .int 5) rfl T.g_MOST_PLACES.choose_spec ⟨_, rfl⟩) (pe_callB (Z.lenK (K := K) rfl) (by rfl) T.f_len (by decide +kernel) (pa_cons (pv 0) pa_nil))))))), ?_⟩
  have hlen := Paired.length hn
  refine ⟨_, rfl, t, rfl, ⟨_, SqT.of ht⟩, fun D hD => ?_⟩
  refine lc_tup (K := K) (a := t) (xs := xs) (fun i H' => Same H H' ∧ ∃ rs, H' D = some (.lst rs) ∧ Paired (RatV K H') rs (qs.take i)) ⟨same_new hD, [], upd_same, .nil⟩ (fun i H' _ z => SqT.of (z.1 _ _ ht)) ?_ ?_
  · rintro i x H1 hx ⟨s1, rs, hD1, hr1⟩
    obtain ⟨q, hq, nq⟩ := paired_get hn hx
    refine ⟨rfl, ?_⟩
    refine ⟨_, rfl, x, q, rfl, nq.up s1, (hz q (List.mem_of_getElem? hq)).mono (by decide), fun r H2 s2 h2 => ⟨rs, s2 _ _ hD1, ?_, fun b o e => ?_, rs ++ [r], upd_same, ?_⟩⟩
    · have := Paired.length hr1
      rw [List.length_take] at this
      rw [sizeLine_eq]
      omega
    · rw [upd_ne (ne_of_none e hD)]
      exact s2 _ _ (s1 _ _ e)
    · rw [take_next hq]
      exact paired_snoc (paired_up hr1 (fun _ _ z => (z.up s2).lst (s2 _ _ hD1))) (h2.lst (s2 _ _ hD1))
  · rintro H1 ⟨s1, rs, hD1, hr1⟩
    rw [hlen, List.take_length] at hr1
    intro x dx hx hd ne
    refine ⟨x, dx, 0, 1, rfl, upd_same, by decide, Nat.two_pow_pos _, Nat.one_lt_two_pow (by decide), fun H2 kp g2 => ⟨rfl, ?_⟩⟩
    obtain ⟨s2, h2⟩ := made_ok (by decide) hx hd kp g2
    rw [M.low_int] at h2
    refine ⟨(by show 1 ≤ sizeLine; decide), fun l hl1 => ?_⟩
    have s3 := same_new (o := HO.lst [.ref x]) hl1
    have ht3 := s3 _ _ (s2 _ _ (s1 _ _ ht))
    refine ⟨_, rfl, _, _, rfl, Or.inr ⟨_, SqT.of ht3, rfl⟩, _, _, rfl, rfl, l, _, _, rfl, rfl, upd_same, by omega, by omega, ?_, fun p hp => ?_⟩
    · show 1 * _ ≤ sizeLine
      rw [sizeLine_eq]
      omega
    have s4 := same_new (o := HO.lst (List.replicate (5 - (xs.length : Int)).toNat [V.ref x]).flatten) hp
    have hD4 := s4 _ _ (s3 _ _ (s2 _ _ hD1))
    refine ⟨D, p, rs, _, rfl, rfl, hD4, upd_same, ?_, fun m hm => ?_⟩
    · have := Paired.length hr1
      rw [flat_one, List.length_replicate, sizeLine_eq]
      omega
    have s5 := same_new (o := HO.lst (rs ++ (List.replicate (5 - (xs.length : Int)).toNat [V.ref x]).flatten)) hm
    have s15 := ((s2.trans s3).trans s4).trans s5
    refine k m _ _ ?_ (s1.trans s15) upd_same ?_
    · cases e : H m with
      | none => rfl
      | some o =>
        have z := ((s1.trans s2).trans (s3.trans s4)) _ _ e
        rw [hm] at z
        cases z
    · have e : (List.replicate (5 - (xs.length : Int)).toNat [V.ref x]).flatten = List.replicate (5 - qs.length) (V.ref x) := by
        rw [flat_one, show (5 - (xs.length : Int)).toNat = 5 - qs.length by omega]
      unfold fillQ
      rw [e] at s15 s5 s4 ⊢
      exact paired_app (paired_up hr1 (fun _ _ z => z.up s15)) (paired_rep (h2.up ((s3.trans s4).trans s5)) _)
theorem ok_filled {P : Program} {w : World} {K : PySem.W.Frag} {mg : Str → Option Value} {base : Heap} (T : Txt K mg) : FnR P w K mg base (L2.CX P w) 5 (He.ga K "filled") ((spFilled K)) := by
  obtain ⟨fd, F⟩ := T.d_filled
  exact Z.raw0 (okb_filled T F) (F.bindsN fun _ _ _ _ _ _ us hl => match us, hl with | [_], _ => rfl)
/-! ### Table.__init__ -/
structure TabOk (qs : List (Int × Int)) : Prop where
  l1 : 1 ≤ qs.length
  l5 : qs.length ≤ 5
  right : ∀ i, i < qs.length → rightAt qs i = true
  sz : ∀ q ∈ qs, M.Sz 3000 q
def spTabB (K : PySem.W.Frag) : Sp := fun vs H Q _ => ∃ (x dx t : Addr) (xs : List V) (qs : List (Int × Int)), vs = [.ref x, .ref t] ∧ H x = some (.ins (TC K) dx []) ∧ H t = some (.tup xs) ∧ NumsV K H xs qs ∧ TabOk qs ∧
  ∀ (l : Addr) (rs : List V) (H' : Hp), (∀ c o, c ≠ x → H c = some o → H' c = some o) → H' x = some (.ins (TC K) dx (tfs l)) → H l = none → H' l = some (.lst rs) → Paired (RatV K H') rs (fillQ qs) → Q .non H'
def spTab (K : PySem.W.Frag) : Sp := fun vs H Q _ => ∃ (x dx : Addr) (xs : List V) (qs : List (Int × Int)), vs = .ref x :: xs ∧ H x = some (.ins (TC K) dx []) ∧ NumsV K H xs qs ∧ TabOk qs ∧
  ∀ (l : Addr) (rs : List V) (H' : Hp), (∀ c o, c ≠ x → H c = some o → H' c = some o) → H' x = some (.ins (TC K) dx (tfs l)) → H l = none → H' l = some (.lst rs) → Paired (RatV K H') rs (fillQ qs) → Q .non H'
theorem none_of {H H' : Hp} {l : Addr} (s : Same H H') (h : H' l = none) : H l = none := by
  cases e : H l with
  | none => rfl
  | some o =>
    have z := s _ _ e
    rw [h] at z
    cases z
theorem RatV.ins {K : PySem.W.Frag} {H : Hp} {v : V} {q : Int × Int} {x dx : Addr} {fs : List (Str × V)} {o : HO} (h : RatV K H v q) (hx : H x = some (.ins (TC K) dx fs)) (ne : RC K ≠ TC K) : RatV K (upd H x o) v q := by
  obtain ⟨⟨a, dy, e, ha⟩, r⟩ := h
  refine ⟨⟨a, dy, e, ?_⟩, r⟩
  rw [upd_ne (ne_of ha hx (fun z => ne (HO.ins.inj z).1))]
  exact ha
theorem rc_ne {K : PySem.W.Frag} {mg : Str → Option Value} (T : Txt K mg) : RC K ≠ TC K := fun e => by
  have h1 := T.ki_Ratio_Table
  have h2 := T.ki_Table_Table
  have e' : He.ga K "Ratio" = He.ga K "Table" := e
  rw [e', h2] at h1
  cases h1
theorem ok_Table_init {P : Program} {w : World} {K : PySem.W.Frag} {mg : Str → Option Value} {base : Heap} (T : Txt K mg) : FnR P w K mg base (L2.CX P w) 7 (He.ma K (He.ga K "Table") "__init__") ((spTab K)) := by
  obtain ⟨fd, F⟩ := T.d_Table_init
  refine (Z.fnstar (spb := (spTabB K)) (ps := ["self"]) (pv := "points") F sc_Table_init (fun kV doc pm an cdv ct us rest hl => StX.bind_star1 (B := fun l => bindArgs (PySem.W.fnOf "__init__" "Table.__init__" (defArgs s_Table_init) (defBody s_Table_init) (defScope s_Table_init) .none kV doc pm an cdv ct) ⟨l, []⟩) (fun _ => rfl) (fun _ _ _ => rfl) us rest hl) (fun cdv A outer s H vs Q E hr h => ?_)).imp (fun vs H Q E h => ?_)
  rotate_left
  · obtain ⟨x, dx, xs, qs, rfl, hx, hn, ok, k⟩ := h
    refine ⟨[.ref x], xs, rfl, rfl, ?_, fun p hp => ?_⟩
    · have e := Paired.length hn
      have := ok.l5
      rw [sizeLine_eq]
      omega
    · have s1 := same_new (o := HO.tup xs) hp
      exact ⟨x, dx, p, xs, qs, rfl, s1 _ _ hx, upd_same, paired_up hn (fun _ _ z => z.up s1), ok, fun l rs H' kp e1 e2 e3 e4 => k l rs H' (fun c o nc ec => kp c o nc (s1 _ _ ec)) e1 (none_of s1 e2) e3 e4⟩
  obtain ⟨x, dx, t, xs, qs, rfl, hx, ht, hn, ok, k⟩ := h
  refine ⟨_, PSs.nox (pss_cons (ps_expr (Z.pe_cl (E := E0) (ok_want_few T) (hr.mono (by decide)) T.g_want_few T.k_want_few passL (pa_cons (pv 1) pa_nil))) (pss_cons (ps_for PassesOwn.never rfl (pi_range1 (by rfl) T.f_range (pa_cons (pe_callB (Z.lenK (K := K) rfl) (by rfl) T.f_len (by decide +kernel) (pa_cons (pv 1) pa_nil)) pa_nil)) (pg_name (i := 2) sc_Table_init.nd rfl (Or.inl rfl)) (pss_one (ps_if (pt_not (pt_val (Z.pe_cl (E := E0) (ok_is_right_at T) (hr.mono (by decide)) T.g_is_right_at T.k_is_right_at passL (pa_cons (pv 1) (pa_cons (pv 2) pa_nil))))) (pss_never) (pss_nil)))) (pss_one (ps_fld (pv 0) (Z.pe_cl (E := E0) (ok_filled T) (hr.mono (by decide)) T.g_filled T.k_filled passL (pa_cons (pv 1) pa_nil)) rfl)))), ?_⟩
  have hlen := Paired.length hn
  have l1 := ok.l1
  have l5 := ok.l5
  refine ⟨_, rfl, _, _, rfl, Or.inr ⟨_, SqT.of ht, rfl⟩, by omega, by omega, ?_⟩
  refine ⟨_, rfl, _, _, rfl, Or.inr ⟨_, SqT.of ht, rfl⟩, _, rfl, by omega, by omega, for_range (fun i σ H' => ∃ z, σ = [some (.ref x), some (.ref t), z] ∧ Same H H') ⟨_, rfl, Same.refl _⟩ ?_ ?_⟩
  · rintro i σ H1 hi ⟨z, rfl, s1⟩
    have hi2 : i < qs.length := by omega
    refine ⟨_, rfl, _, rfl, t, xs, qs, i, by rw [Int.zero_add], s1 _ _ ht, paired_up hn (fun _ _ z => z.up s1), by omega, ok.sz, fun H2 s2 => ⟨_, rfl, ?_⟩⟩
    rw [ok.right i hi2]
    exact iteF ⟨_, rfl, s1.trans s2⟩
  · rintro σ H1 ⟨z, rfl, s1⟩
    refine ⟨_, rfl, t, xs, qs, rfl, s1 _ _ ht, paired_up hn (fun _ _ z => z.up s1), l5, ok.sz, fun l rs H2 hl s2 e2 p2 => ?_⟩
    have hx2 := s2 _ _ (s1 _ _ hx)
    refine ⟨_, rfl, x, TC K, dx, _, rfl, hx2, T.cl_Table, T.n_Table_own_points, (by show 0 < 1000; decide), ?_⟩
    have nl : l ≠ x := ne_of e2 hx2 (fun z => by cases z)
    refine k l rs _ (fun c o nc ec => ?_) upd_same (none_of s1 hl) (by rw [upd_ne nl]; exact e2) (paired_up p2 (fun _ _ z => z.ins hx2 (rc_ne T)))
    rw [upd_ne nc]
    exact s2 _ _ (s1 _ _ ec)
section
variable {K : PySem.W.Frag}
theorem fillQ_len {qs : List (Int × Int)} (h : qs.length ≤ 5) : (fillQ qs).length = 5 := by
  unfold fillQ
  rw [List.length_append, List.length_replicate]
  omega
/-- what a new Table is -/
theorem tab_made {H H' : Hp} {x dx l : Addr} {rs : List V} {qs : List (Int × Int)} (h5 : qs.length ≤ 5) (hx : H x = none) (hd : H dx = none) (kp : ∀ c o, c ≠ x → upd (upd H dx (.own x)) x (.ins (TC K) dx []) c = some o → H' c = some o)
    (h1 : H' x = some (.ins (TC K) dx (tfs l))) (h2 : H' l = some (.lst rs)) (h3 : Paired (RatV K H') rs (fillQ qs)) : Same H H' ∧ TabV K H' (.ref x) (fillQ qs) := by
  refine ⟨fun c o e => ?_, x, dx, l, rs, rfl, h1, h2, h3, fillQ_len h5⟩
  have nx := ne_of_none e hx
  exact kp c o nx (by rw [upd_ne nx, upd_ne (ne_of_none e hd)]; exact e)
end

/-! ### the pot -/
def Pot (H : Hp) (p : Addr) : Prop := ∃ x y : Int, H p = some (.lst [.int x, .int y]) ∧ 0 ≤ x ∧ 0 ≤ y ∧ y < 4294967296
/-- all but the pot stands, the pot is one still -/
structure Grow (p : Addr) (H H' : Hp) : Prop where
  kp : ∀ b o, b ≠ p → H b = some o → H' b = some o
  pot : Pot H' p
theorem Grow.refl {p : Addr} {H : Hp} (h : Pot H p) : Grow p H H := ⟨fun _ _ _ e => e, h⟩
theorem Grow.trans {p : Addr} {H H1 H2 : Hp} (a : Grow p H H1) (b : Grow p H1 H2) : Grow p H H2 := ⟨fun c o n e => b.kp c o n (a.kp c o n e), b.pot⟩
theorem Pot.up {H H' : Hp} {p : Addr} (h : Pot H p) (s : Same H H') : Pot H' p := by
  obtain ⟨x, y, h1, h2⟩ := h
  exact ⟨x, y, s _ _ h1, h2⟩
theorem Grow.same {p : Addr} {H H1 H2 : Hp} (a : Grow p H H1) (s : Same H1 H2) : Grow p H H2 := ⟨fun c o n e => s c o (a.kp c o n e), a.pot.up s⟩
theorem sgrow {p : Addr} {H H1 : Hp} (s : Same H H1) (h : Pot H p) : Grow p H H1 := ⟨fun c o _ e => s c o e, h.up s⟩
/-- what is no list of two -/
def noPot : HO → Bool
  | .lst [_, _] => false
  | _ => true
theorem Pot.ne {H : Hp} {p a : Addr} {o : HO} (h : Pot H p) (e : H a = some o) (n : noPot o = true) : a ≠ p := by
  obtain ⟨x, y, h1, _⟩ := h
  refine ne_of e h1 fun z => ?_
  rw [z] at n
  cases n
theorem Pot.fresh {H : Hp} {p a : Addr} (h : Pot H p) (e : H a = none) : a ≠ p := by
  obtain ⟨x, y, h1, _⟩ := h
  exact (ne_of_none h1 e).symm
theorem Grow.get {p a : Addr} {H H' : Hp} {o : HO} (g : Grow p H H') (h : Pot H p) (e : H a = some o) (n : noPot o = true := by rfl) : H' a = some o := g.kp a o (h.ne e n) e
theorem RatV.grow {K : PySem.W.Frag} {H H' : Hp} {v : V} {q : Int × Int} {p : Addr} (h : RatV K H v q) (hp : Pot H p) (g : Grow p H H') : RatV K H' v q := by
  obtain ⟨⟨a, dx, e, ha⟩, r⟩ := h
  exact ⟨⟨a, dx, e, g.get hp ha⟩, r⟩
/-- the script stays -/
def spPot (K : PySem.W.Frag) : Sp := fun vs H Q _ => ∃ (a : Addr) (ns : List Int) (k : Nat), vs = [.ref a, .int k] ∧ SqL K H a (ns.map V.int) ∧ k ≤ 100 ∧ ∀ (p : Addr) (H' : Hp), H p = none → Same H H' → Pot H' p → Q (.ref p) H'
def spDraw : Sp := fun vs H Q _ => ∃ (p : Addr) (m : Int), vs = [.ref p, .int m] ∧ Pot H p ∧ 0 < m ∧ m.natAbs < 2 ^ 8000 ∧ ∀ (d : Int) (H' : Hp), Grow p H H' → 0 ≤ d → d < m → Q (.int d) H'
theorem okb_law_pot {P : Program} {w : World} {K : PySem.W.Frag} {mg : Str → Option Value} {base : Heap} (T : Txt K mg) {fd : FuncData} (F : FunD K "_law_pot" "_law_pot" (defArgs s_law_pot) (defBody s_law_pot) (defScope s_law_pot) [] [] (He.ga K "_law_pot") fd) : FnOk P w K mg base (L2.CX P w) 1 (He.ga K "_law_pot") fd ["_law_script", "_law_k"] ((spPot K)) := by
  refine F.ok sc_law_pot (fun vs H Q E h => ?_) (fun cdv A outer s H vs Q E hr h => ?_)
  · obtain ⟨a, ns, j, rfl, hs, hj, k⟩ := h
    rfl
  obtain ⟨a, ns, j, rfl, hs, hj, k⟩ := h
  refine ⟨_, PSs.nox (pss_cons (ps_set (i := 2) sc_law_pot.nd rfl (Or.inl rfl) (pe_ifExp (pt_cmpR op_lt (pv 1) (pe_callB (Z.lenK (K := K) rfl) (by rfl) T.f_len (by decide +kernel) (pa_cons (pv 0) pa_nil)) (nomark _)) (pe_callB call_abs (by rfl) T.f_abs (by decide +kernel) (pa_cons (pe_ix (Z.ixlK (K := K) rfl) (pv 0) (pv 1) (fun _ _ => rfl)) pa_nil)) (pe_op op_add (pe_op op_mulW (pe_int) (pv 1)) (pe_int)))) (pss_one (ps_ret (pe_lst (pa_cons (pe_callB (call_max2 rfl) (by rfl) T.f_max (by decide +kernel) (pa_cons (pe_int) (pa_cons (pe_op op_sub (pv 2) (pe_op op_pow (pe_int) (pe_int))) pa_nil))) (pa_cons (pe_op op_add (pe_op op_mod (pe_callTy call_int1 (by rfl) T.f_int (by decide +kernel) (pa_cons (pe_op op_add (pe_op op_add (pe_op op_mulW (pe_op op_mod (pe_callTy call_int1 (by rfl) T.f_int (by decide +kernel) (pa_cons (pv 2) pa_nil)) (pe_int)) (pe_int)) (pe_op op_mulW (pe_int) (pv 1))) (pe_int)) pa_nil)) (pe_int)) (pe_int)) pa_nil)))))), ?_⟩
  refine ⟨_, rfl, _, rfl, _, _, rfl, Or.inl ⟨_, hs, rfl⟩, _, _, rfl, rfl, _, rfl, ?_⟩
  have fin : ∀ c : Int, 0 ≤ c → ∃ x y : Int, x = (if c - 10 ^ Int.toNat 18 > 0 then c - 10 ^ Int.toNat 18 else 0) ∧ y = (c % 2147483563 * 40361 + 9103 * (j : Int) + 71) % 2147483497 + 1 ∧ 0 ≤ x ∧ 0 ≤ y ∧ y < 4294967296 := fun c hc => by
    refine ⟨_, _, rfl, rfl, ?_, ?_, ?_⟩
    · split <;> omega
    · have := Int.emod_nonneg (c % 2147483563 * 40361 + 9103 * (j : Int) + 71) (show (2147483497 : Int) ≠ 0 by decide)
      omega
    · have := Int.emod_lt_of_pos (c % 2147483563 * 40361 + 9103 * (j : Int) + 71) (show (0 : Int) < 2147483497 by decide)
      omega
  have small : ∀ c : Int, CMulW (c % 2147483563) 40361 := fun c => by
    have h1 := Int.emod_nonneg c (show (2147483563 : Int) ≠ 0 by decide)
    have h2 := Int.emod_lt_of_pos c (show (0 : Int) < 2147483563 by decide)
    exact wide_mul (a := 32) (b := 32) (by omega) (by decide) (by decide) (by decide) (by decide)
  have len : (ns.map V.int).length = ns.length := List.length_map ..
  by_cases hl : (j : Int) < ((ns.map V.int).length : Int)
  · rw [decide_eq_true hl]
    have hj2 : j < ns.length := by omega
    have get : atI (ns.map V.int) (j : Int) = some (V.int ns[j]) := atI_nat (by simp [hj2])
    refine iteT ⟨_, rfl, _, rfl, a, _, _, _, rfl, rfl, hs, get, _, rfl, ?_⟩
    have hc : 0 ≤ (if ns[j] < 0 then -ns[j] else ns[j]) := by split <;> omega
    generalize (if ns[j] < 0 then -ns[j] else ns[j]) = c at hc ⊢
    refine ⟨_, rfl, _, _, rfl, rfl, ⟨by decide, by decide, by decide⟩, _, _, rfl, rfl, _, _, rfl, ?_⟩
    refine ⟨_, rfl, .inl ⟨_, rfl, _, _, rfl, rfl, (by show (0 : Int) < 2147483563; decide), _, _, rfl, rfl, small _, _, rfl, _, _, rfl, rfl, wide_mul (a := 32) (b := 32) (by decide) (by omega) (by decide) (by decide) (by decide), _, _, rfl, rfl, _, _, rfl, rfl, .inl ⟨_, rfl, _, _, rfl, rfl, (by show (0 : Int) < 2147483497; decide), _, _, rfl, rfl, (by show 2 ≤ sizeLine; decide), fun p hp => ?_⟩⟩⟩
    obtain ⟨x, y, ex, ey, h0, h1, h2⟩ := fin c hc
    exact k p _ hp (same_new hp) ⟨x, y, by rw [ex, ey]; exact upd_same, h0, h1, h2⟩
  · rw [decide_eq_false hl]
    refine iteF ⟨_, rfl, _, _, rfl, rfl, wide_mul (a := 32) (b := 32) (by decide) (by omega) (by decide) (by decide) (by decide), _, _, rfl, rfl, ?_⟩
    have hc : 0 ≤ 37 * (j : Int) + 11 := by omega
    refine ⟨_, rfl, _, _, rfl, rfl, ⟨by decide, by decide, by decide⟩, _, _, rfl, rfl, _, _, rfl, ?_⟩
    refine ⟨_, rfl, .inl ⟨_, rfl, _, _, rfl, rfl, (by show (0 : Int) < 2147483563; decide), _, _, rfl, rfl, small _, _, rfl, _, _, rfl, rfl, wide_mul (a := 32) (b := 32) (by decide) (by omega) (by decide) (by decide) (by decide), _, _, rfl, rfl, _, _, rfl, rfl, .inl ⟨_, rfl, _, _, rfl, rfl, (by show (0 : Int) < 2147483497; decide), _, _, rfl, rfl, (by show 2 ≤ sizeLine; decide), fun p hp => ?_⟩⟩⟩
    obtain ⟨x, y, ex, ey, h0, h1, h2⟩ := fin _ hc
    exact k p _ hp (same_new hp) ⟨x, y, by rw [ex, ey]; exact upd_same, h0, h1, h2⟩
theorem ok_law_pot {P : Program} {w : World} {K : PySem.W.Frag} {mg : Str → Option Value} {base : Heap} (T : Txt K mg) : FnR P w K mg base (L2.CX P w) 1 (He.ga K "_law_pot") ((spPot K)) := by
  obtain ⟨fd, F⟩ := T.d_law_pot
  exact Z.raw0 (okb_law_pot T F) (F.bindsN fun _ _ _ _ _ _ us hl => match us, hl with | [_, _], _ => rfl)
theorem okb_law_draw {P : Program} {w : World} {K : PySem.W.Frag} {mg : Str → Option Value} {base : Heap} (T : Txt K mg) {fd : FuncData} (F : FunD K "_law_draw" "_law_draw" (defArgs s_law_draw) (defBody s_law_draw) (defScope s_law_draw) [] [] (He.ga K "_law_draw") fd) : FnOk P w K mg base (L2.CX P w) 1 (He.ga K "_law_draw") fd ["_law_pot_here", "_law_many"] (spDraw) := by
  refine F.ok sc_law_draw (fun vs H Q E h => ?_) (fun cdv A outer s H vs Q E hr h => ?_)
  · obtain ⟨p, m, rfl, ⟨x, y, hp, hx, hy, hy2⟩, hm, hz, k⟩ := h
    rfl
  obtain ⟨p, m, rfl, ⟨x, y, hp, hx, hy, hy2⟩, hm, hz, k⟩ := h
  refine ⟨_, PSs.nox (pss_cons (ps_if (pt_cmpR op_gt (pe_ix (Z.ixlK (K := K) rfl) (pv 0) (pe_int) (fun _ _ => rfl)) (pe_int) (nomark _)) (pss_cons (ps_asg (pe_callB Z.call_divmodZ (by rfl) T.f_divmod (by decide +kernel) (pa_cons (pe_ix (Z.ixlK (K := K) rfl) (pv 0) (pe_int) (fun _ _ => rfl)) (pa_cons (pv 1) pa_nil))) (Z.pgTupK (K := K) rfl rfl (pgs_cons (pg_sub (pv 0) (pe_int) set_list) (pgs_cons (pg_name (i := 2) sc_law_draw.nd rfl (Or.inl rfl)) (pgs_nil))))) (pss_one (ps_ret (pv 2)))) (pss_nil)) (pss_cons (ps_asg (pe_op op_mod (pe_callTy call_int1 (by rfl) T.f_int (by decide +kernel) (pa_cons (pe_op op_add (pe_op op_mulW (pe_ix (Z.ixlK (K := K) rfl) (pv 0) (pe_int) (fun _ _ => rfl)) (pe_int)) (pe_int)) pa_nil)) (pe_int)) (pg_sub (pv 0) (pe_int) set_list)) (pss_one (ps_ret (pe_op op_mod (pe_callTy call_int1 (by rfl) T.f_int (by decide +kernel) (pa_cons (pe_op Z.op_fdivZ (pe_op op_mod (pe_callTy call_int1 (by rfl) T.f_int (by decide +kernel) (pa_cons (pe_op op_mulW (pe_ix (Z.ixlK (K := K) rfl) (pv 0) (pe_int) (fun _ _ => rfl)) (pe_ix (Z.ixlK (K := K) rfl) (pv 0) (pe_int) (fun _ _ => rfl))) pa_nil)) (pe_int)) (pe_int)) pa_nil)) (pv 1)))))), ?_⟩
  refine ⟨_, rfl, p, _, _, _, rfl, rfl, SqL.of hp, rfl, _, _, rfl, rfl, _, rfl, ?_⟩
  by_cases c : 0 < x
  · rw [decide_eq_true c]
    refine iteT ⟨_, rfl, p, _, _, _, rfl, rfl, SqL.of hp, rfl, _, rfl, _, _, rfl, ⟨hm, Nat.lt_trans (log_lt hz (by decide)) (by decide)⟩, fun t ht => ?_⟩
    have hpt : p ≠ t := ne_of_none hp ht
    refine ⟨t, _, rfl, SqT.of upd_same, rfl, _, _, rfl, _, rfl, p, _, _, 0, rfl, rfl, (by rw [upd_ne hpt]; exact hp), rfl, _, _, rfl, rfl, _, rfl, ?_⟩
    refine k _ _ ⟨fun b o hb e => ?_, ?_⟩ (Int.emod_nonneg x (Int.ne_of_gt hm)) (Int.emod_lt_of_pos x hm)
    · rw [upd_ne hb, upd_ne (ne_of_none e ht)]
      exact e
    · exact ⟨x / m, y, upd_same, Int.ediv_nonneg hx (Int.le_of_lt hm), hy, hy2⟩
  · rw [decide_eq_false c]
    have b32 : y.natAbs < 2 ^ 32 := by omega
    refine iteF ⟨_, rfl, p, _, _, _, rfl, rfl, SqL.of hp, rfl, _, _, rfl, rfl, wide_mul (a := 32) (b := 32) b32 (by decide) (by decide) (by decide) (by decide), _, _, rfl, rfl, .inl ⟨_, rfl, _, _, rfl, rfl, (by show (0 : Int) < 2147483549; decide), ?_⟩⟩
    refine ⟨_, rfl, p, _, _, 1, rfl, rfl, hp, rfl, ?_⟩
    have h1 := Int.emod_nonneg (y * 46021 + 15013) (show (2147483549 : Int) ≠ 0 by decide)
    have h2 := Int.emod_lt_of_pos (y * 46021 + 15013) (show (0 : Int) < 2147483549 by decide)
    have z32 : ((y * 46021 + 15013) % 2147483549).natAbs < 2 ^ 32 := by
      clear k
      omega
    refine ⟨_, rfl, p, _, _, _, rfl, rfl, SqL.of upd_same, rfl, _, rfl, p, _, _, _, rfl, rfl, SqL.of upd_same, rfl, _, _, rfl, rfl, wide_mul (a := 32) (b := 32) z32 z32 (by decide) (by decide) (by decide), .inl ⟨_, rfl, _, _, rfl, rfl, (by show (0 : Int) < 2147483477; decide), ?_⟩⟩
    refine ⟨_, _, rfl, rfl, ⟨by decide, by decide⟩, .inl ⟨_, rfl, _, rfl, _, _, rfl, rfl, hm, ?_⟩⟩
    refine k _ _ ⟨fun b o hb e => ?_, ?_⟩ (Int.emod_nonneg _ (Int.ne_of_gt hm)) (Int.emod_lt_of_pos _ hm)
    · rw [upd_ne hb]
      exact e
    · exact ⟨x, _, upd_same, hx, h1, by omega⟩

theorem ok_law_draw {P : Program} {w : World} {K : PySem.W.Frag} {mg : Str → Option Value} {base : Heap} (T : Txt K mg) : FnR P w K mg base (L2.CX P w) 1 (He.ga K "_law_draw") (spDraw) := by
  obtain ⟨fd, F⟩ := T.d_law_draw
  exact Z.raw0 (okb_law_draw T F) (F.bindsN fun _ _ _ _ _ _ us hl => match us, hl with | [_, _], _ => rfl)
/-! ### picks -/
def spPick : Sp := fun vs H Q _ => ∃ (p l : Addr) (xs : List V), vs = [.ref p, .ref l] ∧ Pot H p ∧ H l = some (.lst xs) ∧ l ≠ p ∧ 0 < xs.length ∧ xs.length ≤ 1000 ∧ ∀ (v : V) (H' : Hp), Grow p H H' → v ∈ xs → Q v H'
theorem okb_law_pick {P : Program} {w : World} {K : PySem.W.Frag} {mg : Str → Option Value} {base : Heap} (T : Txt K mg) {fd : FuncData} (F : FunD K "_law_pick" "_law_pick" (defArgs s_law_pick) (defBody s_law_pick) (defScope s_law_pick) [] [] (He.ga K "_law_pick") fd) : FnOk P w K mg base (L2.CX P w) 2 (He.ga K "_law_pick") fd ["_law_pot_here", "_law_some"] (spPick) := by
  refine F.ok sc_law_pick (fun vs H Q E h => ?_) (fun cdv A outer s H vs Q E hr h => ?_)
  · obtain ⟨p, l, xs, rfl, hp, hl, ne, h0, h1, k⟩ := h
    rfl
  obtain ⟨p, l, xs, rfl, hp, hl, ne, h0, h1, k⟩ := h
  refine ⟨_, PSs.nox (pss_one (ps_ret (pe_ix (Z.ixlK (K := K) rfl) (pv 1) (Z.pe_cl (E := E0) (ok_law_draw T) (hr.mono (by decide)) T.g_law_draw T.k_law_draw passL (pa_cons (pv 0) (pa_cons (pe_callB (Z.lenK (K := K) rfl) (by rfl) T.f_len (by decide +kernel) (pa_cons (pv 1) pa_nil)) pa_nil))) (fun _ _ => rfl)))), ?_⟩
  refine ⟨_, rfl, _, rfl, _, rfl, _, xs.length, rfl, Or.inl ⟨_, SqL.of hl, rfl⟩, p, (xs.length : Int), rfl, hp, by omega, ?_, fun d H1 g d0 d1 => ?_⟩
  · exact Nat.lt_of_lt_of_le (show (xs.length : Int).natAbs < 2 ^ 10 by omega) (Nat.pow_le_pow_right (by decide) (by decide))
  · have hd : d.toNat < xs.length := by omega
    have e : atI xs d = some xs[d.toNat] := by
      have z := atI_nat (xs := xs) (j := d.toNat) (v := xs[d.toNat]) (by simp [hd])
      rw [show ((d.toNat : Nat) : Int) = d by omega] at z
      exact z
    exact ⟨l, xs, d, _, rfl, rfl, SqL.of (g.kp l _ ne hl), e, k _ H1 g (List.getElem_mem hd)⟩

theorem ok_law_pick {P : Program} {w : World} {K : PySem.W.Frag} {mg : Str → Option Value} {base : Heap} (T : Txt K mg) : FnR P w K mg base (L2.CX P w) 2 (He.ga K "_law_pick") (spPick) := by
  obtain ⟨fd, F⟩ := T.d_law_pick
  exact Z.raw0 (okb_law_pick T F) (F.bindsN fun _ _ _ _ _ _ us hl => match us, hl with | [_, _], _ => rfl)
/-! ### what a thing is -/
theorem TyOf.up {K : PySem.W.Frag} {H H' : Hp} {v : V} {t : Value} (h : TyOf K H v t) (s : Same H H') : TyOf K H' v t := by
  cases h with
  | non => exact .non
  | bl x => exact .bl x
  | int x => exact .int x
  | str x => exact .str x
  | flt x => exact .flt x
  | lst e => exact .lst (s _ _ e)
  | frz e => exact .frz (s _ _ e)
  | tup e => exact .tup (s _ _ e)
  | dK e => exact .dK (s _ _ e)
  | dT e => exact .dT (s _ _ e)
  | ins e a b c d f => exact .ins (s _ _ e) a b c d f
theorem TyX.up {K : PySem.W.Frag} {H H' : Hp} {v : V} {t : Value} (h : TyX K H v t) (s : Same H H') : TyX K H' v t := by
  cases h with
  | base h => exact .base (TyOf.up h s)
  | byt b => exact .byt b
  | set e => exact .set (s _ _ e)
  | kList e c => exact .kList e c
  | kTuple e c => exact .kTuple e c
  | kDict e c => exact .kDict e c
  | fTuple e => exact .fTuple (s _ _ e)
  | fDict e => exact .fDict (s _ _ e)
def LET : Str := "abcdefghijklmnopqrstuvwxyz"
def isL (c : Nat) : Bool := decide (c ∈ LET.cps.toList)
/-- is the text a name -/
def nameB (x : Str) : Bool := (decide ((1 : Int) ≤ (x.length : Int)) && decide ((x.length : Int) ≤ 8)) && x.cps.toList.all isL
structure Thing (K : PySem.W.Frag) (H : Hp) (v : V) (a b c d : Bool) : Prop where
  ex : ∃ t bi bb br bs, TyX K H v t ∧ PySem.W.kitOne K t (.type "int") = some bi ∧ PySem.W.kitOne K t (.type "bool") = some bb ∧ PySem.W.kitOne K t (.ref (RC K)) = some br ∧ PySem.W.kitOne K t (.type "str") = some bs ∧ a = (bi && !bb) ∧ c = (a || br) ∧
    (a = true → ∃ n, v = .int n ∧ b = decide (0 ≤ n)) ∧ (a = false → b = false) ∧ (bs = true → ∃ x, v = .str x ∧ x.length ≤ 100000 ∧ d = nameB x) ∧ (bs = false → d = false)
theorem Thing.up {K : PySem.W.Frag} {H H' : Hp} {v : V} {a b c d : Bool} (h : Thing K H v a b c d) (s : Same H H') : Thing K H' v a b c d := by
  obtain ⟨⟨t, bi, bb, br, bs, ty, r⟩⟩ := h
  exact ⟨⟨t, bi, bb, br, bs, TyX.up ty s, r⟩⟩
def spCount (K : PySem.W.Frag) : Sp := fun vs H Q _ => ∃ v a b c d, vs = [v] ∧ Thing K H v a b c d ∧ Q (.bl b) H
def spName (K : PySem.W.Frag) : Sp := fun vs H Q _ => ∃ v a b c d, vs = [v] ∧ Thing K H v a b c d ∧ ∀ H', Same H H' → Q (.bl d) H'
def spIntT (K : PySem.W.Frag) : Sp := fun vs H Q _ => ∃ v a b c d, vs = [v] ∧ Thing K H v a b c d ∧ Q (.bl a) H
theorem Thing.kind {K : PySem.W.Frag} {H : Hp} {v : V} {a b c d : Bool} (h : Thing K H v a b c d) : ∃ bi bb br, Kind K H v bi bb br ∧ (bi && !bb) = a ∧ ((bi && !bb) || br) = c := by
  obtain ⟨⟨t, bi, bb, br, bs, ty, h1, h2, h3, h4, e1, e2, _⟩⟩ := h
  exact ⟨bi, bb, br, ⟨t, ty, h1, h2, h3⟩, e1.symm, by rw [← e1, ← e2]⟩
theorem okb_is_count {P : Program} {w : World} {K : PySem.W.Frag} {mg : Str → Option Value} {base : Heap} (T : Txt K mg) {fd : FuncData} (F : FunD K "is_count" "is_count" (defArgs s_is_count) (defBody s_is_count) (defScope s_is_count) [] [] (He.ga K "is_count") fd) : FnOk P w K mg base (L2.CX P w) 2 (He.ga K "is_count") fd ["value"] ((spCount K)) := by
  refine F.ok sc_is_count (fun vs H Q E h => ?_) (fun cdv A outer s H vs Q E hr h => ?_)
  · obtain ⟨v, a, b, c, d, rfl, th, k⟩ := h
    rfl
  obtain ⟨v, a, b, c, d, rfl, th, k⟩ := h
  refine ⟨_, PSs.nox (pss_one (ps_ret (pe_and (Z.pe_cl (E := E0) (ok_is_integer T) (hr.mono (by decide)) T.g_is_integer T.k_is_integer passL (pa_cons (pv 0) pa_nil)) (pe_one (pe_cmpR op_ge (pv 0) (pe_int) (nomark _)))))), ?_⟩
  obtain ⟨bi, bb, br, kd, e1, _⟩ := th.kind
  obtain ⟨⟨t, _, _, _, _, _, _, _, _, _, _, _, y1, y2, _⟩⟩ := th
  refine ⟨_, rfl, v, bi, bb, br, rfl, kd, _, rfl, ?_⟩
  rw [e1]
  cases a with
  | false =>
    rw [y2 rfl] at k
    exact iteF k
  | true =>
    obtain ⟨n, rfl, e⟩ := y1 rfl
    rw [e] at k
    exact iteT ⟨_, rfl, _, _, rfl, rfl, k⟩
theorem ok_is_count {P : Program} {w : World} {K : PySem.W.Frag} {mg : Str → Option Value} {base : Heap} (T : Txt K mg) : FnR P w K mg base (L2.CX P w) 2 (He.ga K "is_count") ((spCount K)) := by
  obtain ⟨fd, F⟩ := T.d_is_count
  exact Z.raw0 (okb_is_count T F) (F.bindsN fun _ _ _ _ _ _ us hl => match us, hl with | [_], _ => rfl)
theorem okb_is_name {P : Program} {w : World} {K : PySem.W.Frag} {mg : Str → Option Value} {base : Heap} (T : Txt K mg) {fd : FuncData} (F : FunD K "is_name" "is_name" (defArgs s_is_name) (defBody s_is_name) (defScope s_is_name) [] [] (He.ga K "is_name") fd) : FnOk P w K mg base (L2.CX P w) 1 (He.ga K "is_name") fd ["value"] ((spName K)) := by
  refine F.ok sc_is_name (fun vs H Q E h => ?_) (fun cdv A outer s H vs Q E hr h => ?_)
  · obtain ⟨v, a, b, c, d, rfl, th, k⟩ := h
    rfl
  obtain ⟨v, a, b, c, d, rfl, th, k⟩ := h
  refine ⟨_, PSs.nox (pss_cons (ps_if (PW.pt (pw_or (pt_not (pt_val (pe_callB (Z.isiK (K := K) rfl) (by rfl) T.f_isinstance (by decide +kernel) (pa_cons (pv 0) (pa_cons (pe_bltn (v := .ty "str") rfl T.f_str (by decide +kernel) rfl) pa_nil))))) (pw_or1 (pt_not (pt_chain op_le op_le (pe_int) (pe_callB call_len_str (by rfl) T.f_len (by decide +kernel) (pa_cons (pv 0) pa_nil)) (pe_glob (v := .int 8) rfl T.g_MOST_LETTERS.choose_spec ⟨_, rfl⟩)))))) (pss_one (ps_ret (pe_bl))) (pss_nil)) (pss_one (ps_ret (pe_callB (Z.allK (K := K) rfl rfl) (by rfl) T.f_all (by decide +kernel) (pa_cons (pe_lc (own := [("sign", 1)]) (g := gName 1) (by rfl) sc_is_name.nd (pi_str (pv 0)) (blkOk_by (own := [("sign", 1)]) (N := N_is_name) (sc := defScope s_is_name) (by decide +kernel)) (fun _ _ _ _ _ => pg_name (i := 1) sc_is_name.nd rfl (Or.inl rfl)) (fun _ _ _ _ _ => pts_nil) (fun _ _ _ _ _ => pe_cmpR op_in_sign (pv 1) (pe_glob (v := .str "abcdefghijklmnopqrstuvwxyz") rfl T.g_LETTERS.choose_spec ⟨_, rfl⟩) (by rfl))) pa_nil))))), ?_⟩
  obtain ⟨⟨t, _, _, _, bs, ty, _, _, _, h4, _, _, _, _, y1, y2⟩⟩ := th
  refine ⟨_, rfl, v, .ty "str", t, _, bs, rfl, .ty _, ty, h4, _, rfl, ?_⟩
  cases bs with
  | false =>
    rw [y2 rfl] at k
    exact iteT (iteT (k _ (Same.refl _)))
  | true =>
    obtain ⟨x, rfl, hl, e⟩ := y1 rfl
    rw [e] at k
    unfold nameB at k
    refine iteF ?_
    refine ⟨_, rfl, x, rfl, len_small hl, _, _, rfl, rfl, _, rfl, ?_⟩
    cases b1 : decide ((1 : Int) ≤ (x.length : Int)) with
    | false =>
      rw [b1] at k
      exact iteF ⟨_, rfl, iteT (k _ (Same.refl _))⟩
    | true =>
      rw [b1] at k
      refine iteT ⟨_, _, rfl, rfl, _, rfl, ?_⟩
      cases b2 : decide ((x.length : Int) ≤ 8) with
      | false =>
        rw [b2] at k
        exact iteT (k _ (Same.refl _))
      | true =>
        rw [b2] at k
        refine iteF ⟨_, rfl, x, rfl, fun D hD => ?_⟩
        refine lc_it (walk_str (z := x)) (fun i H' => Same H H' ∧ H' D = some (.lst ((x.cps.toList.take i).map fun c => V.bl (isL c)))) ⟨same_new hD, upd_same⟩ (fun _ _ _ _ => trivial) ?_ ?_
        · rintro i v H1 H2 hi ⟨s1, hD1⟩ ⟨rfl, c, hc, rfl⟩
          refine ⟨rfl, ?_⟩
          refine ⟨_, rfl, c, LET, rfl, rfl, _, hD1, ?_, fun b o e => ?_, ?_⟩
          · have e0 : x.length = x.cps.size := rfl
            rw [List.length_map, List.length_take, sizeLine_eq]
            omega
          · rw [upd_ne (ne_of_none e hD)]
            exact s1 _ _ e
          · rw [upd_same, take_next (show x.cps.toList[i]? = some c by rw [Array.getElem?_toList]; exact hc), List.map_append]
            rfl
        · rintro H1 ⟨s1, hD1⟩
          refine ⟨D, x.cps.toList.map isL, rfl, SqL.of ?_, ?_⟩
          · rw [hD1, show x.cps.size = x.cps.toList.length from rfl, List.take_length, List.map_map]
            rfl
          · rw [List.all_map]
            exact k _ s1
theorem ok_is_name {P : Program} {w : World} {K : PySem.W.Frag} {mg : Str → Option Value} {base : Heap} (T : Txt K mg) : FnR P w K mg base (L2.CX P w) 1 (He.ga K "is_name") ((spName K)) := by
  obtain ⟨fd, F⟩ := T.d_is_name
  exact Z.raw0 (okb_is_name T F) (F.bindsN fun _ _ _ _ _ _ us hl => match us, hl with | [_], _ => rfl)
theorem okk_is_integer_value {P : Program} {w : World} {K : PySem.W.Frag} {mg : Str → Option Value} {base : Heap} (T : Txt K mg) : Z.FnK P w K mg base (L2.CX P w) 1 (He.ga K "is_integer") 0 ["value"] (fun vs zs H Q E => ((spIsInt K)) (vs ++ zs) H Q E) := by
  obtain ⟨fd, F⟩ := T.d_is_integer
  have G := Z.fnk (okb_is_integer (P := P) (w := w) (base := base) T F) (Z.kbN F 0 ["value"] (fun {α} us ws => us ++ ws) (fun r1 r2 => r1.append r2) fun _ _ _ _ _ _ us ws h1 h2 => match us, ws, h1, h2 with | [], [_], _, _ => rfl)
  exact G
theorem okk_is_count_value {P : Program} {w : World} {K : PySem.W.Frag} {mg : Str → Option Value} {base : Heap} (T : Txt K mg) : Z.FnK P w K mg base (L2.CX P w) 2 (He.ga K "is_count") 0 ["value"] (fun vs zs H Q E => ((spCount K)) (vs ++ zs) H Q E) := by
  obtain ⟨fd, F⟩ := T.d_is_count
  have G := Z.fnk (okb_is_count (P := P) (w := w) (base := base) T F) (Z.kbN F 0 ["value"] (fun {α} us ws => us ++ ws) (fun r1 r2 => r1.append r2) fun _ _ _ _ _ _ us ws h1 h2 => match us, ws, h1, h2 with | [], [_], _, _ => rfl)
  exact G
theorem okk_is_number_value {P : Program} {w : World} {K : PySem.W.Frag} {mg : Str → Option Value} {base : Heap} (T : Txt K mg) : Z.FnK P w K mg base (L2.CX P w) 2 (He.ga K "is_number") 0 ["value"] (fun vs zs H Q E => ((spIsNum K)) (vs ++ zs) H Q E) := by
  obtain ⟨fd, F⟩ := T.d_is_number
  have G := Z.fnk (okb_is_number (P := P) (w := w) (base := base) T F) (Z.kbN F 0 ["value"] (fun {α} us ws => us ++ ws) (fun r1 r2 => r1.append r2) fun _ _ _ _ _ _ us ws h1 h2 => match us, ws, h1, h2 with | [], [_], _, _ => rfl)
  exact G
theorem okk_is_name_value {P : Program} {w : World} {K : PySem.W.Frag} {mg : Str → Option Value} {base : Heap} (T : Txt K mg) : Z.FnK P w K mg base (L2.CX P w) 1 (He.ga K "is_name") 0 ["value"] (fun vs zs H Q E => ((spName K)) (vs ++ zs) H Q E) := by
  obtain ⟨fd, F⟩ := T.d_is_name
  have G := Z.fnk (okb_is_name (P := P) (w := w) (base := base) T F) (Z.kbN F 0 ["value"] (fun {α} us ws => us ++ ws) (fun r1 r2 => r1.append r2) fun _ _ _ _ _ _ us ws h1 h2 => match us, ws, h1, h2 with | [], [_], _, _ => rfl)
  exact G
def spTold (K : PySem.W.Frag) : Sp := fun vs H Q _ => ∃ v a b c d, vs = [v] ∧ Thing K H v a b c d ∧ ∀ (l : Addr) (H' : Hp), Same H H' → H' l = some (.lst (([a, b, c, d, a, b, c, d] : List Bool).map V.bl)) → Q (.ref l) H'
theorem okb_law_told {P : Program} {w : World} {K : PySem.W.Frag} {mg : Str → Option Value} {base : Heap} (T : Txt K mg) {fd : FuncData} (F : FunD K "_law_told" "_law_told" (defArgs s_law_told) (defBody s_law_told) (defScope s_law_told) [] [] (He.ga K "_law_told") fd) : FnOk P w K mg base (L2.CX P w) 3 (He.ga K "_law_told") fd ["_law_thing"] ((spTold K)) := by
  refine F.ok sc_law_told (fun vs H Q E h => ?_) (fun cdv A outer s H vs Q E hr h => ?_)
  · obtain ⟨v, a, b, c, d, rfl, th, k⟩ := h
    rfl
  obtain ⟨v, a, b, c, d, rfl, th, k⟩ := h
  refine ⟨_, PSs.nox (pss_cons (ps_set (i := 1) sc_law_told.nd rfl (Or.inl rfl) (pe_lst (pa_cons (Z.pe_cl (E := E0) (ok_is_integer T) (hr.mono (by decide)) T.g_is_integer T.k_is_integer passL (pa_cons (pv 0) pa_nil)) (pa_cons (Z.pe_cl (E := E0) (ok_is_count T) (hr.mono (by decide)) T.g_is_count T.k_is_count passL (pa_cons (pv 0) pa_nil)) (pa_cons (Z.pe_cl (E := E0) (ok_is_number T) (hr.mono (by decide)) T.g_is_number T.k_is_number passL (pa_cons (pv 0) pa_nil)) (pa_cons (Z.pe_cl (E := E0) (ok_is_name T) (hr.mono (by decide)) T.g_is_name T.k_is_name passL (pa_cons (pv 0) pa_nil)) pa_nil)))))) (pss_one (ps_ret (pe_op op_cat (pv 1) (pe_lst (pa_cons (Z.pe_clK (E := E0) (okk_is_integer_value T) (hr.mono (by decide)) T.g_is_integer T.k_is_integer passL (pk_cons (pv 0) (pk_nil))) (pa_cons (Z.pe_clK (E := E0) (okk_is_count_value T) (hr.mono (by decide)) T.g_is_count T.k_is_count passL (pk_cons (pv 0) (pk_nil))) (pa_cons (Z.pe_clK (E := E0) (okk_is_number_value T) (hr.mono (by decide)) T.g_is_number T.k_is_number passL (pk_cons (pv 0) (pk_nil))) (pa_cons (Z.pe_clK (E := E0) (okk_is_name_value T) (hr.mono (by decide)) T.g_is_name T.k_is_name passL (pk_cons (pv 0) (pk_nil))) pa_nil))))))))), ?_⟩
  obtain ⟨bi, bb, br, kd, e1, e2⟩ := th.kind
  refine ⟨_, rfl, v, bi, bb, br, rfl, kd, ?_⟩
  refine ⟨_, rfl, v, a, b, c, d, rfl, th, ?_⟩
  refine ⟨_, rfl, v, bi, bb, br, rfl, kd, ?_⟩
  refine ⟨_, rfl, v, a, b, c, d, rfl, th, fun H1 s1 => ⟨(by show 4 ≤ sizeLine; decide), fun l hl => ?_⟩⟩
  rw [e2, e1]
  have s2 := s1.trans (same_new (o := HO.lst [.bl a, .bl b, .bl c, .bl d]) hl)
  have th2 := th.up s2
  obtain ⟨bi2, bb2, br2, kd2, e12, e22⟩ := th2.kind
  refine ⟨_, rfl, _, rfl, rfl, v, bi2, bb2, br2, rfl, kd2, ?_⟩
  refine ⟨_, rfl, rfl, v, a, b, c, d, rfl, th2, ?_⟩
  refine ⟨_, rfl, rfl, v, bi2, bb2, br2, rfl, kd2, ?_⟩
  refine ⟨_, rfl, rfl, v, a, b, c, d, rfl, th2, fun H3 s3 => ⟨(by show 4 ≤ sizeLine; decide), fun m hm => ?_⟩⟩
  rw [e22, e12]
  have s4 := same_new (o := HO.lst [.bl a, .bl b, .bl c, .bl d]) hm
  refine ⟨l, m, _, _, rfl, rfl, s4 _ _ (s3 _ _ upd_same), upd_same, (by show 8 ≤ sizeLine; decide), fun p hp => ?_⟩
  exact k p _ ((s2.trans s3).trans (s4.trans (same_new hp))) upd_same
theorem ok_law_told {P : Program} {w : World} {K : PySem.W.Frag} {mg : Str → Option Value} {base : Heap} (T : Txt K mg) : FnR P w K mg base (L2.CX P w) 3 (He.ga K "_law_told") ((spTold K)) := by
  obtain ⟨fd, F⟩ := T.d_law_told
  exact Z.raw0 (okb_law_told T F) (F.bindsN fun _ _ _ _ _ _ us hl => match us, hl with | [_], _ => rfl)
/-! ### words -/
def spPickS : Sp := fun vs H Q _ => ∃ (p : Addr) (x : Str), vs = [.ref p, .str x] ∧ Pot H p ∧ 0 < x.length ∧ x.length ≤ 1000 ∧ ∀ (c : Nat) (H' : Hp), Grow p H H' → c ∈ x.cps.toList → Q (.str ⟨#[c]⟩) H'
theorem at_str {x : Str} {d : Int} (d0 : 0 ≤ d) (d1 : d < (x.length : Int)) : ∃ c, c ∈ x.cps.toList ∧ atI x.cps.toList d = some c := by
  have e0 : x.length = x.cps.toList.length := rfl
  have hd : d.toNat < x.cps.toList.length := by omega
  refine ⟨x.cps.toList[d.toNat], List.getElem_mem hd, ?_⟩
  have z := atI_nat (xs := x.cps.toList) (j := d.toNat) (v := x.cps.toList[d.toNat]) (List.getElem?_eq_getElem hd)
  rw [show ((d.toNat : Nat) : Int) = d by omega] at z
  exact z
theorem draw_sz {m : Int} (h : m.natAbs < 2 ^ 40) : m.natAbs < 2 ^ 8000 := Nat.lt_of_lt_of_le h (Nat.pow_le_pow_right (by decide) (by decide))
theorem okb_law_pick_vs {P : Program} {w : World} {K : PySem.W.Frag} {mg : Str → Option Value} {base : Heap} (T : Txt K mg) {fd : FuncData} (F : FunD K "_law_pick" "_law_pick" (defArgs s_law_pick) (defBody s_law_pick) (defScope s_law_pick) [] [] (He.ga K "_law_pick") fd) : FnOk P w K mg base (L2.CX P w) 2 (He.ga K "_law_pick") fd ["_law_pot_here", "_law_some"] (spPickS) := by
  refine F.ok sc_law_pick (fun vs H Q E h => ?_) (fun cdv A outer s H vs Q E hr h => ?_)
  · obtain ⟨p, x, rfl, hp, h0, h1, k⟩ := h
    rfl
  obtain ⟨p, x, rfl, hp, h0, h1, k⟩ := h
  refine ⟨_, PSs.nox (pss_one (ps_ret (pe_ix ix_str (pv 1) (Z.pe_cl (E := E0) (ok_law_draw T) (hr.mono (by decide)) T.g_law_draw T.k_law_draw passL (pa_cons (pv 0) (pa_cons (pe_callB call_len_str (by rfl) T.f_len (by decide +kernel) (pa_cons (pv 1) pa_nil)) pa_nil))) (fun _ _ => rfl)))), ?_⟩
  refine ⟨_, rfl, _, rfl, _, rfl, x, rfl, len_small (by omega), p, (x.length : Int), rfl, hp, by omega, ?_, fun d H1 g d0 d1 => ?_⟩
  · exact draw_sz (Nat.lt_of_le_of_lt (show (x.length : Int).natAbs ≤ 1000 by omega) (by decide))
  · obtain ⟨c, hc, e⟩ := at_str d0 d1
    exact ⟨x, d, c, rfl, rfl, len_small (by omega), e, k c H1 g hc⟩
theorem ok_law_pick_vs {P : Program} {w : World} {K : PySem.W.Frag} {mg : Str → Option Value} {base : Heap} (T : Txt K mg) : FnR P w K mg base (L2.CX P w) 2 (He.ga K "_law_pick") (spPickS) := by
  obtain ⟨fd, F⟩ := T.d_law_pick
  exact Z.raw0 (okb_law_pick_vs T F) (F.bindsN fun _ _ _ _ _ _ us hl => match us, hl with | [_, _], _ => rfl)
def spWord : Sp := fun vs H Q _ => ∃ (p : Addr), vs = [.ref p] ∧ Pot H p ∧ ∀ (x : Str) (H' : Hp), Grow p H H' → x.length ≤ 10 → Q (.str x) H'
theorem words_mem {v : V} (h : v ∈ ([.int 0, .int 1, .int 1, .int 2, .int 4, .int 7, .int 8, .int 8, .int 9, .int 10] : List V)) : ∃ m : Int, v = .int m ∧ 0 ≤ m ∧ m ≤ 10 := by
  simp only [List.mem_cons, List.mem_nil_iff, or_false] at h
  rcases h with h | h | h | h | h | h | h | h | h | h <;> exact ⟨_, h, by decide, by decide⟩
theorem let_len : LET.length = 26 := by decide +kernel
theorem ones_sum {ys : List Str} (h : ∀ y ∈ ys, y.length = 1) : (ys.map (·.length)).sum = ys.length := by
  induction ys with
  | nil => rfl
  | cons y r ih =>
    rw [List.map_cons, List.sum_cons, ih (fun z hz => h z (List.mem_cons_of_mem _ hz)), h y (List.mem_cons_self ..), List.length_cons]
    omega
theorem okb_law_word {P : Program} {w : World} {K : PySem.W.Frag} {mg : Str → Option Value} {base : Heap} (T : Txt K mg) {fd : FuncData} (F : FunD K "_law_word" "_law_word" (defArgs s_law_word) (defBody s_law_word) (defScope s_law_word) [] [] (He.ga K "_law_word") fd) : FnOk P w K mg base (L2.CX P w) 3 (He.ga K "_law_word") fd ["_law_pot_here"] (spWord) := by
  refine F.ok sc_law_word (fun vs H Q E h => ?_) (fun cdv A outer s H vs Q E hr h => ?_)
  · obtain ⟨p, rfl, hp, k⟩ := h
    rfl
  obtain ⟨p, rfl, hp, k⟩ := h
  refine ⟨_, PSs.nox (pss_cons (ps_set (i := 1) sc_law_word.nd rfl (Or.inr rfl) (pe_str)) (pss_one (ps_ret (pe_join (pe_str) (pe_lc (own := [("_law_turn", 2)]) (g := gName 2) (by rfl) sc_law_word.nd (pi_range1 (by rfl) T.f_range (pa_cons (Z.pe_cl (E := E0) (ok_law_pick T) (hr.mono (by decide)) T.g_law_pick T.k_law_pick passL (pa_cons (pv 0) (pa_cons (pe_lst (pa_cons (pe_int) (pa_cons (pe_int) (pa_cons (pe_int) (pa_cons (pe_int) (pa_cons (pe_int) (pa_cons (pe_int) (pa_cons (pe_int) (pa_cons (pe_int) (pa_cons (pe_int) (pa_cons (pe_int) pa_nil))))))))))) pa_nil))) pa_nil)) (blkOk_by (own := [("_law_turn", 2)]) (N := N_law_word) (sc := defScope s_law_word) (by decide +kernel)) (fun _ _ _ _ _ => pg_name (i := 2) sc_law_word.nd rfl (Or.inl rfl)) (fun _ _ _ _ _ => pts_nil) (fun _ _ _ _ _ => pe_ix ix_str (pv 1) (Z.pe_cl (E := E0) (ok_law_draw T) (hr.mono (by decide)) T.g_law_draw T.k_law_draw passL (pa_cons (pv 0) (pa_cons (pe_int) pa_nil))) (fun _ _ => rfl))))))), ?_⟩
  have nums : H = H := rfl
  refine ⟨⟨_, rfl⟩, ?_⟩
  refine ⟨_, rfl, (by show 10 ≤ sizeLine; decide), fun l hl => ?_⟩
  have hp1 := hp.up (same_new (o := HO.lst [.int 0, .int 1, .int 1, .int 2, .int 4, .int 7, .int 8, .int 8, .int 9, .int 10]) hl)
  refine ⟨p, l, _, rfl, hp1, upd_same, hp.fresh hl, by decide, by decide, fun v H1 g1 hv => ?_⟩
  obtain ⟨m, rfl, m0, m1⟩ := words_mem hv
  have g01 : Grow p H H1 := (sgrow (same_new hl) hp).trans g1
  refine ⟨_, rfl, by omega, by omega, fun D hD => ?_⟩
  refine lc_range (fun i H' => Grow p H1 H' ∧ ∃ ys : List Str, H' D = some (.lst (ys.map V.str)) ∧ ys.length = i ∧ ∀ y ∈ ys, y.length = 1) ⟨sgrow (same_new hD) g1.pot, [], upd_same, rfl, fun y h => by cases h⟩ ?_ ?_
  · rintro i H2 hi ⟨g2, ys, hD2, el, h1⟩
    have dp := g1.pot.fresh hD
    refine ⟨rfl, ?_⟩
    refine ⟨_, rfl, _, rfl, p, 26, rfl, g2.pot, by decide, draw_sz (by decide), fun d H3 g3 d0 d1 => ?_⟩
    obtain ⟨c, hc, e⟩ := at_str (x := LET) d0 (by rw [let_len]; exact d1)
    refine ⟨LET, d, c, rfl, rfl, (by rw [let_len]; decide), e, _, g3.kp _ _ dp hD2, ?_, ⟨fun b o nb eb => ?_, ?_⟩, ys ++ [⟨#[c]⟩], ?_, ?_, ?_⟩
    · rw [List.length_map, sizeLine_eq]
      omega
    · rw [upd_ne (ne_of_none eb hD)]
      exact (g2.trans g3).kp _ _ nb eb
    · obtain ⟨x, y, h1, h2⟩ := g3.pot
      exact ⟨x, y, by rw [upd_ne dp.symm]; exact h1, h2⟩
    · rw [upd_same, List.map_append]
      rfl
    · rw [List.length_append, el]
      rfl
    · intro y hy
      rcases List.mem_append.mp hy with h | h
      · exact h1 y h
      · rw [List.mem_singleton.mp h]
        rfl
  · rintro H2 ⟨g2, ys, hD2, el, h1⟩
    have e1 := ones_sum h1
    have z0 : ("" : Str).length = 0 := by decide +kernel
    refine ⟨_, D, ys, rfl, rfl, .inl (SqL.of hD2), ?_, ?_⟩
    · rw [e1, z0]
      omega
    · refine k _ H2 (g01.trans g2) ?_
      rw [TL.join_eq]
      have := StrLaws.join_length_le ("" : Str) ys
      rw [e1, z0] at this
      omega
theorem ok_law_word {P : Program} {w : World} {K : PySem.W.Frag} {mg : Str → Option Value} {base : Heap} (T : Txt K mg) : FnR P w K mg base (L2.CX P w) 3 (He.ga K "_law_word") (spWord) := by
  obtain ⟨fd, F⟩ := T.d_law_word
  exact Z.raw0 (okb_law_word T F) (F.bindsN fun _ _ _ _ _ _ us hl => match us, hl with | [_], _ => rfl)
def spBent : Sp := fun vs H Q _ => ∃ (p : Addr) (x : Str), vs = [.ref p, .str x] ∧ Pot H p ∧ x.length ≤ 10 ∧ ∀ (y : Str) (H' : Hp), Grow p H H' → y.length ≤ 21 → Q (.str y) H'
theorem cut_len (z : Str) (lo hi : Option Int) : (cutS z lo hi).length ≤ z.length := by
  unfold cutS
  show (List.toArray _).size ≤ _
  rw [List.size_toArray, List.length_take, List.length_drop]
  have e : z.length = z.cps.toList.length := rfl
  omega
def SIGNS : Str := " !\"#$&'()*+,-./0123456789:;<=>?@ABCDEFGHIJKLMNOPQRSTUVWXYZ[\\]^_`abcdefghijklmnopqrstuvwxyz{|}~\n"
theorem signs_len : SIGNS.length = 95 := by decide +kernel
theorem okb_law_bent {P : Program} {w : World} {K : PySem.W.Frag} {mg : Str → Option Value} {base : Heap} (T : Txt K mg) {fd : FuncData} (F : FunD K "_law_bent" "_law_bent" (defArgs s_law_bent) (defBody s_law_bent) (defScope s_law_bent) [] [] (He.ga K "_law_bent") fd) : FnOk P w K mg base (L2.CX P w) 3 (He.ga K "_law_bent") fd ["_law_pot_here", "_law_word_here"] (spBent) := by
  refine F.ok sc_law_bent (fun vs H Q E h => ?_) (fun cdv A outer s H vs Q E hr h => ?_)
  · obtain ⟨p, x, rfl, hp, hx, k⟩ := h
    rfl
  obtain ⟨p, x, rfl, hp, hx, k⟩ := h
  refine ⟨_, PSs.nox (pss_cons (ps_set (i := 2) sc_law_bent.nd rfl (Or.inl rfl) (pe_str)) (pss_cons (ps_par3 (i := 3) (j := 4) (l := 5) (by rfl) sc_law_bent.nd rfl rfl rfl (by decide) (by decide) (by decide) rfl rfl rfl (pa_cons (Z.pe_cl (E := E0) (ok_law_draw T) (hr.mono (by decide)) T.g_law_draw T.k_law_draw passL (pa_cons (pv 0) (pa_cons (pe_int) pa_nil))) (pa_cons (Z.pe_cl (E := E0) (ok_law_draw T) (hr.mono (by decide)) T.g_law_draw T.k_law_draw passL (pa_cons (pv 0) (pa_cons (pe_op op_add (pe_callB call_len_str (by rfl) T.f_len (by decide +kernel) (pa_cons (pv 1) pa_nil)) (pe_int)) pa_nil))) (pa_cons (Z.pe_cl (E := E0) (ok_law_pick_vs T) (hr.mono (by decide)) T.g_law_pick T.k_law_pick passL (pa_cons (pv 0) (pa_cons (pv 2) pa_nil))) pa_nil))) (by rfl)) (pss_cons (ps_if (pt_cmpR op_lt (pv 3) (pe_int) (nomark _)) (pss_one (ps_ret (pv 1))) (pss_nil)) (pss_one (ps_ret (pe_op op_add_str (pe_op op_add_str (pe_slice sl_str (pv 1) po_none (po_some (pv 4))) (pv 5)) (pe_slice sl_str (pv 1) (po_some (pe_op op_sub (pe_op op_add (pv 4) (pv 3)) (pe_int))) po_none))))))), ?_⟩
  refine ⟨_, rfl, p, 4, rfl, hp, by decide, draw_sz (by decide), fun w H1 g1 w0 w4 => ?_⟩
  refine ⟨_, rfl, _, rfl, x, rfl, len_small (by omega), _, _, rfl, rfl, p, _, rfl, g1.pot, by omega, draw_sz (Nat.lt_of_le_of_lt (show ((x.length : Int) + 1).natAbs ≤ 11 by omega) (by decide)), fun a H2 g2 a0 a1 => ?_⟩
  refine ⟨_, rfl, _, rfl, p, SIGNS, rfl, g2.pot, by rw [signs_len]; decide, by rw [signs_len]; decide, fun c H3 g3 hc => ⟨_, _, _, rfl, ?_⟩⟩
  have g03 := (g1.trans g2).trans g3
  refine ⟨_, rfl, _, _, rfl, rfl, _, rfl, ?_⟩
  by_cases c0 : w < 2
  · rw [decide_eq_true c0]
    exact iteT ⟨_, rfl, k x H3 g03 (by omega)⟩
  rw [decide_eq_false c0]
  refine iteF ?_
  have l1 := cut_len x none (some a)
  have l2 := cut_len x (some (a + w - 2)) none
  have l3 : (⟨#[c]⟩ : Str).length = 1 := rfl
  refine ⟨_, rfl, _, rfl, _, rfl, x, rfl, len_small (by omega), _, rfl, _, _, rfl, rfl, ?_, ?_⟩
  · rw [sizeLine_eq]
    omega
  · refine ⟨_, rfl, _, rfl, _, rfl, _, _, rfl, rfl, _, _, rfl, rfl, _, rfl, x, rfl, len_small (by omega), _, _, rfl, rfl, ?_, k _ H3 g03 ?_⟩
    · rw [Str.length_append, sizeLine_eq]
      omega
    · rw [Str.length_append, Str.length_append]
      omega
theorem ok_law_bent {P : Program} {w : World} {K : PySem.W.Frag} {mg : Str → Option Value} {base : Heap} (T : Txt K mg) : FnR P w K mg base (L2.CX P w) 3 (He.ga K "_law_bent") (spBent) := by
  obtain ⟨fd, F⟩ := T.d_law_bent
  exact Z.raw0 (okb_law_bent T F) (F.bindsN fun _ _ _ _ _ _ us hl => match us, hl with | [_, _], _ => rfl)
def spIsName : Sp := fun vs H Q _ => ∃ (x : Str), vs = [.str x] ∧ x.length ≤ 21 ∧ ∀ H', Same H H' → Q (.bl (nameB x)) H'
theorem all_eq (l : List Nat) : decide (V.int ((l.filter isL).length : Int) = V.int (l.length : Int)) = l.all isL := by
  rw [Bool.eq_iff_iff, decide_eq_true_iff, List.all_eq_true, ← List.length_filter_eq_length_iff]
  constructor
  · intro h
    have := V.int.inj h
    omega
  · intro h
    rw [h]
theorem okb_law_is_name {P : Program} {w : World} {K : PySem.W.Frag} {mg : Str → Option Value} {base : Heap} (T : Txt K mg) {fd : FuncData} (F : FunD K "_law_is_name" "_law_is_name" (defArgs s_law_is_name) (defBody s_law_is_name) (defScope s_law_is_name) [] [] (He.ga K "_law_is_name") fd) : FnOk P w K mg base (L2.CX P w) 1 (He.ga K "_law_is_name") fd ["_law_word_here"] (spIsName) := by
  refine F.ok sc_law_is_name (fun vs H Q E h => ?_) (fun cdv A outer s H vs Q E hr h => ?_)
  · obtain ⟨x, rfl, hx, k⟩ := h
    rfl
  obtain ⟨x, rfl, hx, k⟩ := h
  refine ⟨_, PSs.nox (pss_cons (ps_setLc (i := 1) (own := [("_law_sign", 2)]) (g := gName 2) (by rfl) sc_law_is_name.nd rfl rfl (sw_true rfl rfl rfl (by decide +kernel)) (pi_str (pv 0)) (blkOk_by (own := [("_law_sign", 2)]) (N := N_law_is_name) (sc := defScope s_law_is_name) (by decide +kernel)) (fun _ _ _ _ _ => pg_name (i := 2) sc_law_is_name.nd rfl (Or.inl rfl)) (fun _ _ _ _ _ => pts_one (pt_cmpR op_in_sign (pv 2) (pe_str) (by rfl))) (fun _ _ _ _ _ => pv 2)) (pss_one (ps_ret (pe_and (pe_chain op_le op_le (pe_int) (pe_callB call_len_str (by rfl) T.f_len (by decide +kernel) (pa_cons (pv 0) pa_nil)) (pe_int)) (pe_one (pe_cmpR op_eq (pe_callB (Z.lenK (K := K) rfl) (by rfl) T.f_len (by decide +kernel) (pa_cons (pv 1) pa_nil)) (pe_callB call_len_str (by rfl) T.f_len (by decide +kernel) (pa_cons (pv 0) pa_nil)) (nomark _))))))), ?_⟩
  have e0 : x.length = x.cps.toList.length := rfl
  unfold nameB at k
  rw [← all_eq, ← e0] at k
  refine ⟨_, rfl, x, rfl, fun D hD => ?_⟩
  refine lc_it (walk_str (z := x)) (fun i H' => Same H H' ∧ H' D = some (.lst (((x.cps.toList.take i).filter isL).map fun c => V.str ⟨#[c]⟩))) ⟨same_new hD, upd_same⟩ (fun _ _ _ _ => trivial) ?_ ?_
  · rintro i v H1 H2 hi ⟨s1, hD1⟩ ⟨rfl, c, hc, rfl⟩
    have tk := take_next (show x.cps.toList[i]? = some c by rw [Array.getElem?_toList]; exact hc)
    refine ⟨rfl, ?_⟩
    refine ⟨_, rfl, c, LET, rfl, rfl, _, rfl, ?_⟩
    cases hb : isL c with
    | true =>
      rw [show decide (c ∈ LET.cps.toList) = true from hb]
      refine iteT ⟨_, rfl, _, hD1, ?_, fun b o e => ?_, ?_⟩
      · have := List.length_filter_le isL (x.cps.toList.take i)
        rw [List.length_take] at this
        rw [List.length_map, sizeLine_eq]
        omega
      · rw [upd_ne (ne_of_none e hD)]
        exact s1 _ _ e
      · rw [upd_same, tk, List.filter_append, List.map_append, List.filter_cons_of_pos hb]
        rfl
    | false =>
      rw [show decide (c ∈ LET.cps.toList) = false from hb]
      refine iteF ⟨s1, ?_⟩
      rw [hD1, tk, List.filter_append, List.filter_cons_of_neg (by rw [hb]; decide), List.filter_nil, List.append_nil]
  · rintro H1 ⟨s1, hD1⟩
    rw [show x.cps.size = x.cps.toList.length from rfl, List.take_length] at hD1
    refine ⟨_, rfl, x, rfl, len_small (by omega), _, _, rfl, rfl, _, rfl, ?_⟩
    cases b1 : decide ((1 : Int) ≤ (x.length : Int)) with
    | false =>
      rw [b1] at k
      exact iteF ⟨_, rfl, iteF (k _ s1)⟩
    | true =>
      rw [b1] at k
      refine iteT ⟨_, _, rfl, rfl, _, rfl, ?_⟩
      cases b2 : decide ((x.length : Int) ≤ 8) with
      | false =>
        rw [b2] at k
        exact iteF (k _ s1)
      | true =>
        rw [b2] at k
        refine iteT ⟨_, rfl, _, _, rfl, Or.inl ⟨_, SqL.of hD1, rfl⟩, _, rfl, x, rfl, len_small (by omega), rfl, ?_⟩
        rw [List.length_map]
        exact k _ s1
theorem ok_law_is_name {P : Program} {w : World} {K : PySem.W.Frag} {mg : Str → Option Value} {base : Heap} (T : Txt K mg) : FnR P w K mg base (L2.CX P w) 1 (He.ga K "_law_is_name") (spIsName) := by
  obtain ⟨fd, F⟩ := T.d_law_is_name
  exact Z.raw0 (okb_law_is_name T F) (F.bindsN fun _ _ _ _ _ _ us hl => match us, hl with | [_], _ => rfl)
/-! ### bools shown -/
def bD (bs : List Bool) : PyData := .list (bs.map .bool)
theorem bD_at {K : PySem.W.Frag} {H : Hp} {l : Addr} {bs : List Bool} (h : H l = some (.lst (bs.map V.bl))) : Dp K H (.ref l) (bD bs) := by
  refine .lst (SqL.of h) ?_
  clear h
  induction bs with
  | nil => exact .nil
  | cons b r ih => exact .cons (.bl b) ih
theorem bD_show (bs : List Bool) : (bD bs).showable = true := by
  unfold bD
  simp only [PyData.showable]
  induction bs with
  | nil => rfl
  | cons b r ih =>
    rw [List.map_cons]
    simp only [PyData.showableAll, PyData.showable, ih, Bool.and_self]
theorem bD_deep (bs : List Bool) : (bD bs).depth ≤ 60 := by
  have h : PyData.depthAll (bs.map .bool) ≤ 2 := by
    induction bs with
    | nil => simp [PyData.depthAll]
    | cons b r ih =>
      rw [List.map_cons]
      simp only [PyData.depthAll, PyData.depth]
      omega
  unfold bD
  simp only [PyData.depth]
  omega
theorem bD_len {bs : List Bool} (hl : bs.length ≤ 100) : (bD bs).shown.length ≤ sizeLine := by
  have e : (bD bs).shown = listText (PyData.shownAll (bs.map .bool)) := by
    unfold bD
    simp only [PyData.shown]
  have h2 : piled (PyData.shownAll (bs.map .bool)) ≤ 7 * bs.length := by
    clear hl e
    induction bs with
    | nil => simp [PyData.shownAll, piled_nil]
    | cons b r ih =>
      rw [List.map_cons]
      simp only [PyData.shownAll, piled_cons, List.length_cons]
      have t5 : ("True" : Str).length = 4 := by decide +kernel
      have f5 : ("False" : Str).length = 5 := by decide +kernel
      have hb : (PyData.shown (.bool b)).length ≤ 5 := by
        simp only [PyData.shown]
        cases b
        · rw [if_neg (by decide)]
          omega
        · rw [if_pos rfl]
          omega
      omega
  have h3 := Z.listText_le (PyData.shownAll (bs.map .bool))
  rw [e, sizeLine_eq]
  omega
/-! ### the things -/
theorem let_all : ∀ c ∈ LET.cps.toList, 97 ≤ c ∧ c ≤ 122 := by decide +kernel
theorem isL_of {c : Nat} (h : isL c = true) : 97 ≤ c ∧ c ≤ 122 := let_all c (of_decide_eq_true h)
theorem name_no {x : Str} (h : ∀ c ∈ x.cps.toList, ¬ (97 ≤ c ∧ c ≤ 122)) : nameB x = false := by
  unfold nameB
  have e0 : x.length = x.cps.toList.length := rfl
  rw [e0]
  cases e : x.cps.toList with
  | nil => rfl
  | cons c r =>
    have hc : isL c = false := by
      cases hb : isL c with
      | false => rfl
      | true => exact absurd (isL_of hb) (h c (by rw [e]; exact List.mem_cons_self ..))
    rw [List.all_cons, hc, Bool.false_and, Bool.and_false]
theorem itx_no (n : Int) : ∀ c ∈ (itx n).cps.toList, ¬ (97 ≤ c ∧ c ≤ 122) := fun c hc h => int_text_free' c ⟨by omega, by omega⟩ n hc
theorem name_itx (n : Int) : nameB (itx n) = false := name_no (itx_no n)
theorem name_rstr (q : Int × Int) : nameB (rstr q) = false := by
  unfold rstr
  split
  · exact name_itx _
  · refine name_no fun c hc h => ?_
    rw [Str.cps_append, Array.toList_append, Str.cps_append, Array.toList_append] at hc
    rcases List.mem_append.mp hc with z | z
    · rcases List.mem_append.mp z with z | z
      · exact itx_no _ c z h
      · have e : ("/" : Str).cps.toList = [47] := by decide +kernel
        rw [e] at z
        have := List.mem_singleton.mp z
        omega
    · exact itx_no _ c z h
theorem kty {K : PySem.W.Frag} {x y : String} (r : Bool) (h : kitB x y = some r) : PySem.W.kitOne K (.type x) (.type y) = some r := kit_ty h
section
variable {K : PySem.W.Frag} {mg : Str → Option Value} {H : Hp}
theorem th_int (T : Txt K mg) (n : Int) : Thing K H (.int n) true (decide (0 ≤ n)) true false :=
  ⟨_, true, false, false, false, .base (.int n), kty true (by decide +kernel), kty false (by decide +kernel), T.kb_int_Ratio, kty false (by decide +kernel), rfl, rfl, fun _ => ⟨n, rfl, rfl⟩, fun z => (by cases z), fun z => (by cases z), fun _ => rfl⟩
theorem th_str (T : Txt K mg) {x : Str} (h : x.length ≤ 100000) : Thing K H (.str x) false false false (nameB x) :=
  ⟨_, false, false, false, true, .base (.str x), kty false (by decide +kernel), kty false (by decide +kernel), T.kb_str_Ratio, kty true (by decide +kernel), rfl, rfl, fun z => (by cases z), fun _ => rfl, fun _ => ⟨x, rfl, h, rfl⟩, fun z => by cases z⟩
theorem th_no {v : V} {t : Value} {bi bb : Bool} (ty : TyX K H v t) (h1 : PySem.W.kitOne K t (.type "int") = some bi) (h2 : PySem.W.kitOne K t (.type "bool") = some bb) (hb : (bi && !bb) = false) (h3 : PySem.W.kitOne K t (.ref (RC K)) = some false) (h4 : PySem.W.kitOne K t (.type "str") = some false) :
    Thing K H v false false false false := ⟨t, bi, bb, false, false, ty, h1, h2, h3, h4, hb.symm, rfl, fun z => (by cases z), fun _ => rfl, fun z => (by cases z), fun _ => rfl⟩
theorem th_non (T : Txt K mg) : Thing K H .non false false false false := th_no (.base .non) (kty false (by decide +kernel)) (kty false (by decide +kernel)) rfl T.kb_NoneType_Ratio (kty false (by decide +kernel))
theorem th_bl (T : Txt K mg) (b : Bool) : Thing K H (.bl b) false false false false := th_no (.base (.bl b)) (kty true (by decide +kernel)) (kty true (by decide +kernel)) rfl T.kb_bool_Ratio (kty false (by decide +kernel))
theorem th_lst (T : Txt K mg) {l : Addr} {xs : List V} (h : H l = some (.lst xs)) : Thing K H (.ref l) false false false false := th_no (.base (.lst h)) (kty false (by decide +kernel)) (kty false (by decide +kernel)) rfl T.kb_list_Ratio (kty false (by decide +kernel))
theorem th_tup (T : Txt K mg) {l : Addr} {xs : List V} (h : H l = some (.tup xs)) : Thing K H (.ref l) false false false false := th_no (.base (.tup h)) (kty false (by decide +kernel)) (kty false (by decide +kernel)) rfl T.kb_tuple_Ratio (kty false (by decide +kernel))
theorem th_dK (T : Txt K mg) {l : Addr} {kvs : List (Key × V)} (h : H l = some (.dK kvs)) : Thing K H (.ref l) false false false false := th_no (.base (.dK h)) (kty false (by decide +kernel)) (kty false (by decide +kernel)) rfl T.kb_dict_Ratio (kty false (by decide +kernel))
theorem th_rat (T : Txt K mg) {v : V} {q : Int × Int} (h : RatV K H v q) : Thing K H v false false true false := by
  obtain ⟨⟨a, dx, rfl, ha⟩, _⟩ := h
  exact ⟨_, _, _, _, _, ty_rat T ha, T.kt_Ratio_int, T.kt_Ratio_bool, T.ki_Ratio_Ratio, T.kt_Ratio_str, rfl, rfl, fun z => (by cases z), fun _ => rfl, fun z => (by cases z), fun _ => rfl⟩
theorem th_tab (T : Txt K mg) {v : V} {qs : List (Int × Int)} (h : TabV K H v qs) : Thing K H v false false false false := by
  obtain ⟨a, dx, l, rs, rfl, ha, _⟩ := h
  exact th_no (.base (.ins ha T.cl_Table T.ca_Table T.oc T.ot T.cm_Table)) T.kt_Table_int T.kt_Table_bool rfl T.ki_Table_Ratio T.kt_Table_str
end
theorem sizes_mem {v : V} (h : v ∈ ([.int 1, .int 10, .int 100, .int (10 ^ Int.toNat 5), .int (10 ^ Int.toNat 12), .int (10 ^ Int.toNat 20), .int (10 ^ Int.toNat 29)] : List V)) : ∃ m : Int, v = .int m ∧ 0 < m ∧ m ≤ 10 ^ 29 := by
  simp only [List.mem_cons, List.mem_nil_iff, or_false] at h
  rcases h with h | h | h | h | h | h | h <;> exact ⟨_, h, by decide, by decide⟩
theorem three_mem {v : V} {m : Int} (m0 : 0 < m) (h : v ∈ ([.int 0, .int 0, .int m] : List V)) : ∃ j : Int, v = .int j ∧ 0 ≤ j ∧ j ≤ m := by
  simp only [List.mem_cons, List.mem_nil_iff, or_false] at h
  rcases h with h | h | h
  · exact ⟨_, h, by omega, by omega⟩
  · exact ⟨_, h, by omega, by omega⟩
  · exact ⟨_, h, by omega, by omega⟩
theorem pow_ok {i j : Int} (h1 : 0 ≤ j) (h2 : j ≤ 1000000) (h3 : i.natAbs < 2 ^ 64) : CPow i j := ⟨h1, h2, h3⟩
theorem p29 {n : Int} (h : n.natAbs ≤ 10 ^ 29) : n.natAbs < 2 ^ 100 := Nat.lt_of_le_of_lt h (by decide +kernel)
/-- a row of (thing, due) -/
def Due (K : PySem.W.Frag) (H : Hp) (x : V) : Prop := ∃ t th l a b c d, x = .ref t ∧ H t = some (.tup [th, .ref l]) ∧ Thing K H th a b c d ∧ H l = some (.lst (([a, b, c, d] : List Bool).map V.bl))
theorem Due.up {K : PySem.W.Frag} {H H' : Hp} {x : V} (h : Due K H x) (s : Same H H') : Due K H' x := by
  obtain ⟨t, th, l, a, b, c, d, e, h1, h2, h3⟩ := h
  exact ⟨t, th, l, a, b, c, d, e, s _ _ h1, h2.up s, s _ _ h3⟩
def spGoes : Sp := fun vs H Q _ => ∃ (p : Addr), vs = [.ref p] ∧ Pot H p ∧ ∀ H', Grow p H H' → Q (.bl true) H'
theorem ok_law_integer_right {P : Program} {w : World} {K : PySem.W.Frag} {mg : Str → Option Value} {base : Heap} (T : Txt K mg) : Z.FnG P w K mg base 5 (He.ga K "_law_integer_right") (spGoes) := by
  obtain ⟨fd, F⟩ := T.d_law_integer_right
  refine Z.fng F sc_law_integer_right (fun _ _ _ _ _ _ us hl => match us, hl with | [_], _ => rfl) (fun vs H Q E h => ?_) (fun cdv A outer s H vs Q E hr hg h => ?_)
  · obtain ⟨p, rfl, hp, k⟩ := h
    rfl
  obtain ⟨p, rfl, hp, k⟩ := h
  refine ⟨_, PSs.nox (pss_cons (ps_set (i := 1) sc_law_integer_right.nd rfl (Or.inl rfl) (Z.pe_cl (E := E0) (ok_law_pick T) (hr.mono (by decide)) T.g_law_pick T.k_law_pick passL (pa_cons (pv 0) (pa_cons (pe_lst (pa_cons (pe_int) (pa_cons (pe_int) (pa_cons (pe_int) (pa_cons (pe_op op_pow (pe_int) (pe_int)) (pa_cons (pe_op op_pow (pe_int) (pe_int)) (pa_cons (pe_op op_pow (pe_int) (pe_int)) (pa_cons (pe_op op_pow (pe_int) (pe_int)) pa_nil)))))))) pa_nil)))) (pss_cons (ps_set (i := 2) sc_law_integer_right.nd rfl (Or.inl rfl) (pe_op op_sub (Z.pe_cl (E := E0) (ok_law_draw T) (hr.mono (by decide)) T.g_law_draw T.k_law_draw passL (pa_cons (pv 0) (pa_cons (pe_op op_add (pv 1) (pe_int)) pa_nil))) (Z.pe_cl (E := E0) (ok_law_pick T) (hr.mono (by decide)) T.g_law_pick T.k_law_pick passL (pa_cons (pv 0) (pa_cons (pe_lst (pa_cons (pe_int) (pa_cons (pe_int) (pa_cons (pv 1) pa_nil)))) pa_nil))))) (pss_cons (ps_for PassesOwn.never rfl (Z.piListK (K := K) rfl (pe_lst (pa_cons (pe_tup (pa_cons (pv 2) (pa_cons (pe_lst (pa_cons (pe_bl) (pa_cons (pe_cmpR op_ge (pv 2) (pe_int) (nomark _)) (pa_cons (pe_bl) (pa_cons (pe_bl) pa_nil))))) pa_nil))) (pa_cons (pe_tup (pa_cons (pe_callTy call_str_int (by rfl) T.f_str (by decide +kernel) (pa_cons (pv 2) pa_nil)) (pa_cons (pe_op op_rep (pe_lst (pa_cons (pe_bl) pa_nil)) (pe_int)) pa_nil))) (pa_cons (pe_tup (pa_cons (pe_lst (pa_cons (pv 2) pa_nil)) (pa_cons (pe_op op_rep (pe_lst (pa_cons (pe_bl) pa_nil)) (pe_int)) pa_nil))) pa_nil))))) (Z.pgTupK (K := K) rfl rfl (pgs_cons (pg_name (i := 3) sc_law_integer_right.nd rfl (Or.inl rfl)) (pgs_cons (pg_name (i := 4) sc_law_integer_right.nd rfl (Or.inl rfl)) (pgs_nil)))) (pss_one (ps_if (pt_cmpR op_ne (pe_callB (Z.reprK (K := K) rfl hg hr.units) (by rfl) T.f_repr (by decide +kernel) (pa_cons (Z.pe_cl (E := E0) (ok_law_told T) (hr.mono (by decide)) T.g_law_told T.k_law_told passL (pa_cons (pv 3) pa_nil)) pa_nil)) (pe_callB (Z.reprK (K := K) rfl hg hr.units) (by rfl) T.f_repr (by decide +kernel) (pa_cons (pe_op op_rep (pv 4) (pe_int)) pa_nil)) (nomark _)) (pss_one (ps_ret (pe_bl))) (pss_nil)))) (pss_cons (ps_set (i := 2) sc_law_integer_right.nd rfl (Or.inl rfl) (pe_ifExp (pt_cmpR op_lt (pe_callB call_abs (by rfl) T.f_abs (by decide +kernel) (pa_cons (pv 2) pa_nil)) (pe_op op_pow (pe_int) (pe_int)) (nomark _)) (pv 2) (pe_op op_pow (pe_int) (pe_int)))) (pss_cons (ps_set (i := 5) sc_law_integer_right.nd rfl (Or.inl rfl) (StX.pe_makeR (E := E0) T.mk_Ratio (ok_Ratio_init2 T) (hr.mono (by decide)) rfl T.g_Ratio passL (pa_cons (pv 2) (pa_cons (pe_op op_add (pe_int) (Z.pe_cl (E := E0) (ok_law_draw T) (hr.mono (by decide)) T.g_law_draw T.k_law_draw passL (pa_cons (pv 0) (pa_cons (pe_int) pa_nil)))) pa_nil)))) (pss_cons (ps_if (pt_cmpR op_ne (pe_callB (Z.reprK (K := K) rfl hg hr.units) (by rfl) T.f_repr (by decide +kernel) (pa_cons (Z.pe_cl (E := E0) (ok_law_told T) (hr.mono (by decide)) T.g_law_told T.k_law_told passL (pa_cons (pv 5) pa_nil)) pa_nil)) (pe_callB (Z.reprK (K := K) rfl hg hr.units) (by rfl) T.f_repr (by decide +kernel) (pa_cons (pe_op op_rep (pe_lst (pa_cons (pe_bl) (pa_cons (pe_bl) (pa_cons (pe_bl) (pa_cons (pe_bl) pa_nil))))) (pe_int)) pa_nil)) (nomark _)) (pss_one (ps_ret (pe_bl))) (pss_nil)) (pss_one (ps_ret (pe_cmpR op_eq (pe_callB (Z.reprK (K := K) rfl hg hr.units) (by rfl) T.f_repr (by decide +kernel) (pa_cons (Z.pe_cl (E := E0) (ok_law_told T) (hr.mono (by decide)) T.g_law_told T.k_law_told passL (pa_cons (pe_callTy (Z.call_strO (E := E0) T.a_Ratio_str T.i_Ratio_str (ok_Ratio_str T) (hr.mono (by decide)) passL) (by rfl) T.f_str (by decide +kernel) (pa_cons (pv 5) pa_nil)) pa_nil)) pa_nil)) (pe_callB (Z.reprK (K := K) rfl hg hr.units) (by rfl) T.f_repr (by decide +kernel) (pa_cons (pe_op op_rep (pe_lst (pa_cons (pe_bl) pa_nil)) (pe_int)) pa_nil)) (nomark _)))))))))), ?_⟩
  refine ⟨_, rfl, _, _, rfl, rfl, pow_ok (by decide) (by decide) (by decide), _, _, rfl, rfl, pow_ok (by decide) (by decide) (by decide), _, _, rfl, rfl, pow_ok (by decide) (by decide) (by decide), _, _, rfl, rfl, pow_ok (by decide) (by decide) (by decide), (by show 7 ≤ sizeLine; decide), fun l hl => ?_⟩
  refine ⟨p, l, _, rfl, hp.up (same_new hl), upd_same, hp.fresh hl, by decide, by decide, fun v H1 g1 hv => ?_⟩
  obtain ⟨m, rfl, m0, m1⟩ := sizes_mem hv
  have g01 : Grow p H H1 := (sgrow (same_new hl) hp).trans g1
  have m1' : m.natAbs ≤ 10 ^ 29 := by omega
  refine ⟨_, rfl, _, rfl, _, _, rfl, rfl, p, _, rfl, g1.pot, by omega, Nat.lt_of_lt_of_le (Nat.lt_of_le_of_lt (show (m + 1).natAbs ≤ 10 ^ 29 + 1 by omega) (show 10 ^ 29 + 1 < 2 ^ 100 by decide +kernel)) (Nat.pow_le_pow_right (by decide) (by decide)), fun d H2 g2 d0 d1 => ?_⟩
  refine ⟨_, rfl, _, rfl, (by show 3 ≤ sizeLine; decide), fun l2 hl2 => ?_⟩
  refine ⟨p, l2, _, rfl, g2.pot.up (same_new hl2), upd_same, g2.pot.fresh hl2, by show 0 < 3; decide, by show 3 ≤ 1000; decide, fun v H3 g3 hv => ?_⟩
  obtain ⟨j, rfl, j0, j1⟩ := three_mem m0 hv
  have g03 : Grow p H H3 := g01.trans ((g2.same (same_new hl2)).trans g3)
  refine ⟨_, _, rfl, rfl, ?_⟩
  have zn : (d - j).natAbs ≤ 10 ^ 29 := by omega
  have n100 := p29 zn
  have n19 : (d - j).natAbs < 2 ^ 1900 := Nat.lt_of_lt_of_le n100 (Nat.pow_le_pow_right (by decide) (by decide))
  have f4 : (List.replicate (Int.toNat 4) [V.bl false]).flatten = ([false, false, false, false] : List Bool).map V.bl := rfl
  -- the three rows
  refine ⟨_, rfl, _, rfl, _, _, rfl, rfl, (by show 4 ≤ sizeLine; decide), fun a1 ha1 => ⟨(by show 2 ≤ sizeLine; decide), fun t1 ht1 => ?_⟩⟩
  refine ⟨_, rfl, _, rfl, log19 n19, (by show 1 ≤ sizeLine; decide), fun b2 hb2 => ⟨b2, 4, _, rfl, rfl, upd_same, by decide, by decide, (by show 4 ≤ sizeLine; decide), fun a2 ha2 => ⟨(by show 2 ≤ sizeLine; decide), fun t2 ht2 => ?_⟩⟩⟩
  refine ⟨_, rfl, (by show 1 ≤ sizeLine; decide), fun c3 hc3 => ⟨(by show 1 ≤ sizeLine; decide), fun b3 hb3 => ⟨b3, 4, _, rfl, rfl, upd_same, by decide, by decide, (by show 4 ≤ sizeLine; decide), fun a3 ha3 => ⟨(by show 2 ≤ sizeLine; decide), fun t3 ht3 => ?_⟩⟩⟩⟩
  refine ⟨(by show 3 ≤ sizeLine; decide), fun L hL => ?_⟩
  have S1 := same_new (o := HO.lst [.bl true, .bl (decide (0 ≤ d - j)), .bl true, .bl false]) ha1
  have S2 := same_new (o := HO.tup [V.int (d - j), .ref a1]) ht1
  have S3 := same_new (o := HO.lst [.bl false]) hb2
  have S4 := same_new (o := HO.lst (List.replicate (Int.toNat 4) [V.bl false]).flatten) ha2
  have S5 := same_new (o := HO.tup [.str (itx (d - j)), .ref a2]) ht2
  have S6 := same_new (o := HO.lst [V.int (d - j)]) hc3
  have S7 := same_new (o := HO.lst [.bl false]) hb3
  have S8 := same_new (o := HO.lst (List.replicate (Int.toNat 4) [V.bl false]).flatten) ha3
  have S9 := same_new (o := HO.tup [.ref c3, .ref a3]) ht3
  have SL := same_new (o := HO.lst [.ref t1, .ref t2, .ref t3]) hL
  have thS : ∀ H', Thing K H' (.str (itx (d - j))) false false false false := fun H' => by
    have z := th_str (K := K) (H := H') T (Nat.le_trans (itx_len n19) (by decide))
    rw [name_itx] at z
    exact z
  have r3 : Due K _ (.ref t3) := ⟨t3, .ref c3, a3, false, false, false, false, rfl, upd_same, th_lst T (S9 _ _ (S8 _ _ (S7 _ _ upd_same))), S9 _ _ upd_same⟩
  have r2 : Due K _ (.ref t2) := ⟨t2, .str (itx (d - j)), a2, false, false, false, false, rfl, upd_same, thS _, S5 _ _ upd_same⟩
  have r1 : Due K _ (.ref t1) := ⟨t1, V.int (d - j), a1, true, decide (0 ≤ d - j), true, false, rfl, upd_same, th_int T (d - j), S2 _ _ upd_same⟩
  have R3 := r3.up SL
  have R2 := r2.up ((S6.trans S7).trans ((S8.trans S9).trans SL))
  have R1 := r1.up (((S3.trans S4).trans S5).trans ((S6.trans S7).trans ((S8.trans S9).trans SL)))
  have S0 := (S1.trans S2).trans (((S3.trans S4).trans S5).trans ((S6.trans S7).trans ((S8.trans S9).trans SL)))
  have g04 := g03.same S0
  refine ⟨L, rfl, ⟨_, SqL.of upd_same⟩, for_list (K := K) (a := L) (xs := [.ref t1, .ref t2, .ref t3]) (fun i σ H' => ∃ z3 z4 z5, σ = [some (.ref p), some (.int m), some (.int (d - j)), z3, z4, z5] ∧ Grow p H H' ∧ H' L = some (.lst [.ref t1, .ref t2, .ref t3]) ∧ Due K H' (.ref t1) ∧ Due K H' (.ref t2) ∧ Due K H' (.ref t3)) ⟨_, _, _, rfl, g04, upd_same, R1, R2, R3⟩ (fun i σ H' _ ⟨_, _, _, _, _, z, _⟩ => SqL.of z) ?_ ?_⟩
  · rintro i x σ H4 hx ⟨z3, z4, z5, rfl, g4, hL4, D1, D2, D3⟩
    have dx : Due K H4 x := by
      have := List.mem_of_getElem? hx
      simp only [List.mem_cons, List.mem_nil_iff, or_false] at this
      rcases this with e | e | e
      · rw [e]; exact D1
      · rw [e]; exact D2
      · rw [e]; exact D3
    obtain ⟨t, th, l, a, b, c, d', rfl, ht, hth, hl4⟩ := dx
    refine ⟨t, _, rfl, SqT.of ht, rfl, _, _, rfl, _, _, rfl, rfl, ?_⟩
    refine ⟨_, rfl, th, a, b, c, d', rfl, hth, fun l5 H5 s5 e5 => ⟨l5, bD [a, b, c, d', a, b, c, d'], rfl, bD_at e5, bD_show _, bD_deep _, bD_len (by show 8 ≤ 100; decide), ?_⟩⟩
    refine ⟨_, rfl, l, 2, _, rfl, rfl, s5 _ _ hl4, by decide, by decide, (by show 8 ≤ sizeLine; decide), fun m5 hm5 => ?_⟩
    refine ⟨m5, bD [a, b, c, d', a, b, c, d'], rfl, bD_at upd_same, bD_show _, bD_deep _, bD_len (by show 8 ≤ 100; decide), rfl, _, rfl, ?_⟩
    rw [show decide (V.str (bD [a, b, c, d', a, b, c, d']).shown = V.str (bD [a, b, c, d', a, b, c, d']).shown) = true from decide_eq_true rfl]
    have s6 := s5.trans (same_new (o := HO.lst (List.replicate (Int.toNat 2) (([a, b, c, d'] : List Bool).map V.bl)).flatten) hm5)
    exact iteF ⟨_, _, _, rfl, g4.same s6, s6 _ _ hL4, D1.up s6, D2.up s6, D3.up s6⟩
  · rintro σ H4 ⟨z3, z4, z5, rfl, g4, _⟩
    refine ⟨_, rfl, _, rfl, _, _, rfl, rfl, pow_ok (by decide) (by decide) (by decide), _, _, rfl, rfl, _, rfl, ?_⟩
    by_cases c0 : (if d - j < 0 then -(d - j) else d - j) < 10 ^ Int.toNat 29
    case' pos =>
      rw [show decide ((if d - j < 0 then -(d - j) else d - j) < 10 ^ Int.toNat 29) = true from decide_eq_true c0]
      have zN := p29 zn
      refine iteT ⟨_, rfl, ?_⟩
    case' neg =>
      rw [show decide ((if d - j < 0 then -(d - j) else d - j) < 10 ^ Int.toNat 29) = false from decide_eq_false c0]
      have zN : ((10 : Int) ^ Int.toNat 29).natAbs < 2 ^ 100 := by decide +kernel
      refine iteF ⟨_, _, rfl, rfl, pow_ok (by decide) (by decide) (by decide), ?_⟩
    all_goals
      refine ⟨_, rfl, _, rfl, p, 5, rfl, g4.pot, by decide, draw_sz (by decide), fun e H5 g5 e0 e5 => ⟨_, _, rfl, rfl, ?_⟩⟩
      have ze : (1 + e).natAbs < 2 ^ 100 := Nat.lt_of_le_of_lt (show (1 + e).natAbs ≤ 5 by omega) (by decide +kernel)
      have ne1 : 1 + e ≠ 0 := by omega
      intro x dx hx hd ne
      refine ⟨x, dx, _, 1 + e, rfl, upd_same, ne1, Nat.lt_of_lt_of_le zN (Nat.pow_le_pow_right (by decide) (by decide)), Nat.lt_of_lt_of_le ze (Nat.pow_le_pow_right (by decide) (by decide)), fun H6 kp g6 => ⟨rfl, ?_⟩⟩
      obtain ⟨s6, h6⟩ := made_ok ne1 hx hd kp g6
      have z6 := (M.low_sz ne1 zN ze).mono (by decide : 100 ≤ 1900)
      refine ⟨_, rfl, _, false, false, true, false, rfl, th_rat T h6, fun l7 H7 s7 e7 => ⟨l7, bD [false, false, true, false, false, false, true, false], rfl, bD_at e7, bD_show _, bD_deep _, bD_len (by show 8 ≤ 100; decide), ?_⟩⟩
      refine ⟨(by show 4 ≤ sizeLine; decide), fun b8 hb8 => ⟨b8, 2, _, rfl, rfl, upd_same, by decide, by decide, (by show 8 ≤ sizeLine; decide), fun m8 hm8 => ?_⟩⟩
      refine ⟨m8, bD [false, false, true, false, false, false, true, false], rfl, bD_at upd_same, bD_show _, bD_deep _, bD_len (by show 8 ≤ 100; decide), rfl, _, rfl, ?_⟩
      rw [show decide (V.str (bD [false, false, true, false, false, false, true, false]).shown = V.str (bD [false, false, true, false, false, false, true, false]).shown) = true from decide_eq_true rfl]
      have s8 := (s7.trans (same_new (o := HO.lst [.bl false, .bl false, .bl true, .bl false]) hb8)).trans (same_new (o := HO.lst (List.replicate (Int.toNat 2) [V.bl false, V.bl false, V.bl true, V.bl false]).flatten) hm8)
      refine iteF ⟨_, rfl, x, dx, _, rfl, s8 _ _ g6, _, _, rfl, h6.up s8, z6, _, rfl, ?_⟩
      have thS : ∀ H' q, M.Sz 1900 q → Thing K H' (.str (rstr q)) false false false false := fun H' q zq => by
        have z := th_str (K := K) (H := H') T (x := rstr q) (by
          have l1 := itx_len zq.1
          have l2 := itx_len zq.2
          have c : ("/" : Str).length = 1 := by decide +kernel
          unfold rstr
          split
          · omega
          · rw [Str.length_append, Str.length_append]
            omega)
        rw [name_rstr] at z
        exact z
      refine ⟨_, false, false, false, false, rfl, thS _ _ z6, fun l9 H9 s9 e9 => ⟨l9, bD [false, false, false, false, false, false, false, false], rfl, bD_at e9, bD_show _, bD_deep _, bD_len (by show 8 ≤ 100; decide), ?_⟩⟩
      refine ⟨(by show 1 ≤ sizeLine; decide), fun b10 hb10 => ⟨b10, 8, _, rfl, rfl, upd_same, by decide, by decide, (by show 8 ≤ sizeLine; decide), fun m10 hm10 => ?_⟩⟩
      refine ⟨m10, bD [false, false, false, false, false, false, false, false], rfl, bD_at upd_same, bD_show _, bD_deep _, bD_len (by show 8 ≤ 100; decide), rfl, ?_⟩
      rw [show decide (V.str (bD [false, false, false, false, false, false, false, false]).shown = V.str (bD [false, false, false, false, false, false, false, false]).shown) = true from decide_eq_true rfl]
      exact k _ (((g4.trans g5).same (s6.trans s8)).same ((s9.trans (same_new hb10)).trans (same_new hm10)))
theorem sm3 {x : Int} (h : x.natAbs < 2 ^ 10) : x.natAbs < 2 ^ 3000 := Nat.lt_of_lt_of_le h (Nat.pow_le_pow_right (by decide) (by decide))
theorem tab1_ok : TabOk [(1, 1)] := ⟨by decide, by decide, fun i hi => by
  have : i = 0 := by
    simp only [List.length_cons, List.length_nil] at hi
    omega
  subst this
  decide, fun q hq => by
  rw [List.mem_singleton.mp hq]
  exact ⟨sm3 (by decide), sm3 (by decide)⟩⟩
theorem tab32_ok : TabOk [(3, 1), (2, 1)] := ⟨by decide, by decide, fun i hi => by
  have : i = 0 ∨ i = 1 := by
    simp only [List.length_cons, List.length_nil] at hi
    omega
  rcases this with e | e <;> subst e <;> decide, fun q hq => by
  simp only [List.mem_cons, List.mem_nil_iff, or_false] at hq
  rcases hq with e | e <;> subst e <;> exact ⟨sm3 (by decide), sm3 (by decide)⟩⟩
theorem same_over {H : Hp} {p : Addr} {o o' : HO} (h : H p = none) : Same H (upd (upd H p o) p o') := fun b u e => by
  have n := ne_of_none e h
  rw [upd_ne n, upd_ne n]
  exact e
theorem ok_law_odd_right {P : Program} {w : World} {K : PySem.W.Frag} {mg : Str → Option Value} {base : Heap} (T : Txt K mg) : Z.FnG P w K mg base 9 (He.ga K "_law_odd_right") (spGoes) := by
  obtain ⟨fd, F⟩ := T.d_law_odd_right
  refine Z.fng F sc_law_odd_right (fun _ _ _ _ _ _ us hl => match us, hl with | [_], _ => rfl) (fun vs H Q E h => ?_) (fun cdv A outer s H vs Q E hr hg h => ?_)
  · obtain ⟨p, rfl, hp, k⟩ := h
    rfl
  obtain ⟨p, rfl, hp, k⟩ := h
  refine ⟨_, PSs.nox (pss_cons (ps_set (i := 1) sc_law_odd_right.nd rfl (Or.inl rfl) (pe_lst (pa_cons (pe_non) (pa_cons (pe_bl) (pa_cons (pe_bl) (pa_cons (pe_tup (pa_nil)) (pa_cons (pe_lst (pa_nil)) (pa_cons (pe_dnewK) (pa_cons (pe_disp (pps_cons (pe_str) (pe_int) pps_nil) (by rfl) (by rfl) (fun z => by cases z) (by decide)) (pa_cons (pe_tup (pa_cons (pe_str) pa_nil)) (pa_cons (pe_lst (pa_cons (pe_str) pa_nil)) (pa_cons (pe_tup (pa_cons (pe_int) (pa_cons (pe_int) pa_nil))) (pa_cons (pe_lst (pa_cons (StX.pe_makeR (E := E0) T.mk_Ratio (ok_Ratio_init1 T) (hr.mono (by decide)) rfl T.g_Ratio passL (pa_cons (pe_int) pa_nil)) pa_nil)) (pa_cons (StX.pe_makeR (E := E0) T.mk_Table (ok_Table_init T) (hr.mono (by decide)) rfl T.g_Table passL (pa_cons (pe_int) pa_nil)) (pa_cons (StX.pe_makeR (E := E0) T.mk_Table (ok_Table_init T) (hr.mono (by decide)) rfl T.g_Table passL (pa_cons (pe_int) (pa_cons (pe_int) pa_nil))) pa_nil))))))))))))))) (pss_one (ps_ret (pe_callB (Z.allK (K := K) rfl rfl) (by rfl) T.f_all (by decide +kernel) (pa_cons (pe_lc (own := [("_law_thing", 2)]) (g := gName 2) (by rfl) sc_law_odd_right.nd (Z.piListK (K := K) rfl (pv 1)) (blkOk_by (own := [("_law_thing", 2)]) (N := N_law_odd_right) (sc := defScope s_law_odd_right) (by decide +kernel)) (fun _ _ _ _ _ => pg_name (i := 2) sc_law_odd_right.nd rfl (Or.inl rfl)) (fun _ _ _ _ _ => pts_nil) (fun _ _ _ _ _ => pe_cmpR op_eq (pe_callB (Z.reprK (K := K) rfl hg hr.units) (by rfl) T.f_repr (by decide +kernel) (pa_cons (Z.pe_cl (E := E0) (ok_law_told T) (hr.mono (by decide)) T.g_law_told T.k_law_told passL (pa_cons (pv 2) pa_nil)) pa_nil)) (pe_callB (Z.reprK (K := K) rfl hg hr.units) (by rfl) T.f_repr (by decide +kernel) (pa_cons (pe_op op_rep (pe_lst (pa_cons (pe_bl) pa_nil)) (pe_int)) pa_nil)) (nomark _))) pa_nil))))), ?_⟩
  refine ⟨(by show 0 ≤ sizeLine; decide), fun t1 ht1 => ⟨(by show 0 ≤ sizeLine; decide), fun l2 hl2 => ?_⟩⟩
  intro d3 hd3
  intro d4 hd4
  refine ⟨upd_same, [(.inr "a", .int 1)], rfl, by show 1 ≤ 15; decide, ?_⟩
  refine ⟨(by show 1 ≤ sizeLine; decide), fun t5 ht5 => ⟨(by show 1 ≤ sizeLine; decide), fun l6 hl6 => ⟨(by show 2 ≤ sizeLine; decide), fun t7 ht7 => ?_⟩⟩⟩
  intro x8 dx8 hx8 hd8 ne8
  refine ⟨x8, dx8, 1, 1, rfl, upd_same, by decide, Nat.one_lt_two_pow (by decide), Nat.one_lt_two_pow (by decide), fun H8 kp8 g8 => ⟨rfl, ?_⟩⟩
  obtain ⟨S8, h8⟩ := made_ok (by decide) hx8 hd8 kp8 g8
  refine ⟨(by show 1 ≤ sizeLine; decide), fun l9 hl9 => ?_⟩
  intro x10 dx10 hx10 hd10 ne10
  refine ⟨x10, dx10, [.int 1], [(1, 1)], rfl, upd_same, .cons (.inr ⟨1, rfl, rfl⟩) .nil, tab1_ok, fun m10 rs10 H10 kp10 e10 _ f10 w10 => ⟨rfl, ?_⟩⟩
  obtain ⟨S10, T10⟩ := tab_made (by decide) hx10 hd10 kp10 e10 f10 w10
  intro x11 dx11 hx11 hd11 ne11
  refine ⟨x11, dx11, [.int 3, .int 2], [(3, 1), (2, 1)], rfl, upd_same, .cons (.inr ⟨3, rfl, rfl⟩) (.cons (.inr ⟨2, rfl, rfl⟩) .nil), tab32_ok, fun m11 rs11 H11 kp11 e11 _ f11 w11 => ⟨rfl, ?_⟩⟩
  obtain ⟨S11, T11⟩ := tab_made (by decide) hx11 hd11 kp11 e11 f11 w11
  refine ⟨(by show 13 ≤ sizeLine; decide), fun L hL => ?_⟩
  have S1 := same_new (o := HO.tup []) ht1
  have S2 := same_new (o := HO.lst []) hl2
  have S3 := same_new (o := HO.dK []) hd3
  have S4 := same_over (o := HO.dK []) (o' := HO.dK (mergeK [] [(.inr "a", .int 1)])) hd4
  have S5 := same_new (o := HO.tup [.str "a"]) ht5
  have S6 := same_new (o := HO.lst [.str "a"]) hl6
  have S7 := same_new (o := HO.tup [.int 1, .int 2]) ht7
  have S9 := same_new (o := HO.lst [.ref x8]) hl9
  have SL := same_new (o := HO.lst [.non, .bl true, .bl false, .ref t1, .ref l2, .ref d3, .ref d4, .ref t5, .ref l6, .ref t7, .ref l9, .ref x10, .ref x11]) hL
  have U11 := SL
  have U10 := S11.trans U11
  have U9 := S10.trans U10
  have U7 := (S8.trans S9).trans U9
  have U6 := S7.trans U7
  have U5 := S6.trans U6
  have U4 := S5.trans U5
  have U3 := S4.trans U4
  have U2 := S3.trans U3
  have U1 := S2.trans U2
  have U0 := S1.trans U1
  have all13 : ∀ x ∈ ([.non, .bl true, .bl false, .ref t1, .ref l2, .ref d3, .ref d4, .ref t5, .ref l6, .ref t7, .ref l9, .ref x10, .ref x11] : List V), Thing K (upd H11 L (.lst [.non, .bl true, .bl false, .ref t1, .ref l2, .ref d3, .ref d4, .ref t5, .ref l6, .ref t7, .ref l9, .ref x10, .ref x11])) x false false false false := by
    have q1 := (th_tup T upd_same).up U1
    have q2 := (th_lst T upd_same).up U2
    have q3 := (th_dK T upd_same).up U3
    have q4 := (th_dK T upd_same).up U4
    have q5 := (th_tup T upd_same).up U5
    have q6 := (th_lst T upd_same).up U6
    have q7 := (th_tup T upd_same).up U7
    have q9 := (th_lst T upd_same).up U9
    have q10 := (th_tab T T10).up U10
    have q11 := (th_tab T T11).up U11
    intro x hx
    simp only [List.mem_cons, List.mem_nil_iff, or_false] at hx
    rcases hx with e | e | e | e | e | e | e | e | e | e | e | e | e <;> subst e
    · exact th_non T
    · exact th_bl T _
    · exact th_bl T _
    · exact q1
    · exact q2
    · exact q3
    · exact q4
    · exact q5
    · exact q6
    · exact q7
    · exact q9
    · exact q10
    · exact q11
  have hLL : upd H11 L (.lst [.non, .bl true, .bl false, .ref t1, .ref l2, .ref d3, .ref d4, .ref t5, .ref l6, .ref t7, .ref l9, .ref x10, .ref x11]) L = some (.lst [.non, .bl true, .bl false, .ref t1, .ref l2, .ref d3, .ref d4, .ref t5, .ref l6, .ref t7, .ref l9, .ref x10, .ref x11]) := upd_same
  have g0 := sgrow U0 hp
  clear U11 U10 U9 U7 U6 U5 U4 U3 U2 U1 U0 SL S1 S2 S3 S4 S5 S6 S7 S8 S9 S10 S11
  generalize hxs : ([.non, .bl true, .bl false, .ref t1, .ref l2, .ref d3, .ref d4, .ref t5, .ref l6, .ref t7, .ref l9, .ref x10, .ref x11] : List V) = xs at hLL all13 g0
  have l13 : xs.length = 13 := by rw [← hxs]; rfl
  refine ⟨_, rfl, L, rfl, ⟨_, SqL.of upd_same⟩, fun D hD => ?_⟩
  generalize upd H11 L (.lst xs) = HB at hD hLL all13 g0 ⊢
  refine lc_list (K := K) (a := L) (xs := xs) (fun i H' => Same HB H' ∧ H' D = some (.lst (List.replicate i (.bl true)))) ⟨same_new hD, upd_same⟩ (fun i H' _ z => SqL.of (z.1 _ _ hLL)) ?_ ?_
  · rintro i x H1 hx ⟨s1, hD1⟩
    refine ⟨rfl, ?_⟩
    refine ⟨_, rfl, _, false, false, false, false, rfl, (all13 x (List.mem_of_getElem? hx)).up s1, fun l2 H2 s2 e2 => ⟨l2, bD [false, false, false, false, false, false, false, false], rfl, bD_at e2, bD_show _, bD_deep _, bD_len (by show 8 ≤ 100; decide), ?_⟩⟩
    refine ⟨(by show 1 ≤ sizeLine; decide), fun b hb => ⟨b, 8, _, rfl, rfl, upd_same, by decide, by decide, (by show 8 ≤ sizeLine; decide), fun m hm => ?_⟩⟩
    refine ⟨m, bD [false, false, false, false, false, false, false, false], rfl, bD_at upd_same, bD_show _, bD_deep _, bD_len (by show 8 ≤ 100; decide), rfl, ?_⟩
    rw [show decide (V.str (bD [false, false, false, false, false, false, false, false]).shown = V.str (bD [false, false, false, false, false, false, false, false]).shown) = true from decide_eq_true rfl]
    have s3 := (s2.trans (same_new (o := HO.lst [.bl false]) hb)).trans (same_new (o := HO.lst (List.replicate (Int.toNat 8) [V.bl false]).flatten) hm)
    refine ⟨_, s3 _ _ hD1, ?_, fun c o e => ?_, ?_⟩
    · have := (List.getElem?_eq_some_iff.mp hx).1
      rw [List.length_replicate, sizeLine_eq]
      omega
    · rw [upd_ne (ne_of_none e hD)]
      exact s3 _ _ (s1 _ _ e)
    · rw [upd_same, ← List.replicate_succ']
  · rintro H1 ⟨s1, hD1⟩
    refine ⟨D, List.replicate xs.length true, rfl, SqL.of (by rw [List.map_replicate]; exact hD1), ?_⟩
    rw [show (List.replicate xs.length true).all id = true by simp]
    exact k _ (g0.same s1)
theorem ok_law_right {P : Program} {w : World} {K : PySem.W.Frag} {mg : Str → Option Value} {base : Heap} (T : Txt K mg) : Z.FnG P w K mg base 10 (He.ga K "_law_right") (spGoes) := by
  obtain ⟨fd, F⟩ := T.d_law_right
  refine Z.fng F sc_law_right (fun _ _ _ _ _ _ us hl => match us, hl with | [_], _ => rfl) (fun vs H Q E h => ?_) (fun cdv A outer s H vs Q E hr hg h => ?_)
  · obtain ⟨p, rfl, hp, k⟩ := h
    rfl
  obtain ⟨p, rfl, hp, k⟩ := h
  refine ⟨_, PSs.nox (pss_cons (ps_for PassesOwn.never rfl (pi_range1 (by rfl) T.f_range (pa_cons (pe_int) pa_nil)) (pg_name (i := 1) sc_law_right.nd rfl (Or.inl rfl)) (pss_cons (ps_set (i := 2) sc_law_right.nd rfl (Or.inl rfl) (Z.pe_cl (E := E0) (ok_law_bent T) (hr.mono (by decide)) T.g_law_bent T.k_law_bent passL (pa_cons (pv 0) (pa_cons (Z.pe_cl (E := E0) (ok_law_word T) (hr.mono (by decide)) T.g_law_word T.k_law_word passL (pa_cons (pv 0) pa_nil)) pa_nil)))) (pss_cons (ps_if (pt_cmpR op_ne (pe_callB (Z.reprK (K := K) rfl hg hr.units) (by rfl) T.f_repr (by decide +kernel) (pa_cons (Z.pe_cl (E := E0) (ok_law_told T) (hr.mono (by decide)) T.g_law_told T.k_law_told passL (pa_cons (pv 2) pa_nil)) pa_nil)) (pe_callB (Z.reprK (K := K) rfl hg hr.units) (by rfl) T.f_repr (by decide +kernel) (pa_cons (pe_op op_rep (pe_lst (pa_cons (pe_bl) (pa_cons (pe_bl) (pa_cons (pe_bl) (pa_cons (Z.pe_cl (E := E0) (ok_law_is_name T) (hr.mono (by decide)) T.g_law_is_name T.k_law_is_name passL (pa_cons (pv 2) pa_nil)) pa_nil))))) (pe_int)) pa_nil)) (nomark _)) (pss_one (ps_ret (pe_bl))) (pss_nil)) (pss_cons (ps_if (pt_not (pt_val (pe_callB (Z.allK (K := K) rfl rfl) (by rfl) T.f_all (by decide +kernel) (pa_cons (pe_lc (own := [("_law_some", 3)]) (g := gName 3) (by rfl) sc_law_right.nd (Z.piListK (K := K) rfl (pe_lst (pa_cons (pe_lst (pa_cons (pv 2) pa_nil)) (pa_cons (pe_tup (pa_cons (pv 2) pa_nil)) (pa_cons (pe_disp (pps_cons (pv 2) (pe_int) pps_nil) (by rfl) (by rfl) (fun z => by cases z) (by decide)) pa_nil))))) (blkOk_by (own := [("_law_some", 3)]) (N := N_law_right) (sc := defScope s_law_right) (by decide +kernel)) (fun _ _ _ _ _ => pg_name (i := 3) sc_law_right.nd rfl (Or.inl rfl)) (fun _ _ _ _ _ => pts_nil) (fun _ _ _ _ _ => pe_cmpR op_eq (pe_callB (Z.reprK (K := K) rfl hg hr.units) (by rfl) T.f_repr (by decide +kernel) (pa_cons (Z.pe_cl (E := E0) (ok_law_told T) (hr.mono (by decide)) T.g_law_told T.k_law_told passL (pa_cons (pv 3) pa_nil)) pa_nil)) (pe_callB (Z.reprK (K := K) rfl hg hr.units) (by rfl) T.f_repr (by decide +kernel) (pa_cons (pe_op op_rep (pe_lst (pa_cons (pe_bl) pa_nil)) (pe_int)) pa_nil)) (nomark _))) pa_nil)))) (pss_one (ps_ret (pe_bl))) (pss_nil)) (pss_one (ps_if (pt_not (pt_val (Z.pe_clG (E := E0) (ok_law_integer_right T) (hr.mono (by decide)) hg T.g_law_integer_right T.k_law_integer_right passL (pa_cons (pv 0) pa_nil)))) (pss_one (ps_ret (pe_bl))) (pss_nil))))))) (pss_one (ps_ret (Z.pe_clG (E := E0) (ok_law_odd_right T) (hr.mono (by decide)) hg T.g_law_odd_right T.k_law_odd_right passL (pa_cons (pv 0) pa_nil))))), ?_⟩
  refine ⟨12, rfl, by decide, by decide, for_range (fun i σ H' => ∃ z1 z2 z3, σ = [some (.ref p), z1, z2, z3] ∧ Grow p H H') ⟨_, _, _, rfl, Grow.refl hp⟩ ?_ ?_⟩
  · rintro i σ H1 hi ⟨z1, z2, z3, rfl, g1⟩
    refine ⟨_, rfl, _, rfl, p, rfl, g1.pot, fun x H2 g2 hx => ?_⟩
    refine ⟨p, x, rfl, g2.pot, hx, fun y H3 g3 hy => ?_⟩
    have g03 := (g1.trans g2).trans g3
    have thy : ∀ H', Thing K H' (.str y) false false false (nameB y) := fun H' => th_str T (Nat.le_trans hy (by decide))
    refine ⟨_, rfl, _, false, false, false, nameB y, rfl, thy _, fun l4 H4 s4 e4 => ⟨l4, bD [false, false, false, nameB y, false, false, false, nameB y], rfl, bD_at e4, bD_show _, bD_deep _, bD_len (by show 8 ≤ 100; decide), ?_⟩⟩
    refine ⟨_, rfl, y, rfl, hy, fun H5 s5 => ⟨(by show 4 ≤ sizeLine; decide), fun b hb => ⟨b, 2, _, rfl, rfl, upd_same, by decide, by decide, (by show 8 ≤ sizeLine; decide), fun m hm => ?_⟩⟩⟩
    refine ⟨m, bD [false, false, false, nameB y, false, false, false, nameB y], rfl, bD_at upd_same, bD_show _, bD_deep _, bD_len (by show 8 ≤ 100; decide), rfl, _, rfl, ?_⟩
    rw [show decide (V.str (bD [false, false, false, nameB y, false, false, false, nameB y]).shown = V.str (bD [false, false, false, nameB y, false, false, false, nameB y]).shown) = true from decide_eq_true rfl]
    have s6 := ((s4.trans s5).trans (same_new (o := HO.lst [.bl false, .bl false, .bl false, .bl (nameB y)]) hb)).trans (same_new (o := HO.lst (List.replicate (Int.toNat 2) [V.bl false, V.bl false, V.bl false, V.bl (nameB y)]).flatten) hm)
    have g06 := g03.same s6
    refine iteF ?_
    clear s6 e4
    generalize (upd (upd H5 b (HO.lst [V.bl false, V.bl false, V.bl false, V.bl (nameB y)])) m (HO.lst (List.replicate (Int.toNat 2) [V.bl false, V.bl false, V.bl false, V.bl (nameB y)]).flatten)) = H6 at g06 ⊢
    refine ⟨_, rfl, (by show 1 ≤ sizeLine; decide), fun l7 hl7 => ⟨_, rfl, (by show 1 ≤ sizeLine; decide), fun t8 ht8 => ?_⟩⟩
    intro d9 hd9
    refine ⟨_, rfl, upd_same, [(.inr y, .int 1)], rfl, by show 1 ≤ 15; decide, ?_⟩
    refine ⟨(by show 3 ≤ sizeLine; decide), fun L hL => ⟨L, rfl, ⟨_, SqL.of upd_same⟩, fun D hD => ?_⟩⟩
    have S7 := same_new (o := HO.lst [.str y]) hl7
    have S8 := same_new (o := HO.tup [.str y]) ht8
    have S9 := same_over (o := HO.dK []) (o' := HO.dK (mergeK [] [(.inr y, .int 1)])) hd9
    have SL := same_new (o := HO.lst [.ref l7, .ref t8, .ref d9]) hL
    have q7 := (th_lst T upd_same).up ((S8.trans S9).trans SL)
    have q8 := (th_tup T upd_same).up (S9.trans SL)
    have q9 := (th_dK T upd_same).up SL
    have S0 := (S7.trans S8).trans (S9.trans SL)
    have hLL := upd_same (H := upd (upd (upd (upd H6 l7 (HO.lst [.str y])) t8 (HO.tup [.str y])) d9 (HO.dK [])) d9 (HO.dK (mergeK [] [(.inr y, .int 1)]))) (a := L) (o := HO.lst [.ref l7, .ref t8, .ref d9])
    have all3 : ∀ x ∈ ([.ref l7, .ref t8, .ref d9] : List V), Thing K (upd (upd (upd (upd (upd H6 l7 (HO.lst [.str y])) t8 (HO.tup [.str y])) d9 (HO.dK [])) d9 (HO.dK (mergeK [] [(.inr y, .int 1)]))) L (HO.lst [.ref l7, .ref t8, .ref d9])) x false false false false := by
      intro x hx
      simp only [List.mem_cons, List.mem_nil_iff, or_false] at hx
      rcases hx with e | e | e <;> subst e
      · exact q7
      · exact q8
      · exact q9
    clear q7 q8 q9 S7 S8 S9 SL hL hd9 ht8 hl7
    generalize (upd (upd (upd (upd (upd H6 l7 (HO.lst [.str y])) t8 (HO.tup [.str y])) d9 (HO.dK [])) d9 (HO.dK (mergeK [] [(.inr y, .int 1)]))) L (HO.lst [.ref l7, .ref t8, .ref d9])) = HB at all3 hLL S0 hD ⊢
    refine lc_list (K := K) (a := L) (xs := [.ref l7, .ref t8, .ref d9]) (fun i H' => Same HB H' ∧ H' D = some (.lst (List.replicate i (.bl true)))) ⟨same_new hD, upd_same⟩ (fun i H' _ z => SqL.of (z.1 _ _ hLL)) ?_ ?_
    · rintro i x H1 hx ⟨s1, hD1⟩
      refine ⟨rfl, ?_⟩
      refine ⟨_, rfl, _, false, false, false, false, rfl, (all3 x (List.mem_of_getElem? hx)).up s1, fun l2 H2 s2 e2 => ⟨l2, bD [false, false, false, false, false, false, false, false], rfl, bD_at e2, bD_show _, bD_deep _, bD_len (by show 8 ≤ 100; decide), ?_⟩⟩
      refine ⟨(by show 1 ≤ sizeLine; decide), fun b hb => ⟨b, 8, _, rfl, rfl, upd_same, by decide, by decide, (by show 8 ≤ sizeLine; decide), fun m hm => ?_⟩⟩
      refine ⟨m, bD [false, false, false, false, false, false, false, false], rfl, bD_at upd_same, bD_show _, bD_deep _, bD_len (by show 8 ≤ 100; decide), rfl, ?_⟩
      rw [show decide (V.str (bD [false, false, false, false, false, false, false, false]).shown = V.str (bD [false, false, false, false, false, false, false, false]).shown) = true from decide_eq_true rfl]
      have s3 := (s2.trans (same_new (o := HO.lst [.bl false]) hb)).trans (same_new (o := HO.lst (List.replicate (Int.toNat 8) [V.bl false]).flatten) hm)
      refine ⟨_, s3 _ _ hD1, ?_, fun c o e => ?_, ?_⟩
      · have h3 := (List.getElem?_eq_some_iff.mp hx).1
        have h4 : ([.ref l7, .ref t8, .ref d9] : List V).length = 3 := rfl
        rw [List.length_replicate, sizeLine_eq]
        omega
      · rw [upd_ne (ne_of_none e hD)]
        exact s3 _ _ (s1 _ _ e)
      · rw [upd_same, ← List.replicate_succ']
    · rintro H7 ⟨s7, hD7⟩
      refine ⟨D, [true, true, true], rfl, SqL.of hD7, _, rfl, iteF ?_⟩
      have g7 := (g06.same S0).same s7
      exact ⟨_, rfl, p, rfl, g7.pot, fun H8 g8 => ⟨_, rfl, iteF ⟨_, _, _, rfl, g7.trans g8⟩⟩⟩
  · rintro σ H1 ⟨z1, z2, z3, rfl, g1⟩
    exact ⟨_, rfl, p, rfl, g1.pot, fun H2 g2 => k _ (g1.trans g2)⟩
def spLaw (K : PySem.W.Frag) : Sp := fun vs H Q _ => ∃ (a : Addr) (ns : List Int), vs = [.ref a] ∧ SqL K H a (ns.map V.int) ∧ ns.length ≤ 1000 ∧ ∀ H', Q (.bl true) H'
theorem sql_keep {K : PySem.W.Frag} {H H' : Hp} {a : Addr} {xs : List V} (h : SqL K H a xs) (e : ∀ b o, H b = some o → H' b = some o) : SqL K H' a xs :=
  h.elim (fun h => .inl (h.elim (fun h => .inl (e _ _ h)) fun ⟨o, h⟩ => .inr ⟨o, e _ _ h⟩)) fun h => .inr h
theorem ok_law {P : Program} {w : World} {K : PySem.W.Frag} {mg : Str → Option Value} {base : Heap} (T : Txt K mg) : Z.FnG P w K mg base 11 (He.ga K "law") ((spLaw K)) := by
  obtain ⟨fd, F⟩ := T.d_law
  refine Z.fng F sc_law (fun _ _ _ _ _ _ us hl => match us, hl with | [_], _ => rfl) (fun vs H Q E h => ?_) (fun cdv A outer s H vs Q E hr hg h => ?_)
  · obtain ⟨a, ns, rfl, hs, hl, k⟩ := h
    rfl
  obtain ⟨a, ns, rfl, hs, hl, k⟩ := h
  refine ⟨_, PSs.nox (pss_one (ps_ret (pe_callB (Z.allK (K := K) rfl rfl) (by rfl) T.f_all (by decide +kernel) (pa_cons (pe_lc (own := [("_law_k", 1)]) (g := gName 1) (by rfl) sc_law.nd (pi_range1 (by rfl) T.f_range (pa_cons (pe_callB (call_max2 rfl) (by rfl) T.f_max (by decide +kernel) (pa_cons (pe_int) (pa_cons (pe_callB (call_min2 rfl) (by rfl) T.f_min (by decide +kernel) (pa_cons (pe_callB (Z.lenK (K := K) rfl) (by rfl) T.f_len (by decide +kernel) (pa_cons (pv 0) pa_nil)) (pa_cons (pe_int) pa_nil))) pa_nil))) pa_nil)) (blkOk_by (own := [("_law_k", 1)]) (N := N_law) (sc := defScope s_law) (by decide +kernel)) (fun _ _ _ _ _ => pg_name (i := 1) sc_law.nd rfl (Or.inl rfl)) (fun _ _ _ _ _ => pts_nil) (fun _ _ _ _ _ => Z.pe_clG (E := E0) (ok_law_right T) (hr.mono (by decide)) hg T.g_law_right T.k_law_right passL (pa_cons (Z.pe_cl (E := E0) (ok_law_pot T) (hr.mono (by decide)) T.g_law_pot T.k_law_pot passL (pa_cons (pv 0) (pa_cons (pv 1) pa_nil))) pa_nil))) pa_nil)))), ?_⟩
  refine ⟨_, rfl, _, _, rfl, Or.inl ⟨_, hs, rfl⟩, _, _, rfl, _, _, rfl, _, rfl, ?_, ?_, fun D hD => ?_⟩
  · split <;> split <;> omega
  · split <;> split <;> omega
  have small : (if (if (5 : Int) < ((ns.map V.int).length : Int) then (5 : Int) else ((ns.map V.int).length : Int)) > 1 then (if (5 : Int) < ((ns.map V.int).length : Int) then (5 : Int) else ((ns.map V.int).length : Int)) else 1).toNat ≤ 5 := by
    split <;> split <;> omega
  generalize (if (if (5 : Int) < ((ns.map V.int).length : Int) then (5 : Int) else ((ns.map V.int).length : Int)) > 1 then (if (5 : Int) < ((ns.map V.int).length : Int) then (5 : Int) else ((ns.map V.int).length : Int)) else 1).toNat = m at small
  refine lc_range (fun i H' => Same H H' ∧ H' D = some (.lst (List.replicate i (.bl true)))) ⟨same_new hD, upd_same⟩ ?_ ?_
  · rintro i H1 hi ⟨s1, hD1⟩
    have hi3 : i < 5 := Nat.lt_of_lt_of_le hi small
    refine ⟨rfl, ?_⟩
    refine ⟨_, rfl, _, rfl, a, ns, i, by rw [Int.zero_add], sql_keep hs s1, by omega, fun p H2 hp s2 pot => ⟨p, rfl, pot, fun H3 g3 => ?_⟩⟩
    have dp : D ≠ p := ne_of_none hD1 hp
    refine ⟨_, g3.kp _ _ dp (s2 _ _ hD1), ?_, fun b o e => ?_, ?_⟩
    · rw [List.length_replicate, sizeLine_eq]
      omega
    · rw [upd_ne (ne_of_none e hD)]
      exact g3.kp _ _ (ne_of_none (s1 _ _ e) hp) (s2 _ _ (s1 _ _ e))
    · rw [upd_same, ← List.replicate_succ']
  · rintro H1 ⟨s1, hD1⟩
    refine ⟨D, List.replicate _ true, rfl, SqL.of (by rw [List.map_replicate]; exact hD1), ?_⟩
    rw [List.all_replicate, show (if m = 0 then true else id true) = true by split <;> rfl]
    exact k _


abbrev DA (at_ : PySem.W.Frag → Addr) (name qual : Str) (st : Stmt) (dfl : List He.Dv) : He5.DefA := ⟨at_, name, qual, defArgs st, defBody st, defScope st, dfl, []⟩
def dd_is_integer : He5.DefA := DA (fun K => He.ga K "is_integer") "is_integer" "is_integer" s_is_integer []
def dd_is_count : He5.DefA := DA (fun K => He.ga K "is_count") "is_count" "is_count" s_is_count []
def dd_is_number : He5.DefA := DA (fun K => He.ga K "is_number") "is_number" "is_number" s_is_number []
def dd_is_name : He5.DefA := DA (fun K => He.ga K "is_name") "is_name" "is_name" s_is_name []
def dd_want_number : He5.DefA := DA (fun K => He.ga K "want_number") "want_number" "want_number" s_want_number []
def dd_as_ratio : He5.DefA := DA (fun K => He.ga K "as_ratio") "as_ratio" "as_ratio" s_as_ratio []
def dd_common_divisor : He5.DefA := DA (fun K => He.ga K "common_divisor") "common_divisor" "common_divisor" s_common_divisor []
def dd_Ratio_init : He5.DefA := DA (fun K => He.ma K (He.ga K "Ratio") "__init__") "__init__" "Ratio.__init__" s_Ratio_init [.int 1]
def dd_Ratio_sign : He5.DefA := DA (fun K => He5.wf K (He.ga K "Ratio") "property" "sign") "sign" "Ratio.sign" s_Ratio_sign []
def dd_Ratio_is_below : He5.DefA := DA (fun K => He.ma K (He.ga K "Ratio") "is_below") "is_below" "Ratio.is_below" s_Ratio_is_below []
def dd_Ratio_str : He5.DefA := DA (fun K => He.ma K (He.ga K "Ratio") "__str__") "__str__" "Ratio.__str__" s_Ratio_str []
def dd_filled : He5.DefA := DA (fun K => He.ga K "filled") "filled" "filled" s_filled []
def dd_is_right_at : He5.DefA := DA (fun K => He.ga K "is_right_at") "is_right_at" "is_right_at" s_is_right_at []
def dd_want_few : He5.DefA := DA (fun K => He.ga K "want_few") "want_few" "want_few" s_want_few []
def dd_Table_init : He5.DefA := DA (fun K => He.ma K (He.ga K "Table") "__init__") "__init__" "Table.__init__" s_Table_init []
def dd_law_pot : He5.DefA := DA (fun K => He.ga K "_law_pot") "_law_pot" "_law_pot" s_law_pot []
def dd_law_draw : He5.DefA := DA (fun K => He.ga K "_law_draw") "_law_draw" "_law_draw" s_law_draw []
def dd_law_pick : He5.DefA := DA (fun K => He.ga K "_law_pick") "_law_pick" "_law_pick" s_law_pick []
def dd_law_word : He5.DefA := DA (fun K => He.ga K "_law_word") "_law_word" "_law_word" s_law_word []
def dd_law_bent : He5.DefA := DA (fun K => He.ga K "_law_bent") "_law_bent" "_law_bent" s_law_bent []
def dd_law_is_name : He5.DefA := DA (fun K => He.ga K "_law_is_name") "_law_is_name" "_law_is_name" s_law_is_name []
def dd_law_told : He5.DefA := DA (fun K => He.ga K "_law_told") "_law_told" "_law_told" s_law_told []
def dd_law_integer_right : He5.DefA := DA (fun K => He.ga K "_law_integer_right") "_law_integer_right" "_law_integer_right" s_law_integer_right []
def dd_law_odd_right : He5.DefA := DA (fun K => He.ga K "_law_odd_right") "_law_odd_right" "_law_odd_right" s_law_odd_right []
def dd_law_right : He5.DefA := DA (fun K => He.ga K "_law_right") "_law_right" "_law_right" s_law_right []
def dd_law : He5.DefA := DA (fun K => He.ga K "law") "law" "law" s_law []
def fns : List He5.DefA := [dd_is_integer, dd_is_count, dd_is_number, dd_is_name, dd_want_number, dd_as_ratio, dd_common_divisor, dd_Ratio_init, dd_Ratio_sign, dd_Ratio_is_below, dd_Ratio_str, dd_filled, dd_is_right_at, dd_want_few, dd_Table_init, dd_law_pot, dd_law_draw, dd_law_pick, dd_law_word, dd_law_bent, dd_law_is_name, dd_law_told, dd_law_integer_right, dd_law_odd_right, dd_law_right, dd_law]
def exs0 : List (PySem.W.Frag → Bool) := [(He.Fa.free "isinstance").ok, (He.Fa.free "int").ok, (He.Fa.free "bool").ok, (He.Fa.free "abs").ok, (He.Fa.free "str").ok, (He.Fa.free "len").ok, (He.Fa.free "max").ok, (He.Fa.free "min").ok, (He.Fa.free "range").ok, (He.Fa.free "divmod").ok, (He.Fa.free "repr").ok, (He.Fa.free "all").ok, (He.Fa.free "zip").ok, (He.Fa.str "LETTERS" "abcdefghijklmnopqrstuvwxyz").ok, (He.Fa.int "MOST_LETTERS" 8).ok, (He.Fa.int "MOST_PLACES" 5).ok, (He.Fa.glo "Ratio").ok, (He.Fa.cls "Ratio").ok, (He.Fa.mkr "Ratio").ok, (He.Fa.noat "Ratio" "own_top").ok, (He.Fa.noat "Ratio" "own_bottom").ok, (fun K => decide (PySem.W.findIn K (.ref (He.ga K "Ratio")) "__class__" = some (some (.builtin "object.__class__")))), (fun K => decide (PySem.W.mroIn K (He.ga K "Ratio") (.type "object") = some true)), (fun K => decide (PySem.W.kitOne K (.ref (He.ga K "Ratio")) (.ref (He.ga K "Ratio")) = some true)), (fun K => decide (PySem.W.kitOne K (.ref (He.ga K "Ratio")) (.ref (He.ga K "Table")) = some false)), (fun K => decide (PySem.W.kitOne K (.ref (He.ga K "Ratio")) (.type "int") = some false)), (fun K => decide (PySem.W.kitOne K (.ref (He.ga K "Ratio")) (.type "bool") = some false)), (fun K => decide (PySem.W.kitOne K (.ref (He.ga K "Ratio")) (.type "str") = some false)), (fun K => decide (PySem.W.kitOne K (.ref (He.ga K "Ratio")) (.type "list") = some false)), (fun K => decide (PySem.W.kitOne K (.ref (He.ga K "Ratio")) (.type "tuple") = some false))]
def exs1 : List (PySem.W.Frag → Bool) := [(fun K => decide (PySem.W.kitOne K (.ref (He.ga K "Ratio")) (.type "dict") = some false)), (fun K => decide (PySem.W.kitOne K (.type "int") (.ref (He.ga K "Ratio")) = some false)), (fun K => decide (PySem.W.kitOne K (.type "bool") (.ref (He.ga K "Ratio")) = some false)), (fun K => decide (PySem.W.kitOne K (.type "str") (.ref (He.ga K "Ratio")) = some false)), (fun K => decide (PySem.W.kitOne K (.type "list") (.ref (He.ga K "Ratio")) = some false)), (fun K => decide (PySem.W.kitOne K (.type "tuple") (.ref (He.ga K "Ratio")) = some false)), (fun K => decide (PySem.W.kitOne K (.type "dict") (.ref (He.ga K "Ratio")) = some false)), (fun K => decide (PySem.W.kitOne K (.type "NoneType") (.ref (He.ga K "Ratio")) = some false)), (He.Fa.glo "Table").ok, (He.Fa.cls "Table").ok, (He.Fa.mkr "Table").ok, (He.Fa.noat "Table" "own_points").ok, (fun K => decide (PySem.W.findIn K (.ref (He.ga K "Table")) "__class__" = some (some (.builtin "object.__class__")))), (fun K => decide (PySem.W.mroIn K (He.ga K "Table") (.type "object") = some true)), (fun K => decide (PySem.W.kitOne K (.ref (He.ga K "Table")) (.ref (He.ga K "Ratio")) = some false)), (fun K => decide (PySem.W.kitOne K (.ref (He.ga K "Table")) (.ref (He.ga K "Table")) = some true)), (fun K => decide (PySem.W.kitOne K (.ref (He.ga K "Table")) (.type "int") = some false)), (fun K => decide (PySem.W.kitOne K (.ref (He.ga K "Table")) (.type "bool") = some false)), (fun K => decide (PySem.W.kitOne K (.ref (He.ga K "Table")) (.type "str") = some false)), (fun K => decide (PySem.W.kitOne K (.ref (He.ga K "Table")) (.type "list") = some false)), (fun K => decide (PySem.W.kitOne K (.ref (He.ga K "Table")) (.type "tuple") = some false)), (fun K => decide (PySem.W.kitOne K (.ref (He.ga K "Table")) (.type "dict") = some false)), (fun K => decide (PySem.W.kitOne K (.type "int") (.ref (He.ga K "Table")) = some false)), (fun K => decide (PySem.W.kitOne K (.type "bool") (.ref (He.ga K "Table")) = some false)), (fun K => decide (PySem.W.kitOne K (.type "str") (.ref (He.ga K "Table")) = some false)), (fun K => decide (PySem.W.kitOne K (.type "list") (.ref (He.ga K "Table")) = some false)), (fun K => decide (PySem.W.kitOne K (.type "tuple") (.ref (He.ga K "Table")) = some false)), (fun K => decide (PySem.W.kitOne K (.type "dict") (.ref (He.ga K "Table")) = some false)), (fun K => decide (PySem.W.kitOne K (.type "NoneType") (.ref (He.ga K "Table")) = some false)), (fun K => decide (PySem.W.specialIn K (.builtin "object.__class__") "__get__" = some (some (.builtin "getset_descriptor.__get__"))))]
def exs2 : List (PySem.W.Frag → Bool) := [(fun K => decide (PySem.W.takesIn K (.builtin "object.__class__") = some true)), (He.Fa.glo "is_integer").ok, (He.Fa.keep "is_integer").ok, (He.Fa.glo "is_count").ok, (He.Fa.keep "is_count").ok, (He.Fa.glo "is_number").ok, (He.Fa.keep "is_number").ok, (He.Fa.glo "is_name").ok, (He.Fa.keep "is_name").ok, (He.Fa.glo "want_number").ok, (He.Fa.keep "want_number").ok, (He.Fa.glo "as_ratio").ok, (He.Fa.keep "as_ratio").ok, (He.Fa.glo "common_divisor").ok, (He.Fa.keep "common_divisor").ok, (He.Fa.meth "Ratio" "__init__").ok, (fun K => Z.propB K (He.ga K "Ratio") "sign"), (He.Fa.meth "Ratio" "is_below").ok, (He.Fa.meth "Ratio" "__str__").ok, (He.Fa.glo "filled").ok, (He.Fa.keep "filled").ok, (He.Fa.glo "is_right_at").ok, (He.Fa.keep "is_right_at").ok, (He.Fa.glo "want_few").ok, (He.Fa.keep "want_few").ok, (He.Fa.meth "Table" "__init__").ok, (He.Fa.glo "_law_pot").ok, (He.Fa.keep "_law_pot").ok, (He.Fa.glo "_law_draw").ok, (He.Fa.keep "_law_draw").ok]
def exs3 : List (PySem.W.Frag → Bool) := [(He.Fa.glo "_law_pick").ok, (He.Fa.keep "_law_pick").ok, (He.Fa.glo "_law_word").ok, (He.Fa.keep "_law_word").ok, (He.Fa.glo "_law_bent").ok, (He.Fa.keep "_law_bent").ok, (He.Fa.glo "_law_is_name").ok, (He.Fa.keep "_law_is_name").ok, (He.Fa.glo "_law_told").ok, (He.Fa.keep "_law_told").ok, (He.Fa.glo "_law_integer_right").ok, (He.Fa.keep "_law_integer_right").ok, (He.Fa.glo "_law_odd_right").ok, (He.Fa.keep "_law_odd_right").ok, (He.Fa.glo "_law_right").ok, (He.Fa.keep "_law_right").ok, (He.Fa.glo "law").ok, (He.Fa.keep "law").ok]
def exs : List (PySem.W.Frag → Bool) := exs0 ++ exs1 ++ exs2 ++ exs3
abbrev RR : PySem.W.OpenRow := PySem.W.OpenLaw.row PySem.Challenge.rw_anypoints_k13_what_numbers_and_names_are
abbrev hk : PySem.W.Hook := Z.hookZ 6 exs fns
def ob (s : PySem.W.SharedT) : He.AlD := Z.obsZG 6 exs fns (HandSHeadRun.getT s)
theorem ob_eq (s : PySem.W.SharedT) : ob s = hk.obs s.abs := Z.obsZG_eq (HandSHeadRun.getT_eq s)
def names0 : List Str := ["_wall", "PointsError", "InvalidNumber", "InvalidPoints", "InvalidPlace", "InvalidTable", "StateError", "DividedByZero", "LETTERS", "MOST_LETTERS", "is_integer", "is_count", "is_number", "is_name", "want_number", "as_ratio", "common_divisor", "Ratio", "MOST_PLACES", "want_table", "is_place", "filled", "is_right_at", "want_few", "Table", "_law_pot", "_law_draw", "_law_pick", "_law_word", "_law_bent"]
def names1 : List Str := ["_law_is_name", "_law_told", "_law_integer_right", "_law_odd_right", "_law_right"]
def names : List Str := names0 ++ names1
theorem run (w : World) : HandSHeadRun.RunEq RR (PySem.W.view RR.prog [39]) hk ob 6000 names w := by
  intro os
  kernel_rfl
theorem txt_of {K : PySem.W.Frag} {h : Heap} {mg : Str → Option Value} (X : K.In h) (G : h.Ns mainGlobals mg) (c : Z.SaysZ exs fns K) : Txt K mg where
  f_isinstance := He.free_ok X G (c.fact 0)
  f_int := He.free_ok X G (c.fact 1)
  f_bool := He.free_ok X G (c.fact 2)
  f_abs := He.free_ok X G (c.fact 3)
  f_str := He.free_ok X G (c.fact 4)
  f_len := He.free_ok X G (c.fact 5)
  f_max := He.free_ok X G (c.fact 6)
  f_min := He.free_ok X G (c.fact 7)
  f_range := He.free_ok X G (c.fact 8)
  f_divmod := He.free_ok X G (c.fact 9)
  f_repr := He.free_ok X G (c.fact 10)
  f_all := He.free_ok X G (c.fact 11)
  f_zip := He.free_ok X G (c.fact 12)
  g_LETTERS := He.str_ok X G (c.fact 13)
  g_MOST_LETTERS := He.int_ok X G (c.fact 14)
  g_MOST_PLACES := He.int_ok X G (c.fact 15)
  g_Ratio := He.glo_ok X G (c.fact 16)
  cl_Ratio := He.cls_ok (c.fact 17)
  mk_Ratio := He.mkr_ok (c.fact 18)
  n_Ratio_own_top := He.noat_ok (c.fact 19)
  n_Ratio_own_bottom := He.noat_ok (c.fact 20)
  ca_Ratio := of_decide_eq_true (c.fact 21)
  cm_Ratio := of_decide_eq_true (c.fact 22)
  ki_Ratio_Ratio := of_decide_eq_true (c.fact 23)
  ki_Ratio_Table := of_decide_eq_true (c.fact 24)
  kt_Ratio_int := of_decide_eq_true (c.fact 25)
  kt_Ratio_bool := of_decide_eq_true (c.fact 26)
  kt_Ratio_str := of_decide_eq_true (c.fact 27)
  kt_Ratio_list := of_decide_eq_true (c.fact 28)
  kt_Ratio_tuple := of_decide_eq_true (c.fact 29)
  kt_Ratio_dict := of_decide_eq_true (c.fact 30)
  kb_int_Ratio := of_decide_eq_true (c.fact 31)
  kb_bool_Ratio := of_decide_eq_true (c.fact 32)
  kb_str_Ratio := of_decide_eq_true (c.fact 33)
  kb_list_Ratio := of_decide_eq_true (c.fact 34)
  kb_tuple_Ratio := of_decide_eq_true (c.fact 35)
  kb_dict_Ratio := of_decide_eq_true (c.fact 36)
  kb_NoneType_Ratio := of_decide_eq_true (c.fact 37)
  g_Table := He.glo_ok X G (c.fact 38)
  cl_Table := He.cls_ok (c.fact 39)
  mk_Table := He.mkr_ok (c.fact 40)
  n_Table_own_points := He.noat_ok (c.fact 41)
  ca_Table := of_decide_eq_true (c.fact 42)
  cm_Table := of_decide_eq_true (c.fact 43)
  ki_Table_Ratio := of_decide_eq_true (c.fact 44)
  ki_Table_Table := of_decide_eq_true (c.fact 45)
  kt_Table_int := of_decide_eq_true (c.fact 46)
  kt_Table_bool := of_decide_eq_true (c.fact 47)
  kt_Table_str := of_decide_eq_true (c.fact 48)
  kt_Table_list := of_decide_eq_true (c.fact 49)
  kt_Table_tuple := of_decide_eq_true (c.fact 50)
  kt_Table_dict := of_decide_eq_true (c.fact 51)
  kb_int_Table := of_decide_eq_true (c.fact 52)
  kb_bool_Table := of_decide_eq_true (c.fact 53)
  kb_str_Table := of_decide_eq_true (c.fact 54)
  kb_list_Table := of_decide_eq_true (c.fact 55)
  kb_tuple_Table := of_decide_eq_true (c.fact 56)
  kb_dict_Table := of_decide_eq_true (c.fact 57)
  kb_NoneType_Table := of_decide_eq_true (c.fact 58)
  oc := of_decide_eq_true (c.fact 59)
  ot := of_decide_eq_true (c.fact 60)
  d_is_integer := c.def_ 0 (d := dd_is_integer) rfl
  g_is_integer := He.glo_ok X G (c.fact 61)
  k_is_integer := He.keep_ok (c.fact 62)
  d_is_count := c.def_ 1 (d := dd_is_count) rfl
  g_is_count := He.glo_ok X G (c.fact 63)
  k_is_count := He.keep_ok (c.fact 64)
  d_is_number := c.def_ 2 (d := dd_is_number) rfl
  g_is_number := He.glo_ok X G (c.fact 65)
  k_is_number := He.keep_ok (c.fact 66)
  d_is_name := c.def_ 3 (d := dd_is_name) rfl
  g_is_name := He.glo_ok X G (c.fact 67)
  k_is_name := He.keep_ok (c.fact 68)
  d_want_number := c.def_ 4 (d := dd_want_number) rfl
  g_want_number := He.glo_ok X G (c.fact 69)
  k_want_number := He.keep_ok (c.fact 70)
  d_as_ratio := c.def_ 5 (d := dd_as_ratio) rfl
  g_as_ratio := He.glo_ok X G (c.fact 71)
  k_as_ratio := He.keep_ok (c.fact 72)
  d_common_divisor := c.def_ 6 (d := dd_common_divisor) rfl
  g_common_divisor := He.glo_ok X G (c.fact 73)
  k_common_divisor := He.keep_ok (c.fact 74)
  d_Ratio_init := c.def_ 7 (d := dd_Ratio_init) rfl
  m_Ratio_init := He.meth_ok (c.fact 75)
  d_Ratio_sign := c.def_ 8 (d := dd_Ratio_sign) rfl
  p_Ratio_sign := Z.prop_ok (c.fact 76)
  d_Ratio_is_below := c.def_ 9 (d := dd_Ratio_is_below) rfl
  m_Ratio_is_below := He.meth_ok (c.fact 77)
  d_Ratio_str := c.def_ 10 (d := dd_Ratio_str) rfl
  m_Ratio_str := He.meth_ok (c.fact 78)
  a_Ratio_str := (He.meth_ok (c.fact 78)).at_
  i_Ratio_str := (He.meth_ok (c.fact 78)).fn
  d_filled := c.def_ 11 (d := dd_filled) rfl
  g_filled := He.glo_ok X G (c.fact 79)
  k_filled := He.keep_ok (c.fact 80)
  d_is_right_at := c.def_ 12 (d := dd_is_right_at) rfl
  g_is_right_at := He.glo_ok X G (c.fact 81)
  k_is_right_at := He.keep_ok (c.fact 82)
  d_want_few := c.def_ 13 (d := dd_want_few) rfl
  g_want_few := He.glo_ok X G (c.fact 83)
  k_want_few := He.keep_ok (c.fact 84)
  d_Table_init := c.def_ 14 (d := dd_Table_init) rfl
  m_Table_init := He.meth_ok (c.fact 85)
  d_law_pot := c.def_ 15 (d := dd_law_pot) rfl
  g_law_pot := He.glo_ok X G (c.fact 86)
  k_law_pot := He.keep_ok (c.fact 87)
  d_law_draw := c.def_ 16 (d := dd_law_draw) rfl
  g_law_draw := He.glo_ok X G (c.fact 88)
  k_law_draw := He.keep_ok (c.fact 89)
  d_law_pick := c.def_ 17 (d := dd_law_pick) rfl
  g_law_pick := He.glo_ok X G (c.fact 90)
  k_law_pick := He.keep_ok (c.fact 91)
  d_law_word := c.def_ 18 (d := dd_law_word) rfl
  g_law_word := He.glo_ok X G (c.fact 92)
  k_law_word := He.keep_ok (c.fact 93)
  d_law_bent := c.def_ 19 (d := dd_law_bent) rfl
  g_law_bent := He.glo_ok X G (c.fact 94)
  k_law_bent := He.keep_ok (c.fact 95)
  d_law_is_name := c.def_ 20 (d := dd_law_is_name) rfl
  g_law_is_name := He.glo_ok X G (c.fact 96)
  k_law_is_name := He.keep_ok (c.fact 97)
  d_law_told := c.def_ 21 (d := dd_law_told) rfl
  g_law_told := He.glo_ok X G (c.fact 98)
  k_law_told := He.keep_ok (c.fact 99)
  d_law_integer_right := c.def_ 22 (d := dd_law_integer_right) rfl
  g_law_integer_right := He.glo_ok X G (c.fact 100)
  k_law_integer_right := He.keep_ok (c.fact 101)
  d_law_odd_right := c.def_ 23 (d := dd_law_odd_right) rfl
  g_law_odd_right := He.glo_ok X G (c.fact 102)
  k_law_odd_right := He.keep_ok (c.fact 103)
  d_law_right := c.def_ 24 (d := dd_law_right) rfl
  g_law_right := He.glo_ok X G (c.fact 104)
  k_law_right := He.keep_ok (c.fact 105)
  d_law := c.def_ 25 (d := dd_law) rfl
  g_law := He.glo_ok X G (c.fact 106)
  k_law := He.keep_ok (c.fact 107)
theorem law_ok {P : Program} {w : World} {K : PySem.W.Frag} {h : Heap} {mg : Str → Option Value} {f : Addr} (X : K.In h) (G : h.Ns mainGlobals mg) (hfa : mg ("law" : Str) = some (.ref f)) (c : Z.SaysZ exs fns K) :
    ∀ base : Heap, K.In base → base.Ns mainGlobals mg → Z.FnG P w K mg base 11 f (spLaw K) := by
  have T := txt_of X G c
  have e := hfa.symm.trans T.g_law
  cases e
  exact fun base _ _ => ok_law T
end A57
open PySem PySem.W PySem.Calls PyProof.Rows
theorem PySem.Challenge.cw_anypoints_k13_what_numbers_and_names_are_holds : PySem.Challenge.rw_anypoints_k13_what_numbers_and_names_are.Holds := by
  w_on; o_law
  refine HandSHeadRun.head_any (r := A57.RR) (q := view A57.RR.prog [39]) (H := A57.hk) (ob := A57.ob) (M := 6000) (loose := A57.names) (d := HandSHeadRun.topDef A57.RR.prog 39) (kwd := []) A57.ob_eq
    (by kernel_rfl) (fun s => by kernel_rfl) A57.run (by kernel_rfl) (by kernel_rfl) (by kernel_rfl) (by rfl) (by first | assumption | decide +kernel) (by decide +kernel) ⟨rfl, rfl, rfl, rfl, rfl, by decide +kernel⟩ ?hw ?hc
  case hw => w_witness2
  case hc =>
    refine Z.walk_g (l := PySem.Challenge.rw_anypoints_k13_what_numbers_and_names_are) (n := 63) (k := 11) rfl (by decide) (by kernel_rfl) ⟨rfl, by decide, by decide⟩ ?F
    intro w mg fa h Y G hmg0
    obtain ⟨K, KX, c⟩ := Y
    have hmg : mg ("law" : PySem.Str) = some (.ref fa) := by
      have e : (HandSHeadRun.topDef A57.RR.prog 39).name = ("law" : PySem.Str) := by kernel_rfl
      rw [← e]
      exact hmg0
    exact ⟨K, A57.spLaw K, KX, fun H a ns hl hS => ⟨a, ns, rfl, hS, Nat.le_trans hl (by decide), fun _ => rfl⟩, A57.law_ok (P := (PySem.Challenge.rw_anypoints_k13_what_numbers_and_names_are).prog) (w := w) KX G hmg c⟩


