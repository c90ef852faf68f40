import PyProof.Rows.All
import Wide.All
import OpenK.AllK
import Wide.FinOn
import KE.KStateDown
import HandS.ForMost
import HandS.ForExc
import HandS.Defaults
import HandS.Star
import HandS.ClsMeth
import HandS.Property
import HandS.MakeKw
import HandS.MakeKwOnly
import HandS.IsInst
import HandS.FStr
import HandS.Wide
import HandS.WideBits
import HandS.Style
import HandS.Flow
import HandS.Zip
import HandS.CallLocal
import HandS.Head0
import HandS.Head1
import HandS.Head2
import HandS.HeadEnd
import HandS.HeadHook1
import HandS.HeadHook2
import HandS.HeadNt
import KE.KCallOwn
import HandS.SlotsOwn
import KE.KOpsOwn
import HandS.Walk
import PySem.Challenge.RW_anypoints_k11_whole_ratios_by_rows_of_de
set_option Elab.async false
set_option linter.all false
set_option maxRecDepth 100000
set_option maxHeartbeats 4000000
namespace Z
open PySem PySem.W PySem.Calls PyProof.Rows He
def obsZ (ex : List (Frag → Bool)) (fn : List He5.DefA) (K : Frag) : He.AlD := ((ex.all fun f => f K) && fn.all fun d => d.ok K, fn.map fun d => He5.fnA K (d.at_ K))
def SaysZ (ex : List (Frag → Bool)) (fn : List He5.DefA) (K : Frag) : Prop := obsZ ex fn K = He5.valA fn
def obsZG (n : Nat) (ex : List (Frag → Bool)) (fn : List He5.DefA) (g : Addr → Option Obj) : He.AlD := obsZ ex fn (frG g (He5.asA g n))
def hookZ (n : Nat) (ex : List (Frag → Bool)) (fn : List He5.DefA) : PySem.W.Hook where
  α := He.AlD
  obs := fun s => obsZG n ex fn s.heap.get?
  val := fun _ => He5.valA fn
  says := fun _ h => ∃ K : Frag, K.In h ∧ SaysZ ex fn K
  of := fun _ _ e => ⟨_, frG_in, e⟩
  keeps := fun _ _ _ ⟨K, hK, c⟩ k => ⟨K, Frag.In.keeps hK k, c⟩
theorem obsZG_eq {n : Nat} {ex : List (Frag → Bool)} {fn : List He5.DefA} {g : Addr → Option Obj} {s : Shared} (h : ∀ a, g a = s.heap.get? a) : obsZG n ex fn g = (hookZ n ex fn).obs s := by
  have e : g = s.heap.get? := funext h
  rw [e] <;> rfl
section
variable {ex : List (Frag → Bool)} {fn : List He5.DefA} {K : Frag}
theorem SaysZ.fact (c : SaysZ ex fn K) (i : Nat) {f : Frag → Bool} (h : ex[i]? = some f := by rfl) : f K = true := by
  have c1 := (ba (show ((ex.all fun f => f K) && fn.all fun d => d.ok K) = true from congrArg (fun z : He.AlD => z.1) c)).1
  exact List.all_eq_true.mp c1 f (List.mem_of_getElem? h)
theorem SaysZ.def_ (c : SaysZ ex fn K) (i : Nat) {d : He5.DefA} (h : fn[i]? = some d := by rfl) : ∃ fd, L2.FunD K d.name d.qual d.params d.body d.scope (d.dvs K) (d.kws K) (d.at_ K) fd := by
  have c2 := (ba (show ((ex.all fun f => f K) && fn.all fun d => d.ok K) = true from congrArg (fun z : He.AlD => z.1) c)).2
  have e : fn.map (fun d => He5.fnA K (d.at_ K)) = fn.map He5.DefA.val := congrArg (fun z : He.AlD => z.2) c
  have e2 : (fn.map fun d => He5.fnA K (d.at_ K))[i]? = (fn.map He5.DefA.val)[i]? := by rw [e]
  rw [List.getElem?_map, List.getElem?_map, h] at e2
  exact He5.DefA.funD (Option.some.inj e2) (List.all_eq_true.mp c2 d (List.mem_of_getElem? h))
end
end Z

namespace Z
open PySem PySem.Spec PyProof.Rows L2
/-! ### defs to promises -/
/-- a promise that wants to know that no list is being shown -/
def FnG (P : Program) (w : World) (K : PySem.W.Frag) (mg : Str → Option Value) (base : Heap) (k : Nat) (f : Addr) (sp : Sp) : Prop :=
  ∀ (A : Around), Room k A → A.guards = some [] → ∀ (outer : List Env) (s : Shared) (H : Hp) (us : List Value) (vs : List V) (Q : VK) (E : XK), Env0 P w K mg base A outer s H → Vals vs us → sp vs H Q E →
    codeAny (model P w) A (.call (.ref f) ⟨us, []⟩) (CR (L2.CX P w) outer P w H s Q E) s
section
variable {P : Program} {w : World} {K : PySem.W.Frag} {mg : Str → Option Value} {base : Heap} {x qual : Str} {st : Stmt} {kws : List (Str × V)} {f : Addr} {fd : FuncData} {N ps : List Str} {k : Nat} {sp : Sp}
abbrev BodyOf (P : Program) (w : World) (K : PySem.W.Frag) (mg : Str → Option Value) (base : Heap) (N : List Str) (qual : Str) (st : Stmt) (f : Addr) (k : Nat) (sp : Sp) : Prop :=
  ∀ (cdv : Value) (A : Around) (outer : List Env) (s : Shared) (H : Hp) (vs : List V) (Q : VK) (E : XK), Room k (A.deeper (envOfC qual (defScope st) s.heap.objs.size f cdv)) → sp vs H Q E →
      ∃ t, PSs (cxOf (L2.CX P w) P w K mg base N qual (defScope st) f cdv A outer s H E) (defBody st) t ∧ t { nx := fun _ H' => Q .non H', rt := Q } (start N vs) H
abbrev BindsAll (x qual : Str) (st : Stmt) (ps : List Str) : Prop :=
  ∀ (kV doc pm : Value) (an : Option Addr) (cdv ct : Value) (us : List Value), us.length = ps.length → bindArgs (PySem.W.fnOf x qual (defArgs st) (defBody st) (defScope st) .none kV doc pm an cdv ct) ⟨us, []⟩ = pure (ps.zip us)
theorem fnr (F : FunD K x qual (defArgs st) (defBody st) (defScope st) [] kws f fd) (S : FnScope N ps (defScope st)) (hb : BindsAll x qual st ps) (len : ∀ vs H Q E, sp vs H Q E → vs.length = ps.length)
    (hbody : BodyOf P w K mg base N qual st f k sp) : FnR P w K mg base (L2.CX P w) (k + 1) f sp := by
  have G := (F.ok (CX := L2.CX P w) (k := k) S len hbody).raw (F.bindsN hb) .nil
  refine G.imp fun vs H Q E h => ?_
  show sp (vs ++ []) H Q E
  rw [List.append_nil]
  exact h
theorem fng (F : FunD K x qual (defArgs st) (defBody st) (defScope st) [] kws f fd) (S : FnScope N ps (defScope st)) (hb : BindsAll x qual st ps) (len : ∀ vs H Q E, sp vs H Q E → vs.length = ps.length)
    (hbody : ∀ (cdv : Value) (A : Around) (outer : List Env) (s : Shared) (H : Hp) (vs : List V) (Q : VK) (E : XK), Room k (A.deeper (envOfC qual (defScope st) s.heap.objs.size f cdv)) → A.guards = some [] → sp vs H Q E →
      ∃ t, PSs (cxOf (L2.CX P w) P w K mg base N qual (defScope st) f cdv A outer s H E) (defBody st) t ∧ t { nx := fun _ H' => Q .non H', rt := Q } (start N vs) H) : FnG P w K mg base (k + 1) f sp := by
  intro A hr hg outer s H us vs Q E e0 r h
  obtain ⟨oc, od, dV, kV, doc, pm, an, cdv, ct, osl, efd, lk, hcd, hD, _⟩ := F.ex
  have eD : dV = .none := by
    rcases hD with z | z
    · exact z.2
    · exact absurd rfl z.1
  subst eD
  subst efd
  have hl : us.length = ps.length := r.length.symm.trans (len _ _ _ _ h)
  refine StX.run_bnd (G := fun ws H2 => ws = vs ∧ H2 = H) lk hcd S hr e0 (fun A' Ex Q' hq => ?_) fun s2 H2 ws g hr2 => ?_
  · rw [hb kV doc pm an cdv ct us hl]
    exact wpAny_pure (hq s H vs us e0 Un.refl rfl (fun _ _ z => z) r (len _ _ _ _ h) ⟨rfl, rfl⟩)
  · obtain ⟨rfl, rfl⟩ := g
    exact hbody cdv A outer s2 H2 ws Q E hr2 hg h
end
section
variable {P : Program} {w : World} {K : PySem.W.Frag} {mg : Str → Option Value} {base : Heap} {x qual : Str} {st : Stmt} {kws : List (Str × V)} {f : Addr} {fd : FuncData} {N ps : List Str} {pv : Str} {k : Nat} {spb : Sp}
/-- def f(a, .., *v) -/
theorem fnstar (F : FunD K x qual (defArgs st) (defBody st) (defScope st) [] kws f fd) (S : FnScope N (ps ++ [pv]) (defScope st))
    (hb : ∀ (kV doc pm : Value) (an : Option Addr) (cdv ct : Value) (us rest : List Value), us.length = ps.length → bindArgs (PySem.W.fnOf x qual (defArgs st) (defBody st) (defScope st) .none kV doc pm an cdv ct) ⟨us ++ rest, []⟩ = (newTuple rest >>= fun t => pure (ps.zip us ++ [(pv, t)])))
    (hbody : BodyOf P w K mg base N qual st f k spb) :
    FnR P w K mg base (L2.CX P w) (k + 1) f (fun vs H Q E => ∃ ws rest, vs = ws ++ rest ∧ ws.length = ps.length ∧ rest.length ≤ sizeLine ∧ ∀ p, H p = Option.none → spb (ws ++ [V.ref p]) (upd H p (.tup rest)) Q E) := by
  obtain ⟨oc, od, dV, kV, doc, pm, an, cdv, ct, osl, efd, lk, hcd, hD, _⟩ := F.ex
  have eD : dV = .none := by
    rcases hD with z | z
    · exact z.2
    · exact absurd rfl z.1
  subst eD
  subst efd
  exact StX.fn_star lk hcd S StX.cxUp (hb kV doc pm an cdv ct) (hbody cdv)
end
/-! ### calls of such -/
section
variable {X : Cx} {k : Nat} {f : Addr} {sp : Sp} {E : XK} {x : Str} {p pos : Pos} {e : Expr} {es : List Expr} {t : TA} {CX : CXT}
def tCl (sp : Sp) (E : XK) (t : TA) : TE := fun σ H Q => t σ H fun vs H1 => sp vs H1 Q E
theorem run_g {pins : List (Addr × Obj)} {σ : L2.St} {H : Hp} {s : Shared} {Q : VK} {us : List Value} {vs : List V} (F : FnG X.prog X.w X.K X.mg X.base k f sp) (hr : Room k X.A) (hg : X.A.guards = some []) (hx : Passes (L2.CX X.prog X.w) X E)
    (I : Inv X pins σ H s) (r : Vals vs us) (h : sp vs H Q E) : wpAny (model X.prog X.w) X.A (call (.ref f) us) (EP X pins σ Q) X.xe s := by
  refine wpAny_call (codeAny_mono (F X.A hr hg X.stack s H us vs Q E I.env0 r h) fun res s' hq => ?_)
  match res, hq with
  | .error er, hq => exact hx pins σ H s er s' I hq
  | .ok (.ret u), hq => exact I.after hq
/-- f(e, ..) by either promise -/
theorem pe_cl (F : FnR X.prog X.w X.K X.mg X.base CX k f sp) (hr : Room k X.A) (hm : X.mg x = some (.ref f)) (hk : PySem.W.keepIn X.K (.ref f) = true) (hx : Passes CX X E) (ha : PA X (e :: es) t) (hg : Gl X x := by rfl)
    (hdb : (x == ("__debug__" : Str)) = false := by decide) (he : starEach (e :: es) X.env = (false, eval e X.env) :: starEach es X.env := by rfl) (hpl : (backTo pos (starEach es X.env)).any (·.1) = false := by rfl) :
    PE X (.Call (.Name x p) (e :: es) [] pos) (tCl sp E t) := by
  constructor
  intro pins s σ H Q I h
  refine wpAny_Call_Name_kw (ld_glob I hg hm (PySem.W.callWith_K (h₀ := X.base) I.ok.mod.kin hk (thn (ha.run pos pins s σ H _ I h) fun us s1 z => ?_) he hpl) hdb)
  obtain ⟨vs, H1, I1, r, q⟩ := z
  exact ⟨I1.kIn, wpAny_call (run_fnR F hr hx I1 r q)⟩
theorem pe_clG (F : FnG X.prog X.w X.K X.mg X.base k f sp) (hr : Room k X.A) (hgd : X.A.guards = some []) (hm : X.mg x = some (.ref f)) (hk : PySem.W.keepIn X.K (.ref f) = true) (hx : Passes (L2.CX X.prog X.w) X E) (ha : PA X (e :: es) t) (hg : Gl X x := by rfl)
    (hdb : (x == ("__debug__" : Str)) = false := by decide) (he : starEach (e :: es) X.env = (false, eval e X.env) :: starEach es X.env := by rfl) (hpl : (backTo pos (starEach es X.env)).any (·.1) = false := by rfl) :
    PE X (.Call (.Name x p) (e :: es) [] pos) (tCl sp E t) := by
  constructor
  intro pins s σ H Q I h
  refine wpAny_Call_Name_kw (ld_glob I hg hm (PySem.W.callWith_K (h₀ := X.base) I.ok.mod.kin hk (thn (ha.run pos pins s σ H _ I h) fun us s1 z => ?_) he hpl) hdb)
  obtain ⟨vs, H1, I1, r, q⟩ := z
  exact ⟨I1.kIn, run_g F hr hgd hx I1 r q⟩
end
end Z

namespace Z
open PySem PySem.Spec PyProof.Rows L2
open PySem.W (Frag Looks findIn subIn isFn selfFirst InstAt)
/-! ### own operators -/
/-- the class at C has the operator's def at f -/
structure OpC (K : Frag) (C : Addr) (nm : String) (f : Addr) : Prop where
  sf : selfFirst K C = true
  at_ : findIn K (.ref C) (PySem.dunder nm) = some (some (.ref f))
  fn : isFn K (.ref f) = true
  rf : ∃ rc, findIn K (.ref C) (dunderR nm) = some rc ∧ (rc = none ∨ ∃ g : Addr, rc = some (.ref g))
/-- the class at C has the reflected def at f -/
structure OpR' (K : Frag) (C : Addr) (nm : String) (f : Addr) : Prop where
  sf : selfFirst K C = true
  own : ∃ g : Addr, findIn K (.ref C) (PySem.dunder nm) = some (some (.ref g))
  at_ : findIn K (.ref C) (dunderR nm) = some (some (.ref f))
  fn : isFn K (.ref f) = true
  nint : subIn K (.ref C) (.type "int") = some false
section
variable {X : Cx} {pins : List (Addr × Obj)} {σ : L2.St} {H : Hp} {s : Shared}
theorem inst_at {a C dx : Addr} {fs : List (Str × V)} (I : Inv X pins σ H s) (h : H a = some (.ins C dx fs)) : ∃ od, InstAt s.heap a (PySem.W.instObj C dx) C (some od) := by
  obtain ⟨mA, O, _⟩ := ins_get I.hok h
  obtain ⟨od, J, _⟩ := O.look
  exact ⟨od, J⟩
theorem looks_ref {M : Model} {h : Heap} {a : Addr} {o : Obj} (e : h.get? a = some o) : Looks M h (typeOf (.ref a)) o.cls := by
  intro A Q E t k q
  exact wpAny_typeOf_ref (k a o e) q
/-- a value's type -/
theorem looks_ty {M : Model} {x : V} {u t : Value} (I : Inv X pins σ H s) (rx : RelV x u) (ty : TyX X.K H x t) : Looks M s.heap (typeOf u) t := by
  cases ty with
  | base b =>
    cases b with
    | non => cases (show u = Value.none from rx); exact Looks.of_pure rfl
    | bl y => cases (show u = Value.bool y from rx); exact Looks.of_pure rfl
    | int i => obtain ⟨tk, e⟩ := (show ∃ t, u = Value.int i t from rx); subst e; exact Looks.of_pure rfl
    | str y => obtain ⟨tk, e⟩ := (show ∃ t, u = Value.str y t from rx); subst e; exact Looks.of_pure rfl
    | flt y => obtain ⟨tk, e⟩ := (show ∃ t, u = Value.float y t from rx); subst e; exact Looks.of_pure rfl
    | @lst a xs ea =>
      cases (show u = Value.ref a from rx)
      have z := I.hok a _ ea
      obtain ⟨_, _, n, _, h1⟩ := z
      exact looks_ref h1
    | @frz a ob xs ea =>
      cases (show u = Value.ref a from rx)
      have z := I.hok a _ ea
      obtain ⟨_, _, _, n, _, h1⟩ := z
      exact looks_ref h1
    | @tup a xs ea =>
      cases (show u = Value.ref a from rx)
      have z := I.hok a _ ea
      obtain ⟨_, _, _, o, h1, h2, _⟩ := z
      exact h2 ▸ looks_ref h1
    | @dK a kvs ea =>
      cases (show u = Value.ref a from rx)
      have z := I.hok a _ ea
      obtain ⟨_, _, vs, _, o, es, ep, h1, h2, _⟩ := z
      exact h2.1 ▸ looks_ref h1
    | @dT a kvs ea =>
      cases (show u = Value.ref a from rx)
      have z := I.hok a _ ea
      obtain ⟨_, _, vs, _, o, es, ep, h1, h2, _⟩ := z
      exact h2.1 ▸ looks_ref h1
    | @ins a C dx fs ea =>
      cases (show u = Value.ref a from rx)
      obtain ⟨od, J⟩ := inst_at I ea
      exact J.type
  | byt y => obtain ⟨tk, e⟩ := (show ∃ t, u = Value.bytes y t from rx); subst e; exact Looks.of_pure rfl
  | @set a S n ea =>
    cases (show u = Value.ref a from rx)
    have z := I.hok a _ ea
    obtain ⟨o, _, _, _, e, ex, _⟩ := z
    exact ex.1 ▸ looks_ref e
  | @kList a o e c => cases (show u = Value.ref a from rx); exact c ▸ looks_ref (I.kIn a o e)
  | @kTuple a o e c => cases (show u = Value.ref a from rx); exact c ▸ looks_ref (I.kIn a o e)
  | @kDict a o e c => cases (show u = Value.ref a from rx); exact c ▸ looks_ref (I.kIn a o e)
  | @fTuple a ob xs ea =>
    cases (show u = Value.ref a from rx)
    have z := I.hok a _ ea
    obtain ⟨_, _, _, _, o, h1, h2, _⟩ := z
    exact h2 ▸ looks_ref h1
  | @fDict a ob kvs ea =>
    cases (show u = Value.ref a from rx)
    have z := I.hok a _ ea
    obtain ⟨_, _, _, vs, _, o, es, ep, h1, h2, _⟩ := z
    exact h2.1 ▸ looks_ref h1
end
section
variable {prog : Program} {w : World} {A : Around} {E : Value → Shared → Prop} {s : Shared} {K : Frag} {x C f : Addr} {ox : Obj} {od : Option Obj}
/-- an instance on the left, anything of a built-in type on the right -/
theorem own_left {op : Operator} {b : Value} {T : String} {fo ro : Option Value} {Q : Value → Shared → Prop} (X : K.In s.heap) (I : InstAt s.heap x ox C od) (c : OpC K C op.info.2 f) (hb : Looks (model prog w) s.heap (typeOf b) (.type T))
    (h1 : findIn K (.type T) (PySem.dunder op.info.2) = some fo) (h2 : findIn K (.type T) (dunderR op.info.2) = some ro) (h3 : subIn K (.type T) (.ref C) = some false)
    (h : wpAny (model prog w) A (call (.ref f) [.ref x, b]) (PySem.W.CmpBack Q) E s) : wpAny (model prog w) A (binaryOp op (.ref x) b) Q E s := by
  obtain ⟨cd, rest, hcd, hm⟩ := PySem.W.ksp_first c.sf
  obtain ⟨rc, hr, hp⟩ := c.rf
  have hat := c.at_
  have hfn := c.fn
  generalize hi : op.info = pr at *
  obtain ⟨sym, nm⟩ := pr
  have go := PySem.W.ksp_try X I hat hfn h
  obtain ⟨hh, gs, dr, tk, os⟩ := s
  have L1 : Looks (model prog w) hh (typeOf (.ref x)) (.ref C) := I.type
  have L2 : Looks (model prog w) hh (typeOf b) (.type T) := hb
  have L3 : Looks (model prog w) hh (fillsNumberSlot (.ref C) nm) true := PySem.W.fills_K X hcd hm hat
  have L4 : Looks (model prog w) hh (fillsNumberSlot (.type T) nm) ((fo.isSome && !isSeqSlot fo) || (ro.isSome && !isSeqSlot ro)) := PySem.W.ksp_fillsT X h1 h2
  have L5 : Looks (model prog w) hh (isSubtype (.type T) (.ref C)) false := PySem.W.looks_subIn X h3
  have L6 : Looks (model prog w) hh (numberSlotInPython (.ref C) nm) true := PySem.W.ksp_inPy X hat hr hp
  have L7 : Looks (model prog w) hh (numberSlotInPython (.type T) nm) false := Looks.of_pure rfl
  have L8 : Looks (model prog w) hh (typeLookup (.type T) (dunderR nm)) ro := PySem.W.looks_findIn X h2
  have two : (Value.ref C == Value.type T) = false := by
    cases e : (Value.ref C == Value.type T) with
    | false => rfl
    | true => exact nomatch (beq_iff_eq.mp e)
  generalize ((fo.isSome && !isSeqSlot fo) || (ro.isSome && !isSeqSlot ro)) = rb at L4
  simp only [binaryOp, hi]
  refine wpAny_holding (wpAny_bind ?_)
  unfold binaryOp1
  refine wpAny_bind (L1.at (wpAny_bind (L2.at (wpAny_bind (L3.at ?_)))))
  simp only [two, Bool.false_eq_true, if_false]
  cases rb
  all_goals
    ksp_lk
    refine wpAny_mono go (fun r s' z => ?_) fun _ _ z => z
    obtain ⟨v, er, q⟩ := z
    subst er
    ksp_lk
    exact q
theorem fills_R {M : Model} {h : Heap} {nm : String} {cd : ClassData} {rest : List Value} {g : Addr} (X : K.In h) (hc : PySem.W.clsIn K C = some cd) (hm : cd.mro = .ref C :: rest) (hs : findIn K (.ref C) (PySem.dunder nm) = some (some (.ref g))) : Looks M h (fillsNumberSlot (.ref C) nm) true := PySem.W.fills_K X hc hm hs
/-- int's own slot declines an instance -/
theorem int_declines {g : Int → Int → Sem PySem.Fin} {nm : String} {i : Int} {t : Tok} {Q : PySem.Fin → Shared → Prop} {o : Obj} (ho : s.heap.get? x = some o) (hd : o.data = .plain)
    (h : Q (.done (.ret .notImplemented)) s) : wpAny (model prog w) A (Builtin.Int.intBinary nm g false ⟨[.int i t, .ref x], []⟩) Q E s := by
  show wpAny _ _ (do
    let some y ← asInt? (.ref x) | rule "int.binary.not-an-int"; ret .notImplemented
    if false then g y i else g i y) _ _ _
  refine wpAny_bind ?_
  unfold asInt?
  refine wpAny_bind (wpAny_load ho ?_)
  simp only [hd]
  refine wpAny_pure ?_
  exact wpAny_bind (wpAny_rule (wpAny_pure h))
/-- what of the int's slot is asked -/
structure IntSlot (nm : String) (idl : String) : Prop where
  sl : Slot "int" (PySem.dunder nm) idl
  ent : ∃ (b : String) (g : Int → Int → Sem PySem.Fin), entryFor table idl = some (Builtin.Int.intBinary b g false)
  arg : ∀ a b, argsOk idl ⟨[a, b], []⟩
  fl : fillsNumberSlot (.type "int") nm = pure true
theorem is_add : IntSlot "add" "int.__add__" := ⟨PySem.F.slot_int_add, ⟨_, _, PySem.F.entry_int_add⟩, PySem.F.args_int_add_2, PySem.F.fills_int_add⟩
theorem is_sub : IntSlot "sub" "int.__sub__" := ⟨PySem.F.slot_int_sub, ⟨_, _, PySem.F.entry_int_sub⟩, PySem.F.args_int_sub_2, PySem.F.fills_int_sub⟩
theorem is_mul : IntSlot "mul" "int.__mul__" := ⟨PySem.F.slot_int_mul, ⟨_, _, PySem.F.entry_int_mul⟩, PySem.F.args_int_mul_2, PySem.F.fills_int_mul⟩
/-- an int on the left, an instance on the right -/
theorem own_right {op : Operator} {i : Int} {t : Tok} {idl : String} {Q : Value → Shared → Prop} (X : K.In s.heap) (I : InstAt s.heap x ox C od) (hpl : ox.data = .plain) (c : OpR' K C op.info.2 f) (sl : IntSlot op.info.2 idl)
    (h : wpAny (model prog w) A (call (.ref f) [.ref x, .int i t]) (PySem.W.CmpBack Q) E s) : wpAny (model prog w) A (binaryOp op (.int i t) (.ref x)) Q E s := by
  obtain ⟨cd, rest, hcd, hm⟩ := PySem.W.ksp_first c.sf
  obtain ⟨g, hg⟩ := c.own
  obtain ⟨bn, bf, hent⟩ := sl.ent
  have hat := c.at_
  have hfn := c.fn
  have hsl := sl.sl
  have hfl := sl.fl
  have hni := c.nint
  generalize hi : op.info = pr at *
  obtain ⟨sym, nm⟩ := pr
  have go := PySem.W.ksp_try X I hat hfn h
  have dec : wpAny (model prog w) A (tryMethod (.int i t) (PySem.dunder nm) (.ref x)) (fun r s' => r = none ∧ s' = s) E s :=
    wpAny_tryMethod_declines (typeIs_int s i t) hsl (wpAny_call_entry hsl (typeIs_int s i t) hent (int_declines I.at_ hpl ⟨_, rfl, rfl, rfl, rfl⟩) (sl.arg _ _))
  obtain ⟨hh, gs, dr, tk, os⟩ := s
  have L1 : Looks (model prog w) hh (typeOf (.int i t)) (.type "int") := Looks.of_pure rfl
  have L2 : Looks (model prog w) hh (typeOf (.ref x)) (.ref C) := I.type
  have L3 : Looks (model prog w) hh (fillsNumberSlot (.type "int") nm) true := Looks.of_pure hfl
  have L4 : Looks (model prog w) hh (fillsNumberSlot (.ref C) nm) true := PySem.W.fills_K X hcd hm hg
  have L5 : Looks (model prog w) hh (isSubtype (.ref C) (.type "int")) false := PySem.W.looks_subIn X hni
  have L6 : Looks (model prog w) hh (numberSlotInPython (.type "int") nm) false := Looks.of_pure rfl
  have two : (Value.type "int" == Value.ref C) = false := by
    cases e : (Value.type "int" == Value.ref C) with
    | false => rfl
    | true => exact nomatch (beq_iff_eq.mp e)
  simp only [binaryOp, hi]
  refine wpAny_holding (wpAny_bind ?_)
  unfold binaryOp1
  refine wpAny_bind (L1.at (wpAny_bind (L2.at (wpAny_bind (L3.at ?_)))))
  simp only [two, Bool.false_eq_true, if_false]
  ksp_lk
  refine wpAny_mono dec (fun r s' z => ?_) fun _ _ z => z
  obtain ⟨er, es⟩ := z
  subst er
  subst es
  ksp_lk
  refine wpAny_mono go (fun r s' z => ?_) fun _ _ z => z
  obtain ⟨v, er, q⟩ := z
  subst er
  ksp_lk
  exact q
end
/-! ### the same over the layer -/
section
variable {X : Cx} {k : Nat} {f C : Addr} {sp : Sp} {E : XK} {op : Operator} {CX : CXT}
/-- what may stand on the right -/
def RightOk (K : Frag) (C : Addr) (nm : String) (H : Hp) (y : V) : Prop :=
  (∃ b dy gs, y = .ref b ∧ H b = some (.ins C dy gs)) ∨ ∃ (T : String) (fo ro : Option Value), TyX K H y (.type T) ∧ findIn K (.type T) (PySem.dunder nm) = some fo ∧ findIn K (.type T) (dunderR nm) = some ro ∧ subIn K (.type T) (.ref C) = some false
def rOwnL (K : Frag) (C : Addr) (nm : String) (sp : Sp) (E : XK) : R2 := fun x y H Q => ∃ a dx fs, x = .ref a ∧ H a = some (.ins C dx fs) ∧ RightOk K C nm H y ∧ sp [x, y] H Q E
theorem op_ownL (c : OpC X.K C op.info.2 f) (F : FnR X.prog X.w X.K X.mg X.base CX k f sp) (hr : Room k X.A) (hx : Passes CX X E) : OpR X (binaryOp op) (rOwnL X.K C op.info.2 sp E) := by
  intro pins s σ H x y v u Q I rx ry h
  obtain ⟨a, dx, fs, rfl, ha, ry2, q⟩ := h
  cases (show v = Value.ref a from rx)
  obtain ⟨od, J⟩ := inst_at I ha
  have go : wpAny (model X.prog X.w) X.A (call (.ref f) [.ref a, u]) (PySem.W.CmpBack (EP X pins σ Q)) X.xe s :=
    wpAny_mono (wpAny_call (run_fnR (us := [.ref a, u]) (vs := [.ref a, y]) F hr hx I (.cons rfl (.cons ry .nil)) q)) (fun z s' hz => by
      have hz2 := hz
      obtain ⟨zv, H', I', rz, qz⟩ := hz2
      exact SlX.cmpback rz hz) fun _ _ z => z
  rcases ry2 with ⟨b, dy, gs, rfl, hb⟩ | ⟨T, fo, ro, ty, h1, h2, h3⟩
  · cases (show u = Value.ref b from ry)
    obtain ⟨od2, J2⟩ := inst_at I hb
    obtain ⟨m, hF⟩ := I.fr
    exact PySem.W.binop_K hF I.ok.mod.kin J J2.type c.sf c.at_ c.fn go
  · exact own_left I.kIn J c (looks_ty I ry ty) h1 h2 h3 go
def rOwnR (C : Addr) (sp : Sp) (E : XK) : R2 := fun x y H Q => ∃ i b dx fs, x = .int i ∧ y = .ref b ∧ H b = some (.ins C dx fs) ∧ sp [y, x] H Q E
theorem op_ownR {idl : String} (c : OpR' X.K C op.info.2 f) (sl : IntSlot op.info.2 idl) (F : FnR X.prog X.w X.K X.mg X.base CX k f sp) (hr : Room k X.A) (hx : Passes CX X E) : OpR X (binaryOp op) (rOwnR C sp E) := by
  intro pins s σ H x y v u Q I rx ry h
  obtain ⟨i, b, dx, fs, rfl, rfl, hb, q⟩ := h
  cases (show u = Value.ref b from ry)
  have rx2 := rx
  obtain ⟨t, rfl⟩ := rx2
  obtain ⟨od, J⟩ := inst_at I hb
  refine own_right I.kIn J rfl c sl (wpAny_mono (wpAny_call (run_fnR (us := [.ref b, .int i t]) (vs := [.ref b, .int i]) F hr hx I (.cons rfl (.cons rx .nil)) q)) (fun z s' hz => ?_) fun _ _ z => z)
  have hz2 := hz
  obtain ⟨zv, H', I', rz, qz⟩ := hz2
  exact SlX.cmpback rz hz
/-- - in front -/
def rNeg (C : Addr) (sp : Sp) (E : XK) : V → Hp → VK → Prop := fun x H Q => ∃ a dx fs, x = .ref a ∧ H a = some (.ins C dx fs) ∧ sp [x] H Q E
theorem un_own (h1 : findIn X.K (.ref C) "__neg__" = some (some (.ref f))) (h2 : isFn X.K (.ref f) = true) (F : FnR X.prog X.w X.K X.mg X.base CX k f sp) (hr : Room k X.A) (hx : Passes CX X E) : UnR X (unaryOp .USub) (rNeg C sp E) := by
  intro pins s σ H x v Q I rx h
  obtain ⟨a, dx, fs, rfl, ha, q⟩ := h
  cases (show v = Value.ref a from rx)
  obtain ⟨od, J⟩ := inst_at I ha
  obtain ⟨m, hF⟩ := I.fr
  exact PySem.W.ksp_neg hF I.ok.mod.kin J h1 h2 (wpAny_call (run_fnR (us := [.ref a]) (vs := [.ref a]) F hr hx I (.cons rfl .nil) q))
end
end Z

namespace Z
open PySem PySem.Spec PyProof.Rows L2
open PySem.W (Frag Looks findIn subIn isFn selfFirst InstAt)
/-! ### a property's record -/
def propB (K : Frag) (C : Addr) (m : Str) : Bool := He.eqO (findIn K (.ref C) m) (some (some (.ref (He.ma K C m)))) && (decide (PySem.W.specialIn K (.ref (He.ma K C m)) "__get__" = some (some (.builtin "property.__get__"))) &&
  (decide (PySem.W.takesIn K (.ref (He.ma K C m)) = some true) && (match PySem.W.recIn K (He.ma K C m) "property" with
    | some (.ref _ :: _) => true
    | _ => false)))
theorem prop_ok {K : Frag} {C : Addr} {m : Str} (h : propB K C m = true) : PropOf K C m (He.ma K C m) (He5.wf K C "property" m) := by
  obtain ⟨h1, h⟩ := He.ba h
  obtain ⟨h2, h⟩ := He.ba h
  obtain ⟨h3, h4⟩ := He.ba h
  refine ⟨He.eqO_ok h1, of_decide_eq_true h2, of_decide_eq_true h3, ?_⟩
  unfold He5.wf
  split at h4
  · rename_i f r e
    rw [e]
    exact ⟨r, rfl⟩
  · cases h4
/-! ### below a body: one frame of the machine's own more -/
section
variable {X : Cx} {k : Nat} {f C p : Addr} {sp : Sp} {E : XK} {CX : CXT} {pins : List (Addr × Obj)} {σ : L2.St} {H : Hp} {s : Shared}
theorem run_in {A : Around} {Q : VK} {us : List Value} {ws : List V} (F : FnR X.prog X.w X.K X.mg X.base CX k f sp) (hr : Room k A) (e0 : Env0 X.prog X.w X.K X.mg X.base A X.stack s H) (hx : Passes CX X E) (I : Inv X pins σ H s) (r : Vals ws us)
    (h : sp ws H Q E) : wpAny (model X.prog X.w) A (call (.ref f) us) (EP X pins σ Q) X.xe s := wpAny_call (SlX.run_at F hr e0 hx I r h)
theorem room1 {A : Around} (hr : Room (k + 1) A) : Room k A.in1 := Room.in1 hr
/-- str(o), o an instance -/
def rStrO (C : Addr) (sp : Sp) (E : XK) : List V → Hp → VK → Prop := fun xs H Q => ∃ a dx fs, xs = [V.ref a] ∧ H a = some (.ins C dx fs) ∧ sp [.ref a] H (fun z H' => ∃ y, z = .str y ∧ Q z H') E
theorem strback {Q : VK} {v : Value} {s' : Shared} (h : EP X pins σ (fun z H' => ∃ y, z = .str y ∧ Q z H') v s') : PySem.W.StrBack (EP X pins σ Q) v s' := by
  obtain ⟨z, H', I', rz, y, ey, q⟩ := h
  subst ey
  have rz2 := rz
  obtain ⟨t, et⟩ := rz2
  subst et
  exact ⟨_, H', I', rz, q⟩
theorem call_strO (h1 : findIn X.K (.ref C) "__str__" = some (some (.ref f))) (h2 : isFn X.K (.ref f) = true) (F : FnR X.prog X.w X.K X.mg X.base CX k f sp) (hr : Room (k + 2) X.A) (hx : Passes CX X E) : CallR X (.type "str") (rStrO C sp E) := by
  intro pins s σ H xs us Q I r h
  obtain ⟨a, dx, fs, rfl, ha, q⟩ := h
  obtain ⟨u, rfl, ru⟩ := vals1 r
  cases (show u = Value.ref a from ru)
  obtain ⟨od, J⟩ := inst_at I ha
  have hr2 := room1 (room1 hr)
  refine PySem.W.kso_call hr2.units0 I.kIn J h1 h2 (wpAny_mono (run_in (us := [.ref a]) (ws := [.ref a]) F hr2 I.env0.in1.in1 hx I (.cons rfl .nil) q) (fun z s' hz => strback hz) fun _ _ z => z)
/-- repr(o) -/
theorem call_reprO (h1 : findIn X.K (.ref C) "__repr__" = some (some (.ref f))) (h2 : isFn X.K (.ref f) = true) (F : FnR X.prog X.w X.K X.mg X.base CX k f sp) (hr : Room (k + 1) X.A) (hx : Passes CX X E) : CallR X (.builtin "repr") (rStrO C sp E) := by
  intro pins s σ H xs us Q I r h
  obtain ⟨a, dx, fs, rfl, ha, q⟩ := h
  obtain ⟨u, rfl, ru⟩ := vals1 r
  cases (show u = Value.ref a from ru)
  obtain ⟨od, J⟩ := inst_at I ha
  obtain ⟨m, hF⟩ := I.fr
  have hr2 := room1 hr
  exact PySem.W.repr_K hr2.units0 hF I.ok.mod.kin J h1 h2 (wpAny_mono (run_in (us := [.ref a]) (ws := [.ref a]) F hr2 I.env0.in1 hx I (.cons rfl .nil) q) (fun z s' hz => strback hz) fun _ _ z => z)
/-- repr of data -/
def rReprD (K : Frag) : List V → Hp → VK → Prop := fun xs H Q => ∃ a d, xs = [V.ref a] ∧ Dp K H (.ref a) d ∧ d.showable = true ∧ d.depth ≤ 60 ∧ d.shown.length ≤ sizeLine ∧ Q (.str d.shown) H
mutual
theorem noDict : ∀ {K : Frag} {H : Hp} {v : V} (d : PyData), Dp K H v d → d.hasDict = false
  | _, _, _, .none, _ => rfl
  | _, _, _, .bool _, _ => rfl
  | _, _, _, .int _, _ => rfl
  | _, _, _, .str _, _ => rfl
  | _, _, _, .list ds, .lst _ h => by
    show PyData.hasDictAll ds = false
    exact noDictAll ds h
  | _, _, _, .tuple ds, .tup _ h => by
    show PyData.hasDictAll ds = false
    exact noDictAll ds h
theorem noDictAll : ∀ {K : Frag} {H : Hp} {vs : List V} (ds : List PyData), DpAll K H vs ds → PyData.hasDictAll ds = false
  | _, _, _, [], _ => rfl
  | _, _, _, d :: ds, .cons h1 h2 => by
    show (d.hasDict || PyData.hasDictAll ds) = false
    rw [noDict d h1, noDictAll ds h2] <;> rfl
end
theorem call_reprD (hg : X.A.guards = some []) (hu : X.A.units + 64 < cLine) : CallR X (.builtin "repr") (rReprD X.K) := by
  intro pins s σ H xs us Q I r h
  obtain ⟨a, d, rfl, hd, hs, hp, hz, q⟩ := h
  obtain ⟨u, rfl, ru⟩ := vals1 r
  cases (show u = Value.ref a from ru)
  obtain ⟨as, rd⟩ := Dp.reads I d _ _ hd ru
  refine repr_of_reads' rd hs (PyData.noDict_hsm (noDict d hd)) hg (by omega) (fun b o e => e) (fun h' t tk kp => ?_) hz
  exact ⟨.str d.shown, H, I.kept kp, ⟨t, rfl⟩, q⟩
/-- e.f, a property, by a positional promise -/
def tPropR (C : Addr) (sp : Sp) (E : XK) (ta : TE) : TE := fun σ H Q => ta σ H fun x H1 => ∃ a dx fs, x = .ref a ∧ H1 a = some (.ins C dx fs) ∧ sp [.ref a] H1 Q E
theorem pe_propR {e : Expr} {nm : Str} {pos : Pos} {ta : TE} (he : PE X e ta) (c : Cls X.K C) (hp : PropOf X.K C nm p f) (F : FnR X.prog X.w X.K X.mg X.base (L2.CX X.prog X.w) k f sp) (hr : Room (k + 1) X.A)
    (hab : attributeBase e nm X.env (eval e X.env) = eval e X.env := by rfl) : PE X (.Attribute e nm pos) (tPropR C sp E0 ta) := by
  constructor
  intro pins s σ H Q I h
  refine attr_of hab (thn (he.run pins s σ H _ I h) fun u s1 z => ?_)
  obtain ⟨x, H1, I1, rx, a, dx, fs, ex, ea, q⟩ := z
  subst ex
  cases (show u = Value.ref a from rx)
  obtain ⟨od, J⟩ := inst_at I1 ea
  obtain ⟨rest, hrec⟩ := hp.rec_
  have hc : (PySem.W.clsIn X.K C).isSome = true := by
    obtain ⟨cd, e1, _⟩ := PySem.W.any_some c.hd
    simp [e1]
  have I2 := I1.tok (s1.toks + 1)
  refine PySem.W.get_bind I1.kIn J (PySem.W.plainGet_of (c.get nm)).1 (PySem.W.findObj_data hc hp.at_ hp.get hp.tak) (PySem.W.plainGet_of (c.get nm)).2 (wpAny_call ?_)
  refine PySem.W.prop_get (s := { s1 with toks := s1.toks + 1 }) I1.kIn hrec (codeAny_mono (F X.A.in1 X.stack { s1 with toks := s1.toks + 1 } H1 [.ref a] [.ref a] Q E0 (room1 hr) I2.env0.in1 (.cons rfl .nil) q) fun res s' hq => ?_)
  match res, hq with
  | .error er, hq => exact False.elim (passL (X := X.nox) pins σ H1 _ er s' (I2.wish _) hq)
  | .ok (.ret w), hq =>
    have z := I2.after hq
    obtain ⟨v, H', I3, rv, q3⟩ := z
    show wpAny _ _ (handedOut w) _ _ _
    rw [PySem.W.handedOut_of (handed_of rv)]
    exact wpAny_pure ⟨v, H', I3, rv, q3⟩
/-- o.m() and o.m(e, ..) by a positional promise: pe_methR; without arguments -/
theorem pe_methR0 {o : Expr} {m : Str} {ta : TE} {apos pos : Pos} {pl : Sem Bool} (he : PE X o ta) (c : Cls X.K C) (hm : Meth X.K C m f) (F : FnR X.prog X.w X.K X.mg X.base CX k f sp) (hr : Room k X.A) (hx : Passes CX X E)
    (ht : eval (.Call (.Attribute o m apos) [] [] pos) X.env = (do
      let ov ← eval o X.env
      standAt apos.atName
      let (f, first) ← holding [ov] (getMethod ov m pl)
      callWith pos f first (backTo pos (starEach [] X.env)) (backToKw pos (keywordEach [] X.env))) := by rfl) :
    PE X (.Call (.Attribute o m apos) [] [] pos) (tMethR C m sp E ta tNil) := by
  constructor
  intro pins s σ H Q I h
  refine PySem.W.methodCall_KW (pl := pl) (thn (he.run pins s σ H _ I h) fun u s1 z => ?_) ht
  obtain ⟨x, H1, I1, rx, a, dx, fs, ex, ea, l, q⟩ := z
  subst ex
  cases (show u = Value.ref a from rx)
  exact getmeth_ok I1 ea c hm l (PySem.W.callWith_K0 (first := [.ref a]) I1.kIn hm.kp (wpAny_call (run_fnR (us := [.ref a]) (vs := [.ref a]) F hr hx I1 (.cons rfl .nil) q)))
/-! ### keywords -/
/-- a promise by positional values and the values of the keywords ks -/
def FnK (P : Program) (w : World) (K : Frag) (mg : Str → Option Value) (base : Heap) (CX : CXT) (k : Nat) (f : Addr) (n : Nat) (ks : List Str) (sp : List V → List V → Hp → VK → XK → Prop) : Prop :=
  ∀ (A : Around) (outer : List Env) (s : Shared) (H : Hp) (us ws : List Value) (vs zs : List V) (Q : VK) (E : XK), Room k A → Env0 P w K mg base A outer s H → Vals vs us → Vals zs ws → vs.length = n → zs.length = ks.length → sp vs zs H Q E →
    codeAny (model P w) A (.call (.ref f) ⟨us, ks.zip ws⟩) (CR CX outer P w H s Q E) s
theorem fnk {P : Program} {w : World} {K : Frag} {mg : Str → Option Value} {base : Heap} {fd : FuncData} {ps ks : List Str} {n : Nat} {g : List Value → List Value → List Value} {gV : List V → List V → List V} (F : FnOk P w K mg base CX k f fd ps sp) (hb : KBn K fd ps n ks g gV) :
    FnK P w K mg base CX k f n ks (fun vs zs H Q E => sp (gV vs zs) H Q E) := by
  intro A outer s H us ws vs zs Q E hr e0 r1 r2 l1 l2 h
  exact F.run A outer s H ⟨us, ks.zip ws⟩ (g us ws) (gV vs zs) Q E hr e0 (hb.to s us ws (e0.mod.kin.keeps fun b o e => (e0.bs b o e).1) (r1.length.symm.trans l1) (r2.length.symm.trans l2)) (hb.rel r1 r2) h
theorem run_k {pins : List (Addr × Obj)} {σ : L2.St} {H : Hp} {s : Shared} {Q : VK} {us ws : List Value} {vs zs : List V} {n : Nat} {ks : List Str} {spk : List V → List V → Hp → VK → XK → Prop} (F : FnK X.prog X.w X.K X.mg X.base CX k f n ks spk) (hr : Room k X.A)
    (hx : Passes CX X E) (I : Inv X pins σ H s) (r1 : Vals vs us) (r2 : Vals zs ws) (l1 : vs.length = n) (l2 : zs.length = ks.length) (h : spk vs zs H Q E) : wpAny (model X.prog X.w) X.A (call (.ref f) us (ks.zip ws)) (EP X pins σ Q) X.xe s := by
  refine wpAny_call (codeAny_mono (F X.A X.stack s H us ws vs zs Q E hr I.env0 r1 r2 l1 l2 h) fun res s' hq => ?_)
  match res, hq with
  | .error er, hq => exact hx pins σ H s er s' I hq
  | .ok (.ret u), hq => exact I.after hq
/-- o.m(k = v, ..) -/
def tMethK (C : Addr) (m : Str) (ks : List Str) (spk : List V → List V → Hp → VK → XK → Prop) (E : XK) (ta : TE) (tk : TA) : TE := fun σ H Q => ta σ H fun x H1 => ∃ a dx fs, x = .ref a ∧ H1 a = some (.ins C dx fs) ∧ fs.lookup m = none ∧
  tk σ H1 fun zs H2 => zs.length = ks.length ∧ spk [.ref a] zs H2 Q E
theorem pe_methK {o : Expr} {m : Str} {ta : TE} {tk : TA} {kws : List Keyword} {ks : List Str} {apos pos : Pos} {pl : Sem Bool} {spk : List V → List V → Hp → VK → XK → Prop} (he : PE X o ta) (c : Cls X.K C) (hm : Meth X.K C m f)
    (F : FnK X.prog X.w X.K X.mg X.base CX k f 1 ks spk) (hr : Room k X.A) (hx : Passes CX X E) (hkw : PK X kws tk) (hall : (backToKw pos (keywordEach kws X.env)).all (·.1.isSome) = true := by rfl) (hks : (backToKw pos (keywordEach kws X.env)).filterMap (·.1) = ks := by rfl)
    (hpl : ((backTo pos (starEach [] X.env)).any (·.1) || (backToKw pos (keywordEach kws X.env)).any (·.1.isNone)) = false := by rfl)
    (ht : eval (.Call (.Attribute o m apos) [] kws pos) X.env = (do
      let ov ← eval o X.env
      standAt apos.atName
      let (f, first) ← holding [ov] (getMethod ov m pl)
      callWith pos f first (backTo pos (starEach [] X.env)) (backToKw pos (keywordEach kws X.env))) := by rfl) :
    PE X (.Call (.Attribute o m apos) [] kws pos) (tMethK C m ks spk E ta tk) := by
  constructor
  intro pins s σ H Q I h
  refine PySem.W.methodCall_KW (pl := pl) (thn (he.run pins s σ H _ I h) fun u s1 z => ?_) ht
  obtain ⟨x, H1, I1, rx, a, dx, fs, ex, ea, l, q⟩ := z
  subst ex
  cases (show u = Value.ref a from rx)
  refine getmeth_ok I1 ea c hm l (PySem.W.callWith_KW0 (first := [.ref a]) (h₀ := X.base) I1.ok.mod.kin hm.kp hall (thn (hkw.run pos pins s1 σ H1 _ I1 q) fun ws s2 z => ?_) hpl)
  obtain ⟨zs, H2, I2, rz, l2, q2⟩ := z
  rw [hks]
  exact ⟨I2.kIn, run_k (us := [.ref a]) (vs := [.ref a]) F hr hx I2 (.cons rfl .nil) rz rfl l2 q2⟩
/-- f(k = v, ..) -/
def tClK (ks : List Str) (spk : List V → List V → Hp → VK → XK → Prop) (E : XK) (tk : TA) : TE := fun σ H Q => tk σ H fun zs H2 => zs.length = ks.length ∧ spk [] zs H2 Q E
theorem pe_clK {x : Str} {tk : TA} {kws : List Keyword} {ks : List Str} {np pos : Pos} {spk : List V → List V → Hp → VK → XK → Prop} (F : FnK X.prog X.w X.K X.mg X.base CX k f 0 ks spk) (hr : Room k X.A) (hm : X.mg x = some (.ref f)) (hk : PySem.W.keepIn X.K (.ref f) = true) (hx : Passes CX X E) (hkw : PK X kws tk)
    (hg : Gl X x := by rfl) (hall : (backToKw pos (keywordEach kws X.env)).all (·.1.isSome) = true := by rfl) (hks : (backToKw pos (keywordEach kws X.env)).filterMap (·.1) = ks := by rfl)
    (hpl : ((backTo pos (starEach [] X.env)).any (·.1) || (backToKw pos (keywordEach kws X.env)).any (·.1.isNone)) = false := by rfl) (hdb : (x == ("__debug__" : Str)) = false := by decide) :
    PE X (.Call (.Name x np) [] kws pos) (tClK ks spk E tk) := by
  constructor
  intro pins s σ H Q I h
  refine wpAny_Call_Name_kw (ld_glob I hg hm (PySem.W.callWith_KW0 (first := []) (h₀ := X.base) I.ok.mod.kin hk hall (thn (hkw.run pos pins s σ H _ I h) fun ws s2 z => ?_) hpl) hdb)
  obtain ⟨zs, H2, I2, rz, l2, q2⟩ := z
  rw [hks]
  exact ⟨I2.kIn, run_k (us := []) (vs := []) F hr hx I2 .nil rz rfl l2 q2⟩
/-- C(k = v, ..) -/
def tMkK (C : Addr) (ks : List Str) (spk : List V → List V → Hp → VK → XK → Prop) (E : XK) (tk : TA) : TE := fun σ H Q => tk σ H fun zs H2 => zs.length = ks.length ∧ ∀ x dx, H2 x = none → H2 dx = none → dx ≠ x →
  spk [.ref x] zs (upd (upd H2 dx (.own x)) x (.ins C dx [])) (fun v H3 => v = .non ∧ Q (.ref x) H3) E
theorem pe_mkK {x : Str} {tk : TA} {kws : List Keyword} {ks : List Str} {np pos : Pos} {spk : List V → List V → Hp → VK → XK → Prop} (M : Mk X.K C f) (F : FnK X.prog X.w X.K X.mg X.base CX k f 1 ks spk) (hr : Room (k + 1) X.A) (hm : X.mg x = some (.ref C)) (hx : Passes CX X E) (hkw : PK X kws tk)
    (hg : Gl X x := by rfl) (hall : (backToKw pos (keywordEach kws X.env)).all (·.1.isSome) = true := by rfl) (hks : (backToKw pos (keywordEach kws X.env)).filterMap (·.1) = ks := by rfl)
    (hpl : ((backTo pos (starEach [] X.env)).any (·.1) || (backToKw pos (keywordEach kws X.env)).any (·.1.isNone)) = false := by rfl) (hdb : (x == ("__debug__" : Str)) = false := by decide) :
    PE X (.Call (.Name x np) [] kws pos) (tMkK C ks spk E tk) := by
  constructor
  intro pins s σ H Q I h
  refine wpAny_Call_Name_kw (ld_glob I hg hm (PySem.W.callWith_KW0 (first := []) (h₀ := X.base) I.ok.mod.kin M.kp hall (thn (hkw.run pos pins s σ H _ I h) fun ws s2 z => ?_) hpl) hdb)
  obtain ⟨zs, H2, I2, rz, l2, q2⟩ := z
  rw [hks]
  refine ⟨I2.kIn, ?_⟩
  have J := Inv.made (C := C) I2
  have hq := q2 (s2.heap.objs.size + 1) s2.heap.objs.size (I2.hok.fresh (Nat.le_succ _)) (I2.hok.fresh (Nat.le_refl _)) (Nat.ne_of_lt (Nat.lt_succ_self _))
  refine wpAny_call (make_map (f := f) I2.kIn M.makes M.init (beq_iff_eq.mp M.fn) (codeAny_mono (F _ X.stack _ _ [Value.ref (s2.heap.objs.size + 1)] ws [V.ref (s2.heap.objs.size + 1)] zs _ E (hr.make C [] (ks.zip ws)) (J.env0.make C [] (ks.zip ws)) (.cons rfl .nil) rz rfl l2 hq) fun res s' hq' => ?_))
  match res, hq' with
  | .error er, hq' => exact hx pins σ _ _ er s' J hq'
  | .ok (.ret u), hq' =>
    have z := J.after hq'
    obtain ⟨v, H', I3, rv, ev, q3⟩ := z
    subst ev
    exact ⟨rv, ⟨V.ref (s2.heap.objs.size + 1), H', I3, rfl, q3⟩⟩
/-! ### a class held by a local name: cls(e, ..) -/
def tMkL (i : Nat) (C : Addr) (sp : Sp) (E : XK) (t : TA) : TE := fun σ H Q => σ[i]? = some (some (.ref C)) ∧ StX.tMakeR C sp E t σ H Q
theorem pe_mkL {i : Nat} {x : Str} {np pos : Pos} {e : Expr} {es : List Expr} {t : TA} (M : Mk X.K C f) (F : FnR X.prog X.w X.K X.mg X.base CX k f sp) (hr : Room (k + 1) X.A) (hx : Passes CX X E) (ha : PA X (e :: es) t) (hv : PE X (.Name x np) (tVar i))
    (he : starEach (e :: es) X.env = (false, eval e X.env) :: starEach es X.env := by rfl) (hpl : (backTo pos (starEach es X.env)).any (·.1) = false := by rfl) : PE X (.Call (.Name x np) (e :: es) [] pos) (tMkL i C sp E t) := by
  constructor
  intro pins s σ H Q I h
  obtain ⟨hi, h⟩ := h
  refine wpAny_Call_Name_kw (thn (hv.run pins s σ H (fun v H1 => v = .ref C ∧ H1 = H) I ⟨_, hi, rfl, rfl⟩) fun u s1 z => ?_)
  obtain ⟨v, H1, I1, rv, ev, eH⟩ := z
  subst ev
  subst eH
  cases (show u = Value.ref C from rv)
  refine PySem.W.callWith_K (h₀ := X.base) I1.ok.mod.kin M.kp (thn (ha.run pos pins s1 σ H1 _ I1 h) fun us s2 z => ?_) he hpl
  obtain ⟨vs, H2, I2, r, q⟩ := z
  exact ⟨I2.kIn, StX.run_makeR M F hr hx I2 r q⟩
/-! ### C.m() of a classmethod, without arguments -/
theorem pe_cmeth0 {o : Expr} {m : Str} {ta : TE} {apos pos : Pos} {pl : Sem Bool} {mc : Value} {pr : Addr} (he : PE X o ta) (r : ClX.CRead X.K C mc) (c : ClX.CMet X.K C mc m pr f) (F : FnR X.prog X.w X.K X.mg X.base CX k f sp) (hr : Room k X.A) (hx : Passes CX X E)
    (ht : eval (.Call (.Attribute o m apos) [] [] pos) X.env = (do
      let ov ← eval o X.env
      standAt apos.atName
      let (f, first) ← holding [ov] (getMethod ov m pl)
      callWith pos f first (backTo pos (starEach [] X.env)) (backToKw pos (keywordEach [] X.env))) := by rfl) :
    PE X (.Call (.Attribute o m apos) [] [] pos) (ClX.tCMeth C sp E ta tNil) := by
  constructor
  intro pins s σ H Q I h
  refine PySem.W.methodCall_KW (pl := pl) (thn (he.run pins s σ H _ I h) fun u s1 z => ?_) ht
  obtain ⟨x, H1, I1, rx, ex, q⟩ := z
  subst ex
  cases (show u = Value.ref C from rx)
  refine ClX.getmethcm_ok I1 r c fun s2 I2 => ?_
  exact PySem.W.callWith_M0 (first := []) ⟨ClX.pin_at I2, I2.kIn⟩ c.fi (ClX.run_cm (us := []) (vs := []) F hr hx I2 .nil q)
end
end Z

namespace Z
open PySem PySem.Spec PyProof.Rows L2
open PySem.W (Frag Looks findIn subIn isFn selfFirst InstAt)
/-! ### numbers -/
def CDz (_ j : Int) : Prop := j ≠ 0 ∧ j.natAbs.log2 < 9000
section
variable {X : Cx}
theorem op_fdivZ : OpR X (binaryOp .FloorDiv) (rI CDz fun i j => .int (i.fdiv j)) := opI fun i j _ _ _ _ _ hc q => floordiv_int hc.1 q (.inl (PyProof.noPylong_of_log2 hc.2))
def CDp (_ j : Int) : Prop := 0 < j ∧ j.natAbs.log2 < 9000
theorem call_divmodZ : CallR X (.builtin "divmod") (fun xs H Q => ∃ i j, xs = [.int i, .int j] ∧ CDp i j ∧ ∀ p, H p = none → Q (.ref p) (upd H p (.tup [.int (i / j), .int (i % j)]))) := by
  intro pins s σ H xs us Q I r h
  obtain ⟨i, j, e, ⟨h1, h2⟩, q⟩ := h
  exact call_divmodW pins s σ H xs us Q I r ⟨i, j, e, ⟨h1, PyProof.noPylong_of_log2 h2⟩, q⟩
/-- two lists of unlike lengths are not equal -/
def rEqN (K : Frag) : R2 := fun x y H Q => ∃ a b xs ys, x = .ref a ∧ y = .ref b ∧ SqL K H a xs ∧ SqL K H b ys ∧ xs.length ≠ ys.length ∧ Q (.bl false) H
theorem op_eqN (hu : X.A.units < cLine) : OpR X (compareOp .Eq) (rEqN X.K) := by
  intro pins s σ H x y v u Q I rx ry h
  obtain ⟨a, b, xs, ys, rfl, rfl, h1, h2, hn, q⟩ := h
  cases (show v = Value.ref a from rx)
  cases (show u = Value.ref b from ry)
  obtain ⟨i1, r1, p1, _⟩ := I.list h1
  obtain ⟨i2, r2, p2, _⟩ := I.list h2
  have z : (i1.toArray.size != i2.toArray.size) = true := by
    simp only [List.size_toArray, bne_iff_ne]
    rw [← r1.length, ← r2.length]
    exact hn
  exact SeqAt.eq_list_lengthsAt p1.isList p2.isList z hu ⟨.bl false, H, I, rfl, q⟩
end
/-! ### the end of a law -/
section
theorem end_g {P : Program} {w : World} {K : Frag} {mg mb : Str → Option Value} {k : Nat} {fa a : Addr} {sp : Sp} {s1 : Shared} {vs : List Value} {ns : List Int} (KX : K.In s1.heap) (hns : s1.heap.Ns mainGlobals mg) (hb : s1.heap.Ns builtinsNs mb)
    (hbb : ∀ x : Str, x ≠ "__name__" → mb x = bootBuiltins x) (hlim : s1.heap.NoLimit) (hg : s1.gens = #[]) (ha : s1.heap.get? a = some { cls := .type "list", data := .seq vs.toArray }) (hi : IntsAre vs ns) (hl : ns.length ≤ sizeLine) (hr : Room k callerA)
    (F : ∀ base : Heap, K.In base → base.Ns mainGlobals mg → FnG P w K mg base k fa sp) (hsp : ∀ H : Hp, SqL K H a (ns.map V.int) → sp [.ref a] H (fun v _ => v = .bl true) E0) :
    codeAny (model P w) callerA (.call (.ref fa) ⟨[.ref a], []⟩) (fun r s' => r = .ok (.ret (.bool true)) ∧ OldK s1.heap s'.heap ∧ s'.os = s1.os ∧ AllBare s'.gens) s1 := by
  have rv : Vals (ns.map V.int) vs := vals_ints hi
  have lv : vs.length = ns.length := hi.length
  -- nothing is tracked but the script, where it is no object of the module
  generalize eo : ({ cls := .type "list", data := .seq vs.toArray } : Obj) = ob at ha
  let H : Hp := fun b => if b = a ∧ K.lookup a = none then some (.frz ob (.lst (ns.map V.int))) else none
  have hH : ∀ b u, H b = some u → b = a ∧ K.lookup a = none ∧ u = .frz ob (.lst (ns.map V.int)) := fun b u e => by
    have e2 : (if b = a ∧ K.lookup a = none then some (HO.frz ob (.lst (ns.map V.int))) else none) = some u := e
    by_cases c : b = a ∧ K.lookup a = none
    · rw [if_pos c] at e2
      exact ⟨c.1, c.2, (Option.some.inj e2).symm⟩
    · rw [if_neg c] at e2
      cases e2
  have hset : ∀ b o es ep, s1.heap.get? b = some o → o.data = .dict es ep → H b = none := fun b o es ep e d => by
    cases q : H b with
    | none => rfl
    | some u =>
      obtain ⟨eb, _, _⟩ := hH b u q
      rw [eb, ha] at e
      rw [← Option.some.inj e, ← eo] at d
      cases d
  have hin : ∀ b o, K.lookup b = some o → H b = none := fun b o e => by
    cases q : H b with
    | none => rfl
    | some u =>
      obtain ⟨eb, en, _⟩ := hH b u q
      rw [eb, en] at e
      cases e
  have KB : K.In (hidT s1.heap H) := fun b o e => hidT_get (KX b o e) (hin b o e)
  have nsB : ∀ {b : Addr} {m : Str → Option Value}, s1.heap.Ns b m → (hidT s1.heap H).Ns b m := fun z => by
    obtain ⟨o, es, ep, e, d, r⟩ := z
    exact ⟨o, es, ep, hidT_get e (hset _ o es ep e d), d, r⟩
  have hM : Mod K mg (hidT s1.heap H) := by
    refine ⟨KB, nsB hns, ⟨mb, nsB hb, hbb⟩, ?_⟩
    obtain ⟨mc, z1, z2⟩ := hlim
    exact ⟨mc, nsB z1, z2⟩
  have hok : HOk P w H s1.heap := fun b u e => by
    obtain ⟨eb, _, eu⟩ := hH b u e
    subst eu
    subst eb
    refine ⟨ha, ?_⟩
    rw [← eo] at ha
    exact ⟨by rw [List.length_map]; exact hl, vs, _, rv, ha⟩
  have e0 : Env0 P w K mg (hidT s1.heap H) callerA [] s1 H :=
    { frames := rfl, mod := hM, bs := fun b o e => of_hidT e, bsz := Nat.le_of_eq (hidT_size _ _), funs := trivial, frf := fun b z => absurd (show b ∈ ([] : List Addr) from z) (by simp), hok := hok, bare := .of_eq hg }
  have hS : SqL K H a (ns.map V.int) := by
    cases q : K.lookup a with
    | none => exact .inl (.inr ⟨ob, if_pos ⟨rfl, q⟩⟩)
    | some o =>
      have e := KX a o q
      rw [ha] at e
      have eq2 : o = { cls := .type "list", data := .seq vs.toArray } := by rw [← Option.some.inj e, ← eo]
      subst eq2
      exact .inr ⟨_, vs.toArray, _, q, rfl, rfl, rfl, by rw [List.size_toArray, lv]; exact hl, by simpa using rv⟩
  refine codeAny_mono (F _ KB (nsB hns) callerA hr rfl [] s1 H [.ref a] [.ref a] _ E0 e0 (.cons rfl .nil) (hsp H hS)) fun r s' z => ?_
  match r, z with
  | .error e, z =>
    obtain ⟨_, _, _, _, _, _, _, _, _, _, _, _, bad⟩ := z
    exact bad.elim
  | .ok (.ret u), z =>
    obtain ⟨v, H', os, bare, un, hok', ru, qv⟩ := z
    subst qv
    cases (show u = Value.bool true from ru)
    refine ⟨rfl, OldK.of_keep fun b o e => ?_, os, bare⟩
    cases q : H b with
    | none => exact un.keep b o e q (fun y => absurd (show b ∈ ([] : List Addr) from y) (by simp)) (by simp)
    | some u =>
      obtain ⟨eb, _, eu⟩ := hH b u q
      subst eu
      have y := un.frzs b ob _ q
      have y2 := (hok' b _ y).1
      rw [eb, ha] at e
      rw [y2, Option.some.inj e]
theorem walk_g {l : PySem.W.OpenLaw} {n k : Nat} {q : Program} {loose : List Str} {XP : (Str → Option Value) → Heap → Prop} {YP : World → Heap → Prop} {d : DefRec} (hn : l.most = some n) (hn2 : n ≤ sizeLine) (hdf : d.params.defaults = []) (hr : Room k callerA)
    (F : ∀ (w : World) (mg : Str → Option Value) (fa : Addr) (h : Heap), YP w h → h.Ns mainGlobals mg → mg d.name = some (.ref fa) → ∃ (K : Frag) (sp : Sp), K.In h ∧
      (∀ (H : Hp) (a : Addr) (ns : List Int), ns.length ≤ n → SqL K H a (ns.map V.int) → sp [.ref a] H (fun v _ => v = .bl true) E0) ∧ ∀ base : Heap, K.In base → base.Ns mainGlobals mg → FnG l.prog w K mg base k fa sp) :
    PySem.W.WalkO q loose XP YP l.row.toRowW d [] (fun f vs => PySem.call f vs) := by
  refine Att.attach_call hn hdf fun w s0 s1 mg mb fa o pm cd doc a vs ns G Y ho hd hcd hmg hobj hints hlen hg => ?_
  obtain ⟨K, sp, KX, hsp, hF⟩ := F w mg fa _ Y G.T.g hmg
  exact end_g KX G.T.g G.T.b G.T.builtins G.T.nolimit hg hobj hints (Nat.le_trans hlen hn2) hr hF fun H hS => hsp H a ns hlen hS
end
end Z

namespace Z
open PySem PySem.Spec PyProof.Rows L2
/-! ### texts and how long they show -/
def Okc (x : Str) : Prop := ∀ c ∈ x.cps.toList, c < 16 ^ 8
theorem okc_of (s : String) : Okc (Str.ofString s) := fun c hc => by
  have e : (Str.ofString s).cps.toList = s.toList.map Char.toNat := by
    rw [Str.ofString_eq_toList]
  rw [e] at hc
  obtain ⟨ch, _, rfl⟩ := List.mem_map.mp hc
  have h := ch.valid
  have h2 : ch.toNat < 1114112 := by
    rcases h with h | h
    · show ch.val.toNat < 1114112
      omega
    · show ch.val.toNat < 1114112
      omega
  omega
theorem okc_app {x y : Str} (hx : Okc x) (hy : Okc y) : Okc (x ++ y) := fun c hc => by
  rw [Str.cps_append, Array.toList_append] at hc
  rcases List.mem_append.mp hc with h | h
  · exact hx c h
  · exact hy c h
theorem listText_le (ts : List Str) : (listText ts).length ≤ piled ts + 2 := by
  unfold listText
  rw [Str.length_append]
  have e1 : ("]" : Str).length = 1 := by decide +kernel
  have e2 : ("[" : Str).length = 1 := by decide +kernel
  cases ts with
  | nil =>
    show ("[" : Str).length + _ ≤ _
    omega
  | cons t r =>
    show (textFrom 1 (("[" : Str) ++ (if 0 > 0 then ", " else "" : String) ++ t) r).length + _ ≤ _
    rw [textFrom_length_pos r 1 _ (by decide), Str.length_append, Str.length_append, piled_cons]
    have e3 : (Str.ofString (if 0 > 0 then ", " else "" : String)).length = 0 := by decide +kernel
    have e4 : ((if 0 > 0 then ", " else "" : String) : Str).length = 0 := e3
    omega
theorem rep_le {x : Str} {n : Nat} (h : Okc x) (hn : x.length ≤ n) : (reprText x).length ≤ 10 * n + 2 := by
  have := StrLaws.reprText_len x h
  omega
/-! ### either of two rules -/
theorem op_or {X : Cx} {f : Value → Value → Sem Value} {r1 r2 : R2} (h1 : OpR X f r1) (h2 : OpR X f r2) : OpR X f (fun x y H Q => r1 x y H Q ∨ r2 x y H Q) := by
  intro pins s σ H x y v u Q I rx ry h
  rcases h with h | h
  · exact h1 pins s σ H x y v u Q I rx ry h
  · exact h2 pins s σ H x y v u Q I rx ry h
theorem op_eqL {X : Cx} (hu : X.A.units + 64 < cLine) : OpR X (compareOp .Eq) (fun x y H Q => rEqD X.K x y H Q ∨ rEqN X.K x y H Q) := op_or (op_eqD hu) (op_eqN (by omega))
/-! ### keywords of a def without defaults -/
section
variable {K : PySem.W.Frag} {x qual : Str} {params : Arguments} {body : List Stmt} {scope : Scope} {kws : List (Str × V)} {f : Addr} {fd : FuncData} {ps : List Str}
theorem kbN (F : FunD K x qual params body scope [] kws f fd) (n : Nat) (ks : List Str) (g : {α : Type} → List α → List α → List α)
    (hrel : ∀ {vs zs : List V} {us ws : List Value}, Vals vs us → Vals zs ws → Vals (g vs zs) (g us ws))
    (h : ∀ (kV doc pm : Value) (an : Option Addr) (cdv ct : Value) (us ws : List Value), us.length = n → ws.length = ks.length → bindArgs (PySem.W.fnOf x qual params body scope .none kV doc pm an cdv ct) ⟨us, ks.zip ws⟩ = pure (ps.zip (g us ws))) :
    KBn K fd ps n ks (fun us ws => g us ws) (fun vs zs => g vs zs) := by
  obtain ⟨oc, od, dV, kV, doc, pm, an, cdv, ct, osl, e1, lk, hcd, hD, hK⟩ := F.ex
  subst e1
  rcases hD with ⟨_, e2⟩ | ⟨e2, _⟩
  · subst e2
    exact ⟨fun s us ws _ l1 l2 => .of_eq (h kV doc pm an cdv ct us ws l1 l2), fun r1 r2 => hrel r1 r2⟩
  · exact absurd rfl e2
end
end Z

/-! fractions in lowest terms -/
namespace M
def sg (u l : Int) : Int := if l < 0 then -(Int.gcd u l : Int) else (Int.gcd u l : Int)
def low (u l : Int) : Int × Int := (u.fdiv (sg u l), l.fdiv (sg u l))
theorem sg_abs (u l : Int) : (sg u l).natAbs = Int.gcd u l := by
  unfold sg
  split
  · rw [Int.natAbs_neg, Int.natAbs_natCast]
  · exact Int.natAbs_natCast _
theorem gcd_pos {u l : Int} (h : l ≠ 0) : 0 < Int.gcd u l := Int.gcd_pos_of_ne_zero_right u h
theorem sg_ne {u l : Int} (h : l ≠ 0) : sg u l ≠ 0 := fun e => by
  have h1 := sg_abs u l
  rw [e] at h1
  have h2 := gcd_pos (u := u) h
  simp at h1
  omega
theorem sg_dvd_l (u l : Int) : sg u l ∣ l := by
  rw [← Int.natAbs_dvd_natAbs, sg_abs]
  exact Int.natAbs_dvd_natAbs.mpr (Int.gcd_dvd_right u l)
theorem sg_dvd_u (u l : Int) : sg u l ∣ u := by
  rw [← Int.natAbs_dvd_natAbs, sg_abs]
  exact Int.natAbs_dvd_natAbs.mpr (Int.gcd_dvd_left u l)
theorem fdiv_of {g q : Int} (h : g ≠ 0) : (g * q).fdiv g = q := Int.mul_fdiv_cancel_left q h
/-- both parts are quotients -/
theorem low_quot {u l : Int} (h : l ≠ 0) : u = sg u l * (low u l).1 ∧ l = sg u l * (low u l).2 := by
  obtain ⟨a, ha⟩ := sg_dvd_u u l
  obtain ⟨b, hb⟩ := sg_dvd_l u l
  have hg := sg_ne (u := u) h
  have e1 : (low u l).1 = a := by
    show u.fdiv (sg u l) = a
    rw [show u.fdiv (sg u l) = (sg u l * a).fdiv (sg u l) from by rw [← ha]]
    exact fdiv_of hg
  have e2 : (low u l).2 = b := by
    show l.fdiv (sg u l) = b
    rw [show l.fdiv (sg u l) = (sg u l * b).fdiv (sg u l) from by rw [← hb]]
    exact fdiv_of hg
  rw [e1, e2]
  exact ⟨ha, hb⟩
theorem low_pos {u l : Int} (h : l ≠ 0) : 0 < (low u l).2 := by
  obtain ⟨_, e⟩ := low_quot (u := u) h
  have hp := gcd_pos (u := u) h
  by_cases c : l < 0
  · have s : sg u l = -(Int.gcd u l : Int) := if_pos c
    rw [s] at e
    generalize (low u l).2 = b at *
    generalize Int.gcd u l = g at *
    have h1 : (g : Int) * b = -l := by
      rw [e]
      rw [Int.neg_mul]
      omega
    have h2 : 0 < (g : Int) * b := by omega
    exact Int.pos_of_mul_pos_right h2 (by omega)
  · have s : sg u l = (Int.gcd u l : Int) := if_neg c
    rw [s] at e
    generalize (low u l).2 = b at *
    generalize Int.gcd u l = g at *
    have h2 : 0 < (g : Int) * b := by omega
    exact Int.pos_of_mul_pos_right h2 (by omega)
/-- in lowest terms, the bottom above 0 -/
def Red (p : Int × Int) : Prop := 0 < p.2 ∧ Int.gcd p.1 p.2 = 1
theorem low_red {u l : Int} (h : l ≠ 0) : Red (low u l) := by
  refine ⟨low_pos h, ?_⟩
  obtain ⟨e1, e2⟩ := low_quot (u := u) h
  have hp := gcd_pos (u := u) h
  have e : Int.gcd u l = (sg u l).natAbs * Int.gcd (low u l).1 (low u l).2 := by
    have z := Int.gcd_mul_left (sg u l) (low u l).1 (low u l).2
    rw [← e1, ← e2] at z
    exact z
  rw [sg_abs] at e
  have e3 : Int.gcd u l * 1 = Int.gcd u l * Int.gcd (low u l).1 (low u l).2 := by omega
  exact (Nat.eq_of_mul_eq_mul_left hp e3).symm
theorem sg_red {p : Int × Int} (h : Red p) : sg p.1 p.2 = 1 := by
  unfold sg
  rw [if_neg (by have := h.1; omega), h.2]
  rfl
theorem low_of_red {p : Int × Int} (h : Red p) : low p.1 p.2 = p := by
  unfold low
  rw [sg_red h]
  rw [Int.fdiv_one, Int.fdiv_one]
theorem red_int (n : Int) : Red (n, 1) := ⟨Int.one_pos, Int.gcd_one_right n⟩
theorem low_int (n : Int) : low n 1 = (n, 1) := low_of_red (red_int n)
theorem red_neg {p : Int × Int} (h : Red p) : Red (-p.1, p.2) := ⟨h.1, by
  show Int.gcd (-p.1) p.2 = 1
  rw [Int.neg_gcd]
  exact h.2⟩
theorem quot_le {g q : Int} (h : g ≠ 0) : q.natAbs ≤ (g * q).natAbs := by
  rw [Int.natAbs_mul]
  exact Nat.le_mul_of_pos_left _ (Int.natAbs_pos.mpr h)
theorem low_le1 {u l : Int} (h : l ≠ 0) : (low u l).1.natAbs ≤ u.natAbs := by
  have e := (low_quot (u := u) h).1
  have z := quot_le (q := (low u l).1) (sg_ne (u := u) h)
  rw [← e] at z
  exact z
theorem low_le2 {u l : Int} (h : l ≠ 0) : (low u l).2.natAbs ≤ l.natAbs := by
  have e := (low_quot (u := u) h).2
  have z := quot_le (q := (low u l).2) (sg_ne (u := u) h)
  rw [← e] at z
  exact z
/-- both parts below 2 ^ n -/
def Sz (n : Nat) (p : Int × Int) : Prop := p.1.natAbs < 2 ^ n ∧ p.2.natAbs < 2 ^ n
theorem Sz.mono {n m : Nat} {p : Int × Int} (h : Sz n p) (hm : n ≤ m) : Sz m p := ⟨Nat.lt_of_lt_of_le h.1 (Nat.pow_le_pow_right (by decide) hm), Nat.lt_of_lt_of_le h.2 (Nat.pow_le_pow_right (by decide) hm)⟩
theorem low_sz {u l : Int} {n : Nat} (h : l ≠ 0) (h1 : u.natAbs < 2 ^ n) (h2 : l.natAbs < 2 ^ n) : Sz n (low u l) := ⟨Nat.lt_of_le_of_lt (low_le1 h) h1, Nat.lt_of_le_of_lt (low_le2 h) h2⟩
theorem mul_lt {a b : Int} {n m : Nat} (h1 : a.natAbs < 2 ^ n) (h2 : b.natAbs < 2 ^ m) : (a * b).natAbs < 2 ^ (n + m) := by
  rw [Int.natAbs_mul, Nat.pow_add]
  exact Nat.mul_lt_mul'' h1 h2
theorem add_lt {a b : Int} {n : Nat} (h1 : a.natAbs < 2 ^ n) (h2 : b.natAbs < 2 ^ n) : (a + b).natAbs < 2 ^ (n + 1) := by
  have := Int.natAbs_add_le a b
  rw [Nat.pow_succ]
  omega
theorem sub_lt {a b : Int} {n : Nat} (h1 : a.natAbs < 2 ^ n) (h2 : b.natAbs < 2 ^ n) : (a - b).natAbs < 2 ^ (n + 1) := by
  have h : (a - b).natAbs ≤ a.natAbs + b.natAbs := by omega
  rw [Nat.pow_succ]
  omega
/-- the sum of two fractions -/
def plus (p q : Int × Int) : Int × Int := low (p.1 * q.2 + q.1 * p.2) (p.2 * q.2)
def minus (p q : Int × Int) : Int × Int := low (p.1 * q.2 - q.1 * p.2) (p.2 * q.2)
def times (p q : Int × Int) : Int × Int := low (p.1 * q.1) (p.2 * q.2)
theorem bot_ne {p q : Int × Int} (hp : Red p) (hq : Red q) : p.2 * q.2 ≠ 0 := by
  have := Int.mul_pos hp.1 hq.1
  omega
theorem plus_red {p q : Int × Int} (hp : Red p) (hq : Red q) : Red (plus p q) := low_red (bot_ne hp hq)
theorem minus_red {p q : Int × Int} (hp : Red p) (hq : Red q) : Red (minus p q) := low_red (bot_ne hp hq)
theorem times_red {p q : Int × Int} (hp : Red p) (hq : Red q) : Red (times p q) := low_red (bot_ne hp hq)
theorem plus_sz {p q : Int × Int} {n m : Nat} (hp : Red p) (hq : Red q) (h1 : Sz n p) (h2 : Sz m q) : Sz (n + m + 1) (plus p q) := by
  refine low_sz (bot_ne hp hq) (add_lt (mul_lt h1.1 h2.2) ?_) ?_
  · have z := mul_lt h2.1 h1.2
    rw [Nat.add_comm] at z
    exact z
  · exact Nat.lt_of_lt_of_le (mul_lt h1.2 h2.2) (Nat.pow_le_pow_right (by decide) (Nat.le_succ _))
theorem minus_sz {p q : Int × Int} {n m : Nat} (hp : Red p) (hq : Red q) (h1 : Sz n p) (h2 : Sz m q) : Sz (n + m + 1) (minus p q) := by
  refine low_sz (bot_ne hp hq) (sub_lt (mul_lt h1.1 h2.2) ?_) ?_
  · have z := mul_lt h2.1 h1.2
    rw [Nat.add_comm m n] at z
    exact z
  · exact Nat.lt_of_lt_of_le (mul_lt h1.2 h2.2) (Nat.pow_le_pow_right (by decide) (by omega))
theorem times_sz {p q : Int × Int} {n m : Nat} (hp : Red p) (hq : Red q) (h1 : Sz n p) (h2 : Sz m q) : Sz (n + m) (times p q) :=
  low_sz (bot_ne hp hq) (mul_lt h1.1 h2.1) (mul_lt h1.2 h2.2)
/-- less an addend is the sum with its opposite -/
theorem minus_plus (p q : Int × Int) : plus p (-q.1, q.2) = minus p q := by
  unfold plus minus
  show low (p.1 * q.2 + -q.1 * p.2) (p.2 * q.2) = _
  rw [Int.neg_mul, ← Int.sub_eq_add_neg]
/-- the loop of the greatest common divisor -/
theorem gcd_step {m n : Int} (h1 : 0 ≤ m) (h2 : 0 < n) : Int.gcd n (m % n) = Int.gcd m n := by
  obtain ⟨a, rfl⟩ := Int.eq_ofNat_of_zero_le h1
  obtain ⟨b, rfl⟩ := Int.eq_ofNat_of_zero_le (Int.le_of_lt h2)
  show Nat.gcd b (((a : Int) % (b : Int)).natAbs) = Nat.gcd a b
  rw [← Int.natCast_emod, Int.natAbs_natCast, Nat.gcd_comm a b, Nat.gcd_rec b a, Nat.gcd_comm]
theorem gcd_end {m : Int} (h : 0 ≤ m) : (Int.gcd m 0 : Int) = m := by
  rw [Int.gcd_zero_right]
  omega
theorem gcd_abs (u l : Int) : Int.gcd (if u < 0 then -u else u) (if l < 0 then -l else l) = Int.gcd u l := by
  split <;> split <;> simp [Int.neg_gcd, Int.gcd_neg]
end M

namespace A57
open PySem PySem.Spec PyProof.Rows L2
def top (i : Nat) : Stmt := PySem.Challenge.pw_anypoints_k11_whole_ratios_by_rows_of_de.main.body.getD i (.Pass ⟨0, 0, 0, 0⟩)
abbrev s_is_integer : Stmt := top 7
abbrev N_is_integer : List Str := ["value"]
theorem sc_is_integer : FnScope ["value"] ["value"] (defScope s_is_integer) := ⟨rfl, rfl, rfl, by decide +kernel, rfl, by decide +kernel, by decide +kernel⟩
abbrev s_is_number : Stmt := top 8
abbrev N_is_number : List Str := ["value"]
theorem sc_is_number : FnScope ["value"] ["value"] (defScope s_is_number) := ⟨rfl, rfl, rfl, by decide +kernel, rfl, by decide +kernel, by decide +kernel⟩
abbrev s_want_number : Stmt := top 9
abbrev N_want_number : List Str := ["value"]
theorem sc_want_number : FnScope ["value"] ["value"] (defScope s_want_number) := ⟨rfl, rfl, rfl, by decide +kernel, rfl, by decide +kernel, by decide +kernel⟩
abbrev s_as_ratio : Stmt := top 10
abbrev N_as_ratio : List Str := ["value"]
theorem sc_as_ratio : FnScope ["value"] ["value"] (defScope s_as_ratio) := ⟨rfl, rfl, rfl, by decide +kernel, rfl, by decide +kernel, by decide +kernel⟩
abbrev s_common_divisor : Stmt := top 11
abbrev N_common_divisor : List Str := ["one", "other"]
theorem sc_common_divisor : FnScope ["one", "other"] ["one", "other"] (defScope s_common_divisor) := ⟨rfl, rfl, rfl, by decide +kernel, rfl, by decide +kernel, by decide +kernel⟩
abbrev s_Ratio_init : Stmt := inClass (top 12) 0
abbrev N_Ratio_init : List Str := ["self", "top", "bottom", "divisor"]
theorem sc_Ratio_init : FnScope ["self", "top", "bottom", "divisor"] ["self", "top", "bottom"] (defScope s_Ratio_init) := ⟨rfl, rfl, rfl, by decide +kernel, rfl, by decide +kernel, by decide +kernel⟩
abbrev s_Ratio_total : Stmt := inClass (top 12) 1
abbrev N_Ratio_total : List Str := ["cls", "numbers", "number", "found"]
theorem sc_Ratio_total : FnScope ["cls", "numbers", "number", "found"] ["cls", "numbers"] (defScope s_Ratio_total) := ⟨rfl, rfl, rfl, by decide +kernel, rfl, by decide +kernel, by decide +kernel⟩
abbrev s_Ratio_top : Stmt := inClass (top 12) 2
abbrev N_Ratio_top : List Str := ["self"]
theorem sc_Ratio_top : FnScope ["self"] ["self"] (defScope s_Ratio_top) := ⟨rfl, rfl, rfl, by decide +kernel, rfl, by decide +kernel, by decide +kernel⟩
abbrev s_Ratio_bottom : Stmt := inClass (top 12) 3
abbrev N_Ratio_bottom : List Str := ["self"]
theorem sc_Ratio_bottom : FnScope ["self"] ["self"] (defScope s_Ratio_bottom) := ⟨rfl, rfl, rfl, by decide +kernel, rfl, by decide +kernel, by decide +kernel⟩
abbrev s_Ratio_sign : Stmt := inClass (top 12) 4
abbrev N_Ratio_sign : List Str := ["self"]
theorem sc_Ratio_sign : FnScope ["self"] ["self"] (defScope s_Ratio_sign) := ⟨rfl, rfl, rfl, by decide +kernel, rfl, by decide +kernel, by decide +kernel⟩
abbrev s_Ratio_over : Stmt := inClass (top 12) 5
abbrev N_Ratio_over : List Str := ["self", "other", "by"]
theorem sc_Ratio_over : FnScope ["self", "other", "by"] ["self", "other"] (defScope s_Ratio_over) := ⟨rfl, rfl, rfl, by decide +kernel, rfl, by decide +kernel, by decide +kernel⟩
abbrev s_Ratio_add : Stmt := inClass (top 12) 7
abbrev N_Ratio_add : List Str := ["self", "other", "more", "top"]
theorem sc_Ratio_add : FnScope ["self", "other", "more", "top"] ["self", "other"] (defScope s_Ratio_add) := ⟨rfl, rfl, rfl, by decide +kernel, rfl, by decide +kernel, by decide +kernel⟩
abbrev s_Ratio_radd : Stmt := inClass (top 12) 8
abbrev N_Ratio_radd : List Str := ["self", "other"]
theorem sc_Ratio_radd : FnScope ["self", "other"] ["self", "other"] (defScope s_Ratio_radd) := ⟨rfl, rfl, rfl, by decide +kernel, rfl, by decide +kernel, by decide +kernel⟩
abbrev s_Ratio_sub : Stmt := inClass (top 12) 9
abbrev N_Ratio_sub : List Str := ["self", "other"]
theorem sc_Ratio_sub : FnScope ["self", "other"] ["self", "other"] (defScope s_Ratio_sub) := ⟨rfl, rfl, rfl, by decide +kernel, rfl, by decide +kernel, by decide +kernel⟩
abbrev s_Ratio_rsub : Stmt := inClass (top 12) 10
abbrev N_Ratio_rsub : List Str := ["self", "other"]
theorem sc_Ratio_rsub : FnScope ["self", "other"] ["self", "other"] (defScope s_Ratio_rsub) := ⟨rfl, rfl, rfl, by decide +kernel, rfl, by decide +kernel, by decide +kernel⟩
abbrev s_Ratio_mul : Stmt := inClass (top 12) 11
abbrev N_Ratio_mul : List Str := ["self", "other", "by"]
theorem sc_Ratio_mul : FnScope ["self", "other", "by"] ["self", "other"] (defScope s_Ratio_mul) := ⟨rfl, rfl, rfl, by decide +kernel, rfl, by decide +kernel, by decide +kernel⟩
abbrev s_Ratio_rmul : Stmt := inClass (top 12) 12
abbrev N_Ratio_rmul : List Str := ["self", "other"]
theorem sc_Ratio_rmul : FnScope ["self", "other"] ["self", "other"] (defScope s_Ratio_rmul) := ⟨rfl, rfl, rfl, by decide +kernel, rfl, by decide +kernel, by decide +kernel⟩
abbrev s_Ratio_neg : Stmt := inClass (top 12) 13
abbrev N_Ratio_neg : List Str := ["self"]
theorem sc_Ratio_neg : FnScope ["self"] ["self"] (defScope s_Ratio_neg) := ⟨rfl, rfl, rfl, by decide +kernel, rfl, by decide +kernel, by decide +kernel⟩
abbrev s_Ratio_str : Stmt := inClass (top 12) 15
abbrev N_Ratio_str : List Str := ["self"]
theorem sc_Ratio_str : FnScope ["self"] ["self"] (defScope s_Ratio_str) := ⟨rfl, rfl, rfl, by decide +kernel, rfl, by decide +kernel, by decide +kernel⟩
abbrev s_Ratio_repr : Stmt := inClass (top 12) 16
abbrev N_Ratio_repr : List Str := ["self"]
theorem sc_Ratio_repr : FnScope ["self"] ["self"] (defScope s_Ratio_repr) := ⟨rfl, rfl, rfl, by decide +kernel, rfl, by decide +kernel, by decide +kernel⟩
abbrev s_law_pot : Stmt := top 14
abbrev N_law_pot : List Str := ["_law_script", "_law_k", "_law_cell"]
theorem sc_law_pot : FnScope ["_law_script", "_law_k", "_law_cell"] ["_law_script", "_law_k"] (defScope s_law_pot) := ⟨rfl, rfl, rfl, by decide +kernel, rfl, by decide +kernel, by decide +kernel⟩
abbrev s_law_draw : Stmt := top 15
abbrev N_law_draw : List Str := ["_law_pot_here", "_law_many", "_law_digit"]
theorem sc_law_draw : FnScope ["_law_pot_here", "_law_many", "_law_digit"] ["_law_pot_here", "_law_many"] (defScope s_law_draw) := ⟨rfl, rfl, rfl, by decide +kernel, rfl, by decide +kernel, by decide +kernel⟩
abbrev s_law_pick : Stmt := top 16
abbrev N_law_pick : List Str := ["_law_pot_here", "_law_some"]
theorem sc_law_pick : FnScope ["_law_pot_here", "_law_some"] ["_law_pot_here", "_law_some"] (defScope s_law_pick) := ⟨rfl, rfl, rfl, by decide +kernel, rfl, by decide +kernel, by decide +kernel⟩
abbrev s_law_common : Stmt := top 17
abbrev N_law_common : List Str := ["_law_one", "_law_two"]
theorem sc_law_common : FnScope ["_law_one", "_law_two"] ["_law_one", "_law_two"] (defScope s_law_common) := ⟨rfl, rfl, rfl, by decide +kernel, rfl, by decide +kernel, by decide +kernel⟩
abbrev s_law_low : Stmt := top 18
abbrev N_law_low : List Str := ["_law_up", "_law_low_here", "_law_by"]
theorem sc_law_low : FnScope ["_law_up", "_law_low_here", "_law_by"] ["_law_up", "_law_low_here"] (defScope s_law_low) := ⟨rfl, rfl, rfl, by decide +kernel, rfl, by decide +kernel, by decide +kernel⟩
abbrev s_law_plus : Stmt := top 19
abbrev N_law_plus : List Str := ["_law_a", "_law_b"]
theorem sc_law_plus : FnScope ["_law_a", "_law_b"] ["_law_a", "_law_b"] (defScope s_law_plus) := ⟨rfl, rfl, rfl, by decide +kernel, rfl, by decide +kernel, by decide +kernel⟩
abbrev s_law_minus : Stmt := top 20
abbrev N_law_minus : List Str := ["_law_a", "_law_b"]
theorem sc_law_minus : FnScope ["_law_a", "_law_b"] ["_law_a", "_law_b"] (defScope s_law_minus) := ⟨rfl, rfl, rfl, by decide +kernel, rfl, by decide +kernel, by decide +kernel⟩
abbrev s_law_times : Stmt := top 21
abbrev N_law_times : List Str := ["_law_a", "_law_b"]
theorem sc_law_times : FnScope ["_law_a", "_law_b"] ["_law_a", "_law_b"] (defScope s_law_times) := ⟨rfl, rfl, rfl, by decide +kernel, rfl, by decide +kernel, by decide +kernel⟩
abbrev s_law_integer : Stmt := top 22
abbrev N_law_integer : List Str := ["_law_pot_here", "_law_found"]
theorem sc_law_integer : FnScope ["_law_pot_here", "_law_found"] ["_law_pot_here"] (defScope s_law_integer) := ⟨rfl, rfl, rfl, by decide +kernel, rfl, by decide +kernel, by decide +kernel⟩
abbrev s_law_parts : Stmt := top 23
abbrev N_law_parts : List Str := ["_law_pot_here", "_law_up", "_law_low_here"]
theorem sc_law_parts : FnScope ["_law_pot_here", "_law_up", "_law_low_here"] ["_law_pot_here"] (defScope s_law_parts) := ⟨rfl, rfl, rfl, by decide +kernel, rfl, by decide +kernel, by decide +kernel⟩
abbrev s_law_is : Stmt := top 24
abbrev N_law_is : List Str := ["_law_made", "_law_due", "_law_up", "_law_low_here", "_law_sign", "_law_text", "_law_shown", "_law_told"]
theorem sc_law_is : FnScope ["_law_made", "_law_due", "_law_up", "_law_low_here", "_law_sign", "_law_text", "_law_shown", "_law_told"] ["_law_made", "_law_due"] (defScope s_law_is) := ⟨rfl, rfl, rfl, by decide +kernel, rfl, by decide +kernel, by decide +kernel⟩
abbrev s_law_of_two : Stmt := top 25
abbrev N_law_of_two : List Str := ["_law_pot_here", "_law_one", "_law_two", "_law_a", "_law_b", "_law_way", "_law_made"]
theorem sc_law_of_two : FnScope ["_law_pot_here", "_law_one", "_law_two", "_law_a", "_law_b", "_law_way", "_law_made"] ["_law_pot_here", "_law_one", "_law_two", "_law_a", "_law_b"] (defScope s_law_of_two) := ⟨rfl, rfl, rfl, by decide +kernel, rfl, by decide +kernel, by decide +kernel⟩
abbrev s_law_of_integer : Stmt := top 26
abbrev N_law_of_integer : List Str := ["_law_pot_here", "_law_one", "_law_a", "_law_n", "_law_way", "_law_b"]
theorem sc_law_of_integer : FnScope ["_law_pot_here", "_law_one", "_law_a", "_law_n", "_law_way", "_law_b"] ["_law_pot_here", "_law_one", "_law_a"] (defScope s_law_of_integer) := ⟨rfl, rfl, rfl, by decide +kernel, rfl, by decide +kernel, by decide +kernel⟩
abbrev s_law_total : Stmt := top 27
abbrev N_law_total : List Str := ["_law_row"]
theorem sc_law_total : FnScope ["_law_row"] ["_law_row"] (defScope s_law_total) := ⟨rfl, rfl, rfl, by decide +kernel, rfl, by decide +kernel, by decide +kernel⟩
abbrev s_law_of_some : Stmt := top 28
abbrev N_law_of_some : List Str := ["_law_pot_here", "_law_bag", "_law_pairs", "_law_some", "_law_due", "_law_turn", "_law_at", "_law_n", "_law_is_whole"]
theorem sc_law_of_some : FnScope ["_law_pot_here", "_law_bag", "_law_pairs", "_law_some", "_law_due", "_law_turn", "_law_at", "_law_n", "_law_is_whole"] ["_law_pot_here", "_law_bag", "_law_pairs"] (defScope s_law_of_some) := ⟨rfl, rfl, rfl, by decide +kernel, rfl, by decide +kernel, by decide +kernel⟩
abbrev s_law_deed : Stmt := top 29
abbrev N_law_deed : List Str := ["_law_pot_here", "_law_bag", "_law_pairs", "_law_at", "_law_on", "_law_way"]
theorem sc_law_deed : FnScope ["_law_pot_here", "_law_bag", "_law_pairs", "_law_at", "_law_on", "_law_way"] ["_law_pot_here", "_law_bag", "_law_pairs"] (defScope s_law_deed) := ⟨rfl, rfl, rfl, by decide +kernel, rfl, by decide +kernel, by decide +kernel⟩
abbrev s_law_right : Stmt := top 30
abbrev N_law_right : List Str := ["_law_pot_here", "_law_bag", "_law_pairs", "_law_turn", "_law_up", "_law_low_here", "_law_made", "_law_due", "_law_n", "_law_one"]
theorem sc_law_right : FnScope ["_law_pot_here", "_law_bag", "_law_pairs", "_law_turn", "_law_up", "_law_low_here", "_law_made", "_law_due", "_law_n", "_law_one"] ["_law_pot_here"] (defScope s_law_right) := ⟨rfl, rfl, rfl, by decide +kernel, rfl, by decide +kernel, by decide +kernel⟩
abbrev s_law : Stmt := top 31
abbrev N_law : List Str := ["_law_script", "_law_k"]
theorem sc_law : FnScope ["_law_script", "_law_k"] ["_law_script"] (defScope s_law) := ⟨rfl, rfl, rfl, by decide +kernel, rfl, by decide +kernel, by decide +kernel⟩
structure Txt (K : PySem.W.Frag) (mg : Str → Option Value) : Prop where
  f_isinstance : mg "isinstance" = none
  f_int : mg "int" = none
  f_bool : mg "bool" = none
  f_abs : mg "abs" = none
  f_str : mg "str" = none
  f_len : mg "len" = none
  f_max : mg "max" = none
  f_min : mg "min" = none
  f_range : mg "range" = none
  f_divmod : mg "divmod" = none
  f_repr : mg "repr" = none
  f_all : mg "all" = none
  f_zip : mg "zip" = none
  g_Ratio : mg "Ratio" = some (.ref (He.ga K "Ratio"))
  cl_Ratio : Cls K (He.ga K "Ratio")
  mk_Ratio : Mk K (He.ga K "Ratio") (He.ma K (He.ga K "Ratio") "__init__")
  n_Ratio_own_top : NoAttr K (He.ga K "Ratio") "own_top"
  n_Ratio_own_bottom : NoAttr K (He.ga K "Ratio") "own_bottom"
  ca_Ratio : PySem.W.findIn K (.ref (He.ga K "Ratio")) "__class__" = some (some (.builtin "object.__class__"))
  cm_Ratio : PySem.W.mroIn K (He.ga K "Ratio") (.type "object") = some true
  ki_Ratio_Ratio : PySem.W.kitOne K (.ref (He.ga K "Ratio")) (.ref (He.ga K "Ratio")) = some true
  kt_Ratio_int : PySem.W.kitOne K (.ref (He.ga K "Ratio")) (.type "int") = some false
  kt_Ratio_bool : PySem.W.kitOne K (.ref (He.ga K "Ratio")) (.type "bool") = some false
  kt_Ratio_str : PySem.W.kitOne K (.ref (He.ga K "Ratio")) (.type "str") = some false
  kt_Ratio_list : PySem.W.kitOne K (.ref (He.ga K "Ratio")) (.type "list") = some false
  kt_Ratio_tuple : PySem.W.kitOne K (.ref (He.ga K "Ratio")) (.type "tuple") = some false
  kt_Ratio_dict : PySem.W.kitOne K (.ref (He.ga K "Ratio")) (.type "dict") = some false
  kb_int_Ratio : PySem.W.kitOne K (.type "int") (.ref (He.ga K "Ratio")) = some false
  kb_bool_Ratio : PySem.W.kitOne K (.type "bool") (.ref (He.ga K "Ratio")) = some false
  kb_str_Ratio : PySem.W.kitOne K (.type "str") (.ref (He.ga K "Ratio")) = some false
  kb_list_Ratio : PySem.W.kitOne K (.type "list") (.ref (He.ga K "Ratio")) = some false
  kb_tuple_Ratio : PySem.W.kitOne K (.type "tuple") (.ref (He.ga K "Ratio")) = some false
  kb_dict_Ratio : PySem.W.kitOne K (.type "dict") (.ref (He.ga K "Ratio")) = some false
  kb_NoneType_Ratio : PySem.W.kitOne K (.type "NoneType") (.ref (He.ga K "Ratio")) = some false
  cr_Ratio : ClX.CRead K (He.ga K "Ratio") (.type "type")
  oc : PySem.W.specialIn K (.builtin "object.__class__") "__get__" = some (some (.builtin "getset_descriptor.__get__"))
  ot : PySem.W.takesIn K (.builtin "object.__class__") = some true
  d_is_integer : ∃ fd, FunD K "is_integer" "is_integer" (defArgs s_is_integer) (defBody s_is_integer) (defScope s_is_integer) [] [] (He.ga K "is_integer") fd
  g_is_integer : mg "is_integer" = some (.ref (He.ga K "is_integer"))
  k_is_integer : PySem.W.keepIn K (.ref (He.ga K "is_integer")) = true
  d_is_number : ∃ fd, FunD K "is_number" "is_number" (defArgs s_is_number) (defBody s_is_number) (defScope s_is_number) [] [] (He.ga K "is_number") fd
  g_is_number : mg "is_number" = some (.ref (He.ga K "is_number"))
  k_is_number : PySem.W.keepIn K (.ref (He.ga K "is_number")) = true
  d_want_number : ∃ fd, FunD K "want_number" "want_number" (defArgs s_want_number) (defBody s_want_number) (defScope s_want_number) [] [] (He.ga K "want_number") fd
  g_want_number : mg "want_number" = some (.ref (He.ga K "want_number"))
  k_want_number : PySem.W.keepIn K (.ref (He.ga K "want_number")) = true
  d_as_ratio : ∃ fd, FunD K "as_ratio" "as_ratio" (defArgs s_as_ratio) (defBody s_as_ratio) (defScope s_as_ratio) [] [] (He.ga K "as_ratio") fd
  g_as_ratio : mg "as_ratio" = some (.ref (He.ga K "as_ratio"))
  k_as_ratio : PySem.W.keepIn K (.ref (He.ga K "as_ratio")) = true
  d_common_divisor : ∃ fd, FunD K "common_divisor" "common_divisor" (defArgs s_common_divisor) (defBody s_common_divisor) (defScope s_common_divisor) [] [] (He.ga K "common_divisor") fd
  g_common_divisor : mg "common_divisor" = some (.ref (He.ga K "common_divisor"))
  k_common_divisor : PySem.W.keepIn K (.ref (He.ga K "common_divisor")) = true
  d_Ratio_init : ∃ fd, FunD K "__init__" "Ratio.__init__" (defArgs s_Ratio_init) (defBody s_Ratio_init) (defScope s_Ratio_init) [V.int 1] [] (He.ma K (He.ga K "Ratio") "__init__") fd
  m_Ratio_init : Meth K (He.ga K "Ratio") "__init__" (He.ma K (He.ga K "Ratio") "__init__")
  d_Ratio_total : ∃ fd, FunD K "total" "Ratio.total" (defArgs s_Ratio_total) (defBody s_Ratio_total) (defScope s_Ratio_total) [] [] (He5.wf K (He.ga K "Ratio") "classmethod" "total") fd
  cm_Ratio_total : ClX.CMet K (He.ga K "Ratio") (.type "type") "total" (He.ma K (He.ga K "Ratio") "total") (He5.wf K (He.ga K "Ratio") "classmethod" "total")
  d_Ratio_top : ∃ fd, FunD K "top" "Ratio.top" (defArgs s_Ratio_top) (defBody s_Ratio_top) (defScope s_Ratio_top) [] [] (He5.wf K (He.ga K "Ratio") "property" "top") fd
  p_Ratio_top : PropOf K (He.ga K "Ratio") "top" (He.ma K (He.ga K "Ratio") "top") (He5.wf K (He.ga K "Ratio") "property" "top")
  d_Ratio_bottom : ∃ fd, FunD K "bottom" "Ratio.bottom" (defArgs s_Ratio_bottom) (defBody s_Ratio_bottom) (defScope s_Ratio_bottom) [] [] (He5.wf K (He.ga K "Ratio") "property" "bottom") fd
  p_Ratio_bottom : PropOf K (He.ga K "Ratio") "bottom" (He.ma K (He.ga K "Ratio") "bottom") (He5.wf K (He.ga K "Ratio") "property" "bottom")
  d_Ratio_sign : ∃ fd, FunD K "sign" "Ratio.sign" (defArgs s_Ratio_sign) (defBody s_Ratio_sign) (defScope s_Ratio_sign) [] [] (He5.wf K (He.ga K "Ratio") "property" "sign") fd
  p_Ratio_sign : PropOf K (He.ga K "Ratio") "sign" (He.ma K (He.ga K "Ratio") "sign") (He5.wf K (He.ga K "Ratio") "property" "sign")
  d_Ratio_over : ∃ fd, FunD K "over" "Ratio.over" (defArgs s_Ratio_over) (defBody s_Ratio_over) (defScope s_Ratio_over) [] [] (He.ma K (He.ga K "Ratio") "over") fd
  m_Ratio_over : Meth K (He.ga K "Ratio") "over" (He.ma K (He.ga K "Ratio") "over")
  d_Ratio_add : ∃ fd, FunD K "__add__" "Ratio.__add__" (defArgs s_Ratio_add) (defBody s_Ratio_add) (defScope s_Ratio_add) [] [] (He.ma K (He.ga K "Ratio") "__add__") fd
  m_Ratio_add : Meth K (He.ga K "Ratio") "__add__" (He.ma K (He.ga K "Ratio") "__add__")
  o_Ratio_add : Z.OpC K (He.ga K "Ratio") "add" (He.ma K (He.ga K "Ratio") "__add__")
  d_Ratio_radd : ∃ fd, FunD K "__radd__" "Ratio.__radd__" (defArgs s_Ratio_radd) (defBody s_Ratio_radd) (defScope s_Ratio_radd) [] [] (He.ma K (He.ga K "Ratio") "__radd__") fd
  m_Ratio_radd : Meth K (He.ga K "Ratio") "__radd__" (He.ma K (He.ga K "Ratio") "__radd__")
  o_Ratio_radd : Z.OpR' K (He.ga K "Ratio") "add" (He.ma K (He.ga K "Ratio") "__radd__")
  d_Ratio_sub : ∃ fd, FunD K "__sub__" "Ratio.__sub__" (defArgs s_Ratio_sub) (defBody s_Ratio_sub) (defScope s_Ratio_sub) [] [] (He.ma K (He.ga K "Ratio") "__sub__") fd
  m_Ratio_sub : Meth K (He.ga K "Ratio") "__sub__" (He.ma K (He.ga K "Ratio") "__sub__")
  o_Ratio_sub : Z.OpC K (He.ga K "Ratio") "sub" (He.ma K (He.ga K "Ratio") "__sub__")
  d_Ratio_rsub : ∃ fd, FunD K "__rsub__" "Ratio.__rsub__" (defArgs s_Ratio_rsub) (defBody s_Ratio_rsub) (defScope s_Ratio_rsub) [] [] (He.ma K (He.ga K "Ratio") "__rsub__") fd
  m_Ratio_rsub : Meth K (He.ga K "Ratio") "__rsub__" (He.ma K (He.ga K "Ratio") "__rsub__")
  o_Ratio_rsub : Z.OpR' K (He.ga K "Ratio") "sub" (He.ma K (He.ga K "Ratio") "__rsub__")
  d_Ratio_mul : ∃ fd, FunD K "__mul__" "Ratio.__mul__" (defArgs s_Ratio_mul) (defBody s_Ratio_mul) (defScope s_Ratio_mul) [] [] (He.ma K (He.ga K "Ratio") "__mul__") fd
  m_Ratio_mul : Meth K (He.ga K "Ratio") "__mul__" (He.ma K (He.ga K "Ratio") "__mul__")
  o_Ratio_mul : Z.OpC K (He.ga K "Ratio") "mul" (He.ma K (He.ga K "Ratio") "__mul__")
  d_Ratio_rmul : ∃ fd, FunD K "__rmul__" "Ratio.__rmul__" (defArgs s_Ratio_rmul) (defBody s_Ratio_rmul) (defScope s_Ratio_rmul) [] [] (He.ma K (He.ga K "Ratio") "__rmul__") fd
  m_Ratio_rmul : Meth K (He.ga K "Ratio") "__rmul__" (He.ma K (He.ga K "Ratio") "__rmul__")
  o_Ratio_rmul : Z.OpR' K (He.ga K "Ratio") "mul" (He.ma K (He.ga K "Ratio") "__rmul__")
  d_Ratio_neg : ∃ fd, FunD K "__neg__" "Ratio.__neg__" (defArgs s_Ratio_neg) (defBody s_Ratio_neg) (defScope s_Ratio_neg) [] [] (He.ma K (He.ga K "Ratio") "__neg__") fd
  m_Ratio_neg : Meth K (He.ga K "Ratio") "__neg__" (He.ma K (He.ga K "Ratio") "__neg__")
  a_Ratio_neg : PySem.W.findIn K (.ref (He.ga K "Ratio")) "__neg__" = some (some (.ref (He.ma K (He.ga K "Ratio") "__neg__")))
  i_Ratio_neg : PySem.W.isFn K (.ref (He.ma K (He.ga K "Ratio") "__neg__")) = true
  d_Ratio_str : ∃ fd, FunD K "__str__" "Ratio.__str__" (defArgs s_Ratio_str) (defBody s_Ratio_str) (defScope s_Ratio_str) [] [] (He.ma K (He.ga K "Ratio") "__str__") fd
  m_Ratio_str : Meth K (He.ga K "Ratio") "__str__" (He.ma K (He.ga K "Ratio") "__str__")
  a_Ratio_str : PySem.W.findIn K (.ref (He.ga K "Ratio")) "__str__" = some (some (.ref (He.ma K (He.ga K "Ratio") "__str__")))
  i_Ratio_str : PySem.W.isFn K (.ref (He.ma K (He.ga K "Ratio") "__str__")) = true
  d_Ratio_repr : ∃ fd, FunD K "__repr__" "Ratio.__repr__" (defArgs s_Ratio_repr) (defBody s_Ratio_repr) (defScope s_Ratio_repr) [] [] (He.ma K (He.ga K "Ratio") "__repr__") fd
  m_Ratio_repr : Meth K (He.ga K "Ratio") "__repr__" (He.ma K (He.ga K "Ratio") "__repr__")
  a_Ratio_repr : PySem.W.findIn K (.ref (He.ga K "Ratio")) "__repr__" = some (some (.ref (He.ma K (He.ga K "Ratio") "__repr__")))
  i_Ratio_repr : PySem.W.isFn K (.ref (He.ma K (He.ga K "Ratio") "__repr__")) = true
  d_law_pot : ∃ fd, FunD K "_law_pot" "_law_pot" (defArgs s_law_pot) (defBody s_law_pot) (defScope s_law_pot) [] [] (He.ga K "_law_pot") fd
  g_law_pot : mg "_law_pot" = some (.ref (He.ga K "_law_pot"))
  k_law_pot : PySem.W.keepIn K (.ref (He.ga K "_law_pot")) = true
  d_law_draw : ∃ fd, FunD K "_law_draw" "_law_draw" (defArgs s_law_draw) (defBody s_law_draw) (defScope s_law_draw) [] [] (He.ga K "_law_draw") fd
  g_law_draw : mg "_law_draw" = some (.ref (He.ga K "_law_draw"))
  k_law_draw : PySem.W.keepIn K (.ref (He.ga K "_law_draw")) = true
  d_law_pick : ∃ fd, FunD K "_law_pick" "_law_pick" (defArgs s_law_pick) (defBody s_law_pick) (defScope s_law_pick) [] [] (He.ga K "_law_pick") fd
  g_law_pick : mg "_law_pick" = some (.ref (He.ga K "_law_pick"))
  k_law_pick : PySem.W.keepIn K (.ref (He.ga K "_law_pick")) = true
  d_law_common : ∃ fd, FunD K "_law_common" "_law_common" (defArgs s_law_common) (defBody s_law_common) (defScope s_law_common) [] [] (He.ga K "_law_common") fd
  g_law_common : mg "_law_common" = some (.ref (He.ga K "_law_common"))
  k_law_common : PySem.W.keepIn K (.ref (He.ga K "_law_common")) = true
  d_law_low : ∃ fd, FunD K "_law_low" "_law_low" (defArgs s_law_low) (defBody s_law_low) (defScope s_law_low) [] [] (He.ga K "_law_low") fd
  g_law_low : mg "_law_low" = some (.ref (He.ga K "_law_low"))
  k_law_low : PySem.W.keepIn K (.ref (He.ga K "_law_low")) = true
  d_law_plus : ∃ fd, FunD K "_law_plus" "_law_plus" (defArgs s_law_plus) (defBody s_law_plus) (defScope s_law_plus) [] [] (He.ga K "_law_plus") fd
  g_law_plus : mg "_law_plus" = some (.ref (He.ga K "_law_plus"))
  k_law_plus : PySem.W.keepIn K (.ref (He.ga K "_law_plus")) = true
  d_law_minus : ∃ fd, FunD K "_law_minus" "_law_minus" (defArgs s_law_minus) (defBody s_law_minus) (defScope s_law_minus) [] [] (He.ga K "_law_minus") fd
  g_law_minus : mg "_law_minus" = some (.ref (He.ga K "_law_minus"))
  k_law_minus : PySem.W.keepIn K (.ref (He.ga K "_law_minus")) = true
  d_law_times : ∃ fd, FunD K "_law_times" "_law_times" (defArgs s_law_times) (defBody s_law_times) (defScope s_law_times) [] [] (He.ga K "_law_times") fd
  g_law_times : mg "_law_times" = some (.ref (He.ga K "_law_times"))
  k_law_times : PySem.W.keepIn K (.ref (He.ga K "_law_times")) = true
  d_law_integer : ∃ fd, FunD K "_law_integer" "_law_integer" (defArgs s_law_integer) (defBody s_law_integer) (defScope s_law_integer) [] [] (He.ga K "_law_integer") fd
  g_law_integer : mg "_law_integer" = some (.ref (He.ga K "_law_integer"))
  k_law_integer : PySem.W.keepIn K (.ref (He.ga K "_law_integer")) = true
  d_law_parts : ∃ fd, FunD K "_law_parts" "_law_parts" (defArgs s_law_parts) (defBody s_law_parts) (defScope s_law_parts) [] [] (He.ga K "_law_parts") fd
  g_law_parts : mg "_law_parts" = some (.ref (He.ga K "_law_parts"))
  k_law_parts : PySem.W.keepIn K (.ref (He.ga K "_law_parts")) = true
  d_law_is : ∃ fd, FunD K "_law_is" "_law_is" (defArgs s_law_is) (defBody s_law_is) (defScope s_law_is) [] [] (He.ga K "_law_is") fd
  g_law_is : mg "_law_is" = some (.ref (He.ga K "_law_is"))
  k_law_is : PySem.W.keepIn K (.ref (He.ga K "_law_is")) = true
  d_law_of_two : ∃ fd, FunD K "_law_of_two" "_law_of_two" (defArgs s_law_of_two) (defBody s_law_of_two) (defScope s_law_of_two) [] [] (He.ga K "_law_of_two") fd
  g_law_of_two : mg "_law_of_two" = some (.ref (He.ga K "_law_of_two"))
  k_law_of_two : PySem.W.keepIn K (.ref (He.ga K "_law_of_two")) = true
  d_law_of_integer : ∃ fd, FunD K "_law_of_integer" "_law_of_integer" (defArgs s_law_of_integer) (defBody s_law_of_integer) (defScope s_law_of_integer) [] [] (He.ga K "_law_of_integer") fd
  g_law_of_integer : mg "_law_of_integer" = some (.ref (He.ga K "_law_of_integer"))
  k_law_of_integer : PySem.W.keepIn K (.ref (He.ga K "_law_of_integer")) = true
  d_law_total : ∃ fd, FunD K "_law_total" "_law_total" (defArgs s_law_total) (defBody s_law_total) (defScope s_law_total) [] [] (He.ga K "_law_total") fd
  g_law_total : mg "_law_total" = some (.ref (He.ga K "_law_total"))
  k_law_total : PySem.W.keepIn K (.ref (He.ga K "_law_total")) = true
  d_law_of_some : ∃ fd, FunD K "_law_of_some" "_law_of_some" (defArgs s_law_of_some) (defBody s_law_of_some) (defScope s_law_of_some) [] [] (He.ga K "_law_of_some") fd
  g_law_of_some : mg "_law_of_some" = some (.ref (He.ga K "_law_of_some"))
  k_law_of_some : PySem.W.keepIn K (.ref (He.ga K "_law_of_some")) = true
  d_law_deed : ∃ fd, FunD K "_law_deed" "_law_deed" (defArgs s_law_deed) (defBody s_law_deed) (defScope s_law_deed) [] [] (He.ga K "_law_deed") fd
  g_law_deed : mg "_law_deed" = some (.ref (He.ga K "_law_deed"))
  k_law_deed : PySem.W.keepIn K (.ref (He.ga K "_law_deed")) = true
  d_law_right : ∃ fd, FunD K "_law_right" "_law_right" (defArgs s_law_right) (defBody s_law_right) (defScope s_law_right) [] [] (He.ga K "_law_right") fd
  g_law_right : mg "_law_right" = some (.ref (He.ga K "_law_right"))
  k_law_right : PySem.W.keepIn K (.ref (He.ga K "_law_right")) = true
  d_law : ∃ fd, FunD K "law" "law" (defArgs s_law) (defBody s_law) (defScope s_law) [] [] (He.ga K "law") fd
  g_law : mg "law" = some (.ref (He.ga K "law"))
  k_law : PySem.W.keepIn K (.ref (He.ga K "law")) = true
/-! ### numbers and ratios in the heap -/
abbrev RC (K : PySem.W.Frag) : Addr := He.ga K "Ratio"
def rfs (t b : Int) : List (Str × V) := [("own_top", .int t), ("own_bottom", .int b)]
/-- v is a Ratio of the two integers -/
def RatV (K : PySem.W.Frag) (H : Hp) (v : V) (p : Int × Int) : Prop := (∃ a dx, v = .ref a ∧ H a = some (.ins (RC K) dx (rfs p.1 p.2))) ∧ M.Red p
/-- v is a number -/
def NumV (K : PySem.W.Frag) (H : Hp) (v : V) (p : Int × Int) : Prop := RatV K H v p ∨ ∃ n, v = .int n ∧ p = (n, 1)
theorem RatV.up {K : PySem.W.Frag} {H H' : Hp} {v : V} {p : Int × Int} (h : RatV K H v p) (s : Same H H') : RatV K H' v p := by
  obtain ⟨⟨a, dx, e, ha⟩, r⟩ := h
  exact ⟨⟨a, dx, e, s _ _ ha⟩, r⟩
theorem NumV.up {K : PySem.W.Frag} {H H' : Hp} {v : V} {p : Int × Int} (h : NumV K H v p) (s : Same H H') : NumV K H' v p := by
  rcases h with h | h
  · exact .inl (h.up s)
  · exact .inr h
theorem NumV.red {K : PySem.W.Frag} {H : Hp} {v : V} {p : Int × Int} (h : NumV K H v p) : M.Red p := by
  rcases h with h | ⟨n, _, e⟩
  · exact h.2
  · rw [e]
    exact M.red_int n
theorem same_new {H : Hp} {p : Addr} {o : HO} (h : H p = none) : Same H (upd H p o) := fun b u e => by
  rw [upd_ne (ne_of_none e h)]
  exact e
/-- what isinstance says of a value: of int, of bool, of Ratio -/
structure Kind (K : PySem.W.Frag) (H : Hp) (v : V) (bi bb br : Bool) : Prop where
  ex : ∃ t, TyX K H v t ∧ PySem.W.kitOne K t (.type "int") = some bi ∧ PySem.W.kitOne K t (.type "bool") = some bb ∧ PySem.W.kitOne K t (.ref (RC K)) = some br
section
variable {K : PySem.W.Frag} {mg : Str → Option Value} {H : Hp}
theorem ty_rat (T : Txt K mg) {a dx : Addr} {fs : List (Str × V)} (h : H a = some (.ins (RC K) dx fs)) : TyX K H (.ref a) (.ref (RC K)) := .base (.ins h T.cl_Ratio T.ca_Ratio T.oc T.ot T.cm_Ratio)
theorem kind_rat (T : Txt K mg) {v : V} {p : Int × Int} (h : RatV K H v p) : Kind K H v false false true := by
  obtain ⟨⟨a, dx, rfl, ha⟩, _⟩ := h
  exact ⟨_, ty_rat T ha, T.kt_Ratio_int, T.kt_Ratio_bool, T.ki_Ratio_Ratio⟩
theorem kind_int (T : Txt K mg) (n : Int) : Kind K H (.int n) true false false := ⟨_, .base (.int n), kit_ty (by decide +kernel), kit_ty (by decide +kernel), T.kb_int_Ratio⟩
theorem kind_num (T : Txt K mg) {v : V} {p : Int × Int} (h : NumV K H v p) : ∃ bi bb br, Kind K H v bi bb br ∧ ((bi && !bb) || br) = true := by
  rcases h with h | ⟨n, rfl, _⟩
  · exact ⟨_, _, _, kind_rat T h, rfl⟩
  · exact ⟨_, _, _, kind_int T n, rfl⟩
end
/-! ### is_integer, is_number, want_number -/
def spIsInt (K : PySem.W.Frag) : Sp := fun vs H Q _ => ∃ v bi bb br, vs = [v] ∧ Kind K H v bi bb br ∧ Q (.bl (bi && !bb)) H
def spIsNum (K : PySem.W.Frag) : Sp := fun vs H Q _ => ∃ v bi bb br, vs = [v] ∧ Kind K H v bi bb br ∧ Q (.bl ((bi && !bb) || br)) H
def spWant (K : PySem.W.Frag) : Sp := fun vs H Q _ => ∃ v bi bb br, vs = [v] ∧ Kind K H v bi bb br ∧ ((bi && !bb) || br) = true ∧ Q .non H
theorem ok_is_integer {P : Program} {w : World} {K : PySem.W.Frag} {mg : Str → Option Value} {base : Heap} (T : Txt K mg) : FnR P w K mg base (L2.CX P w) 1 (He.ga K "is_integer") ((spIsInt K)) := by
  obtain ⟨fd, F⟩ := T.d_is_integer
  refine Z.fnr F sc_is_integer (fun _ _ _ _ _ _ us hl => match us, hl with | [_], _ => rfl) (fun vs H Q E h => ?_) (fun cdv A outer s H vs Q E hr h => ?_)
  · obtain ⟨v, bi, bb, br, rfl, ⟨t, ty, h1, h2, h3⟩, k⟩ := h
    rfl
  obtain ⟨v, bi, bb, br, rfl, ⟨t, ty, h1, h2, h3⟩, k⟩ := h
  refine ⟨_, PSs.nox (pss_one (ps_ret (pe_and (pe_callB call_isi (by rfl) T.f_isinstance (by decide +kernel) (pa_cons (pv 0) (pa_cons (pe_bltn (v := .ty "int") rfl T.f_int (by decide +kernel) rfl) pa_nil))) (pe_one (pe_not (pe_callB call_isi (by rfl) T.f_isinstance (by decide +kernel) (pa_cons (pv 0) (pa_cons (pe_bltn (v := .ty "bool") rfl T.f_bool (by decide +kernel) rfl) pa_nil)))))))), ?_⟩
  refine ⟨_, rfl, v, .ty "int", t, _, bi, rfl, .ty _, ty, h1, _, rfl, ?_⟩
  cases bi with
  | false => exact iteF k
  | true => exact iteT ⟨_, rfl, v, .ty "bool", t, _, bb, rfl, .ty _, ty, h2, _, rfl, k⟩
theorem ok_is_number {P : Program} {w : World} {K : PySem.W.Frag} {mg : Str → Option Value} {base : Heap} (T : Txt K mg) : FnR P w K mg base (L2.CX P w) 2 (He.ga K "is_number") ((spIsNum K)) := by
  obtain ⟨fd, F⟩ := T.d_is_number
  refine Z.fnr F sc_is_number (fun _ _ _ _ _ _ us hl => match us, hl with | [_], _ => rfl) (fun vs H Q E h => ?_) (fun cdv A outer s H vs Q E hr h => ?_)
  · obtain ⟨v, bi, bb, br, rfl, kd, k⟩ := h
    rfl
  obtain ⟨v, bi, bb, br, rfl, kd, k⟩ := h
  refine ⟨_, PSs.nox (pss_one (ps_ret (pe_or (Z.pe_cl (E := E0) (ok_is_integer T) (hr.mono (by decide)) T.g_is_integer T.k_is_integer passL (pa_cons (pv 0) pa_nil)) (pe_one (pe_callB call_isi (by rfl) T.f_isinstance (by decide +kernel) (pa_cons (pv 0) (pa_cons (pe_glob (v := .ref (He.ga K "Ratio")) rfl T.g_Ratio rfl) pa_nil))))))), ?_⟩
  have kd2 := kd
  obtain ⟨t, ty, h1, h2, h3⟩ := kd2
  refine ⟨_, rfl, v, bi, bb, br, rfl, kd, _, rfl, ?_⟩
  cases e : (bi && !bb) with
  | true =>
    rw [e] at k
    exact iteT k
  | false =>
    rw [e] at k
    exact iteF ⟨_, rfl, v, .ref (RC K), t, _, br, rfl, .own _, ty, h3, k⟩
theorem ok_want_number {P : Program} {w : World} {K : PySem.W.Frag} {mg : Str → Option Value} {base : Heap} (T : Txt K mg) : FnR P w K mg base (L2.CX P w) 3 (He.ga K "want_number") ((spWant K)) := by
  obtain ⟨fd, F⟩ := T.d_want_number
  refine Z.fnr F sc_want_number (fun _ _ _ _ _ _ us hl => match us, hl with | [_], _ => rfl) (fun vs H Q E h => ?_) (fun cdv A outer s H vs Q E hr h => ?_)
  · obtain ⟨v, bi, bb, br, rfl, kd, hb, k⟩ := h
    rfl
  obtain ⟨v, bi, bb, br, rfl, kd, hb, k⟩ := h
  refine ⟨_, PSs.nox (pss_one (ps_if (pt_not (pt_val (Z.pe_cl (E := E0) (ok_is_number T) (hr.mono (by decide)) T.g_is_number T.k_is_number passL (pa_cons (pv 0) pa_nil)))) (pss_never) (pss_nil))), ?_⟩
  refine ⟨_, rfl, v, bi, bb, br, rfl, kd, _, rfl, ?_⟩
  rw [hb]
  exact iteF k
/-! ### common_divisor -/
def spGcd : Sp := fun vs H Q _ => ∃ m n : Int, vs = [.int m, .int n] ∧ 0 ≤ m ∧ 0 ≤ n ∧ Q (.int (Int.gcd m n : Int)) H
theorem ok_common_divisor {P : Program} {w : World} {K : PySem.W.Frag} {mg : Str → Option Value} {base : Heap} (T : Txt K mg) : FnR P w K mg base (L2.CX P w) 1 (He.ga K "common_divisor") (spGcd) := by
  obtain ⟨fd, F⟩ := T.d_common_divisor
  refine Z.fnr F sc_common_divisor (fun _ _ _ _ _ _ us hl => match us, hl with | [_, _], _ => rfl) (fun vs H Q E h => ?_) (fun cdv A outer s H vs Q E hr h => ?_)
  · obtain ⟨m, n, rfl, hm, hn, k⟩ := h
    rfl
  obtain ⟨m, n, rfl, hm, hn, k⟩ := h
  refine ⟨_, PSs.nox (pss_cons (ps_while PassesOwn.never (pt_cmpR op_gt (pv 1) (pe_int) (nomark _)) (pss_one (ps_par (i := 0) (j := 1) (by rfl) sc_common_divisor.nd rfl rfl (by decide) rfl rfl (pa_cons (pv 1) (pa_cons (pe_op op_mod (pv 0) (pv 1)) pa_nil)) (by rfl)))) (pss_one (ps_ret (pv 0)))), ?_⟩
  refine ⟨fun c σ H' => ∃ a b : Int, σ = [some (.int a), some (.int b)] ∧ H' = H ∧ 0 ≤ a ∧ 0 ≤ b ∧ Int.gcd a b = Int.gcd m n ∧ c = b.toNat, ⟨_, m, n, rfl, rfl, hm, hn, rfl, rfl⟩, ?_⟩
  rintro c σ H' ⟨a, b, rfl, rfl, ha, hb, hg, rfl⟩
  refine ⟨_, rfl, _, _, rfl, rfl, _, rfl, ?_⟩
  by_cases hp : 0 < b
  · rw [decide_eq_true hp]
    refine iteT ⟨fun σ' H2 => ∃ m', m' < b.toNat ∧ ∃ a2 b2 : Int, σ' = [some (.int a2), some (.int b2)] ∧ H2 = H' ∧ 0 ≤ a2 ∧ 0 ≤ b2 ∧ Int.gcd a2 b2 = Int.gcd m n ∧ m' = b2.toNat, fun _ _ z => z, ?_⟩
    refine ⟨_, rfl, _, rfl, _, rfl, _, _, rfl, rfl, hp, _, _, rfl, ?_⟩
    have h1 := Int.emod_nonneg a (Int.ne_of_gt hp)
    have h2 := Int.emod_lt_of_pos a hp
    exact ⟨(a % b).toNat, by omega, b, a % b, rfl, rfl, hb, h1, (M.gcd_step ha hp).trans hg, rfl⟩
  · rw [decide_eq_false hp]
    have e : b = 0 := by omega
    subst e
    refine iteF ⟨_, rfl, ?_⟩
    rw [← hg, M.gcd_end ha] at k
    exact k
/-! ### Ratio.__init__ -/
theorem log_lt {x : Int} {n : Nat} (h : x.natAbs < 2 ^ n) (h0 : 0 < n) : x.natAbs.log2 < n := PySem.Flt.log2_lt_of h0 h
/-- the object x was made with the two integers; all else stands -/
def spInit (K : PySem.W.Frag) : Sp := fun vs H Q _ => ∃ (x dx : Addr) (t b : Int), vs = [.ref x, .int t, .int b] ∧ H x = some (.ins (RC K) dx []) ∧ b ≠ 0 ∧ t.natAbs < 2 ^ 8000 ∧ b.natAbs < 2 ^ 8000 ∧
  ∀ H', (∀ c o, c ≠ x → H c = some o → H' c = some o) → H' x = some (.ins (RC K) dx (rfs (M.low t b).1 (M.low t b).2)) → Q .non H'
theorem fst_ne : ¬ (("own_top" : Str) = "own_bottom") := by decide +kernel
theorem put_both (t b : Int) : putF "own_bottom" (.int b) (putF "own_top" (.int t) []) = rfs t b := by
  show (if ("own_top" : Str) = "own_bottom" then _ else (("own_top" : Str), V.int t) :: putF "own_bottom" (.int b) []) = _
  rw [if_neg fst_ne]
  rfl
theorem okb_Ratio_init {P : Program} {w : World} {K : PySem.W.Frag} {mg : Str → Option Value} {base : Heap} (T : Txt K mg) {fd : FuncData} (F : FunD K "__init__" "Ratio.__init__" (defArgs s_Ratio_init) (defBody s_Ratio_init) (defScope s_Ratio_init) [V.int 1] [] (He.ma K (He.ga K "Ratio") "__init__") fd) : FnOk P w K mg base (L2.CX P w) 2 (He.ma K (He.ga K "Ratio") "__init__") fd ["self", "top", "bottom"] ((spInit K)) := by
  refine F.ok sc_Ratio_init (fun vs H Q E h => ?_) (fun cdv A outer s H vs Q E hr h => ?_)
  · obtain ⟨x, dx, t, b, rfl, hx, hb, ht, hz, k⟩ := h
    rfl
  obtain ⟨x, dx, t, b, rfl, hx, hb, ht, hz, k⟩ := h
  refine ⟨_, PSs.nox (pss_cons (ps_if (pt_not (pt_val (Z.pe_cl (E := E0) (ok_is_integer T) (hr.mono (by decide)) T.g_is_integer T.k_is_integer passL (pa_cons (pv 1) pa_nil)))) (pss_never) (pss_nil)) (pss_cons (ps_if (PW.pt (pw_or (pt_not (pt_val (Z.pe_cl (E := E0) (ok_is_integer T) (hr.mono (by decide)) T.g_is_integer T.k_is_integer passL (pa_cons (pv 2) pa_nil)))) (pw_or1 (pt_cmpR op_eq (pv 2) (pe_int) (nomark _))))) (pss_never) (pss_nil)) (pss_cons (ps_set (i := 3) sc_Ratio_init.nd rfl (Or.inl rfl) (Z.pe_cl (E := E0) (ok_common_divisor T) (hr.mono (by decide)) T.g_common_divisor T.k_common_divisor passL (pa_cons (pe_callB call_abs (by rfl) T.f_abs (by decide +kernel) (pa_cons (pv 1) pa_nil)) (pa_cons (pe_callB call_abs (by rfl) T.f_abs (by decide +kernel) (pa_cons (pv 2) pa_nil)) pa_nil)))) (pss_cons (ps_if (pt_cmpR op_lt (pv 2) (pe_int) (nomark _)) (pss_one (ps_set (i := 3) sc_Ratio_init.nd rfl (Or.inl rfl) (pe_un un_neg (pv 3)))) (pss_nil)) (pss_cons (ps_fld (pv 0) (pe_op Z.op_fdivZ (pv 1) (pv 3)) rfl) (pss_one (ps_fld (pv 0) (pe_op Z.op_fdivZ (pv 2) (pv 3)) rfl))))))), ?_⟩
  refine ⟨_, rfl, _, _, _, _, rfl, kind_int T t, _, rfl, iteF ?_⟩
  refine ⟨_, rfl, _, _, _, _, rfl, kind_int T b, _, rfl, iteF ⟨_, rfl, rfl, _, rfl, ?_⟩⟩
  have nb : decide (V.int b = V.int 0) = false := decide_eq_false fun e => hb (V.int.inj e)
  rw [nb]
  refine iteF ?_
  -- divisor
  refine ⟨_, rfl, _, rfl, _, rfl, _, rfl, _, _, rfl, ?_, ?_, ?_⟩
  · split <;> omega
  · split <;> omega
  rw [M.gcd_abs]
  refine ⟨_, rfl, _, _, rfl, rfl, _, rfl, ?_⟩
  have gp := M.gcd_pos (u := t) hb
  have gz : Int.gcd t b < 2 ^ 8000 := Nat.lt_of_le_of_lt (Nat.le_of_dvd (Int.natAbs_pos.mpr hb) (by have := Int.natAbs_dvd_natAbs.mpr (Int.gcd_dvd_right t b); simpa using this)) hz
  have step : ∀ (g : Int), g = M.sg t b → Z.CDz t g ∧ Z.CDz b g := fun g e => by
    have h1 : g ≠ 0 := e ▸ M.sg_ne hb
    have h2 : g.natAbs.log2 < 9000 := Nat.lt_trans (log_lt (n := 8000) (by rw [e, M.sg_abs]; exact gz) (by decide)) (by decide)
    exact ⟨⟨h1, h2⟩, ⟨h1, h2⟩⟩
  by_cases hn : b < 0
  · rw [decide_eq_true hn]
    have e : -(Int.gcd t b : Int) = M.sg t b := (if_pos hn).symm
    obtain ⟨c1, c2⟩ := step _ e
    refine iteT ⟨_, rfl, _, rfl, ?_⟩
    refine ⟨_, rfl, _, rfl, _, _, rfl, rfl, c1, _, rfl, x, RC K, dx, _, rfl, hx, T.cl_Ratio, T.n_Ratio_own_top, (by decide), ?_⟩
    refine ⟨_, rfl, _, rfl, _, _, rfl, rfl, c2, _, rfl, x, RC K, dx, _, rfl, upd_same, T.cl_Ratio, T.n_Ratio_own_bottom, (by show 1 < 1000; decide), ?_⟩
    refine k _ (fun c o hc e => by rw [upd_ne hc, upd_ne hc]; exact e) ?_
    rw [upd_same, put_both, e]
    rfl
  · rw [decide_eq_false hn]
    have e : (Int.gcd t b : Int) = M.sg t b := (if_neg hn).symm
    obtain ⟨c1, c2⟩ := step _ e
    refine iteF ?_
    refine ⟨_, rfl, _, rfl, _, _, rfl, rfl, c1, _, rfl, x, RC K, dx, _, rfl, hx, T.cl_Ratio, T.n_Ratio_own_top, (by decide), ?_⟩
    refine ⟨_, rfl, _, rfl, _, _, rfl, rfl, c2, _, rfl, x, RC K, dx, _, rfl, upd_same, T.cl_Ratio, T.n_Ratio_own_bottom, (by show 1 < 1000; decide), ?_⟩
    refine k _ (fun c o hc e => by rw [upd_ne hc, upd_ne hc]; exact e) ?_
    rw [upd_same, put_both, e]
    rfl
section
variable {P : Program} {w : World} {K : PySem.W.Frag} {mg : Str → Option Value} {base : Heap}
theorem ok_Ratio_init1 (T : Txt K mg) : FnR P w K mg base (L2.CX P w) 2 (He.ma K (He.ga K "Ratio") "__init__") (fun vs H Q E => spInit K (vs ++ [.int 1]) H Q E) := by
  obtain ⟨fd, F⟩ := T.d_Ratio_init
  obtain ⟨ds, r, b⟩ := F.binds1 (ps := ["self", "top", "bottom"]) 2 0 (by decide) rfl fun _ _ _ _ _ _ _ us its h1 h2 => match us, its, h1, h2 with | [_, _], [_], _, _ => ⟨_, rfl, rfl⟩
  exact (okb_Ratio_init T F).raw b r
theorem ok_Ratio_init2 (T : Txt K mg) : FnR P w K mg base (L2.CX P w) 2 (He.ma K (He.ga K "Ratio") "__init__") (fun vs H Q E => spInit K (vs ++ []) H Q E) := by
  obtain ⟨fd, F⟩ := T.d_Ratio_init
  obtain ⟨ds, r, b⟩ := F.binds1 (ps := ["self", "top", "bottom"]) 3 1 (by decide) rfl fun _ _ _ _ _ _ _ us its h1 h2 => match us, its, h1, h2 with | [_, _, _], [_], _, _ => ⟨_, rfl, rfl⟩
  exact (okb_Ratio_init T F).raw b r
theorem okk_Ratio_init_bottom_top (T : Txt K mg) : Z.FnK P w K mg base (L2.CX P w) 2 (He.ma K (He.ga K "Ratio") "__init__") 1 ["bottom", "top"] (fun vs zs H Q E => spInit K (vs ++ [zs.getD 1 .non, zs.getD 0 .non]) H Q E) := by
  obtain ⟨fd, F⟩ := T.d_Ratio_init
  obtain ⟨its, b⟩ := F.kbindsD (ps := ["self", "top", "bottom"]) 1 ["bottom", "top"] (fun {α} us ds ws => us ++ (ws.drop 1).take 1 ++ ws.take 1) (by decide) (fun r1 r2 r3 => (r1.append ((r3.drop 1).take 1)).append (r3.take 1))
    fun _ _ _ _ _ _ _ us its ws h1 h2 h3 => match us, its, ws, h1, h2, h3 with | [_], [_], [_, _], _, _, _ => ⟨_, rfl, rfl⟩
  have G := Z.fnk (okb_Ratio_init (P := P) (w := w) (base := base) T F) b
  intro A outer s H us ws vs zs Q E hr e0 r1 r2 l1 l2 h
  refine G A outer s H us ws vs zs Q E hr e0 r1 r2 l1 l2 ?_
  match zs, l2 with
  | [z1, z2], _ =>
    show spInit K (vs ++ [z2] ++ [z1]) H Q E
    rw [List.append_assoc]
    exact h
theorem made_ok {H H' : Hp} {x dx : Addr} {t b : Int} (hb : b ≠ 0) (hx : H x = none) (hd : H dx = none) (kp : ∀ c o, c ≠ x → upd (upd H dx (.own x)) x (.ins (RC K) dx []) c = some o → H' c = some o)
    (h' : H' x = some (.ins (RC K) dx (rfs (M.low t b).1 (M.low t b).2))) : Same H H' ∧ RatV K H' (.ref x) (M.low t b) := by
  refine ⟨fun c o e => ?_, ⟨x, dx, rfl, h'⟩, M.low_red hb⟩
  have nx := ne_of_none e hx
  exact kp c o nx (by rw [upd_ne nx, upd_ne (ne_of_none e hd)]; exact e)
/-- a new Ratio -/
theorem mk_ratio {H : Hp} {Q : VK} {E : XK} {t b : Int} (hb : b ≠ 0) (ht : t.natAbs < 2 ^ 8000) (hz : b.natAbs < 2 ^ 8000) (k : ∀ r H', Same H H' → RatV K H' r (M.low t b) → Q r H') :
    ∀ x dx : Addr, H x = none → H dx = none → dx ≠ x → spInit K [.ref x, .int t, .int b] (upd (upd H dx (.own x)) x (.ins (RC K) dx [])) (fun v H2 => v = .non ∧ Q (.ref x) H2) E := by
  intro x dx hx hd ne
  refine ⟨x, dx, t, b, rfl, upd_same, hb, ht, hz, fun H' kp h' => ⟨rfl, k _ H' (fun c o e => ?_) ⟨⟨x, dx, rfl, h'⟩, M.low_red hb⟩⟩⟩
  have nx := ne_of_none e hx
  exact kp c o nx (by rw [upd_ne nx, upd_ne (ne_of_none e hd)]; exact e)
end
theorem rfs_top (t b : Int) : (rfs t b).lookup ("own_top" : Str) = some (V.int t) := by simp [rfs, List.lookup]
theorem rfs_bot (t b : Int) : (rfs t b).lookup ("own_bottom" : Str) = some (V.int b) := by
  have e : (("own_bottom" : Str) == "own_top") = false := by decide +kernel
  simp [rfs, List.lookup, e]
theorem rfs_no (t b : Int) {m : Str} (h1 : (m == ("own_top" : Str)) = false) (h2 : (m == ("own_bottom" : Str)) = false) : (rfs t b).lookup m = none := by simp [rfs, List.lookup, h1, h2]
/-! ### as_ratio -/
def spAs (K : PySem.W.Frag) : Sp := fun vs H Q _ => ∃ v p, vs = [v] ∧ NumV K H v p ∧ M.Sz 7000 p ∧ ∀ r H', Same H H' → RatV K H' r p → Q r H'
theorem ok_as_ratio {P : Program} {w : World} {K : PySem.W.Frag} {mg : Str → Option Value} {base : Heap} (T : Txt K mg) : FnR P w K mg base (L2.CX P w) 4 (He.ga K "as_ratio") ((spAs K)) := by
  obtain ⟨fd, F⟩ := T.d_as_ratio
  refine Z.fnr F sc_as_ratio (fun _ _ _ _ _ _ us hl => match us, hl with | [_], _ => rfl) (fun vs H Q E h => ?_) (fun cdv A outer s H vs Q E hr h => ?_)
  · obtain ⟨v, p, rfl, hv, hz, k⟩ := h
    rfl
  obtain ⟨v, p, rfl, hv, hz, k⟩ := h
  refine ⟨_, PSs.nox (pss_one (ps_ret (pe_ifExp (pt_val (pe_callB call_isi (by rfl) T.f_isinstance (by decide +kernel) (pa_cons (pv 0) (pa_cons (pe_glob (v := .ref (He.ga K "Ratio")) rfl T.g_Ratio rfl) pa_nil)))) (pv 0) (StX.pe_makeR (E := E0) T.mk_Ratio (ok_Ratio_init1 T) (hr.mono (by decide)) rfl T.g_Ratio passL (pa_cons (pv 0) pa_nil))))), ?_⟩
  rcases hv with hv | ⟨n, rfl, rfl⟩
  · have hv2 := hv
    obtain ⟨⟨a, dx, rfl, ha⟩, _⟩ := hv2
    exact ⟨_, rfl, _, .ref (RC K), _, _, true, rfl, .own _, ty_rat T ha, T.ki_Ratio_Ratio, _, rfl, iteT ⟨_, rfl, k _ _ (Same.refl _) hv⟩⟩
  · refine ⟨_, rfl, _, .ref (RC K), _, _, false, rfl, .own _, .base (.int n), T.kb_int_Ratio, _, rfl, iteF ⟨_, rfl, ?_⟩⟩
    refine mk_ratio (by decide) (Nat.lt_trans hz.1 (Nat.pow_lt_pow_right (by decide) (by decide))) (Nat.lt_trans hz.2 (Nat.pow_lt_pow_right (by decide) (by decide))) fun r H' s h' => ?_
    rw [M.low_int] at h'
    exact k r H' s h'
/-! ### top, bottom, sign -/
def spTop (K : PySem.W.Frag) : Sp := fun vs H Q _ => ∃ v p, vs = [v] ∧ RatV K H v p ∧ Q (.int p.1) H
def spBot (K : PySem.W.Frag) : Sp := fun vs H Q _ => ∃ v p, vs = [v] ∧ RatV K H v p ∧ Q (.int p.2) H
def sgn (n : Int) : Int := (if decide (0 < n) = true then 1 else 0) - (if decide (n < 0) = true then 1 else 0)
def spSign (K : PySem.W.Frag) : Sp := fun vs H Q _ => ∃ v p, vs = [v] ∧ RatV K H v p ∧ Q (.int (sgn p.1)) H
theorem ok_Ratio_top {P : Program} {w : World} {K : PySem.W.Frag} {mg : Str → Option Value} {base : Heap} (T : Txt K mg) : FnR P w K mg base (L2.CX P w) 1 (He5.wf K (He.ga K "Ratio") "property" "top") ((spTop K)) := by
  obtain ⟨fd, F⟩ := T.d_Ratio_top
  refine Z.fnr F sc_Ratio_top (fun _ _ _ _ _ _ us hl => match us, hl with | [_], _ => rfl) (fun vs H Q E h => ?_) (fun cdv A outer s H vs Q E hr h => ?_)
  · obtain ⟨_, p, rfl, ⟨⟨a, dx, rfl, ha⟩, _⟩, k⟩ := h
    rfl
  obtain ⟨_, p, rfl, ⟨⟨a, dx, rfl, ha⟩, _⟩, k⟩ := h
  refine ⟨_, PSs.nox (pss_one (ps_ret (pe_fld (pv 0) rfl))), ?_⟩
  exact ⟨_, rfl, a, _, dx, _, _, rfl, ha, T.cl_Ratio, T.n_Ratio_own_top, rfs_top _ _, k⟩
theorem ok_Ratio_bottom {P : Program} {w : World} {K : PySem.W.Frag} {mg : Str → Option Value} {base : Heap} (T : Txt K mg) : FnR P w K mg base (L2.CX P w) 1 (He5.wf K (He.ga K "Ratio") "property" "bottom") ((spBot K)) := by
  obtain ⟨fd, F⟩ := T.d_Ratio_bottom
  refine Z.fnr F sc_Ratio_bottom (fun _ _ _ _ _ _ us hl => match us, hl with | [_], _ => rfl) (fun vs H Q E h => ?_) (fun cdv A outer s H vs Q E hr h => ?_)
  · obtain ⟨_, p, rfl, ⟨⟨a, dx, rfl, ha⟩, _⟩, k⟩ := h
    rfl
  obtain ⟨_, p, rfl, ⟨⟨a, dx, rfl, ha⟩, _⟩, k⟩ := h
  refine ⟨_, PSs.nox (pss_one (ps_ret (pe_fld (pv 0) rfl))), ?_⟩
  exact ⟨_, rfl, a, _, dx, _, _, rfl, ha, T.cl_Ratio, T.n_Ratio_own_bottom, rfs_bot _ _, k⟩
theorem ok_Ratio_sign {P : Program} {w : World} {K : PySem.W.Frag} {mg : Str → Option Value} {base : Heap} (T : Txt K mg) : FnR P w K mg base (L2.CX P w) 1 (He5.wf K (He.ga K "Ratio") "property" "sign") ((spSign K)) := by
  obtain ⟨fd, F⟩ := T.d_Ratio_sign
  refine Z.fnr F sc_Ratio_sign (fun _ _ _ _ _ _ us hl => match us, hl with | [_], _ => rfl) (fun vs H Q E h => ?_) (fun cdv A outer s H vs Q E hr h => ?_)
  · obtain ⟨_, p, rfl, ⟨⟨a, dx, rfl, ha⟩, _⟩, k⟩ := h
    rfl
  obtain ⟨_, p, rfl, ⟨⟨a, dx, rfl, ha⟩, _⟩, k⟩ := h
  refine ⟨_, PSs.nox (pss_one (ps_ret (pe_op op_sub (pe_callTy call_int1 (by rfl) T.f_int (by decide +kernel) (pa_cons (pe_cmpR op_gt (pe_fld (pv 0) rfl) (pe_int) (nomark _)) pa_nil)) (pe_callTy call_int1 (by rfl) T.f_int (by decide +kernel) (pa_cons (pe_cmpR op_lt (pe_fld (pv 0) rfl) (pe_int) (nomark _)) pa_nil))))), ?_⟩
  refine ⟨_, rfl, a, _, dx, _, _, rfl, ha, T.cl_Ratio, T.n_Ratio_own_top, rfs_top _ _, _, _, rfl, rfl, .inr ⟨_, rfl, ?_⟩⟩
  exact ⟨_, rfl, a, _, dx, _, _, rfl, ha, T.cl_Ratio, T.n_Ratio_own_top, rfs_top _ _, _, _, rfl, rfl, .inr ⟨_, rfl, _, _, rfl, rfl, k⟩⟩
/-! ### the operators -/
def spNeg (K : PySem.W.Frag) : Sp := fun vs H Q _ => ∃ v p, vs = [v] ∧ RatV K H v p ∧ M.Sz 7000 p ∧ ∀ r H', Same H H' → RatV K H' r (-p.1, p.2) → Q r H'
theorem sz8 {n : Nat} {x : Int} (h : x.natAbs < 2 ^ n) (hn : n ≤ 8000) : x.natAbs < 2 ^ 8000 := Nat.lt_of_lt_of_le h (Nat.pow_le_pow_right (by decide) hn)
theorem mul_ok {x y : Int} (h1 : x.natAbs < 2 ^ 3000) (h2 : y.natAbs < 2 ^ 3000) : CMulW x y := wide_mul h1 h2 (by decide) (by decide) (by decide)
theorem ok_Ratio_neg {P : Program} {w : World} {K : PySem.W.Frag} {mg : Str → Option Value} {base : Heap} (T : Txt K mg) : FnR P w K mg base (L2.CX P w) 4 (He.ma K (He.ga K "Ratio") "__neg__") ((spNeg K)) := by
  obtain ⟨fd, F⟩ := T.d_Ratio_neg
  refine Z.fnr F sc_Ratio_neg (fun _ _ _ _ _ _ us hl => match us, hl with | [_], _ => rfl) (fun vs H Q E h => ?_) (fun cdv A outer s H vs Q E hr h => ?_)
  · obtain ⟨_, p, rfl, ⟨⟨a, dx, rfl, ha⟩, hr2⟩, hz, k⟩ := h
    rfl
  obtain ⟨_, p, rfl, ⟨⟨a, dx, rfl, ha⟩, hr2⟩, hz, k⟩ := h
  refine ⟨_, PSs.nox (pss_one (ps_ret (StX.pe_makeR (E := E0) T.mk_Ratio (ok_Ratio_init2 T) (hr.mono (by decide)) rfl T.g_Ratio passL (pa_cons (pe_un un_neg (pe_fld (pv 0) rfl)) (pa_cons (pe_fld (pv 0) rfl) pa_nil))))), ?_⟩
  refine ⟨_, rfl, a, _, dx, _, _, rfl, ha, T.cl_Ratio, T.n_Ratio_own_top, rfs_top _ _, _, rfl, _, rfl, a, _, dx, _, _, rfl, ha, T.cl_Ratio, T.n_Ratio_own_bottom, rfs_bot _ _, ?_⟩
  refine mk_ratio (Int.ne_of_gt hr2.1) (by rw [Int.natAbs_neg]; exact sz8 hz.1 (by decide)) (sz8 hz.2 (by decide)) fun r H' s h' => k r H' s ?_
  have e : M.low (-p.1) p.2 = (-p.1, p.2) := M.low_of_red (p := (-p.1, p.2)) (M.red_neg hr2)
  rw [e] at h'
  exact h'
/-- a two-place operator: f of the two fractions, the sizes below 2 ^ 3000 -/
def spBin (K : PySem.W.Frag) (f : Int × Int → Int × Int → Int × Int) : Sp := fun vs H Q _ => ∃ v w p q, vs = [v, w] ∧ RatV K H v p ∧ NumV K H w q ∧ M.Sz 3000 p ∧ M.Sz 3000 q ∧ ∀ r H', Same H H' → RatV K H' r (f p q) → Q r H'
theorem m7 {p : Int × Int} (h : M.Sz 3000 p) : M.Sz 7000 p := h.mono (by decide)
theorem ok_Ratio_add {P : Program} {w : World} {K : PySem.W.Frag} {mg : Str → Option Value} {base : Heap} (T : Txt K mg) : FnR P w K mg base (L2.CX P w) 5 (He.ma K (He.ga K "Ratio") "__add__") ((spBin K M.plus)) := by
  obtain ⟨fd, F⟩ := T.d_Ratio_add
  refine Z.fnr F sc_Ratio_add (fun _ _ _ _ _ _ us hl => match us, hl with | [_, _], _ => rfl) (fun vs H Q E h => ?_) (fun cdv A outer s H vs Q E hr h => ?_)
  · obtain ⟨_, w, p, q, rfl, ⟨⟨a, dx, rfl, ha⟩, hp⟩, hw, zp, zq, k⟩ := h
    rfl
  obtain ⟨_, w, p, q, rfl, ⟨⟨a, dx, rfl, ha⟩, hp⟩, hw, zp, zq, k⟩ := h
  refine ⟨_, PSs.nox (pss_cons (ps_expr (Z.pe_cl (E := E0) (ok_want_number T) (hr.mono (by decide)) T.g_want_number T.k_want_number passL (pa_cons (pv 1) pa_nil))) (pss_cons (ps_set (i := 2) sc_Ratio_add.nd rfl (Or.inl rfl) (Z.pe_cl (E := E0) (ok_as_ratio T) (hr.mono (by decide)) T.g_as_ratio T.k_as_ratio passL (pa_cons (pv 1) pa_nil))) (pss_cons (ps_set (i := 3) sc_Ratio_add.nd rfl (Or.inl rfl) (pe_op op_add (pe_op op_mulW (pe_fld (pv 0) rfl) (pe_fld (pv 2) rfl)) (pe_op op_mulW (pe_fld (pv 2) rfl) (pe_fld (pv 0) rfl)))) (pss_one (ps_ret (StX.pe_makeR (E := E0) T.mk_Ratio (ok_Ratio_init2 T) (hr.mono (by decide)) rfl T.g_Ratio passL (pa_cons (pv 3) (pa_cons (pe_op op_mulW (pe_fld (pv 0) rfl) (pe_fld (pv 2) rfl)) pa_nil)))))))), ?_⟩
  obtain ⟨bi, bb, br, kd, ek⟩ := kind_num T hw
  refine ⟨_, rfl, w, bi, bb, br, rfl, kd, ek, ?_⟩
  refine ⟨_, rfl, w, q, rfl, hw, m7 zq, fun m H1 s1 hm => ?_⟩
  obtain ⟨⟨b, dy, rfl, hb⟩, hq⟩ := hm
  have ha1 := s1 _ _ ha
  refine ⟨_, rfl, a, _, dx, _, _, rfl, ha1, T.cl_Ratio, T.n_Ratio_own_top, rfs_top _ _, _, rfl, b, _, dy, _, _, rfl, hb, T.cl_Ratio, T.n_Ratio_own_bottom, rfs_bot _ _, _, _, rfl, rfl, mul_ok zp.1 zq.2, ?_⟩
  refine ⟨_, rfl, b, _, dy, _, _, rfl, hb, T.cl_Ratio, T.n_Ratio_own_top, rfs_top _ _, _, rfl, a, _, dx, _, _, rfl, ha1, T.cl_Ratio, T.n_Ratio_own_bottom, rfs_bot _ _, _, _, rfl, rfl, mul_ok zq.1 zp.2, _, _, rfl, rfl, ?_⟩
  refine ⟨_, rfl, _, rfl, a, _, dx, _, _, rfl, ha1, T.cl_Ratio, T.n_Ratio_own_bottom, rfs_bot _ _, _, rfl, b, _, dy, _, _, rfl, hb, T.cl_Ratio, T.n_Ratio_own_bottom, rfs_bot _ _, _, _, rfl, rfl, mul_ok zp.2 zq.2, ?_⟩
  refine mk_ratio (M.bot_ne hp hq) (sz8 (M.add_lt (M.mul_lt zp.1 zq.2) (M.mul_lt zq.1 zp.2)) (by decide)) (sz8 (M.mul_lt zp.2 zq.2) (by decide)) fun r H2 s2 h2 => ?_
  exact k r H2 (s1.trans s2) h2
theorem ok_Ratio_mul {P : Program} {w : World} {K : PySem.W.Frag} {mg : Str → Option Value} {base : Heap} (T : Txt K mg) : FnR P w K mg base (L2.CX P w) 5 (He.ma K (He.ga K "Ratio") "__mul__") ((spBin K M.times)) := by
  obtain ⟨fd, F⟩ := T.d_Ratio_mul
  refine Z.fnr F sc_Ratio_mul (fun _ _ _ _ _ _ us hl => match us, hl with | [_, _], _ => rfl) (fun vs H Q E h => ?_) (fun cdv A outer s H vs Q E hr h => ?_)
  · obtain ⟨_, w, p, q, rfl, ⟨⟨a, dx, rfl, ha⟩, hp⟩, hw, zp, zq, k⟩ := h
    rfl
  obtain ⟨_, w, p, q, rfl, ⟨⟨a, dx, rfl, ha⟩, hp⟩, hw, zp, zq, k⟩ := h
  refine ⟨_, PSs.nox (pss_cons (ps_expr (Z.pe_cl (E := E0) (ok_want_number T) (hr.mono (by decide)) T.g_want_number T.k_want_number passL (pa_cons (pv 1) pa_nil))) (pss_cons (ps_set (i := 2) sc_Ratio_mul.nd rfl (Or.inl rfl) (Z.pe_cl (E := E0) (ok_as_ratio T) (hr.mono (by decide)) T.g_as_ratio T.k_as_ratio passL (pa_cons (pv 1) pa_nil))) (pss_one (ps_ret (StX.pe_makeR (E := E0) T.mk_Ratio (ok_Ratio_init2 T) (hr.mono (by decide)) rfl T.g_Ratio passL (pa_cons (pe_op op_mulW (pe_fld (pv 0) rfl) (pe_fld (pv 2) rfl)) (pa_cons (pe_op op_mulW (pe_fld (pv 0) rfl) (pe_fld (pv 2) rfl)) pa_nil))))))), ?_⟩
  obtain ⟨bi, bb, br, kd, ek⟩ := kind_num T hw
  refine ⟨_, rfl, w, bi, bb, br, rfl, kd, ek, ?_⟩
  refine ⟨_, rfl, w, q, rfl, hw, m7 zq, fun m H1 s1 hm => ?_⟩
  obtain ⟨⟨b, dy, rfl, hb⟩, hq⟩ := hm
  have ha1 := s1 _ _ ha
  refine ⟨_, rfl, a, _, dx, _, _, rfl, ha1, T.cl_Ratio, T.n_Ratio_own_top, rfs_top _ _, _, rfl, b, _, dy, _, _, rfl, hb, T.cl_Ratio, T.n_Ratio_own_top, rfs_top _ _, _, _, rfl, rfl, mul_ok zp.1 zq.1, ?_⟩
  refine ⟨_, rfl, a, _, dx, _, _, rfl, ha1, T.cl_Ratio, T.n_Ratio_own_bottom, rfs_bot _ _, _, rfl, b, _, dy, _, _, rfl, hb, T.cl_Ratio, T.n_Ratio_own_bottom, rfs_bot _ _, _, _, rfl, rfl, mul_ok zp.2 zq.2, ?_⟩
  refine mk_ratio (M.bot_ne hp hq) (sz8 (M.mul_lt zp.1 zq.1) (by decide)) (sz8 (M.mul_lt zp.2 zq.2) (by decide)) fun r H2 s2 h2 => ?_
  exact k r H2 (s1.trans s2) h2
/-- the quotient -/
def divd (p q : Int × Int) : Int × Int := M.low (p.1 * q.2) (p.2 * q.1)
def spOver (K : PySem.W.Frag) : Sp := fun vs H Q _ => ∃ v w p q, vs = [v, w] ∧ RatV K H v p ∧ NumV K H w q ∧ M.Sz 3000 p ∧ M.Sz 3000 q ∧ q.1 ≠ 0 ∧ ∀ r H', Same H H' → RatV K H' r (divd p q) → Q r H'
theorem okb_Ratio_over {P : Program} {w : World} {K : PySem.W.Frag} {mg : Str → Option Value} {base : Heap} (T : Txt K mg) {fd : FuncData} (F : FunD K "over" "Ratio.over" (defArgs s_Ratio_over) (defBody s_Ratio_over) (defScope s_Ratio_over) [] [] (He.ma K (He.ga K "Ratio") "over") fd) : FnOk P w K mg base (L2.CX P w) 5 (He.ma K (He.ga K "Ratio") "over") fd ["self", "other"] ((spOver K)) := by
  refine F.ok sc_Ratio_over (fun vs H Q E h => ?_) (fun cdv A outer s H vs Q E hr h => ?_)
  · obtain ⟨_, w, p, q, rfl, ⟨⟨a, dx, rfl, ha⟩, hp⟩, hw, zp, zq, hn, k⟩ := h
    rfl
  obtain ⟨_, w, p, q, rfl, ⟨⟨a, dx, rfl, ha⟩, hp⟩, hw, zp, zq, hn, k⟩ := h
  refine ⟨_, PSs.nox (pss_cons (ps_expr (Z.pe_cl (E := E0) (ok_want_number T) (hr.mono (by decide)) T.g_want_number T.k_want_number passL (pa_cons (pv 1) pa_nil))) (pss_cons (ps_set (i := 2) sc_Ratio_over.nd rfl (Or.inl rfl) (Z.pe_cl (E := E0) (ok_as_ratio T) (hr.mono (by decide)) T.g_as_ratio T.k_as_ratio passL (pa_cons (pv 1) pa_nil))) (pss_cons (ps_if (pt_cmpR op_eq (pe_fld (pv 2) rfl) (pe_int) (nomark _)) (pss_never) (pss_nil)) (pss_one (ps_ret (StX.pe_makeR (E := E0) T.mk_Ratio (ok_Ratio_init2 T) (hr.mono (by decide)) rfl T.g_Ratio passL (pa_cons (pe_op op_mulW (pe_fld (pv 0) rfl) (pe_fld (pv 2) rfl)) (pa_cons (pe_op op_mulW (pe_fld (pv 0) rfl) (pe_fld (pv 2) rfl)) pa_nil)))))))), ?_⟩
  obtain ⟨bi, bb, br, kd, ek⟩ := kind_num T hw
  refine ⟨_, rfl, w, bi, bb, br, rfl, kd, ek, ?_⟩
  refine ⟨_, rfl, w, q, rfl, hw, m7 zq, fun m H1 s1 hm => ?_⟩
  obtain ⟨⟨b, dy, rfl, hb⟩, hq⟩ := hm
  have ha1 := s1 _ _ ha
  refine ⟨_, rfl, b, _, dy, _, _, rfl, hb, T.cl_Ratio, T.n_Ratio_own_top, rfs_top _ _, rfl, _, rfl, ?_⟩
  have e0 : decide (V.int q.1 = V.int 0) = false := decide_eq_false fun e => hn (V.int.inj e)
  rw [e0]
  refine iteF ?_
  refine ⟨_, rfl, a, _, dx, _, _, rfl, ha1, T.cl_Ratio, T.n_Ratio_own_top, rfs_top _ _, _, rfl, b, _, dy, _, _, rfl, hb, T.cl_Ratio, T.n_Ratio_own_bottom, rfs_bot _ _, _, _, rfl, rfl, mul_ok zp.1 zq.2, ?_⟩
  refine ⟨_, rfl, a, _, dx, _, _, rfl, ha1, T.cl_Ratio, T.n_Ratio_own_bottom, rfs_bot _ _, _, rfl, b, _, dy, _, _, rfl, hb, T.cl_Ratio, T.n_Ratio_own_top, rfs_top _ _, _, _, rfl, rfl, mul_ok zp.2 zq.1, ?_⟩
  refine mk_ratio (Int.mul_ne_zero (Int.ne_of_gt hp.1) hn) (sz8 (M.mul_lt zp.1 zq.2) (by decide)) (sz8 (M.mul_lt zp.2 zq.1) (by decide)) fun r H2 s2 h2 => ?_
  exact k r H2 (s1.trans s2) h2
section
variable {P : Program} {w : World} {K : PySem.W.Frag} {mg : Str → Option Value} {base : Heap}
theorem ok_Ratio_over (T : Txt K mg) : FnR P w K mg base (L2.CX P w) 5 (He.ma K (He.ga K "Ratio") "over") (spOver K) := by
  obtain ⟨fd, F⟩ := T.d_Ratio_over
  refine ((okb_Ratio_over T F).raw (F.bindsN fun _ _ _ _ _ _ us hl => match us, hl with | [_, _], _ => rfl) .nil).imp fun vs H Q E h => ?_
  show spOver K (vs ++ []) H Q E
  rw [List.append_nil]
  exact h
theorem okk_Ratio_over_other (T : Txt K mg) : Z.FnK P w K mg base (L2.CX P w) 5 (He.ma K (He.ga K "Ratio") "over") 1 ["other"] (fun vs zs H Q E => spOver K (vs ++ zs) H Q E) := by
  obtain ⟨fd, F⟩ := T.d_Ratio_over
  exact Z.fnk (okb_Ratio_over (P := P) (w := w) (base := base) T F) (Z.kbN F 1 ["other"] (fun {α} us ws => us ++ ws) (fun r1 r2 => r1.append r2) fun _ _ _ _ _ _ us ws h1 h2 => match us, ws, h1, h2 with | [_], [_], _, _ => rfl)
end
/-! ### what may stand on the right of an operator -/
section
variable {K : PySem.W.Frag} {H : Hp} {C : Addr}
theorem mro_int : PySem.fastBuiltinMro "int" = some [.type "int", .type "object"] := by kernel_rfl
theorem sub_int_own : PySem.W.subIn K (.type "int") (.ref C) = some false := by
  show (PySem.fastBuiltinMro "int").map _ = _
  rw [mro_int]
  rfl
theorem right_add (n : Int) : Z.RightOk K C "add" H (.int n) := .inr ⟨"int", some (.builtin "int.__add__"), some (.builtin "int.__radd__"), .base (.int n), by show PySem.fastLookup _ _ = _; kernel_rfl, by show PySem.fastLookup _ _ = _; kernel_rfl, sub_int_own⟩
theorem right_sub (n : Int) : Z.RightOk K C "sub" H (.int n) := .inr ⟨"int", some (.builtin "int.__sub__"), some (.builtin "int.__rsub__"), .base (.int n), by show PySem.fastLookup _ _ = _; kernel_rfl, by show PySem.fastLookup _ _ = _; kernel_rfl, sub_int_own⟩
theorem right_mul (n : Int) : Z.RightOk K C "mul" H (.int n) := .inr ⟨"int", some (.builtin "int.__mul__"), some (.builtin "int.__rmul__"), .base (.int n), by show PySem.fastLookup _ _ = _; kernel_rfl, by show PySem.fastLookup _ _ = _; kernel_rfl, sub_int_own⟩
theorem right_num {nm : String} {v : V} {p : Int × Int} (h : NumV K H v p) (hi : ∀ n, Z.RightOk K (RC K) nm H (.int n)) : Z.RightOk K (RC K) nm H v := by
  rcases h with ⟨⟨a, dx, rfl, ha⟩, _⟩ | ⟨n, rfl, _⟩
  · exact .inl ⟨a, dx, _, rfl, ha⟩
  · exact hi n
end
/-- the reflected ones: f with its sides exchanged -/
theorem ok_Ratio_radd {P : Program} {w : World} {K : PySem.W.Frag} {mg : Str → Option Value} {base : Heap} (T : Txt K mg) : FnR P w K mg base (L2.CX P w) 6 (He.ma K (He.ga K "Ratio") "__radd__") ((spBin K M.plus)) := by
  obtain ⟨fd, F⟩ := T.d_Ratio_radd
  refine Z.fnr F sc_Ratio_radd (fun _ _ _ _ _ _ us hl => match us, hl with | [_, _], _ => rfl) (fun vs H Q E h => ?_) (fun cdv A outer s H vs Q E hr h => ?_)
  · obtain ⟨_, w, p, q, rfl, hv, hw, zp, zq, k⟩ := h
    rfl
  obtain ⟨_, w, p, q, rfl, hv, hw, zp, zq, k⟩ := h
  refine ⟨_, PSs.nox (pss_one (ps_ret (pe_op (Z.op_ownL (E := E0) T.o_Ratio_add (ok_Ratio_add T) (hr.mono (by decide)) passL) (pv 0) (pv 1)))), ?_⟩
  have hv2 := hv
  obtain ⟨⟨a, dx, rfl, ha⟩, hp⟩ := hv2
  exact ⟨_, rfl, _, rfl, a, dx, _, rfl, ha, right_num hw right_add, _, w, p, q, rfl, hv, hw, zp, zq, k⟩
theorem ok_Ratio_rmul {P : Program} {w : World} {K : PySem.W.Frag} {mg : Str → Option Value} {base : Heap} (T : Txt K mg) : FnR P w K mg base (L2.CX P w) 6 (He.ma K (He.ga K "Ratio") "__rmul__") ((spBin K M.times)) := by
  obtain ⟨fd, F⟩ := T.d_Ratio_rmul
  refine Z.fnr F sc_Ratio_rmul (fun _ _ _ _ _ _ us hl => match us, hl with | [_, _], _ => rfl) (fun vs H Q E h => ?_) (fun cdv A outer s H vs Q E hr h => ?_)
  · obtain ⟨_, w, p, q, rfl, hv, hw, zp, zq, k⟩ := h
    rfl
  obtain ⟨_, w, p, q, rfl, hv, hw, zp, zq, k⟩ := h
  refine ⟨_, PSs.nox (pss_one (ps_ret (pe_op (Z.op_ownL (E := E0) T.o_Ratio_mul (ok_Ratio_mul T) (hr.mono (by decide)) passL) (pv 0) (pv 1)))), ?_⟩
  have hv2 := hv
  obtain ⟨⟨a, dx, rfl, ha⟩, hp⟩ := hv2
  exact ⟨_, rfl, _, rfl, a, dx, _, rfl, ha, right_num hw right_mul, _, w, p, q, rfl, hv, hw, zp, zq, k⟩
theorem ok_Ratio_sub {P : Program} {w : World} {K : PySem.W.Frag} {mg : Str → Option Value} {base : Heap} (T : Txt K mg) : FnR P w K mg base (L2.CX P w) 6 (He.ma K (He.ga K "Ratio") "__sub__") ((spBin K M.minus)) := by
  obtain ⟨fd, F⟩ := T.d_Ratio_sub
  refine Z.fnr F sc_Ratio_sub (fun _ _ _ _ _ _ us hl => match us, hl with | [_, _], _ => rfl) (fun vs H Q E h => ?_) (fun cdv A outer s H vs Q E hr h => ?_)
  · obtain ⟨_, w, p, q, rfl, hv, hw, zp, zq, k⟩ := h
    rfl
  obtain ⟨_, w, p, q, rfl, hv, hw, zp, zq, k⟩ := h
  refine ⟨_, PSs.nox (pss_cons (ps_expr (Z.pe_cl (E := E0) (ok_want_number T) (hr.mono (by decide)) T.g_want_number T.k_want_number passL (pa_cons (pv 1) pa_nil))) (pss_one (ps_ret (pe_op (Z.op_ownL (E := E0) T.o_Ratio_add (ok_Ratio_add T) (hr.mono (by decide)) passL) (pv 0) (pe_un (Z.un_own (E := E0) T.a_Ratio_neg T.i_Ratio_neg (ok_Ratio_neg T) (hr.mono (by decide)) passL) (Z.pe_cl (E := E0) (ok_as_ratio T) (hr.mono (by decide)) T.g_as_ratio T.k_as_ratio passL (pa_cons (pv 1) pa_nil))))))), ?_⟩
  have hv2 := hv
  obtain ⟨⟨a, dx, rfl, ha⟩, hp⟩ := hv2
  obtain ⟨bi, bb, br, kd, ek⟩ := kind_num T hw
  refine ⟨_, rfl, w, bi, bb, br, rfl, kd, ek, ?_⟩
  refine ⟨_, rfl, _, rfl, w, q, rfl, hw, m7 zq, fun m H1 s1 hm => ?_⟩
  have hm2 := hm
  obtain ⟨⟨b, dy, rfl, hb⟩, hq⟩ := hm2
  refine ⟨b, dy, _, rfl, hb, _, q, rfl, hm, m7 zq, fun m2 H2 s2 h2 => ?_⟩
  have h2b := h2
  obtain ⟨⟨c, dz, rfl, hc⟩, hq2⟩ := h2b
  refine ⟨a, dx, _, rfl, s2 _ _ (s1 _ _ ha), .inl ⟨c, dz, _, rfl, hc⟩, _, _, p, (-q.1, q.2), rfl, (hv.up s1).up s2, .inl h2, zp, ⟨?_, zq.2⟩, fun r H3 s3 h3 => ?_⟩
  · show (-q.1).natAbs < _
    rw [Int.natAbs_neg]
    exact zq.1
  · rw [M.minus_plus] at h3
    exact k r H3 ((s1.trans s2).trans s3) h3
/-- other - self -/
theorem ok_Ratio_rsub {P : Program} {w : World} {K : PySem.W.Frag} {mg : Str → Option Value} {base : Heap} (T : Txt K mg) : FnR P w K mg base (L2.CX P w) 6 (He.ma K (He.ga K "Ratio") "__rsub__") ((spBin K (fun p q => M.plus (-p.1, p.2) q))) := by
  obtain ⟨fd, F⟩ := T.d_Ratio_rsub
  refine Z.fnr F sc_Ratio_rsub (fun _ _ _ _ _ _ us hl => match us, hl with | [_, _], _ => rfl) (fun vs H Q E h => ?_) (fun cdv A outer s H vs Q E hr h => ?_)
  · obtain ⟨_, w, p, q, rfl, hv, hw, zp, zq, k⟩ := h
    rfl
  obtain ⟨_, w, p, q, rfl, hv, hw, zp, zq, k⟩ := h
  refine ⟨_, PSs.nox (pss_one (ps_ret (pe_op (Z.op_ownL (E := E0) T.o_Ratio_add (ok_Ratio_add T) (hr.mono (by decide)) passL) (pe_un (Z.un_own (E := E0) T.a_Ratio_neg T.i_Ratio_neg (ok_Ratio_neg T) (hr.mono (by decide)) passL) (pv 0)) (pv 1)))), ?_⟩
  have hv2 := hv
  obtain ⟨⟨a, dx, rfl, ha⟩, hp⟩ := hv2
  refine ⟨_, rfl, a, dx, _, rfl, ha, _, p, rfl, hv, m7 zp, fun m H1 s1 hm => ?_⟩
  have hm2 := hm
  obtain ⟨⟨b, dy, rfl, hb⟩, hq⟩ := hm2
  refine ⟨_, rfl, b, dy, _, rfl, hb, right_num (hw.up s1) right_add, _, w, (-p.1, p.2), q, rfl, hm, hw.up s1, ⟨?_, zp.2⟩, zq, fun r H3 s3 h3 => ?_⟩
  · show (-p.1).natAbs < _
    rw [Int.natAbs_neg]
    exact zp.1
  · exact k r H3 (s1.trans s3) h3
/-! ### texts -/
def itx (n : Int) : Str := Str.ofString (toString n)
theorem itx_len {n : Int} (h : n.natAbs < 2 ^ 1900) : (itx n).length ≤ 1901 := by
  have e := PySem.int_text_length_le (k := 1900) (by decide) (log_lt h (by decide))
  unfold itx
  rw [PySem.ofString_length]
  exact e
theorem log19 {n : Int} (h : n.natAbs < 2 ^ 1900) : n.natAbs.log2 < 1920 := Nat.lt_trans (log_lt h (by decide)) (by decide)
def rstr (p : Int × Int) : Str := if p.2 = 1 then itx p.1 else itx p.1 ++ "/" ++ itx p.2
def rrep (p : Int × Int) : Str := "Ratio(" ++ itx p.1 ++ ", " ++ itx p.2 ++ ")"
def spStr (K : PySem.W.Frag) : Sp := fun vs H Q _ => ∃ v p, vs = [v] ∧ RatV K H v p ∧ M.Sz 1900 p ∧ Q (.str (rstr p)) H
def spRep (K : PySem.W.Frag) : Sp := fun vs H Q _ => ∃ v p, vs = [v] ∧ RatV K H v p ∧ M.Sz 1900 p ∧ Q (.str (rrep p)) H
theorem len_small {x : Str} (h : x.length ≤ 100000) : x.length ≤ sizeLine := Nat.le_trans h (by rw [sizeLine_eq]; decide)
theorem ok_Ratio_str {P : Program} {w : World} {K : PySem.W.Frag} {mg : Str → Option Value} {base : Heap} (T : Txt K mg) : FnR P w K mg base (L2.CX P w) 1 (He.ma K (He.ga K "Ratio") "__str__") ((spStr K)) := by
  obtain ⟨fd, F⟩ := T.d_Ratio_str
  refine Z.fnr F sc_Ratio_str (fun _ _ _ _ _ _ us hl => match us, hl with | [_], _ => rfl) (fun vs H Q E h => ?_) (fun cdv A outer s H vs Q E hr h => ?_)
  · obtain ⟨_, p, rfl, ⟨⟨a, dx, rfl, ha⟩, hp⟩, hz, k⟩ := h
    rfl
  obtain ⟨_, p, rfl, ⟨⟨a, dx, rfl, ha⟩, hp⟩, hz, k⟩ := h
  refine ⟨_, PSs.nox (pss_cons (ps_if (pt_cmpR op_eq (pe_fld (pv 0) rfl) (pe_int) (nomark _)) (pss_one (ps_ret (pe_callTy call_str_int (by rfl) T.f_str (by decide +kernel) (pa_cons (pe_fld (pv 0) rfl) pa_nil)))) (pss_nil)) (pss_one (ps_ret (pe_joined (.cons (pe_fmt (pe_fld (pv 0) rfl)) (.cons (pe_str) (.cons (pe_fmt (pe_fld (pv 0) rfl)) .nil))))))), ?_⟩
  refine ⟨_, rfl, a, _, dx, _, _, rfl, ha, T.cl_Ratio, T.n_Ratio_own_bottom, rfs_bot _ _, rfl, _, rfl, ?_⟩
  have l1 := itx_len hz.1
  have l2 := itx_len hz.2
  by_cases h1 : p.2 = 1
  · rw [decide_eq_true (by rw [h1])]
    refine iteT ⟨_, rfl, a, _, dx, _, _, rfl, ha, T.cl_Ratio, T.n_Ratio_own_top, rfs_top _ _, _, rfl, log19 hz.1, ?_⟩
    unfold rstr at k
    rw [if_pos h1] at k
    exact k
  · rw [decide_eq_false (fun e => h1 (V.int.inj e))]
    unfold rstr at k
    rw [if_neg h1] at k
    refine iteF ⟨_, rfl, a, _, dx, _, _, rfl, ha, T.cl_Ratio, T.n_Ratio_own_top, rfs_top _ _, .inr ⟨_, rfl, log19 hz.1, _, rfl, ?_, _, rfl, ?_, _, rfl, a, _, dx, _, _, rfl, ha, T.cl_Ratio, T.n_Ratio_own_bottom, rfs_bot _ _, .inr ⟨_, rfl, log19 hz.2, _, rfl, ?_, ?_⟩⟩⟩
    · rw [Str.empty_append]
      exact len_small (Nat.le_trans l1 (by decide))
    · rw [Str.empty_append]
      refine len_small ?_
      show (itx p.1 ++ "/").length ≤ _
      rw [Str.length_append]
      have : ("/" : Str).length = 1 := by decide +kernel
      omega
    · rw [Str.empty_append]
      refine len_small ?_
      show (itx p.1 ++ "/" ++ itx p.2).length ≤ _
      rw [Str.length_append, Str.length_append]
      have : ("/" : Str).length = 1 := by decide +kernel
      omega
    · rw [Str.empty_append]
      exact k
theorem ok_Ratio_repr {P : Program} {w : World} {K : PySem.W.Frag} {mg : Str → Option Value} {base : Heap} (T : Txt K mg) : FnR P w K mg base (L2.CX P w) 1 (He.ma K (He.ga K "Ratio") "__repr__") ((spRep K)) := by
  obtain ⟨fd, F⟩ := T.d_Ratio_repr
  refine Z.fnr F sc_Ratio_repr (fun _ _ _ _ _ _ us hl => match us, hl with | [_], _ => rfl) (fun vs H Q E h => ?_) (fun cdv A outer s H vs Q E hr h => ?_)
  · obtain ⟨_, p, rfl, ⟨⟨a, dx, rfl, ha⟩, hp⟩, hz, k⟩ := h
    rfl
  obtain ⟨_, p, rfl, ⟨⟨a, dx, rfl, ha⟩, hp⟩, hz, k⟩ := h
  refine ⟨_, PSs.nox (pss_one (ps_ret (pe_joined (.cons (pe_str) (.cons (pe_fmt (pe_fld (pv 0) rfl)) (.cons (pe_str) (.cons (pe_fmt (pe_fld (pv 0) rfl)) (.cons (pe_str) .nil)))))))), ?_⟩
  have l1 := itx_len hz.1
  have l2 := itx_len hz.2
  have c1 : ("Ratio(" : Str).length = 6 := by decide +kernel
  have c2 : (", " : Str).length = 2 := by decide +kernel
  have c3 : (")" : Str).length = 1 := by decide +kernel
  refine ⟨_, rfl, ?_, _, rfl, a, _, dx, _, _, rfl, ha, T.cl_Ratio, T.n_Ratio_own_top, rfs_top _ _, .inr ⟨_, rfl, log19 hz.1, _, rfl, ?_, _, rfl, ?_, _, rfl, a, _, dx, _, _, rfl, ha, T.cl_Ratio, T.n_Ratio_own_bottom, rfs_bot _ _, .inr ⟨_, rfl, log19 hz.2, _, rfl, ?_, _, rfl, ?_, ?_⟩⟩⟩
  · rw [Str.empty_append]
    exact len_small (by omega)
  · rw [Str.empty_append]
    refine len_small ?_
    show ("Ratio(" ++ itx p.1 : Str).length ≤ _
    rw [Str.length_append]
    omega
  · rw [Str.empty_append]
    refine len_small ?_
    show ("Ratio(" ++ itx p.1 ++ ", " : Str).length ≤ _
    rw [Str.length_append, Str.length_append]
    omega
  · rw [Str.empty_append]
    refine len_small ?_
    show ("Ratio(" ++ itx p.1 ++ ", " ++ itx p.2 : Str).length ≤ _
    rw [Str.length_append, Str.length_append, Str.length_append]
    omega
  · rw [Str.empty_append]
    refine len_small ?_
    show ("Ratio(" ++ itx p.1 ++ ", " ++ itx p.2 ++ ")" : Str).length ≤ _
    rw [Str.length_append, Str.length_append, Str.length_append, Str.length_append]
    omega
  · rw [Str.empty_append]
    exact k
/-! ### Ratio.total -/
theorem paired_get {α β : Type} {R : α → β → Prop} : ∀ {xs : List α} {ys : List β} {i : Nat} {x : α}, Paired R xs ys → xs[i]? = some x → ∃ y, ys[i]? = some y ∧ R x y
  | _, _, _, _, .nil, e => by simp at e
  | _, _, 0, _, .cons r _, e => by
    simp at e
    subst e
    exact ⟨_, rfl, r⟩
  | _, _, i + 1, x, .cons _ t, e => by
    obtain ⟨y, h1, h2⟩ := paired_get (i := i) (x := x) t (by simpa using e)
    exact ⟨y, by simpa using h1, h2⟩
theorem paired_up {α β : Type} {R R' : α → β → Prop} : ∀ {xs : List α} {ys : List β}, Paired R xs ys → (∀ x y, R x y → R' x y) → Paired R' xs ys
  | _, _, .nil, _ => .nil
  | _, _, .cons r t, f => .cons (f _ _ r) (paired_up t f)
abbrev NumsV (K : PySem.W.Frag) (H : Hp) : List V → List (Int × Int) → Prop := Paired (NumV K H)
def sumF (qs : List (Int × Int)) : Int × Int := qs.foldl M.plus (0, 1)
theorem take_next {α : Type} {l : List α} {i : Nat} {x : α} (h : l[i]? = some x) : l.take (i + 1) = l.take i ++ [x] := by
  rw [List.take_add_one, h]
  rfl
theorem sumF_next {qs : List (Int × Int)} {i : Nat} {q : Int × Int} (h : qs[i]? = some q) : sumF (qs.take (i + 1)) = M.plus (sumF (qs.take i)) q := by
  unfold sumF
  rw [take_next h, List.foldl_append]
  rfl
theorem red01 : M.Red (0, 1) := M.red_int 0
theorem sumF_red {qs : List (Int × Int)} (h : ∀ q ∈ qs, M.Red q) : ∀ i, M.Red (sumF (qs.take i))
  | 0 => red01
  | i + 1 => by
    cases e : qs[i]? with
    | none =>
      have z := sumF_red h i
      have le : qs.length ≤ i := List.getElem?_eq_none_iff.mp e
      rw [List.take_of_length_le le] at z
      rw [List.take_of_length_le (by omega)]
      exact z
    | some q =>
      rw [sumF_next e]
      exact M.plus_red (sumF_red h i) (h q (List.mem_of_getElem? e))
theorem sumF_sz {qs : List (Int × Int)} {n : Nat} (h : ∀ q ∈ qs, M.Red q) (hz : ∀ q ∈ qs, M.Sz n q) : ∀ i, M.Sz (i * (n + 1) + 1) (sumF (qs.take i))
  | 0 => by
    rw [Nat.zero_mul, Nat.zero_add]
    exact ⟨by show (0 : Int).natAbs < 2 ^ 1; decide, by show (1 : Int).natAbs < 2 ^ 1; decide⟩
  | i + 1 => by
    cases e : qs[i]? with
    | none =>
      have z := sumF_sz h hz i
      have le : qs.length ≤ i := List.getElem?_eq_none_iff.mp e
      rw [List.take_of_length_le le] at z
      rw [List.take_of_length_le (by omega)]
      exact z.mono (by rw [Nat.add_mul]; omega)
    | some q =>
      rw [sumF_next e]
      have z := M.plus_sz (sumF_red h i) (h q (List.mem_of_getElem? e)) (sumF_sz h hz i) (hz q (List.mem_of_getElem? e))
      exact z.mono (by rw [Nat.add_mul]; omega)
theorem nums_red {K : PySem.W.Frag} {H : Hp} : ∀ {xs : List V} {qs : List (Int × Int)}, NumsV K H xs qs → ∀ q ∈ qs, M.Red q
  | _, _, .nil, _, h => by cases h
  | _, _, .cons r t, q, h => by
    rcases List.mem_cons.mp h with e | e
    · rw [e]
      exact r.red
    · exact nums_red t q e
/-- the body: cls and the tuple of the numbers -/
def spTotB (K : PySem.W.Frag) : Sp := fun vs H Q _ => ∃ (t : Addr) (xs : List V) (qs : List (Int × Int)), vs = [.ref (RC K), .ref t] ∧ H t = some (.tup xs) ∧ NumsV K H xs qs ∧ qs.length ≤ 8 ∧ (∀ q ∈ qs, M.Sz 300 q) ∧
  ∀ r H', Same H H' → RatV K H' r (sumF qs) → Q r H'
/-- Ratio.total(x, ..) -/
def spTot (K : PySem.W.Frag) : Sp := fun vs H Q _ => ∃ (xs : List V) (qs : List (Int × Int)), vs = .ref (RC K) :: xs ∧ NumsV K H xs qs ∧ qs.length ≤ 8 ∧ (∀ q ∈ qs, M.Sz 300 q) ∧ ∀ r H', Same H H' → RatV K H' r (sumF qs) → Q r H'
theorem ok_Ratio_total {P : Program} {w : World} {K : PySem.W.Frag} {mg : Str → Option Value} {base : Heap} (T : Txt K mg) : FnR P w K mg base (L2.CX P w) 6 (He5.wf K (He.ga K "Ratio") "classmethod" "total") ((spTot K)) := by
  obtain ⟨fd, F⟩ := T.d_Ratio_total
  refine (Z.fnstar (spb := (spTotB K)) (ps := ["cls"]) (pv := "numbers") F sc_Ratio_total (fun kV doc pm an cdv ct us rest hl => StX.bind_star1 (B := fun l => bindArgs (PySem.W.fnOf "total" "Ratio.total" (defArgs s_Ratio_total) (defBody s_Ratio_total) (defScope s_Ratio_total) .none kV doc pm an cdv ct) ⟨l, []⟩) (fun _ => rfl) (fun _ _ _ => rfl) us rest hl) (fun cdv A outer s H vs Q E hr h => ?_)).imp (fun vs H Q E h => ?_)
  rotate_left
  · obtain ⟨xs, qs, rfl, hn, hl, hz, k⟩ := h
    refine ⟨[.ref (RC K)], xs, rfl, rfl, ?_, fun p hp => ?_⟩
    · have e := Paired.length hn
      rw [sizeLine_eq]
      omega
    · exact ⟨p, xs, qs, rfl, upd_same, paired_up hn (fun _ _ z => z.up (same_new hp)), hl, hz, fun r H' s h' => k r H' ((same_new hp).trans s) h'⟩
  obtain ⟨t, xs, qs, rfl, ht, hn, hl, hz, k⟩ := h
  refine ⟨_, PSs.nox (pss_cons (ps_for PassesOwn.never rfl (pi_tup (pv 1)) (pg_name (i := 2) sc_Ratio_total.nd rfl (Or.inl rfl)) (pss_one (ps_expr (Z.pe_cl (E := E0) (ok_want_number T) (hr.mono (by decide)) T.g_want_number T.k_want_number passL (pa_cons (pv 2) pa_nil))))) (pss_cons (ps_set (i := 3) sc_Ratio_total.nd rfl (Or.inl rfl) (Z.pe_mkL (i := 0) (E := E0) T.mk_Ratio (ok_Ratio_init1 T) (hr.mono (by decide)) passL (pa_cons (pe_int) pa_nil) (pv 0))) (pss_cons (ps_for PassesOwn.never rfl (pi_tup (pv 1)) (pg_name (i := 2) sc_Ratio_total.nd rfl (Or.inl rfl)) (pss_one (ps_set (i := 3) sc_Ratio_total.nd rfl (Or.inl rfl) (pe_op (Z.op_ownL (E := E0) T.o_Ratio_add (ok_Ratio_add T) (hr.mono (by decide)) passL) (pv 3) (pv 2))))) (pss_one (ps_ret (pv 3)))))), ?_⟩
  have hred := nums_red hn
  have hlen := Paired.length hn
  -- for number in numbers: want_number(number)
  refine ⟨_, rfl, t, rfl, ⟨_, SqT.of ht⟩, for_tup (K := K) (a := t) (xs := xs) (fun i σ H' => ∃ z, σ = [some (.ref (RC K)), some (.ref t), z, none] ∧ H' = H) ⟨none, rfl, rfl⟩ (fun i σ H' _ ⟨_, _, e⟩ => e ▸ SqT.of ht) ?_ ?_⟩
  · rintro i x σ H' hx ⟨z, rfl, rfl⟩
    obtain ⟨q, hq, nq⟩ := paired_get hn hx
    obtain ⟨bi, bb, br, kd, ek⟩ := kind_num T nq
    exact ⟨_, rfl, x, bi, bb, br, rfl, kd, ek, _, rfl, rfl⟩
  rintro σ H' ⟨z, rfl, rfl⟩
  -- found = cls(0)
  refine ⟨rfl, ?_⟩
  intro x dx hx hd ne
  refine ⟨x, dx, 0, 1, rfl, upd_same, by decide, Nat.two_pow_pos _, Nat.one_lt_two_pow (by decide), fun H1 kp g1 => ⟨rfl, ?_⟩⟩
  obtain ⟨s1, h1⟩ := made_ok (by decide) hx hd kp g1
  rw [M.low_int] at h1
  have ht1 := s1 _ _ ht
  refine ⟨_, rfl, t, rfl, ⟨_, SqT.of ht1⟩, for_tup (K := K) (a := t) (xs := xs) (fun i σ H2 => ∃ z v, σ = [some (.ref (RC K)), some (.ref t), z, some v] ∧ Same H' H2 ∧ RatV K H2 v (sumF (qs.take i))) ⟨z, _, rfl, s1, h1⟩
    (fun i σ H2 _ ⟨_, _, _, s2, _⟩ => SqT.of (s2 _ _ ht)) ?_ ?_⟩
  · rintro i x σ H2 hx ⟨z, v, rfl, s2, hv⟩
    obtain ⟨q, hq, nq⟩ := paired_get hn hx
    have nq2 := nq.up s2
    have hv2 := hv
    obtain ⟨⟨a, dx, rfl, ha⟩, hp⟩ := hv2
    have hi : i < 8 := by
      have := (List.getElem?_eq_some_iff.mp hq).1
      omega
    refine ⟨_, rfl, _, rfl, a, dx, _, rfl, ha, right_num nq2 right_add, _, x, _, q, rfl, hv, nq2, ?_, (hz q (List.mem_of_getElem? hq)).mono (by decide), fun r2 H3 s3 h3 => ?_⟩
    · exact (sumF_sz hred hz i).mono (by omega)
    · rw [← sumF_next hq] at h3
      exact ⟨_, r2, rfl, s2.trans s3, h3⟩
  · rintro σ H2 ⟨z, v, rfl, s2, hv⟩
    rw [hlen, List.take_length] at hv
    exact ⟨_, rfl, k v H2 s2 hv⟩

/-! ### the pot -/
def Pot (H : Hp) (p : Addr) : Prop := ∃ x y : Int, H p = some (.lst [.int x, .int y]) ∧ 0 ≤ x ∧ 0 ≤ y ∧ y < 4294967296
/-- all but the pot stands, the pot is one still -/
structure Grow (p : Addr) (H H' : Hp) : Prop where
  kp : ∀ b o, b ≠ p → H b = some o → H' b = some o
  pot : Pot H' p
theorem Grow.refl {p : Addr} {H : Hp} (h : Pot H p) : Grow p H H := ⟨fun _ _ _ e => e, h⟩
theorem Grow.trans {p : Addr} {H H1 H2 : Hp} (a : Grow p H H1) (b : Grow p H1 H2) : Grow p H H2 := ⟨fun c o n e => b.kp c o n (a.kp c o n e), b.pot⟩
theorem Pot.up {H H' : Hp} {p : Addr} (h : Pot H p) (s : Same H H') : Pot H' p := by
  obtain ⟨x, y, h1, h2⟩ := h
  exact ⟨x, y, s _ _ h1, h2⟩
theorem Grow.same {p : Addr} {H H1 H2 : Hp} (a : Grow p H H1) (s : Same H1 H2) : Grow p H H2 := ⟨fun c o n e => s c o (a.kp c o n e), a.pot.up s⟩
theorem sgrow {p : Addr} {H H1 : Hp} (s : Same H H1) (h : Pot H p) : Grow p H H1 := ⟨fun c o _ e => s c o e, h.up s⟩
/-- what is no list of two -/
def noPot : HO → Bool
  | .lst [_, _] => false
  | _ => true
theorem Pot.ne {H : Hp} {p a : Addr} {o : HO} (h : Pot H p) (e : H a = some o) (n : noPot o = true) : a ≠ p := by
  obtain ⟨x, y, h1, _⟩ := h
  refine ne_of e h1 fun z => ?_
  rw [z] at n
  cases n
theorem Pot.fresh {H : Hp} {p a : Addr} (h : Pot H p) (e : H a = none) : a ≠ p := by
  obtain ⟨x, y, h1, _⟩ := h
  exact (ne_of_none h1 e).symm
theorem Grow.get {p a : Addr} {H H' : Hp} {o : HO} (g : Grow p H H') (h : Pot H p) (e : H a = some o) (n : noPot o = true := by rfl) : H' a = some o := g.kp a o (h.ne e n) e
theorem RatV.grow {K : PySem.W.Frag} {H H' : Hp} {v : V} {q : Int × Int} {p : Addr} (h : RatV K H v q) (hp : Pot H p) (g : Grow p H H') : RatV K H' v q := by
  obtain ⟨⟨a, dx, e, ha⟩, r⟩ := h
  exact ⟨⟨a, dx, e, g.get hp ha⟩, r⟩
/-- the script stays -/
def spPot (K : PySem.W.Frag) : Sp := fun vs H Q _ => ∃ (a : Addr) (ns : List Int) (k : Nat), vs = [.ref a, .int k] ∧ SqL K H a (ns.map V.int) ∧ k ≤ 100 ∧ ∀ (p : Addr) (H' : Hp), H p = none → Same H H' → Pot H' p → Q (.ref p) H'
def spDraw : Sp := fun vs H Q _ => ∃ (p : Addr) (m : Int), vs = [.ref p, .int m] ∧ Pot H p ∧ 0 < m ∧ m.natAbs < 2 ^ 8000 ∧ ∀ (d : Int) (H' : Hp), Grow p H H' → 0 ≤ d → d < m → Q (.int d) H'
theorem ok_law_pot {P : Program} {w : World} {K : PySem.W.Frag} {mg : Str → Option Value} {base : Heap} (T : Txt K mg) : FnR P w K mg base (L2.CX P w) 1 (He.ga K "_law_pot") ((spPot K)) := by
  obtain ⟨fd, F⟩ := T.d_law_pot
  refine Z.fnr F sc_law_pot (fun _ _ _ _ _ _ us hl => match us, hl with | [_, _], _ => rfl) (fun vs H Q E h => ?_) (fun cdv A outer s H vs Q E hr h => ?_)
  · obtain ⟨a, ns, j, rfl, hs, hj, k⟩ := h
    rfl
  obtain ⟨a, ns, j, rfl, hs, hj, k⟩ := h
  refine ⟨_, PSs.nox (pss_cons (ps_set (i := 2) sc_law_pot.nd rfl (Or.inl rfl) (pe_ifExp (pt_cmpR op_lt (pv 1) (pe_callB call_len (by rfl) T.f_len (by decide +kernel) (pa_cons (pv 0) pa_nil)) (nomark _)) (pe_callB call_abs (by rfl) T.f_abs (by decide +kernel) (pa_cons (pe_ix ix_list (pv 0) (pv 1) (fun _ _ => rfl)) pa_nil)) (pe_op op_add (pe_op op_mulW (pe_int) (pv 1)) (pe_int)))) (pss_one (ps_ret (pe_lst (pa_cons (pe_callB (call_max2 rfl) (by rfl) T.f_max (by decide +kernel) (pa_cons (pe_int) (pa_cons (pe_op op_sub (pv 2) (pe_op op_pow (pe_int) (pe_int))) pa_nil))) (pa_cons (pe_op op_add (pe_op op_mod (pe_callTy call_int1 (by rfl) T.f_int (by decide +kernel) (pa_cons (pe_op op_add (pe_op op_add (pe_op op_mulW (pe_op op_mod (pe_callTy call_int1 (by rfl) T.f_int (by decide +kernel) (pa_cons (pv 2) pa_nil)) (pe_int)) (pe_int)) (pe_op op_mulW (pe_int) (pv 1))) (pe_int)) pa_nil)) (pe_int)) (pe_int)) pa_nil)))))), ?_⟩
  refine ⟨_, rfl, _, rfl, _, _, rfl, Or.inl ⟨_, hs, rfl⟩, _, _, rfl, rfl, _, rfl, ?_⟩
  have fin : ∀ c : Int, 0 ≤ c → ∃ x y : Int, x = (if c - 10 ^ Int.toNat 18 > 0 then c - 10 ^ Int.toNat 18 else 0) ∧ y = (c % 2147483563 * 40361 + 9103 * (j : Int) + 71) % 2147483497 + 1 ∧ 0 ≤ x ∧ 0 ≤ y ∧ y < 4294967296 := fun c hc => by
    refine ⟨_, _, rfl, rfl, ?_, ?_, ?_⟩
    · split <;> omega
    · have := Int.emod_nonneg (c % 2147483563 * 40361 + 9103 * (j : Int) + 71) (show (2147483497 : Int) ≠ 0 by decide)
      omega
    · have := Int.emod_lt_of_pos (c % 2147483563 * 40361 + 9103 * (j : Int) + 71) (show (0 : Int) < 2147483497 by decide)
      omega
  have small : ∀ c : Int, CMulW (c % 2147483563) 40361 := fun c => by
    have h1 := Int.emod_nonneg c (show (2147483563 : Int) ≠ 0 by decide)
    have h2 := Int.emod_lt_of_pos c (show (0 : Int) < 2147483563 by decide)
    exact wide_mul (a := 32) (b := 32) (by omega) (by decide) (by decide) (by decide) (by decide)
  have len : (ns.map V.int).length = ns.length := List.length_map ..
  by_cases hl : (j : Int) < ((ns.map V.int).length : Int)
  · rw [decide_eq_true hl]
    have hj2 : j < ns.length := by omega
    have get : atI (ns.map V.int) (j : Int) = some (V.int ns[j]) := atI_nat (by simp [hj2])
    refine iteT ⟨_, rfl, _, rfl, a, _, _, _, rfl, rfl, hs, get, _, rfl, ?_⟩
    have hc : 0 ≤ (if ns[j] < 0 then -ns[j] else ns[j]) := by split <;> omega
    generalize (if ns[j] < 0 then -ns[j] else ns[j]) = c at hc ⊢
    refine ⟨_, rfl, _, _, rfl, rfl, ⟨by decide, by decide, by decide⟩, _, _, rfl, rfl, _, _, rfl, ?_⟩
    refine ⟨_, rfl, .inl ⟨_, rfl, _, _, rfl, rfl, (by show (0 : Int) < 2147483563; decide), _, _, rfl, rfl, small _, _, rfl, _, _, rfl, rfl, wide_mul (a := 32) (b := 32) (by decide) (by omega) (by decide) (by decide) (by decide), _, _, rfl, rfl, _, _, rfl, rfl, .inl ⟨_, rfl, _, _, rfl, rfl, (by show (0 : Int) < 2147483497; decide), _, _, rfl, rfl, (by show 2 ≤ sizeLine; decide), fun p hp => ?_⟩⟩⟩
    obtain ⟨x, y, ex, ey, h0, h1, h2⟩ := fin c hc
    exact k p _ hp (same_new hp) ⟨x, y, by rw [ex, ey]; exact upd_same, h0, h1, h2⟩
  · rw [decide_eq_false hl]
    refine iteF ⟨_, rfl, _, _, rfl, rfl, wide_mul (a := 32) (b := 32) (by decide) (by omega) (by decide) (by decide) (by decide), _, _, rfl, rfl, ?_⟩
    have hc : 0 ≤ 37 * (j : Int) + 11 := by omega
    refine ⟨_, rfl, _, _, rfl, rfl, ⟨by decide, by decide, by decide⟩, _, _, rfl, rfl, _, _, rfl, ?_⟩
    refine ⟨_, rfl, .inl ⟨_, rfl, _, _, rfl, rfl, (by show (0 : Int) < 2147483563; decide), _, _, rfl, rfl, small _, _, rfl, _, _, rfl, rfl, wide_mul (a := 32) (b := 32) (by decide) (by omega) (by decide) (by decide) (by decide), _, _, rfl, rfl, _, _, rfl, rfl, .inl ⟨_, rfl, _, _, rfl, rfl, (by show (0 : Int) < 2147483497; decide), _, _, rfl, rfl, (by show 2 ≤ sizeLine; decide), fun p hp => ?_⟩⟩⟩
    obtain ⟨x, y, ex, ey, h0, h1, h2⟩ := fin _ hc
    exact k p _ hp (same_new hp) ⟨x, y, by rw [ex, ey]; exact upd_same, h0, h1, h2⟩
theorem ok_law_draw {P : Program} {w : World} {K : PySem.W.Frag} {mg : Str → Option Value} {base : Heap} (T : Txt K mg) : FnR P w K mg base (L2.CX P w) 1 (He.ga K "_law_draw") (spDraw) := by
  obtain ⟨fd, F⟩ := T.d_law_draw
  refine Z.fnr F sc_law_draw (fun _ _ _ _ _ _ us hl => match us, hl with | [_, _], _ => rfl) (fun vs H Q E h => ?_) (fun cdv A outer s H vs Q E hr h => ?_)
  · obtain ⟨p, m, rfl, ⟨x, y, hp, hx, hy, hy2⟩, hm, hz, k⟩ := h
    rfl
  obtain ⟨p, m, rfl, ⟨x, y, hp, hx, hy, hy2⟩, hm, hz, k⟩ := h
  refine ⟨_, PSs.nox (pss_cons (ps_if (pt_cmpR op_gt (pe_ix ix_list (pv 0) (pe_int) (fun _ _ => rfl)) (pe_int) (nomark _)) (pss_cons (ps_asg (pe_callB Z.call_divmodZ (by rfl) T.f_divmod (by decide +kernel) (pa_cons (pe_ix ix_list (pv 0) (pe_int) (fun _ _ => rfl)) (pa_cons (pv 1) pa_nil))) (pg_tup rfl (pgs_cons (pg_sub (pv 0) (pe_int) set_list) (pgs_cons (pg_name (i := 2) sc_law_draw.nd rfl (Or.inl rfl)) (pgs_nil))))) (pss_one (ps_ret (pv 2)))) (pss_nil)) (pss_cons (ps_asg (pe_op op_mod (pe_callTy call_int1 (by rfl) T.f_int (by decide +kernel) (pa_cons (pe_op op_add (pe_op op_mulW (pe_ix ix_list (pv 0) (pe_int) (fun _ _ => rfl)) (pe_int)) (pe_int)) pa_nil)) (pe_int)) (pg_sub (pv 0) (pe_int) set_list)) (pss_one (ps_ret (pe_op op_mod (pe_callTy call_int1 (by rfl) T.f_int (by decide +kernel) (pa_cons (pe_op Z.op_fdivZ (pe_op op_mod (pe_callTy call_int1 (by rfl) T.f_int (by decide +kernel) (pa_cons (pe_op op_mulW (pe_ix ix_list (pv 0) (pe_int) (fun _ _ => rfl)) (pe_ix ix_list (pv 0) (pe_int) (fun _ _ => rfl))) pa_nil)) (pe_int)) (pe_int)) pa_nil)) (pv 1)))))), ?_⟩
  refine ⟨_, rfl, p, _, _, _, rfl, rfl, SqL.of hp, rfl, _, _, rfl, rfl, _, rfl, ?_⟩
  by_cases c : 0 < x
  · rw [decide_eq_true c]
    refine iteT ⟨_, rfl, p, _, _, _, rfl, rfl, SqL.of hp, rfl, _, rfl, _, _, rfl, ⟨hm, Nat.lt_trans (log_lt hz (by decide)) (by decide)⟩, fun t ht => ?_⟩
    have hpt : p ≠ t := ne_of_none hp ht
    refine ⟨t, _, rfl, SqT.of upd_same, rfl, _, _, rfl, _, rfl, p, _, _, 0, rfl, rfl, (by rw [upd_ne hpt]; exact hp), rfl, _, _, rfl, rfl, _, rfl, ?_⟩
    refine k _ _ ⟨fun b o hb e => ?_, ?_⟩ (Int.emod_nonneg x (Int.ne_of_gt hm)) (Int.emod_lt_of_pos x hm)
    · rw [upd_ne hb, upd_ne (ne_of_none e ht)]
      exact e
    · exact ⟨x / m, y, upd_same, Int.ediv_nonneg hx (Int.le_of_lt hm), hy, hy2⟩
  · rw [decide_eq_false c]
    have b32 : y.natAbs < 2 ^ 32 := by omega
    refine iteF ⟨_, rfl, p, _, _, _, rfl, rfl, SqL.of hp, rfl, _, _, rfl, rfl, wide_mul (a := 32) (b := 32) b32 (by decide) (by decide) (by decide) (by decide), _, _, rfl, rfl, .inl ⟨_, rfl, _, _, rfl, rfl, (by show (0 : Int) < 2147483549; decide), ?_⟩⟩
    refine ⟨_, rfl, p, _, _, 1, rfl, rfl, hp, rfl, ?_⟩
    have h1 := Int.emod_nonneg (y * 46021 + 15013) (show (2147483549 : Int) ≠ 0 by decide)
    have h2 := Int.emod_lt_of_pos (y * 46021 + 15013) (show (0 : Int) < 2147483549 by decide)
    have z32 : ((y * 46021 + 15013) % 2147483549).natAbs < 2 ^ 32 := by
      clear k
      omega
    refine ⟨_, rfl, p, _, _, _, rfl, rfl, SqL.of upd_same, rfl, _, rfl, p, _, _, _, rfl, rfl, SqL.of upd_same, rfl, _, _, rfl, rfl, wide_mul (a := 32) (b := 32) z32 z32 (by decide) (by decide) (by decide), .inl ⟨_, rfl, _, _, rfl, rfl, (by show (0 : Int) < 2147483477; decide), ?_⟩⟩
    refine ⟨_, _, rfl, rfl, ⟨by decide, by decide⟩, .inl ⟨_, rfl, _, rfl, _, _, rfl, rfl, hm, ?_⟩⟩
    refine k _ _ ⟨fun b o hb e => ?_, ?_⟩ (Int.emod_nonneg _ (Int.ne_of_gt hm)) (Int.emod_lt_of_pos _ hm)
    · rw [upd_ne hb]
      exact e
    · exact ⟨x, _, upd_same, hx, h1, by omega⟩

/-! ### picks -/
def spPick : Sp := fun vs H Q _ => ∃ (p l : Addr) (xs : List V), vs = [.ref p, .ref l] ∧ Pot H p ∧ H l = some (.lst xs) ∧ l ≠ p ∧ 0 < xs.length ∧ xs.length ≤ 1000 ∧ ∀ (v : V) (H' : Hp), Grow p H H' → v ∈ xs → Q v H'
theorem ok_law_pick {P : Program} {w : World} {K : PySem.W.Frag} {mg : Str → Option Value} {base : Heap} (T : Txt K mg) : FnR P w K mg base (L2.CX P w) 2 (He.ga K "_law_pick") (spPick) := by
  obtain ⟨fd, F⟩ := T.d_law_pick
  refine Z.fnr F sc_law_pick (fun _ _ _ _ _ _ us hl => match us, hl with | [_, _], _ => rfl) (fun vs H Q E h => ?_) (fun cdv A outer s H vs Q E hr h => ?_)
  · obtain ⟨p, l, xs, rfl, hp, hl, ne, h0, h1, k⟩ := h
    rfl
  obtain ⟨p, l, xs, rfl, hp, hl, ne, h0, h1, k⟩ := h
  refine ⟨_, PSs.nox (pss_one (ps_ret (pe_ix ix_list (pv 1) (Z.pe_cl (E := E0) (ok_law_draw T) (hr.mono (by decide)) T.g_law_draw T.k_law_draw passL (pa_cons (pv 0) (pa_cons (pe_callB call_len (by rfl) T.f_len (by decide +kernel) (pa_cons (pv 1) pa_nil)) pa_nil))) (fun _ _ => rfl)))), ?_⟩
  refine ⟨_, rfl, _, rfl, _, rfl, _, xs.length, rfl, Or.inl ⟨_, SqL.of hl, rfl⟩, p, (xs.length : Int), rfl, hp, by omega, ?_, fun d H1 g d0 d1 => ?_⟩
  · exact Nat.lt_of_lt_of_le (show (xs.length : Int).natAbs < 2 ^ 10 by omega) (Nat.pow_le_pow_right (by decide) (by decide))
  · have hd : d.toNat < xs.length := by omega
    have e : atI xs d = some xs[d.toNat] := by
      have z := atI_nat (xs := xs) (j := d.toNat) (v := xs[d.toNat]) (by simp [hd])
      rw [show ((d.toNat : Nat) : Int) = d by omega] at z
      exact z
    exact ⟨l, xs, d, _, rfl, rfl, SqL.of (g.kp l _ ne hl), e, k _ H1 g (List.getElem_mem hd)⟩
/-! ### the law's own fractions -/
def FracT (H : Hp) (v : V) (q : Int × Int) : Prop := ∃ t, v = .ref t ∧ H t = some (.tup [.int q.1, .int q.2])
theorem FracT.up {H H' : Hp} {v : V} {q : Int × Int} (h : FracT H v q) (s : Same H H') : FracT H' v q := by
  obtain ⟨t, e, ht⟩ := h
  exact ⟨t, e, s _ _ ht⟩
theorem FracT.grow {H H' : Hp} {v : V} {q : Int × Int} {p : Addr} (h : FracT H v q) (hp : Pot H p) (g : Grow p H H') : FracT H' v q := by
  obtain ⟨t, e, ht⟩ := h
  exact ⟨t, e, g.get hp ht⟩
def spCommon : Sp := fun vs H Q _ => ∃ m n : Int, vs = [.int m, .int n] ∧ Q (.int (Int.gcd m n : Int)) H
theorem ok_law_common {P : Program} {w : World} {K : PySem.W.Frag} {mg : Str → Option Value} {base : Heap} (T : Txt K mg) : FnR P w K mg base (L2.CX P w) 1 (He.ga K "_law_common") (spCommon) := by
  obtain ⟨fd, F⟩ := T.d_law_common
  refine Z.fnr F sc_law_common (fun _ _ _ _ _ _ us hl => match us, hl with | [_, _], _ => rfl) (fun vs H Q E h => ?_) (fun cdv A outer s H vs Q E hr h => ?_)
  · obtain ⟨m, n, rfl, k⟩ := h
    rfl
  obtain ⟨m, n, rfl, k⟩ := h
  refine ⟨_, PSs.nox (pss_cons (ps_par (i := 0) (j := 1) (by rfl) sc_law_common.nd rfl rfl (by decide) rfl rfl (pa_cons (pe_callB call_abs (by rfl) T.f_abs (by decide +kernel) (pa_cons (pv 0) pa_nil)) (pa_cons (pe_callB call_abs (by rfl) T.f_abs (by decide +kernel) (pa_cons (pv 1) pa_nil)) pa_nil)) (by rfl)) (pss_cons (ps_while PassesOwn.never (pt_cmpR op_gt (pv 1) (pe_int) (nomark _)) (pss_one (ps_par (i := 0) (j := 1) (by rfl) sc_law_common.nd rfl rfl (by decide) rfl rfl (pa_cons (pv 1) (pa_cons (pe_op op_mod (pe_callTy call_int1 (by rfl) T.f_int (by decide +kernel) (pa_cons (pv 0) pa_nil)) (pv 1)) pa_nil)) (by rfl)))) (pss_one (ps_ret (pv 0))))), ?_⟩
  rw [← M.gcd_abs] at k
  have hm : 0 ≤ (if m < 0 then -m else m) := by split <;> omega
  have hn : 0 ≤ (if n < 0 then -n else n) := by split <;> omega
  refine ⟨_, rfl, _, rfl, _, rfl, _, rfl, _, _, rfl, ?_⟩
  generalize (if m < 0 then -m else m) = m at hm k ⊢
  generalize (if n < 0 then -n else n) = n at hn k ⊢
  refine ⟨fun c σ H' => ∃ a b : Int, σ = [some (.int a), some (.int b)] ∧ H' = H ∧ 0 ≤ a ∧ 0 ≤ b ∧ Int.gcd a b = Int.gcd m n ∧ c = b.toNat, ⟨_, m, n, rfl, rfl, hm, hn, rfl, rfl⟩, ?_⟩
  rintro c σ H' ⟨a, b, rfl, rfl, ha, hb, hg, rfl⟩
  refine ⟨_, rfl, _, _, rfl, rfl, _, rfl, ?_⟩
  by_cases hp : 0 < b
  · rw [decide_eq_true hp]
    refine iteT ⟨fun σ' H2 => ∃ m', m' < b.toNat ∧ ∃ a2 b2 : Int, σ' = [some (.int a2), some (.int b2)] ∧ H2 = H' ∧ 0 ≤ a2 ∧ 0 ≤ b2 ∧ Int.gcd a2 b2 = Int.gcd m n ∧ m' = b2.toNat, fun _ _ z => z, ?_⟩
    refine ⟨_, rfl, _, rfl, .inl ⟨_, rfl, _, rfl, _, _, rfl, rfl, hp, _, _, rfl, ?_⟩⟩
    have h1 := Int.emod_nonneg a (Int.ne_of_gt hp)
    have h2 := Int.emod_lt_of_pos a hp
    exact ⟨(a % b).toNat, by omega, b, a % b, rfl, rfl, hb, h1, (M.gcd_step ha hp).trans hg, rfl⟩
  · rw [decide_eq_false hp]
    have e : b = 0 := by omega
    subst e
    refine iteF ⟨_, rfl, ?_⟩
    rw [← hg, M.gcd_end ha] at k
    exact k
def spLow : Sp := fun vs H Q _ => ∃ u l : Int, vs = [.int u, .int l] ∧ l ≠ 0 ∧ u.natAbs < 2 ^ 8000 ∧ l.natAbs < 2 ^ 8000 ∧ ∀ (r : V) (H' : Hp), Same H H' → FracT H' r (M.low u l) → Q r H'
theorem gcd_sz {u l : Int} {n : Nat} (hl : l ≠ 0) (hz : l.natAbs < 2 ^ n) : Int.gcd u l < 2 ^ n :=
  Nat.lt_of_le_of_lt (Nat.le_of_dvd (Int.natAbs_pos.mpr hl) (by have := Int.natAbs_dvd_natAbs.mpr (Int.gcd_dvd_right u l); simpa using this)) hz
theorem ok_law_low {P : Program} {w : World} {K : PySem.W.Frag} {mg : Str → Option Value} {base : Heap} (T : Txt K mg) : FnR P w K mg base (L2.CX P w) 2 (He.ga K "_law_low") (spLow) := by
  obtain ⟨fd, F⟩ := T.d_law_low
  refine Z.fnr F sc_law_low (fun _ _ _ _ _ _ us hl => match us, hl with | [_, _], _ => rfl) (fun vs H Q E h => ?_) (fun cdv A outer s H vs Q E hr h => ?_)
  · obtain ⟨u, l, rfl, hl, hu, hz, k⟩ := h
    rfl
  obtain ⟨u, l, rfl, hl, hu, hz, k⟩ := h
  refine ⟨_, PSs.nox (pss_cons (ps_set (i := 2) sc_law_low.nd rfl (Or.inl rfl) (pe_op op_mulW (Z.pe_cl (E := E0) (ok_law_common T) (hr.mono (by decide)) T.g_law_common T.k_law_common passL (pa_cons (pv 0) (pa_cons (pv 1) pa_nil))) (pe_ifExp (pt_cmpR op_gt (pv 1) (pe_int) (nomark _)) (pe_int) (pe_un un_neg (pe_int))))) (pss_one (ps_ret (pe_tup (pa_cons (pe_op Z.op_fdivZ (pv 0) (pv 2)) (pa_cons (pe_op Z.op_fdivZ (pv 1) (pv 2)) pa_nil)))))), ?_⟩
  have gz := gcd_sz (u := u) hl hz
  have cd : ∀ (x g : Int), g = M.sg u l → Z.CDz x g := fun x g e => ⟨e ▸ M.sg_ne hl, Nat.lt_trans (log_lt (n := 8000) (by rw [e, M.sg_abs]; exact gz) (by decide)) (by decide)⟩
  have fin : ∀ (t : Addr) (g : Int), g = M.sg u l → H t = none → Q (.ref t) (upd H t (.tup [.int (u.fdiv g), .int (l.fdiv g)])) := fun t g e ht => by
    rw [e]
    exact k _ _ (same_new ht) ⟨t, rfl, upd_same⟩
  refine ⟨_, rfl, _, rfl, _, _, rfl, _, rfl, _, _, rfl, rfl, _, rfl, ?_⟩
  by_cases c : 0 < l
  · rw [decide_eq_true c]
    have e : (Int.gcd u l : Int) * 1 = M.sg u l := by
      unfold M.sg
      rw [if_neg (by omega), Int.mul_one]
    refine iteT ⟨_, _, rfl, rfl, wide_mul (a := 8000) (b := 2) (by simpa using gz) (by decide) (by decide) (by decide) (by decide), ?_⟩
    exact ⟨_, rfl, _, rfl, _, _, rfl, rfl, cd _ _ e, _, rfl, _, rfl, _, _, rfl, rfl, cd _ _ e, (by show 2 ≤ sizeLine; decide), fun t ht => fin t _ e ht⟩
  · rw [decide_eq_false c]
    have e : (Int.gcd u l : Int) * -1 = M.sg u l := by
      unfold M.sg
      rw [if_pos (by omega), Int.mul_neg, Int.mul_one]
    refine iteF ⟨_, rfl, _, _, rfl, rfl, wide_mul (a := 8000) (b := 2) (by simpa using gz) (by decide) (by decide) (by decide) (by decide), ?_⟩
    exact ⟨_, rfl, _, rfl, _, _, rfl, rfl, cd _ _ e, _, rfl, _, rfl, _, _, rfl, rfl, cd _ _ e, (by show 2 ≤ sizeLine; decide), fun t ht => fin t _ e ht⟩
def spF2 (f : Int × Int → Int × Int → Int × Int) : Sp := fun vs H Q _ => ∃ (v w : V) (p q : Int × Int), vs = [v, w] ∧ FracT H v p ∧ FracT H w q ∧ M.Red p ∧ M.Red q ∧ M.Sz 3000 p ∧ M.Sz 3000 q ∧ ∀ (r : V) (H' : Hp), Same H H' → FracT H' r (f p q) → Q r H'
theorem ok_law_plus {P : Program} {w : World} {K : PySem.W.Frag} {mg : Str → Option Value} {base : Heap} (T : Txt K mg) : FnR P w K mg base (L2.CX P w) 3 (He.ga K "_law_plus") ((spF2 M.plus)) := by
  obtain ⟨fd, F⟩ := T.d_law_plus
  refine Z.fnr F sc_law_plus (fun _ _ _ _ _ _ us hl => match us, hl with | [_, _], _ => rfl) (fun vs H Q E h => ?_) (fun cdv A outer s H vs Q E hr h => ?_)
  · obtain ⟨_, _, p, q, rfl, ⟨s1, rfl, h1⟩, ⟨s2, rfl, h2⟩, rp, rq, zp, zq, k⟩ := h
    rfl
  obtain ⟨_, _, p, q, rfl, ⟨s1, rfl, h1⟩, ⟨s2, rfl, h2⟩, rp, rq, zp, zq, k⟩ := h
  refine ⟨_, PSs.nox (pss_one (ps_ret (Z.pe_cl (E := E0) (ok_law_low T) (hr.mono (by decide)) T.g_law_low T.k_law_low passL (pa_cons (pe_op op_add (pe_op op_mulW (pe_ix ix_tup (pv 0) (pe_int) (fun _ _ => rfl)) (pe_ix ix_tup (pv 1) (pe_int) (fun _ _ => rfl))) (pe_op op_mulW (pe_ix ix_tup (pv 1) (pe_int) (fun _ _ => rfl)) (pe_ix ix_tup (pv 0) (pe_int) (fun _ _ => rfl)))) (pa_cons (pe_op op_mulW (pe_ix ix_tup (pv 0) (pe_int) (fun _ _ => rfl)) (pe_ix ix_tup (pv 1) (pe_int) (fun _ _ => rfl))) pa_nil))))), ?_⟩
  refine ⟨_, rfl, s1, _, _, _, rfl, rfl, SqT.of h1, rfl, _, rfl, s2, _, _, _, rfl, rfl, SqT.of h2, rfl, _, _, rfl, rfl, mul_ok zp.1 zq.2, ?_⟩
  refine ⟨_, rfl, s2, _, _, _, rfl, rfl, SqT.of h2, rfl, _, rfl, s1, _, _, _, rfl, rfl, SqT.of h1, rfl, _, _, rfl, rfl, mul_ok zq.1 zp.2, _, _, rfl, rfl, ?_⟩
  exact ⟨_, rfl, s1, _, _, _, rfl, rfl, SqT.of h1, rfl, _, rfl, s2, _, _, _, rfl, rfl, SqT.of h2, rfl, _, _, rfl, rfl, mul_ok zp.2 zq.2, _, _, rfl, M.bot_ne rp rq, sz8 (M.add_lt (M.mul_lt zp.1 zq.2) (M.mul_lt zq.1 zp.2)) (by decide), sz8 (M.mul_lt zp.2 zq.2) (by decide), k⟩
theorem ok_law_minus {P : Program} {w : World} {K : PySem.W.Frag} {mg : Str → Option Value} {base : Heap} (T : Txt K mg) : FnR P w K mg base (L2.CX P w) 3 (He.ga K "_law_minus") ((spF2 M.minus)) := by
  obtain ⟨fd, F⟩ := T.d_law_minus
  refine Z.fnr F sc_law_minus (fun _ _ _ _ _ _ us hl => match us, hl with | [_, _], _ => rfl) (fun vs H Q E h => ?_) (fun cdv A outer s H vs Q E hr h => ?_)
  · obtain ⟨_, _, p, q, rfl, ⟨s1, rfl, h1⟩, ⟨s2, rfl, h2⟩, rp, rq, zp, zq, k⟩ := h
    rfl
  obtain ⟨_, _, p, q, rfl, ⟨s1, rfl, h1⟩, ⟨s2, rfl, h2⟩, rp, rq, zp, zq, k⟩ := h
  refine ⟨_, PSs.nox (pss_one (ps_ret (Z.pe_cl (E := E0) (ok_law_low T) (hr.mono (by decide)) T.g_law_low T.k_law_low passL (pa_cons (pe_op op_sub (pe_op op_mulW (pe_ix ix_tup (pv 0) (pe_int) (fun _ _ => rfl)) (pe_ix ix_tup (pv 1) (pe_int) (fun _ _ => rfl))) (pe_op op_mulW (pe_ix ix_tup (pv 1) (pe_int) (fun _ _ => rfl)) (pe_ix ix_tup (pv 0) (pe_int) (fun _ _ => rfl)))) (pa_cons (pe_op op_mulW (pe_ix ix_tup (pv 0) (pe_int) (fun _ _ => rfl)) (pe_ix ix_tup (pv 1) (pe_int) (fun _ _ => rfl))) pa_nil))))), ?_⟩
  refine ⟨_, rfl, s1, _, _, _, rfl, rfl, SqT.of h1, rfl, _, rfl, s2, _, _, _, rfl, rfl, SqT.of h2, rfl, _, _, rfl, rfl, mul_ok zp.1 zq.2, ?_⟩
  refine ⟨_, rfl, s2, _, _, _, rfl, rfl, SqT.of h2, rfl, _, rfl, s1, _, _, _, rfl, rfl, SqT.of h1, rfl, _, _, rfl, rfl, mul_ok zq.1 zp.2, _, _, rfl, rfl, ?_⟩
  exact ⟨_, rfl, s1, _, _, _, rfl, rfl, SqT.of h1, rfl, _, rfl, s2, _, _, _, rfl, rfl, SqT.of h2, rfl, _, _, rfl, rfl, mul_ok zp.2 zq.2, _, _, rfl, M.bot_ne rp rq, sz8 (M.sub_lt (M.mul_lt zp.1 zq.2) (M.mul_lt zq.1 zp.2)) (by decide), sz8 (M.mul_lt zp.2 zq.2) (by decide), k⟩
theorem ok_law_times {P : Program} {w : World} {K : PySem.W.Frag} {mg : Str → Option Value} {base : Heap} (T : Txt K mg) : FnR P w K mg base (L2.CX P w) 3 (He.ga K "_law_times") ((spF2 M.times)) := by
  obtain ⟨fd, F⟩ := T.d_law_times
  refine Z.fnr F sc_law_times (fun _ _ _ _ _ _ us hl => match us, hl with | [_, _], _ => rfl) (fun vs H Q E h => ?_) (fun cdv A outer s H vs Q E hr h => ?_)
  · obtain ⟨_, _, p, q, rfl, ⟨s1, rfl, h1⟩, ⟨s2, rfl, h2⟩, rp, rq, zp, zq, k⟩ := h
    rfl
  obtain ⟨_, _, p, q, rfl, ⟨s1, rfl, h1⟩, ⟨s2, rfl, h2⟩, rp, rq, zp, zq, k⟩ := h
  refine ⟨_, PSs.nox (pss_one (ps_ret (Z.pe_cl (E := E0) (ok_law_low T) (hr.mono (by decide)) T.g_law_low T.k_law_low passL (pa_cons (pe_op op_mulW (pe_ix ix_tup (pv 0) (pe_int) (fun _ _ => rfl)) (pe_ix ix_tup (pv 1) (pe_int) (fun _ _ => rfl))) (pa_cons (pe_op op_mulW (pe_ix ix_tup (pv 0) (pe_int) (fun _ _ => rfl)) (pe_ix ix_tup (pv 1) (pe_int) (fun _ _ => rfl))) pa_nil))))), ?_⟩
  refine ⟨_, rfl, s1, _, _, _, rfl, rfl, SqT.of h1, rfl, _, rfl, s2, _, _, _, rfl, rfl, SqT.of h2, rfl, _, _, rfl, rfl, mul_ok zp.1 zq.1, ?_⟩
  exact ⟨_, rfl, s1, _, _, _, rfl, rfl, SqT.of h1, rfl, _, rfl, s2, _, _, _, rfl, rfl, SqT.of h2, rfl, _, _, rfl, rfl, mul_ok zp.2 zq.2, _, _, rfl, M.bot_ne rp rq, sz8 (M.mul_lt zp.1 zq.1) (by decide), sz8 (M.mul_lt zp.2 zq.2) (by decide), k⟩

/-! ### integers -/
def spInteger : Sp := fun vs H Q _ => ∃ p : Addr, vs = [.ref p] ∧ Pot H p ∧ ∀ (n : Int) (H' : Hp), Grow p H H' → n.natAbs < 2 ^ 40 → Q (.int n) H'
theorem ints_mem {v : V} (h : v ∈ ([.int 2, .int 3, .int 6, .int 13, .int 100, .int (10 ^ Int.toNat 6), .int (10 ^ Int.toNat 12)] : List V)) : ∃ m : Int, v = .int m ∧ 0 < m ∧ m ≤ 1000000000000 := by
  simp only [List.mem_cons, List.mem_nil_iff, or_false] at h
  rcases h with h | h | h | h | h | h | h <;> exact ⟨_, h, by decide, by decide⟩
theorem pow_ok {i j : Int} (h1 : 0 ≤ j) (h2 : j ≤ 1000000) (h3 : i.natAbs < 2 ^ 64) : CPow i j := ⟨h1, h2, h3⟩
theorem ok_law_integer {P : Program} {w : World} {K : PySem.W.Frag} {mg : Str → Option Value} {base : Heap} (T : Txt K mg) : FnR P w K mg base (L2.CX P w) 3 (He.ga K "_law_integer") (spInteger) := by
  obtain ⟨fd, F⟩ := T.d_law_integer
  refine Z.fnr F sc_law_integer (fun _ _ _ _ _ _ us hl => match us, hl with | [_], _ => rfl) (fun vs H Q E h => ?_) (fun cdv A outer s H vs Q E hr h => ?_)
  · obtain ⟨p, rfl, hp, k⟩ := h
    rfl
  obtain ⟨p, rfl, hp, k⟩ := h
  refine ⟨_, PSs.nox (pss_cons (ps_set (i := 1) sc_law_integer.nd rfl (Or.inl rfl) (Z.pe_cl (E := E0) (ok_law_draw T) (hr.mono (by decide)) T.g_law_draw T.k_law_draw passL (pa_cons (pv 0) (pa_cons (Z.pe_cl (E := E0) (ok_law_pick T) (hr.mono (by decide)) T.g_law_pick T.k_law_pick passL (pa_cons (pv 0) (pa_cons (pe_lst (pa_cons (pe_int) (pa_cons (pe_int) (pa_cons (pe_int) (pa_cons (pe_int) (pa_cons (pe_int) (pa_cons (pe_op op_pow (pe_int) (pe_int)) (pa_cons (pe_op op_pow (pe_int) (pe_int)) pa_nil)))))))) pa_nil))) pa_nil)))) (pss_one (ps_ret (pe_ifExp (pt_cmpR op_eq (Z.pe_cl (E := E0) (ok_law_draw T) (hr.mono (by decide)) T.g_law_draw T.k_law_draw passL (pa_cons (pv 0) (pa_cons (pe_int) pa_nil))) (pe_int) (nomark _)) (pe_un un_neg (pv 1)) (pv 1))))), ?_⟩
  refine ⟨_, rfl, _, rfl, _, _, rfl, rfl, pow_ok (by decide) (by decide) (by decide), _, _, rfl, rfl, pow_ok (by decide) (by decide) (by decide), (by show 7 ≤ sizeLine; decide), fun l hl => ?_⟩
  have hp1 := hp.up (same_new (o := HO.lst [.int 2, .int 3, .int 6, .int 13, .int 100, .int (10 ^ Int.toNat 6), .int (10 ^ Int.toNat 12)]) hl)
  refine ⟨p, l, _, rfl, hp1, upd_same, hp.fresh hl, by decide, by decide, fun v H1 g1 hv => ?_⟩
  obtain ⟨m, rfl, m0, m1⟩ := ints_mem hv
  refine ⟨p, m, rfl, g1.pot, m0, Nat.lt_of_lt_of_le (show m.natAbs < 2 ^ 40 by omega) (Nat.pow_le_pow_right (by decide) (by decide)), fun d H2 g2 d0 d1 => ?_⟩
  have g02 : Grow p H H2 := (sgrow (same_new hl) hp).trans (g1.trans g2)
  refine ⟨_, rfl, p, 2, rfl, g2.pot, by decide, Nat.lt_of_lt_of_le (show (2 : Int).natAbs < 2 ^ 2 by decide) (Nat.pow_le_pow_right (by decide) (by decide)), fun e H3 g3 e0 e1 => ?_⟩
  have g03 := g02.trans g3
  refine ⟨rfl, _, rfl, ?_⟩
  by_cases c : e = 1
  · rw [decide_eq_true (by rw [c])]
    exact iteT ⟨_, rfl, _, rfl, k _ H3 g03 (by rw [Int.natAbs_neg]; omega)⟩
  · rw [decide_eq_false (fun z => c (V.int.inj z))]
    exact iteF ⟨_, rfl, k _ H3 g03 (by omega)⟩
def spParts : Sp := fun vs H Q _ => ∃ p : Addr, vs = [.ref p] ∧ Pot H p ∧ ∀ (u l : Int) (r : V) (H' : Hp), Grow p H H' → l ≠ 0 → u.natAbs < 2 ^ 40 → l.natAbs < 2 ^ 40 → FracT H' r (u, l) → Q r H'
theorem three_mem {v : V} (h : v ∈ ([.int 1, .int (-1), .int 7] : List V)) : ∃ m : Int, v = .int m ∧ m ≠ 0 ∧ m.natAbs < 2 ^ 40 := by
  simp only [List.mem_cons, List.mem_nil_iff, or_false] at h
  rcases h with h | h | h <;> exact ⟨_, h, by decide, by decide⟩
theorem ok_law_parts {P : Program} {w : World} {K : PySem.W.Frag} {mg : Str → Option Value} {base : Heap} (T : Txt K mg) : FnR P w K mg base (L2.CX P w) 4 (He.ga K "_law_parts") (spParts) := by
  obtain ⟨fd, F⟩ := T.d_law_parts
  refine Z.fnr F sc_law_parts (fun _ _ _ _ _ _ us hl => match us, hl with | [_], _ => rfl) (fun vs H Q E h => ?_) (fun cdv A outer s H vs Q E hr h => ?_)
  · obtain ⟨p, rfl, hp, k⟩ := h
    rfl
  obtain ⟨p, rfl, hp, k⟩ := h
  refine ⟨_, PSs.nox (pss_cons (ps_par (i := 1) (j := 2) (by rfl) sc_law_parts.nd rfl rfl (by decide) rfl rfl (pa_cons (Z.pe_cl (E := E0) (ok_law_integer T) (hr.mono (by decide)) T.g_law_integer T.k_law_integer passL (pa_cons (pv 0) pa_nil)) (pa_cons (Z.pe_cl (E := E0) (ok_law_integer T) (hr.mono (by decide)) T.g_law_integer T.k_law_integer passL (pa_cons (pv 0) pa_nil)) pa_nil)) (by rfl)) (pss_one (ps_ret (pe_tup (pa_cons (pv 1) (pa_cons (pe_ifExp (pt_cmpR op_ne (pv 2) (pe_int) (nomark _)) (pv 2) (Z.pe_cl (E := E0) (ok_law_pick T) (hr.mono (by decide)) T.g_law_pick T.k_law_pick passL (pa_cons (pv 0) (pa_cons (pe_lst (pa_cons (pe_int) (pa_cons (pe_un un_neg (pe_int)) (pa_cons (pe_int) pa_nil)))) pa_nil)))) pa_nil)))))), ?_⟩
  refine ⟨_, rfl, p, rfl, hp, fun u H1 g1 hu => ⟨_, rfl, p, rfl, g1.pot, fun l H2 g2 hl => ⟨_, _, rfl, ?_⟩⟩⟩
  have g02 := g1.trans g2
  refine ⟨_, rfl, _, rfl, rfl, _, rfl, ?_⟩
  by_cases c : l = 0
  · rw [decide_eq_true (by rw [c])]
    refine iteF ⟨_, rfl, _, rfl, (by show 3 ≤ sizeLine; decide), fun a ha => ?_⟩
    have s1 := same_new (o := HO.lst [.int 1, .int (-1), .int 7]) ha
    refine ⟨p, a, _, rfl, g2.pot.up s1, upd_same, g2.pot.fresh ha, by decide, by decide, fun v H3 g3 hv => ?_⟩
    obtain ⟨m, rfl, m0, m1⟩ := three_mem hv
    refine ⟨(by show 2 ≤ sizeLine; decide), fun t ht => ?_⟩
    exact k u m _ _ (((g02.same s1).trans g3).same (same_new ht)) m0 hu m1 ⟨t, rfl, upd_same⟩
  · rw [decide_eq_false (fun z => c (V.int.inj z))]
    refine iteT ⟨_, rfl, (by show 2 ≤ sizeLine; decide), fun t ht => ?_⟩
    exact k u l _ _ (g02.same (same_new ht)) c hu hl ⟨t, rfl, upd_same⟩
/-! ### what a ratio tells -/
def spIs (K : PySem.W.Frag) : Sp := fun vs H Q _ => ∃ (v w : V) (q : Int × Int), vs = [v, w] ∧ RatV K H v q ∧ FracT H w q ∧ M.Sz 1800 q ∧ ∀ H', Same H H' → Q (.bl true) H'
def isD (q : Int × Int) : PyData := .list [.int q.1, .int q.2, .int (sgn q.1), .str (rstr q), .str (rrep q)]
theorem sgn_small (n : Int) : (sgn n).natAbs < 2 ^ 1900 := by
  have h : (sgn n).natAbs ≤ 1 := by
    unfold sgn
    split <;> split <;> decide
  exact Nat.lt_of_le_of_lt h (Nat.one_lt_two_pow (by decide))
theorem okc_itx (n : Int) : Z.Okc (itx n) := Z.okc_of _
theorem okc_rstr (q : Int × Int) : Z.Okc (rstr q) := by
  unfold rstr
  split
  · exact okc_itx _
  · exact Z.okc_app (Z.okc_app (okc_itx _) (Z.okc_of _)) (okc_itx _)
theorem okc_rrep (q : Int × Int) : Z.Okc (rrep q) := Z.okc_app (Z.okc_app (Z.okc_app (Z.okc_app (Z.okc_of _) (okc_itx _)) (Z.okc_of _)) (okc_itx _)) (Z.okc_of _)
theorem rstr_len {q : Int × Int} (hz : M.Sz 1900 q) : (rstr q).length ≤ 4000 := by
  have l1 := itx_len hz.1
  have l2 := itx_len hz.2
  have c : ("/" : Str).length = 1 := by decide +kernel
  unfold rstr
  split
  · omega
  · rw [Str.length_append, Str.length_append]
    omega
theorem rrep_len {q : Int × Int} (hz : M.Sz 1900 q) : (rrep q).length ≤ 4000 := by
  have l1 := itx_len hz.1
  have l2 := itx_len hz.2
  have c1 : ("Ratio(" : Str).length = 6 := by decide +kernel
  have c2 : (", " : Str).length = 2 := by decide +kernel
  have c3 : (")" : Str).length = 1 := by decide +kernel
  unfold rrep
  rw [Str.length_append, Str.length_append, Str.length_append, Str.length_append]
  omega
theorem isD_len {q : Int × Int} (hz : M.Sz 1900 q) : (isD q).shown.length ≤ sizeLine := by
  have l1 := itx_len hz.1
  have l2 := itx_len hz.2
  have l3 := itx_len (sgn_small q.1)
  have l4 := Z.rep_le (okc_rstr q) (rstr_len hz)
  have l5 := Z.rep_le (okc_rrep q) (rrep_len hz)
  have h := Z.listText_le [itx q.1, itx q.2, itx (sgn q.1), reprText (rstr q), reprText (rrep q)]
  rw [piled_cons, piled_cons, piled_cons, piled_cons, piled_cons, piled_nil] at h
  refine len_small (Nat.le_trans (show (isD q).shown.length ≤ _ from ?_) (show 100000 ≤ 100000 by decide))
  have e : (isD q).shown = listText [itx q.1, itx q.2, itx (sgn q.1), reprText (rstr q), reprText (rrep q)] := by
    simp only [isD, PyData.shown, PyData.shownAll]
    rfl
  rw [e]
  omega
theorem isD_show {q : Int × Int} (hz : M.Sz 1900 q) : (isD q).showable = true := by
  simp only [isD, PyData.showable, PyData.showableAll, Bool.and_true, Bool.and_eq_true, decide_eq_true_eq]
  exact ⟨log19 hz.1, log19 hz.2, log19 (sgn_small _)⟩
theorem isD_deep (q : Int × Int) : (isD q).depth ≤ 60 := by
  simp [isD, PyData.depth, PyData.depthAll]
theorem isD_at {K : PySem.W.Frag} {H : Hp} {l : Addr} {q : Int × Int} (h : H l = some (.lst [.int q.1, .int q.2, .int (sgn q.1), .str (rstr q), .str (rrep q)])) : Dp K H (.ref l) (isD q) :=
  .lst (SqL.of h) (.cons (.int _) (.cons (.int _) (.cons (.int _) (.cons (.str _) (.cons (.str _) .nil)))))
theorem ok_law_is {P : Program} {w : World} {K : PySem.W.Frag} {mg : Str → Option Value} {base : Heap} (T : Txt K mg) : Z.FnG P w K mg base 5 (He.ga K "_law_is") ((spIs K)) := by
  obtain ⟨fd, F⟩ := T.d_law_is
  refine Z.fng F sc_law_is (fun _ _ _ _ _ _ us hl => match us, hl with | [_, _], _ => rfl) (fun vs H Q E h => ?_) (fun cdv A outer s H vs Q E hr hg h => ?_)
  · obtain ⟨v, w, q, rfl, hv, ⟨t, rfl, ht⟩, hz, k⟩ := h
    rfl
  obtain ⟨v, w, q, rfl, hv, ⟨t, rfl, ht⟩, hz, k⟩ := h
  refine ⟨_, PSs.nox (pss_cons (ps_asg (pv 1) (pg_tup rfl (pgs_cons (pg_name (i := 2) sc_law_is.nd rfl (Or.inl rfl)) (pgs_cons (pg_name (i := 3) sc_law_is.nd rfl (Or.inl rfl)) (pgs_nil))))) (pss_cons (ps_set (i := 4) sc_law_is.nd rfl (Or.inl rfl) (pe_op op_sub (pe_callTy call_int1 (by rfl) T.f_int (by decide +kernel) (pa_cons (pe_cmpR op_gt (pv 2) (pe_int) (nomark _)) pa_nil)) (pe_callTy call_int1 (by rfl) T.f_int (by decide +kernel) (pa_cons (pe_cmpR op_lt (pv 2) (pe_int) (nomark _)) pa_nil)))) (pss_cons (ps_set (i := 5) sc_law_is.nd rfl (Or.inl rfl) (pe_ifExp (pt_cmpR op_eq (pv 3) (pe_int) (nomark _)) (pe_callTy call_str_int (by rfl) T.f_str (by decide +kernel) (pa_cons (pv 2) pa_nil)) (pe_op op_add_str (pe_op op_add_str (pe_callTy call_str_int (by rfl) T.f_str (by decide +kernel) (pa_cons (pv 2) pa_nil)) (pe_str)) (pe_callTy call_str_int (by rfl) T.f_str (by decide +kernel) (pa_cons (pv 3) pa_nil))))) (pss_cons (ps_set (i := 6) sc_law_is.nd rfl (Or.inl rfl) (pe_op op_add_str (pe_op op_add_str (pe_op op_add_str (pe_op op_add_str (pe_str) (pe_callTy call_str_int (by rfl) T.f_str (by decide +kernel) (pa_cons (pv 2) pa_nil))) (pe_str)) (pe_callTy call_str_int (by rfl) T.f_str (by decide +kernel) (pa_cons (pv 3) pa_nil))) (pe_str))) (pss_cons (ps_set (i := 7) sc_law_is.nd rfl (Or.inl rfl) (pe_lst (pa_cons (Z.pe_propR (pv 0) T.cl_Ratio T.p_Ratio_top (ok_Ratio_top T) (hr.mono (by decide))) (pa_cons (Z.pe_propR (pv 0) T.cl_Ratio T.p_Ratio_bottom (ok_Ratio_bottom T) (hr.mono (by decide))) (pa_cons (Z.pe_propR (pv 0) T.cl_Ratio T.p_Ratio_sign (ok_Ratio_sign T) (hr.mono (by decide))) (pa_cons (pe_callTy (Z.call_strO (E := E0) T.a_Ratio_str T.i_Ratio_str (ok_Ratio_str T) (hr.mono (by decide)) passL) (by rfl) T.f_str (by decide +kernel) (pa_cons (pv 0) pa_nil)) (pa_cons (pe_callB (Z.call_reprO (E := E0) T.a_Ratio_repr T.i_Ratio_repr (ok_Ratio_repr T) (hr.mono (by decide)) passL) (by rfl) T.f_repr (by decide +kernel) (pa_cons (pv 0) pa_nil)) pa_nil))))))) (pss_one (ps_ret (pe_and (pe_callB call_isi (by rfl) T.f_isinstance (by decide +kernel) (pa_cons (pv 0) (pa_cons (pe_glob (v := .ref (He.ga K "Ratio")) rfl T.g_Ratio rfl) pa_nil))) (pe_one (pe_cmpR op_eq (pe_callB (Z.call_reprD hg hr.units) (by rfl) T.f_repr (by decide +kernel) (pa_cons (pv 7) pa_nil)) (pe_callB (Z.call_reprD hg hr.units) (by rfl) T.f_repr (by decide +kernel) (pa_cons (pe_lst (pa_cons (pv 2) (pa_cons (pv 3) (pa_cons (pv 4) (pa_cons (pv 5) (pa_cons (pv 6) pa_nil)))))) pa_nil)) (nomark _))))))))))), ?_⟩
  have hz9 : M.Sz 1900 q := hz.mono (by decide)
  have hv2 := hv
  obtain ⟨⟨a, dx, rfl, ha⟩, _⟩ := hv2
  have l1 := itx_len hz9.1
  have l2 := itx_len hz9.2
  have c0 : ("/" : Str).length = 1 := by decide +kernel
  have c1 : ("Ratio(" : Str).length = 6 := by decide +kernel
  have c2 : (", " : Str).length = 2 := by decide +kernel
  have c3 : (")" : Str).length = 1 := by decide +kernel
  have sz : ∀ n : Nat, n ≤ 100000 → n ≤ sizeLine := fun n h => Nat.le_trans h (by rw [sizeLine_eq]; decide)
  refine ⟨_, rfl, t, _, rfl, SqT.of ht, rfl, _, _, rfl, _, _, rfl, rfl, ?_⟩
  refine ⟨_, rfl, _, _, rfl, rfl, .inr ⟨_, rfl, _, rfl, _, _, rfl, rfl, .inr ⟨_, rfl, _, _, rfl, rfl, ?_⟩⟩⟩
  refine ⟨_, rfl, rfl, _, rfl, ?_⟩
  by_cases h1 : q.2 = 1
  case' pos =>
    rw [show decide (V.int q.2 = V.int 1) = true from decide_eq_true (by rw [h1])]
    refine iteT ⟨_, rfl, _, rfl, log19 hz9.1, ?_⟩
    rw [show Str.ofString (toString q.1) = rstr q from (if_pos h1).symm]
  case' neg =>
    rw [show decide (V.int q.2 = V.int 1) = false from decide_eq_false (fun e => h1 (V.int.inj e))]
    refine iteF ⟨_, rfl, _, rfl, log19 hz9.1, _, _, rfl, rfl, ?_, _, rfl, _, rfl, log19 hz9.2, _, _, rfl, rfl, ?_, ?_⟩
    · exact sz _ (by show (itx q.1).length + ("/" : Str).length ≤ _; omega)
    · exact sz _ (by show (itx q.1 ++ "/").length + (itx q.2).length ≤ _; rw [Str.length_append]; omega)
    rw [show Str.ofString (toString q.1) ++ "/" ++ Str.ofString (toString q.2) = rstr q from (if_neg h1).symm]
  all_goals
    refine ⟨_, rfl, _, rfl, log19 hz9.1, _, _, rfl, rfl, sz _ (by show ("Ratio(" : Str).length + (itx q.1).length ≤ _; omega), _, _, rfl, rfl, sz _ (by show ("Ratio(" ++ itx q.1).length + (", " : Str).length ≤ _; rw [Str.length_append]; omega),
      _, rfl, _, rfl, log19 hz9.2, _, _, rfl, rfl, sz _ (by show ("Ratio(" ++ itx q.1 ++ ", ").length + (itx q.2).length ≤ _; rw [Str.length_append, Str.length_append]; omega), _, _, rfl, rfl, sz _ (by show ("Ratio(" ++ itx q.1 ++ ", " ++ itx q.2).length + (")" : Str).length ≤ _; rw [Str.length_append, Str.length_append, Str.length_append]; omega), ?_⟩
    refine ⟨_, rfl, a, dx, _, rfl, ha, _, q, rfl, hv, ?_⟩
    refine ⟨_, rfl, a, dx, _, rfl, ha, _, q, rfl, hv, ?_⟩
    refine ⟨_, rfl, a, dx, _, rfl, ha, _, q, rfl, hv, ?_⟩
    refine ⟨_, rfl, a, dx, _, rfl, ha, _, q, rfl, hv, hz9, _, rfl, ?_⟩
    refine ⟨_, rfl, a, dx, _, rfl, ha, _, q, rfl, hv, hz9, _, rfl, (by show 5 ≤ sizeLine; decide), fun l hl => ?_⟩
    have s1 := same_new (o := HO.lst [.int q.1, .int q.2, .int (sgn q.1), .str (rstr q), .str (rrep q)]) hl
    refine ⟨_, rfl, _, .ref (RC K), _, _, true, rfl, .own _, ty_rat T (s1 _ _ ha), T.ki_Ratio_Ratio, _, rfl, iteT ?_⟩
    refine ⟨_, rfl, l, isD q, rfl, isD_at upd_same, isD_show hz9, isD_deep q, isD_len hz9, ?_⟩
    refine ⟨_, rfl, _, rfl, _, rfl, _, rfl, _, rfl, (by show 5 ≤ sizeLine; decide), fun m hm => ?_⟩
    have s2 := same_new (o := HO.lst [.int q.1, .int q.2, .int (sgn q.1), .str (rstr q), .str (rrep q)]) hm
    refine ⟨m, isD q, rfl, isD_at upd_same, isD_show hz9, isD_deep q, isD_len hz9, rfl, ?_⟩
    rw [show decide (V.str (isD q).shown = V.str (isD q).shown) = true from decide_eq_true rfl]
    exact k _ (s1.trans s2)
/-! ### deeds -/
/-- the two told: a Ratio and the law's own fraction -/
def DeedV (K : PySem.W.Frag) (H : Hp) (r : V) (q : Int × Int) : Prop := ∃ t x f, r = .ref t ∧ H t = some (.tup [x, f]) ∧ RatV K H x q ∧ FracT H f q
def DeedK (K : PySem.W.Frag) (p : Addr) (H : Hp) (Q : VK) : Prop := ∀ (r : V) (H' : Hp) (q : Int × Int), Grow p H H' → DeedV K H' r q → M.Sz 1700 q → Q r H'
def spTwo (K : PySem.W.Frag) : Sp := fun vs H Q _ => ∃ (p : Addr) (v w f g : V) (a b : Int × Int), vs = [.ref p, v, w, f, g] ∧ Pot H p ∧ RatV K H v a ∧ RatV K H w b ∧ FracT H f a ∧ FracT H g b ∧ M.Sz 300 a ∧ M.Sz 300 b ∧ DeedK K p H Q
theorem draw_sz {m : Int} (h : m.natAbs < 2 ^ 40) : m.natAbs < 2 ^ 8000 := Nat.lt_of_lt_of_le h (Nat.pow_le_pow_right (by decide) (by decide))
theorem plus17 {a b : Int × Int} {n m : Nat} (ra : M.Red a) (rb : M.Red b) (za : M.Sz n a) (zb : M.Sz m b) (h : n + m + 1 ≤ 1700) : M.Sz 1700 (M.plus a b) := (M.plus_sz ra rb za zb).mono h
theorem ok_law_of_two {P : Program} {w : World} {K : PySem.W.Frag} {mg : Str → Option Value} {base : Heap} (T : Txt K mg) : FnR P w K mg base (L2.CX P w) 7 (He.ga K "_law_of_two") ((spTwo K)) := by
  obtain ⟨fd, F⟩ := T.d_law_of_two
  refine Z.fnr F sc_law_of_two (fun _ _ _ _ _ _ us hl => match us, hl with | [_, _, _, _, _], _ => rfl) (fun vs H Q E h => ?_) (fun cdv A outer s H vs Q E hr h => ?_)
  · obtain ⟨p, v, w, f, g, a, b, rfl, hp, hv, hw, hf, hg2, za, zb, k⟩ := h
    rfl
  obtain ⟨p, v, w, f, g, a, b, rfl, hp, hv, hw, hf, hg2, za, zb, k⟩ := h
  refine ⟨_, PSs.nox (pss_cons (ps_set (i := 5) sc_law_of_two.nd rfl (Or.inl rfl) (Z.pe_cl (E := E0) (ok_law_draw T) (hr.mono (by decide)) T.g_law_draw T.k_law_draw passL (pa_cons (pv 0) (pa_cons (pe_int) pa_nil)))) (pss_cons (ps_if (pt_cmpR op_eq (pv 5) (pe_int) (nomark _)) (pss_one (ps_ret (pe_tup (pa_cons (pe_op (Z.op_ownL (E := E0) T.o_Ratio_add (ok_Ratio_add T) (hr.mono (by decide)) passL) (pv 1) (pv 2)) (pa_cons (Z.pe_cl (E := E0) (ok_law_plus T) (hr.mono (by decide)) T.g_law_plus T.k_law_plus passL (pa_cons (pv 3) (pa_cons (pv 4) pa_nil))) pa_nil))))) (pss_nil)) (pss_cons (ps_if (pt_cmpR op_eq (pv 5) (pe_int) (nomark _)) (pss_one (ps_ret (pe_tup (pa_cons (pe_op (Z.op_ownL (E := E0) T.o_Ratio_sub (ok_Ratio_sub T) (hr.mono (by decide)) passL) (pv 1) (pv 2)) (pa_cons (Z.pe_cl (E := E0) (ok_law_minus T) (hr.mono (by decide)) T.g_law_minus T.k_law_minus passL (pa_cons (pv 3) (pa_cons (pv 4) pa_nil))) pa_nil))))) (pss_nil)) (pss_cons (ps_if (pt_cmpR op_eq (pv 5) (pe_int) (nomark _)) (pss_one (ps_ret (pe_tup (pa_cons (pe_op (Z.op_ownL (E := E0) T.o_Ratio_mul (ok_Ratio_mul T) (hr.mono (by decide)) passL) (pv 1) (pv 2)) (pa_cons (Z.pe_cl (E := E0) (ok_law_times T) (hr.mono (by decide)) T.g_law_times T.k_law_times passL (pa_cons (pv 3) (pa_cons (pv 4) pa_nil))) pa_nil))))) (pss_nil)) (pss_cons (ps_if (PW.pt (pw_or (pt_cmpR op_eq (pv 5) (pe_int) (nomark _)) (pw_or1 (pt_cmpR op_eq (pe_ix ix_tup (pv 4) (pe_int) (fun _ _ => rfl)) (pe_int) (nomark _))))) (pss_one (ps_ret (pe_tup (pa_cons (pe_un (Z.un_own (E := E0) T.a_Ratio_neg T.i_Ratio_neg (ok_Ratio_neg T) (hr.mono (by decide)) passL) (pv 1)) (pa_cons (pe_tup (pa_cons (pe_un un_neg (pe_ix ix_tup (pv 3) (pe_int) (fun _ _ => rfl))) (pa_cons (pe_ix ix_tup (pv 3) (pe_int) (fun _ _ => rfl)) pa_nil))) pa_nil))))) (pss_nil)) (pss_cons (ps_set (i := 6) sc_law_of_two.nd rfl (Or.inl rfl) (pe_ifExp (pt_cmpR op_eq (Z.pe_cl (E := E0) (ok_law_draw T) (hr.mono (by decide)) T.g_law_draw T.k_law_draw passL (pa_cons (pv 0) (pa_cons (pe_int) pa_nil))) (pe_int) (nomark _)) (pe_methR (E := E0) (pv 1) T.cl_Ratio T.m_Ratio_over (ok_Ratio_over T) (hr.mono (by decide)) passL (pa_cons (pv 2) pa_nil)) (Z.pe_methK (E := E0) (pv 1) T.cl_Ratio T.m_Ratio_over (okk_Ratio_over_other T) (hr.mono (by decide)) passL (pk_cons (pv 2) (pk_nil))))) (pss_one (ps_ret (pe_tup (pa_cons (pv 6) (pa_cons (Z.pe_cl (E := E0) (ok_law_low T) (hr.mono (by decide)) T.g_law_low T.k_law_low passL (pa_cons (pe_op op_mulW (pe_ix ix_tup (pv 3) (pe_int) (fun _ _ => rfl)) (pe_ix ix_tup (pv 4) (pe_int) (fun _ _ => rfl))) (pa_cons (pe_op op_mulW (pe_ix ix_tup (pv 3) (pe_int) (fun _ _ => rfl)) (pe_ix ix_tup (pv 4) (pe_int) (fun _ _ => rfl))) pa_nil))) pa_nil))))))))))), ?_⟩
  refine ⟨_, rfl, p, 5, rfl, hp, by decide, draw_sz (by decide), fun d H1 g1 d0 d5 => ?_⟩
  have hp1 := g1.pot
  have hv1 := hv.grow hp g1
  have hw1 := hw.grow hp g1
  have hf1 := hf.grow hp g1
  have hg1 := hg2.grow hp g1
  have z3a : M.Sz 3000 a := za.mono (by decide)
  have z3b : M.Sz 3000 b := zb.mono (by decide)
  obtain ⟨⟨x, dx, rfl, hx⟩, ra⟩ := hv1
  have hv1 : RatV K H1 (.ref x) a := ⟨⟨x, dx, rfl, hx⟩, ra⟩
  have rb := hw.2
  have fin : ∀ (r f : V) (H2 H3 : Hp) (q : Int × Int), Grow p H H2 → RatV K H2 r q → Same H2 H3 → FracT H3 f q → M.Sz 1700 q → ∀ t, H3 t = none → Q (.ref t) (upd H3 t (.tup [r, f])) := fun r f H2 H3 q g2 hr s3 hf z t ht =>
    k _ _ q (g2.same (s3.trans (same_new ht))) ⟨t, r, f, rfl, upd_same, hr.up (s3.trans (same_new ht)), hf.up (same_new ht)⟩ z
  refine ⟨_, rfl, rfl, _, rfl, ?_⟩
  by_cases c0 : d = 0
  · rw [decide_eq_true (by rw [c0])]
    refine iteT ⟨_, rfl, _, rfl, x, dx, _, rfl, hx, right_num (.inl hw1) right_add, _, w, a, b, rfl, hv1, .inl hw1, z3a, z3b, fun r H2 s2 h2 => ?_⟩
    refine ⟨_, rfl, _, rfl, f, g, a, b, rfl, hf1.up s2, hg1.up s2, ra, rb, z3a, z3b, fun r3 H3 s3 h3 => ⟨(by show 2 ≤ sizeLine; decide), fun t ht => ?_⟩⟩
    exact fin r r3 H2 H3 _ (g1.same s2) h2 s3 h3 (plus17 ra rb za zb (by decide)) t ht
  rw [decide_eq_false (fun z => c0 (V.int.inj z))]
  refine iteF ⟨_, rfl, rfl, _, rfl, ?_⟩
  by_cases c1 : d = 1
  · rw [decide_eq_true (by rw [c1])]
    refine iteT ⟨_, rfl, _, rfl, x, dx, _, rfl, hx, right_num (.inl hw1) right_sub, _, w, a, b, rfl, hv1, .inl hw1, z3a, z3b, fun r H2 s2 h2 => ?_⟩
    refine ⟨_, rfl, _, rfl, f, g, a, b, rfl, hf1.up s2, hg1.up s2, ra, rb, z3a, z3b, fun r3 H3 s3 h3 => ⟨(by show 2 ≤ sizeLine; decide), fun t ht => ?_⟩⟩
    exact fin r r3 H2 H3 _ (g1.same s2) h2 s3 h3 ((M.minus_sz ra rb za zb).mono (by decide)) t ht
  rw [decide_eq_false (fun z => c1 (V.int.inj z))]
  refine iteF ⟨_, rfl, rfl, _, rfl, ?_⟩
  by_cases c2 : d = 2
  · rw [decide_eq_true (by rw [c2])]
    refine iteT ⟨_, rfl, _, rfl, x, dx, _, rfl, hx, right_num (.inl hw1) right_mul, _, w, a, b, rfl, hv1, .inl hw1, z3a, z3b, fun r H2 s2 h2 => ?_⟩
    refine ⟨_, rfl, _, rfl, f, g, a, b, rfl, hf1.up s2, hg1.up s2, ra, rb, z3a, z3b, fun r3 H3 s3 h3 => ⟨(by show 2 ≤ sizeLine; decide), fun t ht => ?_⟩⟩
    exact fin r r3 H2 H3 _ (g1.same s2) h2 s3 h3 ((M.times_sz ra rb za zb).mono (by decide)) t ht
  rw [decide_eq_false (fun z => c2 (V.int.inj z))]
  have hf1b := hf1
  have hg1b := hg1
  obtain ⟨ta, rfl, hta⟩ := hf1b
  obtain ⟨tb, rfl, htb⟩ := hg1b
  refine iteF ⟨_, rfl, rfl, _, rfl, ?_⟩
  by_cases c3 : d = 3
  · rw [decide_eq_true (by rw [c3])]
    refine (iteT (iteT ?_))
    refine ⟨_, rfl, x, dx, _, rfl, hx, _, a, rfl, hv1, za.mono (by decide), fun m H2 s2 h2 => ?_⟩
    have hta2 := s2 _ _ hta
    refine ⟨_, rfl, ta, _, _, _, rfl, rfl, SqT.of hta2, rfl, _, rfl, _, rfl, ta, _, _, _, rfl, rfl, SqT.of hta2, rfl, (by show 2 ≤ sizeLine; decide), fun t ht => ⟨(by show 2 ≤ sizeLine; decide), fun t2 ht2 => ?_⟩⟩
    exact fin m _ H2 _ (-a.1, a.2) (g1.same s2) h2 (same_new ht) ⟨t, rfl, upd_same⟩ ⟨by show (-a.1).natAbs < _; rw [Int.natAbs_neg]; exact (za.mono (by decide : 300 ≤ 1700)).1, (za.mono (by decide : 300 ≤ 1700)).2⟩ t2 ht2
  rw [decide_eq_false (fun z => c3 (V.int.inj z))]
  refine iteF ⟨_, rfl, tb, _, _, _, rfl, rfl, SqT.of htb, rfl, rfl, _, rfl, ?_⟩
  by_cases c4 : b.1 = 0
  · rw [decide_eq_true (by rw [c4])]
    refine (iteT ?_)
    refine ⟨_, rfl, x, dx, _, rfl, hx, _, a, rfl, hv1, za.mono (by decide), fun m H2 s2 h2 => ?_⟩
    have hta2 := s2 _ _ hta
    refine ⟨_, rfl, ta, _, _, _, rfl, rfl, SqT.of hta2, rfl, _, rfl, _, rfl, ta, _, _, _, rfl, rfl, SqT.of hta2, rfl, (by show 2 ≤ sizeLine; decide), fun t ht => ⟨(by show 2 ≤ sizeLine; decide), fun t2 ht2 => ?_⟩⟩
    exact fin m _ H2 _ (-a.1, a.2) (g1.same s2) h2 (same_new ht) ⟨t, rfl, upd_same⟩ ⟨by show (-a.1).natAbs < _; rw [Int.natAbs_neg]; exact (za.mono (by decide : 300 ≤ 1700)).1, (za.mono (by decide : 300 ≤ 1700)).2⟩ t2 ht2
  rw [decide_eq_false (fun z => c4 (V.int.inj z))]
  refine iteF ⟨_, rfl, p, 2, rfl, hp1, by decide, draw_sz (by decide), fun e H2 g2 e0 e2 => ⟨rfl, _, rfl, ?_⟩⟩
  by_cases c5 : e = 0
  · rw [decide_eq_true (by rw [c5])]
    have hv3 := hv1.grow hp1 g2
    have hx3 := g2.get hp1 hx
    have hw3 := hw1.grow hp1 g2
    have no : (rfs a.1 a.2).lookup ("over" : Str) = none := rfs_no _ _ (by decide +kernel) (by decide +kernel)
    refine iteT ⟨_, rfl, x, dx, _, rfl, hx3, no, _, rfl, _, w, a, b, rfl, hv3, .inl hw3, z3a, z3b, c4, fun r H3 s3 h3 => ?_⟩
    have hta3 := s3 _ _ (g2.get hp1 hta)
    have htb3 := s3 _ _ (g2.get hp1 htb)
    refine ⟨_, rfl, _, rfl, ta, _, _, _, rfl, rfl, SqT.of hta3, rfl, _, rfl, tb, _, _, _, rfl, rfl, SqT.of htb3, rfl, _, _, rfl, rfl, mul_ok z3a.1 z3b.2, ?_⟩
    refine ⟨_, rfl, ta, _, _, _, rfl, rfl, SqT.of hta3, rfl, _, rfl, tb, _, _, _, rfl, rfl, SqT.of htb3, rfl, _, _, rfl, rfl, mul_ok z3a.2 z3b.1, ?_⟩
    refine ⟨_, _, rfl, Int.mul_ne_zero (Int.ne_of_gt ra.1) c4, sz8 (M.mul_lt z3a.1 z3b.2) (by decide), sz8 (M.mul_lt z3a.2 z3b.1) (by decide), fun r4 H4 s4 h4 => ⟨(by show 2 ≤ sizeLine; decide), fun t ht => ?_⟩⟩
    exact fin r r4 H3 H4 _ ((g1.trans g2).same s3) h3 s4 h4 ((M.low_sz (Int.mul_ne_zero (Int.ne_of_gt ra.1) c4) (M.mul_lt za.1 zb.2) (M.mul_lt za.2 zb.1)).mono (by decide)) t ht
  · rw [decide_eq_false (fun z => c5 (V.int.inj z))]
    have hv3 := hv1.grow hp1 g2
    have hx3 := g2.get hp1 hx
    have hw3 := hw1.grow hp1 g2
    have no : (rfs a.1 a.2).lookup ("over" : Str) = none := rfs_no _ _ (by decide +kernel) (by decide +kernel)
    refine iteF ⟨_, rfl, x, dx, _, rfl, hx3, no, _, rfl, rfl, _, w, a, b, rfl, hv3, .inl hw3, z3a, z3b, c4, fun r H3 s3 h3 => ?_⟩
    have hta3 := s3 _ _ (g2.get hp1 hta)
    have htb3 := s3 _ _ (g2.get hp1 htb)
    refine ⟨_, rfl, _, rfl, ta, _, _, _, rfl, rfl, SqT.of hta3, rfl, _, rfl, tb, _, _, _, rfl, rfl, SqT.of htb3, rfl, _, _, rfl, rfl, mul_ok z3a.1 z3b.2, ?_⟩
    refine ⟨_, rfl, ta, _, _, _, rfl, rfl, SqT.of hta3, rfl, _, rfl, tb, _, _, _, rfl, rfl, SqT.of htb3, rfl, _, _, rfl, rfl, mul_ok z3a.2 z3b.1, ?_⟩
    refine ⟨_, _, rfl, Int.mul_ne_zero (Int.ne_of_gt ra.1) c4, sz8 (M.mul_lt z3a.1 z3b.2) (by decide), sz8 (M.mul_lt z3a.2 z3b.1) (by decide), fun r4 H4 s4 h4 => ⟨(by show 2 ≤ sizeLine; decide), fun t ht => ?_⟩⟩
    exact fin r r4 H3 H4 _ ((g1.trans g2).same s3) h3 s4 h4 ((M.low_sz (Int.mul_ne_zero (Int.ne_of_gt ra.1) c4) (M.mul_lt za.1 zb.2) (M.mul_lt za.2 zb.1)).mono (by decide)) t ht
def spOfInt (K : PySem.W.Frag) : Sp := fun vs H Q _ => ∃ (p : Addr) (v f : V) (a : Int × Int), vs = [.ref p, v, f] ∧ Pot H p ∧ RatV K H v a ∧ FracT H f a ∧ M.Sz 300 a ∧ DeedK K p H Q
theorem int_sz {n : Int} {m : Nat} (h : n.natAbs < 2 ^ 40) (hm : 40 ≤ m) : M.Sz m (n, 1) := ⟨Nat.lt_of_lt_of_le h (Nat.pow_le_pow_right (by decide) hm), Nat.lt_of_lt_of_le (show (1 : Int).natAbs < 2 ^ 40 by decide) (Nat.pow_le_pow_right (by decide) hm)⟩
theorem rsub_eq (a : Int × Int) (n : Int) : M.plus (-a.1, a.2) (n, 1) = M.minus (n, 1) a := by
  unfold M.plus M.minus
  congr 1
  · show -a.1 * 1 + n * a.2 = n * a.2 - a.1 * 1
    rw [Int.neg_mul]
    omega
  · show a.2 * 1 = 1 * a.2
    omega
theorem radd_eq (a : Int × Int) (n : Int) : divd a (n, 1) = M.low a.1 (a.2 * n) := by
  unfold divd
  rw [Int.mul_one]
theorem ok_law_of_integer {P : Program} {w : World} {K : PySem.W.Frag} {mg : Str → Option Value} {base : Heap} (T : Txt K mg) : FnR P w K mg base (L2.CX P w) 7 (He.ga K "_law_of_integer") ((spOfInt K)) := by
  obtain ⟨fd, F⟩ := T.d_law_of_integer
  refine Z.fnr F sc_law_of_integer (fun _ _ _ _ _ _ us hl => match us, hl with | [_, _, _], _ => rfl) (fun vs H Q E h => ?_) (fun cdv A outer s H vs Q E hr h => ?_)
  · obtain ⟨p, v, f, a, rfl, hp, hv, hf, za, k⟩ := h
    rfl
  obtain ⟨p, v, f, a, rfl, hp, hv, hf, za, k⟩ := h
  refine ⟨_, PSs.nox (pss_cons (ps_par (i := 3) (j := 4) (by rfl) sc_law_of_integer.nd rfl rfl (by decide) rfl rfl (pa_cons (Z.pe_cl (E := E0) (ok_law_integer T) (hr.mono (by decide)) T.g_law_integer T.k_law_integer passL (pa_cons (pv 0) pa_nil)) (pa_cons (Z.pe_cl (E := E0) (ok_law_draw T) (hr.mono (by decide)) T.g_law_draw T.k_law_draw passL (pa_cons (pv 0) (pa_cons (pe_int) pa_nil))) pa_nil)) (by rfl)) (pss_cons (ps_set (i := 5) sc_law_of_integer.nd rfl (Or.inl rfl) (pe_tup (pa_cons (pv 3) (pa_cons (pe_int) pa_nil)))) (pss_cons (ps_if (pt_cmpR op_lt (pv 4) (pe_int) (nomark _)) (pss_one (ps_ret (pe_tup (pa_cons (pe_ifExp (pt_cmpR op_eq (pv 4) (pe_int) (nomark _)) (pe_op (Z.op_ownL (E := E0) T.o_Ratio_add (ok_Ratio_add T) (hr.mono (by decide)) passL) (pv 1) (pv 3)) (pe_op (Z.op_ownR (E := E0) T.o_Ratio_radd Z.is_add (ok_Ratio_radd T) (hr.mono (by decide)) passL) (pv 3) (pv 1))) (pa_cons (Z.pe_cl (E := E0) (ok_law_plus T) (hr.mono (by decide)) T.g_law_plus T.k_law_plus passL (pa_cons (pv 2) (pa_cons (pv 5) pa_nil))) pa_nil))))) (pss_nil)) (pss_cons (ps_if (pt_cmpR op_eq (pv 4) (pe_int) (nomark _)) (pss_one (ps_ret (pe_tup (pa_cons (pe_op (Z.op_ownL (E := E0) T.o_Ratio_sub (ok_Ratio_sub T) (hr.mono (by decide)) passL) (pv 1) (pv 3)) (pa_cons (Z.pe_cl (E := E0) (ok_law_minus T) (hr.mono (by decide)) T.g_law_minus T.k_law_minus passL (pa_cons (pv 2) (pa_cons (pv 5) pa_nil))) pa_nil))))) (pss_nil)) (pss_cons (ps_if (pt_cmpR op_eq (pv 4) (pe_int) (nomark _)) (pss_one (ps_ret (pe_tup (pa_cons (pe_op (Z.op_ownR (E := E0) T.o_Ratio_rsub Z.is_sub (ok_Ratio_rsub T) (hr.mono (by decide)) passL) (pv 3) (pv 1)) (pa_cons (Z.pe_cl (E := E0) (ok_law_minus T) (hr.mono (by decide)) T.g_law_minus T.k_law_minus passL (pa_cons (pv 5) (pa_cons (pv 2) pa_nil))) pa_nil))))) (pss_nil)) (pss_cons (ps_if (PW.pt (pw_or (pt_cmpR op_lt (pv 4) (pe_int) (nomark _)) (pw_or1 (pt_cmpR op_eq (pv 3) (pe_int) (nomark _))))) (pss_one (ps_ret (pe_tup (pa_cons (pe_ifExp (pt_cmpR op_eq (pv 4) (pe_int) (nomark _)) (pe_op (Z.op_ownL (E := E0) T.o_Ratio_mul (ok_Ratio_mul T) (hr.mono (by decide)) passL) (pv 1) (pv 3)) (pe_op (Z.op_ownR (E := E0) T.o_Ratio_rmul Z.is_mul (ok_Ratio_rmul T) (hr.mono (by decide)) passL) (pv 3) (pv 1))) (pa_cons (Z.pe_cl (E := E0) (ok_law_times T) (hr.mono (by decide)) T.g_law_times T.k_law_times passL (pa_cons (pv 2) (pa_cons (pv 5) pa_nil))) pa_nil))))) (pss_nil)) (pss_one (ps_ret (pe_tup (pa_cons (pe_methR (E := E0) (pv 1) T.cl_Ratio T.m_Ratio_over (ok_Ratio_over T) (hr.mono (by decide)) passL (pa_cons (pv 3) pa_nil)) (pa_cons (Z.pe_cl (E := E0) (ok_law_low T) (hr.mono (by decide)) T.g_law_low T.k_law_low passL (pa_cons (pe_ix ix_tup (pv 2) (pe_int) (fun _ _ => rfl)) (pa_cons (pe_op op_mulW (pe_ix ix_tup (pv 2) (pe_int) (fun _ _ => rfl)) (pv 3)) pa_nil))) pa_nil))))))))))), ?_⟩
  refine ⟨_, rfl, p, rfl, hp, fun n H1 g1 hn => ⟨_, rfl, p, 7, rfl, g1.pot, by decide, draw_sz (by decide), fun d H2 g2 d0 d7 => ⟨_, _, rfl, ?_⟩⟩⟩
  have g02 := g1.trans g2
  refine ⟨_, rfl, (by show 2 ≤ sizeLine; decide), fun tb htb0 => ?_⟩
  have sb := same_new (o := HO.tup [.int n, .int 1]) htb0
  have gb := g02.same sb
  have hb : FracT (upd H2 tb (.tup [.int n, .int 1])) (.ref tb) (n, 1) := ⟨tb, rfl, upd_same⟩
  have hv1 := hv.grow hp gb
  have hf1 := hf.grow hp gb
  have z3a : M.Sz 3000 a := za.mono (by decide)
  have z3b : M.Sz 3000 (n, 1) := int_sz hn (by decide)
  have z1 : M.Sz 1000 (n, 1) := int_sz hn (by decide)
  have rb : M.Red (n, 1) := M.red_int n
  obtain ⟨⟨x, dx, rfl, hx⟩, ra⟩ := hv1
  have hv1 : RatV K (upd H2 tb (.tup [.int n, .int 1])) (.ref x) a := ⟨⟨x, dx, rfl, hx⟩, ra⟩
  have nn : ∀ H', NumV K H' (.int n) (n, 1) := fun _ => .inr ⟨n, rfl, rfl⟩
  clear sb htb0 hv hf
  generalize upd H2 tb (.tup [.int n, .int 1]) = H3 at *
  have fin : ∀ (r f : V) (H4 H5 : Hp) (q : Int × Int), Same H3 H4 → RatV K H4 r q → Same H4 H5 → FracT H5 f q → M.Sz 1700 q → ∀ t, H5 t = none → Q (.ref t) (upd H5 t (.tup [r, f])) := fun r f H4 H5 q s2 hr s3 hf z t ht =>
    k _ _ q (gb.same (s2.trans (s3.trans (same_new ht)))) ⟨t, r, f, rfl, upd_same, hr.up (s3.trans (same_new ht)), hf.up (same_new ht)⟩ z
  refine ⟨_, rfl, _, _, rfl, rfl, _, rfl, ?_⟩
  by_cases c0 : d < 2
  · rw [decide_eq_true c0]
    refine iteT ⟨_, rfl, rfl, _, rfl, ?_⟩
    by_cases c1 : d = 0
    · rw [decide_eq_true (by rw [c1])]
      refine iteT ⟨_, rfl, _, rfl, x, dx, _, rfl, hx, right_add n, _, _, a, (n, 1), rfl, hv1, nn _, z3a, z3b, fun r H4 s4 h4 => ?_⟩
      refine ⟨_, rfl, _, rfl, f, _, a, (n, 1), rfl, hf1.up s4, hb.up s4, ra, rb, z3a, z3b, fun r3 H5 s5 h5 => ⟨(by show 2 ≤ sizeLine; decide), fun t ht => ?_⟩⟩
      exact fin r r3 H4 H5 _ s4 h4 s5 h5 (plus17 ra rb za z1 (by decide)) t ht
    · rw [decide_eq_false (fun z => c1 (V.int.inj z))]
      refine iteF ⟨_, rfl, _, rfl, n, x, dx, _, rfl, rfl, hx, _, _, a, (n, 1), rfl, hv1, nn _, z3a, z3b, fun r H4 s4 h4 => ?_⟩
      refine ⟨_, rfl, _, rfl, f, _, a, (n, 1), rfl, hf1.up s4, hb.up s4, ra, rb, z3a, z3b, fun r3 H5 s5 h5 => ⟨(by show 2 ≤ sizeLine; decide), fun t ht => ?_⟩⟩
      exact fin r r3 H4 H5 _ s4 h4 s5 h5 (plus17 ra rb za z1 (by decide)) t ht
  rw [decide_eq_false c0]
  refine iteF ⟨_, rfl, rfl, _, rfl, ?_⟩
  by_cases c2 : d = 2
  · rw [decide_eq_true (by rw [c2])]
    refine iteT ⟨_, rfl, _, rfl, x, dx, _, rfl, hx, right_sub n, _, _, a, (n, 1), rfl, hv1, nn _, z3a, z3b, fun r H4 s4 h4 => ?_⟩
    refine ⟨_, rfl, _, rfl, f, _, a, (n, 1), rfl, hf1.up s4, hb.up s4, ra, rb, z3a, z3b, fun r3 H5 s5 h5 => ⟨(by show 2 ≤ sizeLine; decide), fun t ht => ?_⟩⟩
    exact fin r r3 H4 H5 _ s4 h4 s5 h5 ((M.minus_sz ra rb za z1).mono (by decide)) t ht
  rw [decide_eq_false (fun z => c2 (V.int.inj z))]
  refine iteF ⟨_, rfl, rfl, _, rfl, ?_⟩
  by_cases c3 : d = 3
  · rw [decide_eq_true (by rw [c3])]
    refine iteT ⟨_, rfl, _, rfl, n, x, dx, _, rfl, rfl, hx, _, _, a, (n, 1), rfl, hv1, nn _, z3a, z3b, fun r H4 s4 h4 => ?_⟩
    have h4 : RatV K H4 r (M.plus (-a.1, a.2) (n, 1)) := h4
    rw [rsub_eq] at h4
    refine ⟨_, rfl, _, rfl, _, f, (n, 1), a, rfl, hb.up s4, hf1.up s4, rb, ra, z3b, z3a, fun r3 H5 s5 h5 => ⟨(by show 2 ≤ sizeLine; decide), fun t ht => ?_⟩⟩
    exact fin r r3 H4 H5 _ s4 h4 s5 h5 ((M.minus_sz rb ra z1 za).mono (by decide)) t ht
  rw [decide_eq_false (fun z => c3 (V.int.inj z))]
  refine iteF ⟨_, rfl, _, _, rfl, rfl, _, rfl, ?_⟩
  by_cases c4 : d < 6
  case' pos =>
    rw [decide_eq_true c4]
    refine iteT (iteT ?_)
  case' neg =>
    rw [decide_eq_false c4]
    refine iteF ⟨_, rfl, rfl, _, rfl, ?_⟩
    by_cases c5 : n = 0
    case' pos =>
      rw [decide_eq_true (by rw [c5])]
      refine iteT ?_
    case' neg =>
      rw [decide_eq_false (fun z => c5 (V.int.inj z))]
      have no : (rfs a.1 a.2).lookup ("over" : Str) = none := rfs_no _ _ (by decide +kernel) (by decide +kernel)
      refine iteF ⟨_, rfl, x, dx, _, rfl, hx, no, _, rfl, _, _, a, (n, 1), rfl, hv1, nn _, z3a, z3b, c5, fun r H4 s4 h4 => ?_⟩
      rw [radd_eq] at h4
      have hf4 := hf1.up s4
      obtain ⟨ta, rfl, hta⟩ := hf4
      refine ⟨_, rfl, ta, _, _, _, rfl, rfl, SqT.of hta, rfl, _, rfl, ta, _, _, _, rfl, rfl, SqT.of hta, rfl, _, rfl, _, _, rfl, rfl, mul_ok z3a.2 z3b.1, ?_⟩
      refine ⟨_, _, rfl, Int.mul_ne_zero (Int.ne_of_gt ra.1) c5, sz8 z3a.1 (by decide), sz8 (M.mul_lt z3a.2 z3b.1) (by decide), fun r4 H5 s5 h5 => ⟨(by show 2 ≤ sizeLine; decide), fun t ht => ?_⟩⟩
      exact fin r r4 H4 H5 _ s4 h4 s5 h5 (M.low_sz (Int.mul_ne_zero (Int.ne_of_gt ra.1) c5) (za.mono (by decide)).1 (Nat.lt_of_lt_of_le (M.mul_lt za.2 z1.1) (Nat.pow_le_pow_right (by decide) (by decide)))) t ht
  all_goals
    refine ⟨_, rfl, rfl, _, rfl, ?_⟩
    by_cases c6 : d = 4
    · rw [decide_eq_true (by rw [c6])]
      refine iteT ⟨_, rfl, _, rfl, x, dx, _, rfl, hx, right_mul n, _, _, a, (n, 1), rfl, hv1, nn _, z3a, z3b, fun r H4 s4 h4 => ?_⟩
      refine ⟨_, rfl, _, rfl, f, _, a, (n, 1), rfl, hf1.up s4, hb.up s4, ra, rb, z3a, z3b, fun r3 H5 s5 h5 => ⟨(by show 2 ≤ sizeLine; decide), fun t ht => ?_⟩⟩
      exact fin r r3 H4 H5 _ s4 h4 s5 h5 ((M.times_sz ra rb za z1).mono (by decide)) t ht
    · rw [decide_eq_false (fun z => c6 (V.int.inj z))]
      refine iteF ⟨_, rfl, _, rfl, n, x, dx, _, rfl, rfl, hx, _, _, a, (n, 1), rfl, hv1, nn _, z3a, z3b, fun r H4 s4 h4 => ?_⟩
      refine ⟨_, rfl, _, rfl, f, _, a, (n, 1), rfl, hf1.up s4, hb.up s4, ra, rb, z3a, z3b, fun r3 H5 s5 h5 => ⟨(by show 2 ≤ sizeLine; decide), fun t ht => ?_⟩⟩
      exact fin r r3 H4 H5 _ s4 h4 s5 h5 ((M.times_sz ra rb za z1).mono (by decide)) t ht
def spLawTot (K : PySem.W.Frag) : Sp := fun vs H Q _ => ∃ (l : Addr) (xs : List V) (qs : List (Int × Int)), vs = [.ref l] ∧ H l = some (.lst xs) ∧ NumsV K H xs qs ∧ qs.length ≤ 4 ∧ (∀ q ∈ qs, M.Sz 300 q) ∧ ∀ r H', Same H H' → RatV K H' r (sumF qs) → Q r H'
theorem ok_law_total {P : Program} {w : World} {K : PySem.W.Frag} {mg : Str → Option Value} {base : Heap} (T : Txt K mg) : FnR P w K mg base (L2.CX P w) 7 (He.ga K "_law_total") ((spLawTot K)) := by
  obtain ⟨fd, F⟩ := T.d_law_total
  refine Z.fnr F sc_law_total (fun _ _ _ _ _ _ us hl => match us, hl with | [_], _ => rfl) (fun vs H Q E h => ?_) (fun cdv A outer s H vs Q E hr h => ?_)
  · obtain ⟨l, xs, qs, rfl, hl, hn, h4, hz, k⟩ := h
    rfl
  obtain ⟨l, xs, qs, rfl, hl, hn, h4, hz, k⟩ := h
  refine ⟨_, PSs.nox (pss_cons (ps_if (pt_cmpR op_lt (pe_callB call_len (by rfl) T.f_len (by decide +kernel) (pa_cons (pv 0) pa_nil)) (pe_int) (nomark _)) (pss_one (ps_ret (pe_ifExp (pt_cmpR (Z.op_eqL hr.units) (pv 0) (pe_lst (pa_nil)) (nomark _)) (Z.pe_cmeth0 (E := E0) (pe_glob (v := .ref (He.ga K "Ratio")) rfl T.g_Ratio rfl) T.cr_Ratio T.cm_Ratio_total (ok_Ratio_total T) (hr.mono (by decide)) passL) (ClX.pe_cmeth (E := E0) (pe_glob (v := .ref (He.ga K "Ratio")) rfl T.g_Ratio rfl) T.cr_Ratio T.cm_Ratio_total (ok_Ratio_total T) (hr.mono (by decide)) passL (pa_cons (pe_ix ix_list (pv 0) (pe_int) (fun _ _ => rfl)) pa_nil))))) (pss_nil)) (pss_cons (ps_if (pt_cmpR op_eq (pe_callB call_len (by rfl) T.f_len (by decide +kernel) (pa_cons (pv 0) pa_nil)) (pe_int) (nomark _)) (pss_one (ps_ret (ClX.pe_cmeth (E := E0) (pe_glob (v := .ref (He.ga K "Ratio")) rfl T.g_Ratio rfl) T.cr_Ratio T.cm_Ratio_total (ok_Ratio_total T) (hr.mono (by decide)) passL (pa_cons (pe_ix ix_list (pv 0) (pe_int) (fun _ _ => rfl)) (pa_cons (pe_ix ix_list (pv 0) (pe_int) (fun _ _ => rfl)) pa_nil))))) (pss_nil)) (pss_cons (ps_if (pt_cmpR op_eq (pe_callB call_len (by rfl) T.f_len (by decide +kernel) (pa_cons (pv 0) pa_nil)) (pe_int) (nomark _)) (pss_one (ps_ret (ClX.pe_cmeth (E := E0) (pe_glob (v := .ref (He.ga K "Ratio")) rfl T.g_Ratio rfl) T.cr_Ratio T.cm_Ratio_total (ok_Ratio_total T) (hr.mono (by decide)) passL (pa_cons (pe_ix ix_list (pv 0) (pe_int) (fun _ _ => rfl)) (pa_cons (pe_ix ix_list (pv 0) (pe_int) (fun _ _ => rfl)) (pa_cons (pe_ix ix_list (pv 0) (pe_int) (fun _ _ => rfl)) pa_nil)))))) (pss_nil)) (pss_one (ps_ret (ClX.pe_cmeth (E := E0) (pe_glob (v := .ref (He.ga K "Ratio")) rfl T.g_Ratio rfl) T.cr_Ratio T.cm_Ratio_total (ok_Ratio_total T) (hr.mono (by decide)) passL (pa_cons (pe_ix ix_list (pv 0) (pe_int) (fun _ _ => rfl)) (pa_cons (pe_ix ix_list (pv 0) (pe_int) (fun _ _ => rfl)) (pa_cons (pe_ix ix_list (pv 0) (pe_int) (fun _ _ => rfl)) (pa_cons (pe_ix ix_list (pv 0) (pe_int) (fun _ _ => rfl)) pa_nil)))))))))), ?_⟩
  have hlen := Paired.length hn
  have h8 : qs.length ≤ 8 := by omega
  have sl := fun xs (h : H l = some (.lst xs)) => SqL.of (K := K) h
  refine ⟨_, rfl, _, xs.length, rfl, Or.inl ⟨_, SqL.of hl, rfl⟩, _, _, rfl, rfl, _, rfl, ?_⟩
  match xs, hl, hn, hlen with
  | [], hl, hn, hlen =>
    refine iteT ⟨_, rfl, (by show 0 ≤ sizeLine; decide), fun e he => ?_⟩
    refine .inl ⟨.list [], .list [], .lst (SqL.of (same_new he _ _ hl)) .nil, .lst (SqL.of upd_same) .nil, by decide +kernel, by decide +kernel, _, rfl, ?_⟩
    refine iteT ⟨rfl, [], qs, rfl, paired_up hn (fun _ _ z => z.up (same_new he)), h8, hz, fun r H' s' h' => k r H' ((same_new he).trans s') h'⟩
  | [x0], hl, hn, hlen =>
    refine iteT ⟨_, rfl, (by show 0 ≤ sizeLine; decide), fun e he => ?_⟩
    have hl2 := same_new (o := HO.lst []) he _ _ hl
    refine .inr ⟨l, e, [x0], [], rfl, rfl, SqL.of hl2, SqL.of upd_same, by simp, _, rfl, ?_⟩
    refine iteF ⟨rfl, _, rfl, l, _, _, _, rfl, rfl, SqL.of hl2, rfl, [x0], qs, rfl, paired_up hn (fun _ _ z => z.up (same_new he)), h8, hz, fun r H' s' h' => k r H' ((same_new he).trans s') h'⟩
  | [x0, x1], hl, hn, hlen =>
    refine iteF ⟨_, rfl, _, _, rfl, Or.inl ⟨_, SqL.of hl, rfl⟩, rfl, _, rfl, ?_⟩
    refine iteT ⟨rfl, _, rfl, l, _, _, _, rfl, rfl, SqL.of hl, rfl, _, rfl, l, _, _, _, rfl, rfl, SqL.of hl, rfl, [x0, x1], qs, rfl, hn, h8, hz, k⟩
  | [x0, x1, x2], hl, hn, hlen =>
    refine iteF ⟨_, rfl, _, _, rfl, Or.inl ⟨_, SqL.of hl, rfl⟩, rfl, _, rfl, ?_⟩
    refine iteF ⟨_, rfl, _, _, rfl, Or.inl ⟨_, SqL.of hl, rfl⟩, rfl, _, rfl, ?_⟩
    refine iteT ⟨rfl, _, rfl, l, _, _, _, rfl, rfl, SqL.of hl, rfl, _, rfl, l, _, _, _, rfl, rfl, SqL.of hl, rfl, _, rfl, l, _, _, _, rfl, rfl, SqL.of hl, rfl, [x0, x1, x2], qs, rfl, hn, h8, hz, k⟩
  | [x0, x1, x2, x3], hl, hn, hlen =>
    refine iteF ⟨_, rfl, _, _, rfl, Or.inl ⟨_, SqL.of hl, rfl⟩, rfl, _, rfl, ?_⟩
    refine iteF ⟨_, rfl, _, _, rfl, Or.inl ⟨_, SqL.of hl, rfl⟩, rfl, _, rfl, ?_⟩
    refine iteF ?_
    exact ⟨rfl, _, rfl, l, _, _, _, rfl, rfl, SqL.of hl, rfl, _, rfl, l, _, _, _, rfl, rfl, SqL.of hl, rfl, _, rfl, l, _, _, _, rfl, rfl, SqL.of hl, rfl, _, rfl, l, _, _, _, rfl, rfl, SqL.of hl, rfl, [x0, x1, x2, x3], qs, rfl, hn, h8, hz, k⟩
  | x0 :: x1 :: x2 :: x3 :: x4 :: r, hl, hn, hlen =>
    simp only [List.length_cons] at hlen
    omega
/-! ### the bag: Ratios and the law's fractions -/
structure Bag (K : PySem.W.Frag) (H : Hp) (p b c : Addr) (qs : List (Int × Int)) : Prop where
  ex : ∃ vs fs, H b = some (.lst vs) ∧ H c = some (.lst fs) ∧ b ≠ c ∧ b ≠ p ∧ c ≠ p ∧ Paired (RatV K H) vs qs ∧ Paired (FracT H) fs qs ∧ vs.length = qs.length ∧ fs.length = qs.length
  pos : 0 < qs.length
  few : qs.length ≤ 100
  sz : ∀ q ∈ qs, M.Sz 300 q
theorem Bag.grow {K : PySem.W.Frag} {H H' : Hp} {p b c : Addr} {qs : List (Int × Int)} (h : Bag K H p b c qs) (hp : Pot H p) (g : Grow p H H') : Bag K H' p b c qs := by
  obtain ⟨⟨vs, fs, h1, h2, n1, n2, n3, p1, p2, l1, l2⟩, a, d, z⟩ := h
  exact ⟨⟨vs, fs, g.kp _ _ n2 h1, g.kp _ _ n3 h2, n1, n2, n3, paired_up p1 (fun _ _ z => z.grow hp g), paired_up p2 (fun _ _ z => z.grow hp g), l1, l2⟩, a, d, z⟩
theorem Bag.up {K : PySem.W.Frag} {H H' : Hp} {p b c : Addr} {qs : List (Int × Int)} (h : Bag K H p b c qs) (s : Same H H') : Bag K H' p b c qs := by
  obtain ⟨⟨vs, fs, h1, h2, n1, n2, n3, p1, p2, l1, l2⟩, a, d, z⟩ := h
  exact ⟨⟨vs, fs, s _ _ h1, s _ _ h2, n1, n2, n3, paired_up p1 (fun _ _ z => z.up s), paired_up p2 (fun _ _ z => z.up s), l1, l2⟩, a, d, z⟩
/-- the item at a drawn place -/
theorem Bag.get {K : PySem.W.Frag} {H : Hp} {p b c : Addr} {qs : List (Int × Int)} (h : Bag K H p b c qs) {d : Int} (d0 : 0 ≤ d) (d1 : d < (qs.length : Int)) :
    ∃ vs fs v f q, H b = some (.lst vs) ∧ H c = some (.lst fs) ∧ atI vs d = some v ∧ atI fs d = some f ∧ RatV K H v q ∧ FracT H f q ∧ M.Sz 300 q := by
  obtain ⟨⟨vs, fs, h1, h2, n1, n2, n3, p1, p2, l1, l2⟩, _, _, z⟩ := h
  have hd : d.toNat < qs.length := by omega
  have e : ((d.toNat : Nat) : Int) = d := by omega
  have ev : vs[d.toNat]? = some vs[d.toNat] := List.getElem?_eq_getElem (by omega)
  have ef : fs[d.toNat]? = some fs[d.toNat] := List.getElem?_eq_getElem (by omega)
  obtain ⟨q, hq, r1⟩ := paired_get p1 ev
  obtain ⟨q2, hq2, r2⟩ := paired_get p2 ef
  rw [hq] at hq2
  cases hq2
  refine ⟨vs, fs, _, _, q, h1, h2, ?_, ?_, r1, r2, z q (List.mem_of_getElem? hq)⟩
  · have y := atI_nat ev
    rw [e] at y
    exact y
  · have y := atI_nat ef
    rw [e] at y
    exact y
theorem Bag.lenV {K : PySem.W.Frag} {H : Hp} {p b c : Addr} {qs : List (Int × Int)} (h : Bag K H p b c qs) : LenV K (.ref b) H qs.length := by
  obtain ⟨⟨vs, fs, h1, h2, n1, n2, n3, p1, p2, l1, l2⟩, _, _, z⟩ := h
  exact Or.inl ⟨_, SqL.of h1, l1.symm⟩
def spDeed (K : PySem.W.Frag) : Sp := fun vs H Q _ => ∃ (p b c : Addr) (qs : List (Int × Int)), vs = [.ref p, .ref b, .ref c] ∧ Pot H p ∧ Bag K H p b c qs ∧ DeedK K p H Q
theorem RatV.lst {K : PySem.W.Frag} {H : Hp} {v : V} {q : Int × Int} {l : Addr} {xs : List V} {o : HO} (h : RatV K H v q) (hl : H l = some (.lst xs)) : RatV K (upd H l o) v q := by
  obtain ⟨⟨a, dx, e, ha⟩, r⟩ := h
  exact ⟨⟨a, dx, e, by rw [upd_ne (ne_of ha hl (fun z => by cases z))]; exact ha⟩, r⟩
theorem NumV.lst {K : PySem.W.Frag} {H : Hp} {v : V} {q : Int × Int} {l : Addr} {xs : List V} {o : HO} (h : NumV K H v q) (hl : H l = some (.lst xs)) : NumV K (upd H l o) v q := by
  rcases h with h | h
  · exact .inl (h.lst hl)
  · exact .inr h
theorem FracT.lst {H : Hp} {v : V} {q : Int × Int} {l : Addr} {xs : List V} {o : HO} (h : FracT H v q) (hl : H l = some (.lst xs)) : FracT (upd H l o) v q := by
  obtain ⟨t, e, ht⟩ := h
  exact ⟨t, e, by rw [upd_ne (ne_of ht hl (fun z => by cases z))]; exact ht⟩
theorem NumV.grow {K : PySem.W.Frag} {H H' : Hp} {v : V} {q : Int × Int} {p : Addr} (h : NumV K H v q) (hp : Pot H p) (g : Grow p H H') : NumV K H' v q := by
  rcases h with h | h
  · exact .inl (h.grow hp g)
  · exact .inr h
theorem Pot.lst {H : Hp} {p l : Addr} {o : HO} (h : Pot H p) (n : l ≠ p) : Pot (upd H l o) p := by
  obtain ⟨x, y, h1, h2⟩ := h
  exact ⟨x, y, by rw [upd_ne n.symm]; exact h1, h2⟩
theorem paired_snoc {α β : Type} {R : α → β → Prop} : ∀ {xs : List α} {ys : List β} {x : α} {y : β}, Paired R xs ys → R x y → Paired R (xs ++ [x]) (ys ++ [y])
  | _, _, _, _, .nil, r => .cons r .nil
  | _, _, _, _, .cons r t, r2 => .cons r (paired_snoc t r2)
theorem sumF_snoc (qs : List (Int × Int)) (q : Int × Int) : sumF (qs ++ [q]) = M.plus (sumF qs) q := by
  unfold sumF
  rw [List.foldl_append]
  rfl
theorem sumF_all {qs : List (Int × Int)} (h : ∀ q ∈ qs, M.Red q) (hz : ∀ q ∈ qs, M.Sz 300 q) (h4 : qs.length ≤ 4) : M.Red (sumF qs) ∧ M.Sz 1300 (sumF qs) := by
  have r := sumF_red h qs.length
  have z := sumF_sz h hz qs.length
  rw [List.take_length] at r z
  exact ⟨r, z.mono (by omega)⟩
/-- while the numbers are gathered -/
def SomeI (K : PySem.W.Frag) (H : Hp) (p b c l : Addr) (i : Nat) (σ : L2.St) (H' : Hp) : Prop := ∃ z1 z2 z3 z4 f xs qs, σ = [some (.ref p), some (.ref b), some (.ref c), some (.ref l), some f, z1, z2, z3, z4] ∧ Grow p H H' ∧ H' l = some (.lst xs) ∧ NumsV K H' xs qs ∧ qs.length = i ∧ (∀ q ∈ qs, M.Sz 300 q) ∧ FracT H' f (sumF qs)
theorem SomeI.next {K : PySem.W.Frag} {H H3 H5 : Hp} {p b c l : Addr} {i : Nat} {xs : List V} {qs : List (Int × Int)} {v : V} {q : Int × Int} {f : V} {z1 z2 z3 z4 : Option V} (hl0 : H l = none) (g : Grow p H H3) (lp : l ≠ p) (hl : H3 l = some (.lst xs)) (hn : NumsV K H3 xs qs) (e : qs.length = i)
    (hz : ∀ q ∈ qs, M.Sz 300 q) (hv : NumV K H3 v q) (zq : M.Sz 300 q) (s : Same (upd H3 l (.lst (xs ++ [v]))) H5) (hf : FracT H5 f (M.plus (sumF qs) q)) : SomeI K H p b c l (i + 1) [some (.ref p), some (.ref b), some (.ref c), some (.ref l), some f, z1, z2, z3, z4] H5 := by
  refine ⟨z1, z2, z3, z4, f, xs ++ [v], qs ++ [q], rfl, ⟨fun x o nx ex => ?_, (g.pot.lst lp).up s⟩, s _ _ upd_same, paired_snoc (paired_up hn (fun _ _ z => (z.lst hl).up s)) ((hv.lst hl).up s), by rw [List.length_append, e]; rfl, fun y hy => ?_, by rw [sumF_snoc]; exact hf⟩
  · refine s _ _ ?_
    rw [upd_ne (ne_of_none ex hl0)]
    exact g.kp x o nx ex
  · rcases List.mem_append.mp hy with h | h
    · exact hz y h
    · rw [List.mem_singleton.mp h]
      exact zq
theorem ok_law_of_some {P : Program} {w : World} {K : PySem.W.Frag} {mg : Str → Option Value} {base : Heap} (T : Txt K mg) : FnR P w K mg base (L2.CX P w) 8 (He.ga K "_law_of_some") ((spDeed K)) := by
  obtain ⟨fd, F⟩ := T.d_law_of_some
  refine Z.fnr F sc_law_of_some (fun _ _ _ _ _ _ us hl => match us, hl with | [_, _, _], _ => rfl) (fun vs H Q E h => ?_) (fun cdv A outer s H vs Q E hr h => ?_)
  · obtain ⟨p, b, c, ps, rfl, hp, hB, k⟩ := h
    rfl
  obtain ⟨p, b, c, ps, rfl, hp, hB, k⟩ := h
  refine ⟨_, PSs.nox (pss_cons (ps_par (i := 3) (j := 4) (by rfl) sc_law_of_some.nd rfl rfl (by decide) rfl rfl (pa_cons (pe_lst (pa_nil)) (pa_cons (pe_tup (pa_cons (pe_int) (pa_cons (pe_int) pa_nil))) pa_nil)) (by rfl)) (pss_cons (ps_for PassesOwn.never rfl (pi_range1 (by rfl) T.f_range (pa_cons (Z.pe_cl (E := E0) (ok_law_draw T) (hr.mono (by decide)) T.g_law_draw T.k_law_draw passL (pa_cons (pv 0) (pa_cons (pe_int) pa_nil))) pa_nil)) (pg_name (i := 5) sc_law_of_some.nd rfl (Or.inl rfl)) (pss_cons (ps_par (i := 6) (j := 7) (by rfl) sc_law_of_some.nd rfl rfl (by decide) rfl rfl (pa_cons (Z.pe_cl (E := E0) (ok_law_draw T) (hr.mono (by decide)) T.g_law_draw T.k_law_draw passL (pa_cons (pv 0) (pa_cons (pe_callB call_len (by rfl) T.f_len (by decide +kernel) (pa_cons (pv 1) pa_nil)) pa_nil))) (pa_cons (Z.pe_cl (E := E0) (ok_law_integer T) (hr.mono (by decide)) T.g_law_integer T.k_law_integer passL (pa_cons (pv 0) pa_nil)) pa_nil)) (by rfl)) (pss_cons (ps_set (i := 8) sc_law_of_some.nd rfl (Or.inl rfl) (pe_cmpR op_eq (Z.pe_cl (E := E0) (ok_law_draw T) (hr.mono (by decide)) T.g_law_draw T.k_law_draw passL (pa_cons (pv 0) (pa_cons (pe_int) pa_nil))) (pe_int) (nomark _))) (pss_cons (ps_expr (pe_bm PySem.F.plainAttrs_list PySem.F.slot_list_append PySem.F.type_list_append mt_append (pv 3) (pa_cons (pe_ifExp (pt_val (pv 8)) (pv 7) (pe_ix ix_list (pv 1) (pv 6) (fun _ _ => rfl))) pa_nil))) (pss_one (ps_set (i := 4) sc_law_of_some.nd rfl (Or.inl rfl) (Z.pe_cl (E := E0) (ok_law_plus T) (hr.mono (by decide)) T.g_law_plus T.k_law_plus passL (pa_cons (pv 4) (pa_cons (pe_ifExp (pt_val (pv 8)) (pe_tup (pa_cons (pv 7) (pa_cons (pe_int) pa_nil))) (pe_ix ix_list (pv 2) (pv 6) (fun _ _ => rfl))) pa_nil))))))))) (pss_one (ps_ret (pe_tup (pa_cons (Z.pe_cl (E := E0) (ok_law_total T) (hr.mono (by decide)) T.g_law_total T.k_law_total passL (pa_cons (pv 3) pa_nil)) (pa_cons (pv 4) pa_nil))))))), ?_⟩
  refine ⟨(by show 0 ≤ sizeLine; decide), fun l hl0 => ⟨(by show 2 ≤ sizeLine; decide), fun t ht => ⟨_, _, rfl, ?_⟩⟩⟩
  have s1 := same_new (o := HO.lst []) hl0
  have s2 := same_new (o := HO.tup [.int 0, .int 1]) ht
  have hl2 : upd (upd H l (.lst [])) t (.tup [.int 0, .int 1]) l = some (.lst []) := s2 _ _ upd_same
  have lp := hp.fresh hl0
  refine ⟨_, rfl, p, 5, rfl, hp.up (s1.trans s2), by decide, draw_sz (by decide), fun d H1 g1 d0 d5 => ?_⟩
  have gl : Grow p H H1 := (sgrow (s1.trans s2) hp).trans g1
  refine ⟨d, rfl, by omega, by omega, for_range (SomeI K H p b c l) ⟨_, _, _, _, _, [], [], rfl, gl, g1.kp _ _ lp hl2, .nil, rfl, (fun q h => by cases h), ⟨t, rfl, g1.get (hp.up (s1.trans s2)) upd_same⟩⟩ ?_ ?_⟩
  · rintro i σ H2 hi ⟨z1, z2, z3, z4, f, xs, qs, rfl, g2, hl, hn, e, hz, hf⟩
    have hB2 := hB.grow hp g2
    have hi4 : i < 4 := by omega
    have hred := nums_red hn
    obtain ⟨rs, zs⟩ := sumF_all hred hz (by omega)
    refine ⟨_, rfl, _, rfl, _, _, rfl, hB2.lenV, p, _, rfl, g2.pot, ?_, ?_, fun a H3 g3 a0 a1 => ?_⟩
    · have := hB2.pos
      omega
    · have := hB2.few
      exact draw_sz (Nat.lt_of_le_of_lt (show (ps.length : Int).natAbs ≤ 100 by omega) (by decide))
    refine ⟨_, rfl, p, rfl, g3.pot, fun n H4 g4 hn4 => ⟨_, _, rfl, ?_⟩⟩
    refine ⟨_, rfl, p, 3, rfl, g4.pot, by decide, draw_sz (by decide), fun m H5 g5 m0 m3 => ⟨rfl, ?_⟩⟩
    have g25 := (g3.trans g4).trans g5
    have g05 := g2.trans g25
    have hl5 := g25.kp _ _ lp hl
    have hf5 := hf.grow g2.pot g25
    have hn5 : NumsV K H5 xs qs := paired_up hn (fun _ _ z => z.grow g2.pot g25)
    obtain ⟨vs, fs, v, w, q, sv, sf, av, af, rv, rf, zq⟩ := (hB.grow hp g05).get a0 a1
    have lx : xs.length < sizeLine := by
      have := Paired.length hn
      rw [sizeLine_eq]
      omega
    refine ⟨_, rfl, .inl ⟨rfl, _, SqL.of hl5⟩, _, rfl, _, rfl, ?_⟩
    cases hm : decide (V.int m = V.int 0) with
    | true =>
      refine iteT ⟨_, rfl, l, _, _, rfl, rfl, hl5, lx, ?_⟩
      have nv : NumV K H5 (.int n) (n, 1) := .inr ⟨n, rfl, rfl⟩
      refine ⟨_, rfl, _, rfl, _, rfl, iteT ⟨_, rfl, (by show 2 ≤ sizeLine; decide), fun t2 ht2 => ?_⟩⟩
      refine ⟨_, _, _, (n, 1), rfl, (hf5.lst hl5).up (same_new ht2), ⟨t2, rfl, upd_same⟩, rs, M.red_int n, zs.mono (by decide), int_sz hn4 (by decide), fun r H6 s6 h6 => ?_⟩
      exact SomeI.next hl0 g05 lp hl5 hn5 e hz nv (int_sz hn4 (by decide)) ((same_new ht2).trans s6) h6
    | false =>
      obtain ⟨⟨_, _, _, hc0, _⟩, _⟩ := hB
      have sf2 : upd H5 l (.lst (xs ++ [v])) c = some (.lst fs) := by
        rw [upd_ne (ne_of_none hc0 hl0)]
        exact sf
      refine iteF ⟨_, rfl, _, rfl, b, vs, a, v, rfl, rfl, SqL.of sv, av, l, _, _, rfl, rfl, hl5, lx, ?_⟩
      refine ⟨_, rfl, _, rfl, _, rfl, iteF ⟨_, rfl, _, rfl, c, fs, a, w, rfl, rfl, SqL.of sf2, af, ?_⟩⟩
      refine ⟨_, _, _, q, rfl, hf5.lst hl5, rf.lst hl5, rs, rv.2, zs.mono (by decide), zq.mono (by decide), fun r H6 s6 h6 => ?_⟩
      exact SomeI.next hl0 g05 lp hl5 hn5 e hz (.inl rv) zq s6 h6
  · rintro σ H2 ⟨z1, z2, z3, z4, f, xs, qs, rfl, g2, hl, hn, e, hz, hf⟩
    have hred := nums_red hn
    have q4 : qs.length ≤ 4 := by omega
    obtain ⟨rs, zs⟩ := sumF_all hred hz q4
    refine ⟨_, rfl, l, xs, qs, rfl, hl, hn, q4, hz, fun r H3 s3 h3 => ⟨_, rfl, (by show 2 ≤ sizeLine; decide), fun t2 ht2 => ?_⟩⟩
    exact k _ _ (sumF qs) (g2.same (s3.trans (same_new ht2))) ⟨t2, r, f, rfl, upd_same, h3.up (same_new ht2), hf.up (s3.trans (same_new ht2))⟩ (zs.mono (by decide))
theorem ok_law_deed {P : Program} {w : World} {K : PySem.W.Frag} {mg : Str → Option Value} {base : Heap} (T : Txt K mg) : FnR P w K mg base (L2.CX P w) 9 (He.ga K "_law_deed") ((spDeed K)) := by
  obtain ⟨fd, F⟩ := T.d_law_deed
  refine Z.fnr F sc_law_deed (fun _ _ _ _ _ _ us hl => match us, hl with | [_, _, _], _ => rfl) (fun vs H Q E h => ?_) (fun cdv A outer s H vs Q E hr h => ?_)
  · obtain ⟨p, b, c, qs, rfl, hp, hB, k⟩ := h
    rfl
  obtain ⟨p, b, c, qs, rfl, hp, hB, k⟩ := h
  refine ⟨_, PSs.nox (pss_cons (ps_par3 (i := 3) (j := 4) (l := 5) (by rfl) sc_law_deed.nd rfl rfl rfl (by decide) (by decide) (by decide) rfl rfl rfl (pa_cons (Z.pe_cl (E := E0) (ok_law_draw T) (hr.mono (by decide)) T.g_law_draw T.k_law_draw passL (pa_cons (pv 0) (pa_cons (pe_callB call_len (by rfl) T.f_len (by decide +kernel) (pa_cons (pv 1) pa_nil)) pa_nil))) (pa_cons (Z.pe_cl (E := E0) (ok_law_draw T) (hr.mono (by decide)) T.g_law_draw T.k_law_draw passL (pa_cons (pv 0) (pa_cons (pe_callB call_len (by rfl) T.f_len (by decide +kernel) (pa_cons (pv 1) pa_nil)) pa_nil))) (pa_cons (Z.pe_cl (E := E0) (ok_law_draw T) (hr.mono (by decide)) T.g_law_draw T.k_law_draw passL (pa_cons (pv 0) (pa_cons (pe_int) pa_nil))) pa_nil))) (by rfl)) (pss_cons (ps_if (pt_cmpR op_lt (pv 5) (pe_int) (nomark _)) (pss_one (ps_ret (Z.pe_cl (E := E0) (ok_law_of_two T) (hr.mono (by decide)) T.g_law_of_two T.k_law_of_two passL (pa_cons (pv 0) (pa_cons (pe_ix ix_list (pv 1) (pv 3) (fun _ _ => rfl)) (pa_cons (pe_ix ix_list (pv 1) (pv 4) (fun _ _ => rfl)) (pa_cons (pe_ix ix_list (pv 2) (pv 3) (fun _ _ => rfl)) (pa_cons (pe_ix ix_list (pv 2) (pv 4) (fun _ _ => rfl)) pa_nil)))))))) (pss_nil)) (pss_cons (ps_if (pt_cmpR op_lt (pv 5) (pe_int) (nomark _)) (pss_one (ps_ret (Z.pe_cl (E := E0) (ok_law_of_integer T) (hr.mono (by decide)) T.g_law_of_integer T.k_law_of_integer passL (pa_cons (pv 0) (pa_cons (pe_ix ix_list (pv 1) (pv 3) (fun _ _ => rfl)) (pa_cons (pe_ix ix_list (pv 2) (pv 3) (fun _ _ => rfl)) pa_nil)))))) (pss_nil)) (pss_one (ps_ret (Z.pe_cl (E := E0) (ok_law_of_some T) (hr.mono (by decide)) T.g_law_of_some T.k_law_of_some passL (pa_cons (pv 0) (pa_cons (pv 1) (pa_cons (pv 2) pa_nil))))))))), ?_⟩
  have n0 : (0 : Int) < (qs.length : Int) := by
    have := hB.pos
    omega
  have n1 : (qs.length : Int).natAbs < 2 ^ 8000 := by
    have := hB.few
    exact draw_sz (Nat.lt_of_le_of_lt (show (qs.length : Int).natAbs ≤ 100 by omega) (by decide))
  refine ⟨_, rfl, _, rfl, _, _, rfl, hB.lenV, p, _, rfl, hp, n0, n1, fun a H1 g1 a0 a1 => ?_⟩
  have hB1 := hB.grow hp g1
  refine ⟨_, rfl, _, rfl, _, _, rfl, hB1.lenV, p, _, rfl, g1.pot, n0, n1, fun o H2 g2 o0 o1 => ?_⟩
  refine ⟨_, rfl, p, 5, rfl, g2.pot, by decide, draw_sz (by decide), fun d H3 g3 d0 d5 => ⟨_, _, _, rfl, ?_⟩⟩
  have g03 := (g1.trans g2).trans g3
  have hB3 := hB.grow hp g03
  have k3 : DeedK K p H3 Q := fun r H' q g hd z => k r H' q (g03.trans g) hd z
  obtain ⟨vs, fs, v, f, q, sv, sf, av, af, rv, rf, zq⟩ := hB3.get a0 a1
  obtain ⟨vs2, fs2, v2, f2, q2, sv2, sf2, av2, af2, rv2, rf2, zq2⟩ := hB3.get o0 o1
  refine ⟨_, rfl, _, _, rfl, rfl, _, rfl, ?_⟩
  by_cases c0 : d < 2
  · rw [decide_eq_true c0]
    refine iteT ⟨_, rfl, _, rfl, _, rfl, b, vs, a, v, rfl, rfl, SqL.of sv, av, _, rfl, _, rfl, b, vs2, o, v2, rfl, rfl, SqL.of sv2, av2, _, rfl, _, rfl, c, fs, a, f, rfl, rfl, SqL.of sf, af, _, rfl, _, rfl, c, fs2, o, f2, rfl, rfl, SqL.of sf2, af2, ?_⟩
    exact ⟨p, v, v2, f, f2, q, q2, rfl, g3.pot, rv, rv2, rf, rf2, zq, zq2, k3⟩
  rw [decide_eq_false c0]
  refine iteF ⟨_, rfl, _, _, rfl, rfl, _, rfl, ?_⟩
  by_cases c1 : d < 4
  · rw [decide_eq_true c1]
    refine iteT ⟨_, rfl, _, rfl, _, rfl, b, vs, a, v, rfl, rfl, SqL.of sv, av, _, rfl, _, rfl, c, fs, a, f, rfl, rfl, SqL.of sf, af, ?_⟩
    exact ⟨p, v, f, q, rfl, g3.pot, rv, rf, zq, k3⟩
  rw [decide_eq_false c1]
  exact iteF ⟨_, rfl, _, rfl, _, rfl, p, b, c, qs, rfl, g3.pot, hB3, k3⟩
/-- the bag while it is filled -/
def BagE (K : PySem.W.Frag) (H : Hp) (p b c : Addr) (vs fs : List V) (qs : List (Int × Int)) : Prop := H b = some (.lst vs) ∧ H c = some (.lst fs) ∧ b ≠ c ∧ b ≠ p ∧ c ≠ p ∧ Paired (RatV K H) vs qs ∧ Paired (FracT H) fs qs ∧ ∀ q ∈ qs, M.Sz 300 q
theorem BagE.bag {K : PySem.W.Frag} {H : Hp} {p b c : Addr} {vs fs : List V} {qs : List (Int × Int)} (h : BagE K H p b c vs fs qs) (h0 : 0 < qs.length) (h1 : qs.length ≤ 100) : Bag K H p b c qs := by
  obtain ⟨h2, h3, n1, n2, n3, p1, p2, z⟩ := h
  exact ⟨⟨vs, fs, h2, h3, n1, n2, n3, p1, p2, Paired.length p1, Paired.length p2⟩, h0, h1, z⟩
theorem BagE.grow {K : PySem.W.Frag} {H H' : Hp} {p b c : Addr} {vs fs : List V} {qs : List (Int × Int)} (h : BagE K H p b c vs fs qs) (hp : Pot H p) (g : Grow p H H') : BagE K H' p b c vs fs qs := by
  obtain ⟨h1, h2, n1, n2, n3, p1, p2, z⟩ := h
  exact ⟨g.kp _ _ n2 h1, g.kp _ _ n3 h2, n1, n2, n3, paired_up p1 (fun _ _ z => z.grow hp g), paired_up p2 (fun _ _ z => z.grow hp g), z⟩
theorem BagE.up {K : PySem.W.Frag} {H H' : Hp} {p b c : Addr} {vs fs : List V} {qs : List (Int × Int)} (h : BagE K H p b c vs fs qs) (s : Same H H') : BagE K H' p b c vs fs qs := by
  obtain ⟨h1, h2, n1, n2, n3, p1, p2, z⟩ := h
  exact ⟨s _ _ h1, s _ _ h2, n1, n2, n3, paired_up p1 (fun _ _ z => z.up s), paired_up p2 (fun _ _ z => z.up s), z⟩
theorem BagE.push {K : PySem.W.Frag} {H0 H H2 : Hp} {p b c : Addr} {vs fs : List V} {qs : List (Int × Int)} {v f : V} {q : Int × Int} (h : BagE K H p b c vs fs qs) (hb : H0 b = none) (hc : H0 c = none) (g : Grow p H0 H) (hv : RatV K H v q) (s : Same (upd H b (.lst (vs ++ [v]))) H2)
    (hf : FracT H2 f q) (z : M.Sz 300 q) : Grow p H0 (upd H2 c (.lst (fs ++ [f]))) ∧ BagE K (upd H2 c (.lst (fs ++ [f]))) p b c (vs ++ [v]) (fs ++ [f]) (qs ++ [q]) := by
  obtain ⟨h1, h2, n1, n2, n3, p1, p2, zs⟩ := h
  have c2 : H2 c = some (.lst fs) := s _ _ (by rw [upd_ne n1.symm]; exact h2)
  have b2 : H2 b = some (.lst (vs ++ [v])) := s _ _ upd_same
  refine ⟨⟨fun x o nx ex => ?_, ((g.pot.lst n2).up s).lst n3⟩, by rw [upd_ne n1]; exact b2, upd_same, n1, n2, n3, ?_, ?_, fun y hy => ?_⟩
  · rw [upd_ne (ne_of_none ex hc)]
    refine s _ _ ?_
    rw [upd_ne (ne_of_none ex hb)]
    exact g.kp x o nx ex
  · exact paired_snoc (paired_up p1 (fun _ _ z => ((z.lst h1).up s).lst c2)) (((hv.lst h1).up s).lst c2)
  · exact paired_snoc (paired_up p2 (fun _ _ z => ((z.lst h1).up s).lst c2)) (hf.lst c2)
  · rcases List.mem_append.mp hy with h | h
    · exact zs y h
    · rw [List.mem_singleton.mp h]
      exact z
def FillI (K : PySem.W.Frag) (H : Hp) (p b c : Addr) (lo hi : Nat) (σ : L2.St) (H' : Hp) : Prop := ∃ z3 z4 z5 z6 z7 z8 z9 vs fs qs, σ = [some (.ref p), some (.ref b), some (.ref c), z3, z4, z5, z6, z7, z8, z9] ∧ Grow p H H' ∧ BagE K H' p b c vs fs qs ∧ lo ≤ qs.length ∧ qs.length ≤ hi
def spRight : Sp := fun vs H Q _ => ∃ (p : Addr), vs = [.ref p] ∧ Pot H p ∧ ∀ H', Grow p H H' → Q (.bl true) H'
theorem big60 {a b : Int} (hb : 0 < b) (h : (if b > (if a < 0 then -a else a) then b else (if a < 0 then -a else a)) < 10 ^ Int.toNat 60) : M.Sz 300 (a, b) := by
  have e : (10 : Int) ^ Int.toNat 60 = 10 ^ 60 := rfl
  rw [e] at h
  have h2 : a.natAbs < 10 ^ 60 ∧ b.natAbs < 10 ^ 60 := by
    split at h <;> split at h <;> omega
  have h3 : (10 : Nat) ^ 60 < 2 ^ 300 := by decide +kernel
  exact ⟨Nat.lt_trans h2.1 h3, Nat.lt_trans h2.2 h3⟩
theorem get_rep {n i : Nat} {x y : V} (h : (List.replicate n x)[i]? = some y) : y = x := by
  have := List.mem_of_getElem? h
  exact (List.mem_replicate.mp this).2
theorem ok_law_right {P : Program} {w : World} {K : PySem.W.Frag} {mg : Str → Option Value} {base : Heap} (T : Txt K mg) : Z.FnG P w K mg base 10 (He.ga K "_law_right") (spRight) := by
  obtain ⟨fd, F⟩ := T.d_law_right
  refine Z.fng F sc_law_right (fun _ _ _ _ _ _ us hl => match us, hl with | [_], _ => rfl) (fun vs H Q E h => ?_) (fun cdv A outer s H vs Q E hr hg h => ?_)
  · obtain ⟨p, rfl, hp, k⟩ := h
    rfl
  obtain ⟨p, rfl, hp, k⟩ := h
  refine ⟨_, PSs.nox (pss_cons (ps_par (i := 1) (j := 2) (by rfl) sc_law_right.nd rfl rfl (by decide) rfl rfl (pa_cons (pe_lst (pa_nil)) (pa_cons (pe_lst (pa_nil)) pa_nil)) (by rfl)) (pss_cons (ps_for PassesOwn.never rfl (pi_range1 (by rfl) T.f_range (pa_cons (pe_int) pa_nil)) (pg_name (i := 3) sc_law_right.nd rfl (Or.inl rfl)) (pss_cons (ps_asg (Z.pe_cl (E := E0) (ok_law_parts T) (hr.mono (by decide)) T.g_law_parts T.k_law_parts passL (pa_cons (pv 0) pa_nil)) (pg_tup rfl (pgs_cons (pg_name (i := 4) sc_law_right.nd rfl (Or.inl rfl)) (pgs_cons (pg_name (i := 5) sc_law_right.nd rfl (Or.inl rfl)) (pgs_nil))))) (pss_cons (ps_expr (pe_bm PySem.F.plainAttrs_list PySem.F.slot_list_append PySem.F.type_list_append mt_append (pv 1) (pa_cons (pe_ifExp (pt_cmpR op_gt (pv 3) (pe_int) (nomark _)) (StX.pe_makeR (E := E0) T.mk_Ratio (ok_Ratio_init2 T) (hr.mono (by decide)) rfl T.g_Ratio passL (pa_cons (pv 4) (pa_cons (pv 5) pa_nil))) (Z.pe_mkK (E := E0) T.mk_Ratio (okk_Ratio_init_bottom_top T) (hr.mono (by decide)) T.g_Ratio passL (pk_cons (pv 5) (pk_cons (pv 4) (pk_nil))))) pa_nil))) (pss_one (ps_expr (pe_bm PySem.F.plainAttrs_list PySem.F.slot_list_append PySem.F.type_list_append mt_append (pv 2) (pa_cons (Z.pe_cl (E := E0) (ok_law_low T) (hr.mono (by decide)) T.g_law_low T.k_law_low passL (pa_cons (pv 4) (pa_cons (pv 5) pa_nil))) pa_nil))))))) (pss_cons (ps_for PassesOwn.never rfl (pi_range1 (by rfl) T.f_range (pa_cons (pe_int) pa_nil)) (pg_name (i := 3) sc_law_right.nd rfl (Or.inl rfl)) (pss_cons (ps_asg (Z.pe_cl (E := E0) (ok_law_deed T) (hr.mono (by decide)) T.g_law_deed T.k_law_deed passL (pa_cons (pv 0) (pa_cons (pv 1) (pa_cons (pv 2) pa_nil)))) (pg_tup rfl (pgs_cons (pg_name (i := 6) sc_law_right.nd rfl (Or.inl rfl)) (pgs_cons (pg_name (i := 7) sc_law_right.nd rfl (Or.inl rfl)) (pgs_nil))))) (pss_cons (ps_if (pt_not (pt_val (Z.pe_clG (E := E0) (ok_law_is T) (hr.mono (by decide)) hg T.g_law_is T.k_law_is passL (pa_cons (pv 6) (pa_cons (pv 7) pa_nil))))) (pss_one (ps_ret (pe_bl))) (pss_nil)) (pss_one (ps_if (pt_cmpR op_lt (pe_callB (call_max2 rfl) (by rfl) T.f_max (by decide +kernel) (pa_cons (pe_callB call_abs (by rfl) T.f_abs (by decide +kernel) (pa_cons (pe_ix ix_tup (pv 7) (pe_int) (fun _ _ => rfl)) pa_nil)) (pa_cons (pe_ix ix_tup (pv 7) (pe_int) (fun _ _ => rfl)) pa_nil))) (pe_op op_pow (pe_int) (pe_int)) (nomark _)) (pss_cons (ps_expr (pe_bm PySem.F.plainAttrs_list PySem.F.slot_list_append PySem.F.type_list_append mt_append (pv 1) (pa_cons (pv 6) pa_nil))) (pss_one (ps_expr (pe_bm PySem.F.plainAttrs_list PySem.F.slot_list_append PySem.F.type_list_append mt_append (pv 2) (pa_cons (pv 7) pa_nil))))) (pss_nil)))))) (pss_cons (ps_set (i := 8) sc_law_right.nd rfl (Or.inl rfl) (Z.pe_cl (E := E0) (ok_law_integer T) (hr.mono (by decide)) T.g_law_integer T.k_law_integer passL (pa_cons (pv 0) pa_nil))) (pss_one (ps_ret (pe_and (Z.pe_clG (E := E0) (ok_law_is T) (hr.mono (by decide)) hg T.g_law_is T.k_law_is passL (pa_cons (StX.pe_makeR (E := E0) T.mk_Ratio (ok_Ratio_init1 T) (hr.mono (by decide)) rfl T.g_Ratio passL (pa_cons (pv 8) pa_nil)) (pa_cons (pe_tup (pa_cons (pv 8) (pa_cons (pe_int) pa_nil))) pa_nil))) (pe_one (pe_callB (cr_all rfl) (by rfl) T.f_all (by decide +kernel) (pa_cons (pe_lc (own := [("_law_one", 9), ("_law_due", 7)]) (g := gTup K 2 (gCons (gName 9) (gCons (gName 7) gNil))) (by rfl) sc_law_right.nd (pi_zip (by rfl) T.f_zip (pa_cons (pv 1) (pa_cons (pv 2) pa_nil))) (blkOk_by (own := [("_law_one", 9), ("_law_due", 7)]) (N := N_law_right) (sc := defScope s_law_right) (by decide +kernel)) (fun _ _ _ _ _ => pg_tup rfl (pgs_cons (pg_name (i := 9) sc_law_right.nd rfl (Or.inl rfl)) (pgs_cons (pg_name (i := 7) sc_law_right.nd rfl (Or.inl rfl)) (pgs_nil)))) (fun _ _ _ _ _ => pts_nil) (fun _ _ _ _ _ => Z.pe_clG (E := E0) (ok_law_is T) (hr.mono (by decide)) hg T.g_law_is T.k_law_is passL (pa_cons (pv 9) (pa_cons (pv 7) pa_nil)))) pa_nil)))))))))), ?_⟩
  refine ⟨(by show 0 ≤ sizeLine; decide), fun b hb0 => ⟨(by show 0 ≤ sizeLine; decide), fun c hc1 => ⟨_, _, rfl, ?_⟩⟩⟩
  have s1 := same_new (o := HO.lst []) hb0
  have bc : b ≠ c := ne_of_none upd_same hc1
  have hc0 : H c = none := by
    rw [upd_ne bc.symm] at hc1
    exact hc1
  have s2 := same_new (o := HO.lst []) hc1
  have bp := hp.fresh hb0
  have cp := hp.fresh hc0
  refine ⟨4, rfl, by decide, by decide, for_range (fun i => FillI K H p b c i i) ⟨_, _, _, _, _, _, _, [], [], [], rfl, sgrow (s1.trans s2) hp, ⟨s2 _ _ upd_same, upd_same, bc, bp, cp, .nil, .nil, fun q h => by cases h⟩, Nat.le_refl _, Nat.le_refl _⟩ ?_ ?_⟩
  · rintro i σ H2 hi ⟨z3, z4, z5, z6, z7, z8, z9, vs, fs, qs, rfl, g2, hB, l1, l2⟩
    have hi4 : i < 4 := hi
    refine ⟨_, rfl, p, rfl, g2.pot, fun u l r H3 g3 l0 zu zl hr => ?_⟩
    obtain ⟨t, rfl, ht⟩ := hr
    refine ⟨t, _, rfl, SqT.of ht, rfl, _, _, rfl, _, _, rfl, rfl, ?_⟩
    have hB3 := hB.grow g2.pot g3
    have g03 := g2.trans g3
    have hb3 := hB3.1
    have lv : vs.length < sizeLine := by
      have := Paired.length hB3.2.2.2.2.2.1
      rw [sizeLine_eq]
      omega
    have lf : fs.length < sizeLine := by
      have := Paired.length hB3.2.2.2.2.2.2.1
      rw [sizeLine_eq]
      omega
    refine ⟨_, rfl, .inl ⟨rfl, _, SqL.of hb3⟩, _, rfl, _, _, rfl, rfl, _, rfl, ?_⟩
    by_cases c0 : (0 : Int) < 0 + (i : Int)
    case' pos =>
      rw [decide_eq_true c0]
      refine iteT ⟨_, rfl, _, rfl, ?_⟩
      intro x dx hx hd ne
      refine ⟨x, dx, u, l, rfl, upd_same, l0, draw_sz zu, draw_sz zl, fun H4 kp g4 => ⟨rfl, ?_⟩⟩
    case' neg =>
      rw [decide_eq_false c0]
      refine iteF ⟨_, rfl, _, rfl, rfl, ?_⟩
      intro x dx hx hd ne
      refine ⟨x, dx, u, l, rfl, upd_same, l0, draw_sz zu, draw_sz zl, fun H4 kp g4 => ⟨rfl, ?_⟩⟩
    all_goals
      obtain ⟨s4, h4⟩ := made_ok l0 hx hd kp g4
      have hB4 := hB3.up s4
      refine ⟨b, _, _, rfl, rfl, hB4.1, lv, ?_⟩
      have hc4 : upd H4 b (.lst (vs ++ [.ref x])) c = some (.lst fs) := by
        rw [upd_ne bc.symm]
        exact hB4.2.1
      refine ⟨_, rfl, .inl ⟨rfl, _, SqL.of hc4⟩, _, rfl, _, rfl, u, l, rfl, l0, draw_sz zu, draw_sz zl, fun f H5 s5 h5 => ⟨c, _, _, rfl, rfl, s5 _ _ hc4, lf, ?_⟩⟩
      obtain ⟨g6, hB6⟩ := hB4.push hb0 hc0 (g03.same s4) h4 s5 h5 ((M.low_sz l0 zu zl).mono (by decide))
      exact ⟨_, _, _, _, _, _, _, _, _, _, rfl, g6, hB6, by rw [List.length_append]; exact Nat.succ_le_succ l1, by rw [List.length_append]; exact Nat.succ_le_succ l2⟩
  rintro σ H2 ⟨z3, z4, z5, z6, z7, z8, z9, vs, fs, qs, rfl, g2, hB, l1, l2⟩
  refine ⟨18, rfl, by decide, by decide, for_range (fun i => FillI K H p b c 4 (4 + i)) ⟨_, _, _, _, _, _, _, _, _, _, rfl, g2, hB, l1, l2⟩ ?_ ?_⟩
  · rintro i σ H3 hi ⟨z3, z4, z5, z6, z7, z8, z9, vs, fs, qs, rfl, g3, hB, l1, l2⟩
    have hi18 : i < 18 := hi
    refine ⟨_, rfl, _, rfl, _, rfl, p, b, c, qs, rfl, g3.pot, hB.bag (by omega) (by omega), fun r H4 q g4 hr zq => ?_⟩
    obtain ⟨t, v, f, rfl, ht, hv, hf⟩ := hr
    have hB4 := hB.grow g3.pot g4
    refine ⟨t, _, rfl, SqT.of ht, rfl, _, _, rfl, _, _, rfl, rfl, ?_⟩
    refine ⟨_, rfl, _, rfl, v, f, q, rfl, hv, hf, zq.mono (by decide), fun H5 s5 => ⟨_, rfl, iteF ?_⟩⟩
    have g05 := (g3.trans g4).same s5
    have hB5 := hB4.up s5
    have hv5 := hv.up s5
    have hf5 := hf.up s5
    have hf6 := hf5
    obtain ⟨tf, rfl, htf⟩ := hf6
    refine ⟨_, rfl, tf, _, _, _, rfl, rfl, SqT.of htf, rfl, _, rfl, _, rfl, tf, _, _, _, rfl, rfl, SqT.of htf, rfl, _, _, rfl, _, _, rfl, rfl, pow_ok (by decide) (by decide) (by decide), _, _, rfl, rfl, _, rfl, ?_⟩
    have lv : vs.length < sizeLine := by
      have := Paired.length hB5.2.2.2.2.2.1
      rw [sizeLine_eq]
      omega
    have lf : fs.length < sizeLine := by
      have := Paired.length hB5.2.2.2.2.2.2.1
      rw [sizeLine_eq]
      omega
    cases hm : decide ((if q.2 > (if q.1 < 0 then -q.1 else q.1) then q.2 else (if q.1 < 0 then -q.1 else q.1)) < 10 ^ Int.toNat 60) with
    | true =>
      have zq3 := big60 hv5.2.1 (of_decide_eq_true hm)
      refine iteT ⟨_, rfl, .inl ⟨rfl, _, SqL.of hB5.1⟩, _, rfl, b, _, _, rfl, rfl, hB5.1, lv, ?_⟩
      have hc5 : upd H5 b (.lst (vs ++ [v])) c = some (.lst fs) := by
        rw [upd_ne bc.symm]
        exact hB5.2.1
      refine ⟨_, rfl, .inl ⟨rfl, _, SqL.of hc5⟩, _, rfl, c, _, _, rfl, rfl, hc5, lf, ?_⟩
      obtain ⟨g6, hB6⟩ := hB5.push hb0 hc0 g05 hv5 (Same.refl _) (hf5.lst hB5.1) zq3
      exact ⟨_, _, _, _, _, _, _, _, _, _, rfl, g6, hB6, by rw [List.length_append]; exact Nat.le_succ_of_le l1, by rw [List.length_append]; exact Nat.succ_le_succ l2⟩
    | false =>
      exact iteF ⟨_, _, _, _, _, _, _, _, _, _, rfl, g05, hB5, l1, Nat.le_succ_of_le l2⟩
  · rintro σ H3 ⟨z3, z4, z5, z6, z7, z8, z9, vs, fs, qs, rfl, g3, hB, l1, l2⟩
    refine ⟨_, rfl, p, rfl, g3.pot, fun n H4 g4 hn => ?_⟩
    refine ⟨_, rfl, ?_⟩
    intro x dx hx hd ne
    refine ⟨x, dx, n, 1, rfl, upd_same, by decide, draw_sz hn, Nat.one_lt_two_pow (by decide), fun H5 kp g5 => ⟨rfl, ?_⟩⟩
    obtain ⟨s5, h5⟩ := made_ok (by decide) hx hd kp g5
    rw [M.low_int] at h5
    refine ⟨_, rfl, (by show 2 ≤ sizeLine; decide), fun t ht => ?_⟩
    have st := same_new (o := HO.tup [.int n, .int 1]) ht
    refine ⟨_, _, (n, 1), rfl, h5.up st, ⟨t, rfl, upd_same⟩, int_sz hn (by decide), fun H6 s6 => ⟨_, rfl, iteT ?_⟩⟩
    have g06 := (g3.trans g4).same ((s5.trans st).trans s6)
    have hB6 := ((hB.grow g3.pot g4).up ((s5.trans st).trans s6))
    obtain ⟨hb6, hc6, _, _, _, p1, p2, zs⟩ := hB6
    have e1 := Paired.length p1
    have e2 := Paired.length p2
    refine ⟨_, rfl, _, rfl, b, c, vs, fs, rfl, SqL.of hb6, SqL.of hc6, fun D hD => ?_⟩
    refine lc_it (walk_zip (K := K) (a := b) (b := c) (xs := vs) (ys := fs) (n := qs.length) (by omega)) (fun i H' => Same H6 H' ∧ H' D = some (.lst (List.replicate i (.bl true)))) ⟨same_new hD, upd_same⟩ (fun i H' _ z => ⟨SqL.of (z.1 _ _ hb6), SqL.of (z.1 _ _ hc6)⟩) ?_ ?_
    · rintro i y H7 H8 hi ⟨s7, hD7⟩ ⟨T1, v, f, rfl, hT, rfl, hv, hf⟩
      obtain ⟨q, hq, rv⟩ := paired_get p1 hv
      obtain ⟨q', hq', rf⟩ := paired_get p2 hf
      rw [hq] at hq'
      cases hq'
      have s8 := s7.trans (same_new (o := HO.tup [v, f]) hT)
      refine ⟨T1, _, rfl, SqT.of upd_same, rfl, _, _, rfl, _, _, rfl, rfl, rfl, ?_⟩
      refine ⟨_, rfl, _, rfl, v, f, q, rfl, rv.up s8, rf.up s8, (zs q (List.mem_of_getElem? hq)).mono (by decide), fun H9 s9 => ⟨_, s9 _ _ (same_new hT _ _ hD7), ?_, ?_, ?_⟩⟩
      · rw [List.length_replicate, sizeLine_eq]
        omega
      · exact fun x o ex => by
          rw [upd_ne (ne_of_none ex hD)]
          exact s9 _ _ (s8 _ _ ex)
      · rw [upd_same, ← List.replicate_succ']
    · rintro H7 ⟨s7, hD7⟩
      refine ⟨D, List.replicate qs.length true, rfl, SqL.of (by rw [List.map_replicate]; exact hD7), ?_⟩
      rw [show (List.replicate qs.length true).all id = true by simp]
      exact k _ (g06.same s7)
def spLaw (K : PySem.W.Frag) : Sp := fun vs H Q _ => ∃ (a : Addr) (ns : List Int), vs = [.ref a] ∧ SqL K H a (ns.map V.int) ∧ ns.length ≤ 1000 ∧ ∀ H', Q (.bl true) H'
theorem sql_keep {K : PySem.W.Frag} {H H' : Hp} {a : Addr} {xs : List V} (h : SqL K H a xs) (e : ∀ b o, H b = some o → H' b = some o) : SqL K H' a xs :=
  h.elim (fun h => .inl (h.elim (fun h => .inl (e _ _ h)) fun ⟨o, h⟩ => .inr ⟨o, e _ _ h⟩)) fun h => .inr h
theorem ok_law {P : Program} {w : World} {K : PySem.W.Frag} {mg : Str → Option Value} {base : Heap} (T : Txt K mg) : Z.FnG P w K mg base 11 (He.ga K "law") ((spLaw K)) := by
  obtain ⟨fd, F⟩ := T.d_law
  refine Z.fng F sc_law (fun _ _ _ _ _ _ us hl => match us, hl with | [_], _ => rfl) (fun vs H Q E h => ?_) (fun cdv A outer s H vs Q E hr hg h => ?_)
  · obtain ⟨a, ns, rfl, hs, hl, k⟩ := h
    rfl
  obtain ⟨a, ns, rfl, hs, hl, k⟩ := h
  refine ⟨_, PSs.nox (pss_one (ps_ret (pe_callB (cr_all rfl) (by rfl) T.f_all (by decide +kernel) (pa_cons (pe_lc (own := [("_law_k", 1)]) (g := gName 1) (by rfl) sc_law.nd (pi_range1 (by rfl) T.f_range (pa_cons (pe_callB (call_max2 rfl) (by rfl) T.f_max (by decide +kernel) (pa_cons (pe_int) (pa_cons (pe_callB (call_min2 rfl) (by rfl) T.f_min (by decide +kernel) (pa_cons (pe_callB call_len (by rfl) T.f_len (by decide +kernel) (pa_cons (pv 0) pa_nil)) (pa_cons (pe_int) pa_nil))) pa_nil))) pa_nil)) (blkOk_by (own := [("_law_k", 1)]) (N := N_law) (sc := defScope s_law) (by decide +kernel)) (fun _ _ _ _ _ => pg_name (i := 1) sc_law.nd rfl (Or.inl rfl)) (fun _ _ _ _ _ => pts_nil) (fun _ _ _ _ _ => Z.pe_clG (E := E0) (ok_law_right T) (hr.mono (by decide)) hg T.g_law_right T.k_law_right passL (pa_cons (Z.pe_cl (E := E0) (ok_law_pot T) (hr.mono (by decide)) T.g_law_pot T.k_law_pot passL (pa_cons (pv 0) (pa_cons (pv 1) pa_nil))) pa_nil))) pa_nil)))), ?_⟩
  refine ⟨_, rfl, _, _, rfl, Or.inl ⟨_, hs, rfl⟩, _, _, rfl, _, _, rfl, _, rfl, ?_, ?_, fun D hD => ?_⟩
  · split <;> split <;> omega
  · split <;> split <;> omega
  have small : (if (if (3 : Int) < ((ns.map V.int).length : Int) then (3 : Int) else ((ns.map V.int).length : Int)) > 1 then (if (3 : Int) < ((ns.map V.int).length : Int) then (3 : Int) else ((ns.map V.int).length : Int)) else 1).toNat ≤ 3 := by
    split <;> split <;> omega
  generalize (if (if (3 : Int) < ((ns.map V.int).length : Int) then (3 : Int) else ((ns.map V.int).length : Int)) > 1 then (if (3 : Int) < ((ns.map V.int).length : Int) then (3 : Int) else ((ns.map V.int).length : Int)) else 1).toNat = m at small
  refine lc_range (fun i H' => Same H H' ∧ H' D = some (.lst (List.replicate i (.bl true)))) ⟨same_new hD, upd_same⟩ ?_ ?_
  · rintro i H1 hi ⟨s1, hD1⟩
    have hi3 : i < 3 := Nat.lt_of_lt_of_le hi small
    refine ⟨rfl, ?_⟩
    refine ⟨_, rfl, _, rfl, a, ns, i, by rw [Int.zero_add], sql_keep hs s1, by omega, fun p H2 hp s2 pot => ⟨p, rfl, pot, fun H3 g3 => ?_⟩⟩
    have dp : D ≠ p := ne_of_none hD1 hp
    refine ⟨_, g3.kp _ _ dp (s2 _ _ hD1), ?_, fun b o e => ?_, ?_⟩
    · rw [List.length_replicate, sizeLine_eq]
      omega
    · rw [upd_ne (ne_of_none e hD)]
      exact g3.kp _ _ (ne_of_none (s1 _ _ e) hp) (s2 _ _ (s1 _ _ e))
    · rw [upd_same, ← List.replicate_succ']
  · rintro H1 ⟨s1, hD1⟩
    refine ⟨D, List.replicate _ true, rfl, SqL.of (by rw [List.map_replicate]; exact hD1), ?_⟩
    rw [List.all_replicate, show (if m = 0 then true else id true) = true by split <;> rfl]
    exact k _

abbrev DA (at_ : PySem.W.Frag → Addr) (name qual : Str) (st : Stmt) (dfl : List He.Dv) : He5.DefA := ⟨at_, name, qual, defArgs st, defBody st, defScope st, dfl, []⟩
def dd_is_integer : He5.DefA := DA (fun K => He.ga K "is_integer") "is_integer" "is_integer" s_is_integer []
def dd_is_number : He5.DefA := DA (fun K => He.ga K "is_number") "is_number" "is_number" s_is_number []
def dd_want_number : He5.DefA := DA (fun K => He.ga K "want_number") "want_number" "want_number" s_want_number []
def dd_as_ratio : He5.DefA := DA (fun K => He.ga K "as_ratio") "as_ratio" "as_ratio" s_as_ratio []
def dd_common_divisor : He5.DefA := DA (fun K => He.ga K "common_divisor") "common_divisor" "common_divisor" s_common_divisor []
def dd_Ratio_init : He5.DefA := DA (fun K => He.ma K (He.ga K "Ratio") "__init__") "__init__" "Ratio.__init__" s_Ratio_init [.int 1]
def dd_Ratio_total : He5.DefA := DA (fun K => He5.wf K (He.ga K "Ratio") "classmethod" "total") "total" "Ratio.total" s_Ratio_total []
def dd_Ratio_top : He5.DefA := DA (fun K => He5.wf K (He.ga K "Ratio") "property" "top") "top" "Ratio.top" s_Ratio_top []
def dd_Ratio_bottom : He5.DefA := DA (fun K => He5.wf K (He.ga K "Ratio") "property" "bottom") "bottom" "Ratio.bottom" s_Ratio_bottom []
def dd_Ratio_sign : He5.DefA := DA (fun K => He5.wf K (He.ga K "Ratio") "property" "sign") "sign" "Ratio.sign" s_Ratio_sign []
def dd_Ratio_over : He5.DefA := DA (fun K => He.ma K (He.ga K "Ratio") "over") "over" "Ratio.over" s_Ratio_over []
def dd_Ratio_add : He5.DefA := DA (fun K => He.ma K (He.ga K "Ratio") "__add__") "__add__" "Ratio.__add__" s_Ratio_add []
def dd_Ratio_radd : He5.DefA := DA (fun K => He.ma K (He.ga K "Ratio") "__radd__") "__radd__" "Ratio.__radd__" s_Ratio_radd []
def dd_Ratio_sub : He5.DefA := DA (fun K => He.ma K (He.ga K "Ratio") "__sub__") "__sub__" "Ratio.__sub__" s_Ratio_sub []
def dd_Ratio_rsub : He5.DefA := DA (fun K => He.ma K (He.ga K "Ratio") "__rsub__") "__rsub__" "Ratio.__rsub__" s_Ratio_rsub []
def dd_Ratio_mul : He5.DefA := DA (fun K => He.ma K (He.ga K "Ratio") "__mul__") "__mul__" "Ratio.__mul__" s_Ratio_mul []
def dd_Ratio_rmul : He5.DefA := DA (fun K => He.ma K (He.ga K "Ratio") "__rmul__") "__rmul__" "Ratio.__rmul__" s_Ratio_rmul []
def dd_Ratio_neg : He5.DefA := DA (fun K => He.ma K (He.ga K "Ratio") "__neg__") "__neg__" "Ratio.__neg__" s_Ratio_neg []
def dd_Ratio_str : He5.DefA := DA (fun K => He.ma K (He.ga K "Ratio") "__str__") "__str__" "Ratio.__str__" s_Ratio_str []
def dd_Ratio_repr : He5.DefA := DA (fun K => He.ma K (He.ga K "Ratio") "__repr__") "__repr__" "Ratio.__repr__" s_Ratio_repr []
def dd_law_pot : He5.DefA := DA (fun K => He.ga K "_law_pot") "_law_pot" "_law_pot" s_law_pot []
def dd_law_draw : He5.DefA := DA (fun K => He.ga K "_law_draw") "_law_draw" "_law_draw" s_law_draw []
def dd_law_pick : He5.DefA := DA (fun K => He.ga K "_law_pick") "_law_pick" "_law_pick" s_law_pick []
def dd_law_common : He5.DefA := DA (fun K => He.ga K "_law_common") "_law_common" "_law_common" s_law_common []
def dd_law_low : He5.DefA := DA (fun K => He.ga K "_law_low") "_law_low" "_law_low" s_law_low []
def dd_law_plus : He5.DefA := DA (fun K => He.ga K "_law_plus") "_law_plus" "_law_plus" s_law_plus []
def dd_law_minus : He5.DefA := DA (fun K => He.ga K "_law_minus") "_law_minus" "_law_minus" s_law_minus []
def dd_law_times : He5.DefA := DA (fun K => He.ga K "_law_times") "_law_times" "_law_times" s_law_times []
def dd_law_integer : He5.DefA := DA (fun K => He.ga K "_law_integer") "_law_integer" "_law_integer" s_law_integer []
def dd_law_parts : He5.DefA := DA (fun K => He.ga K "_law_parts") "_law_parts" "_law_parts" s_law_parts []
def dd_law_is : He5.DefA := DA (fun K => He.ga K "_law_is") "_law_is" "_law_is" s_law_is []
def dd_law_of_two : He5.DefA := DA (fun K => He.ga K "_law_of_two") "_law_of_two" "_law_of_two" s_law_of_two []
def dd_law_of_integer : He5.DefA := DA (fun K => He.ga K "_law_of_integer") "_law_of_integer" "_law_of_integer" s_law_of_integer []
def dd_law_total : He5.DefA := DA (fun K => He.ga K "_law_total") "_law_total" "_law_total" s_law_total []
def dd_law_of_some : He5.DefA := DA (fun K => He.ga K "_law_of_some") "_law_of_some" "_law_of_some" s_law_of_some []
def dd_law_deed : He5.DefA := DA (fun K => He.ga K "_law_deed") "_law_deed" "_law_deed" s_law_deed []
def dd_law_right : He5.DefA := DA (fun K => He.ga K "_law_right") "_law_right" "_law_right" s_law_right []
def dd_law : He5.DefA := DA (fun K => He.ga K "law") "law" "law" s_law []
def fns : List He5.DefA := [dd_is_integer, dd_is_number, dd_want_number, dd_as_ratio, dd_common_divisor, dd_Ratio_init, dd_Ratio_total, dd_Ratio_top, dd_Ratio_bottom, dd_Ratio_sign, dd_Ratio_over, dd_Ratio_add, dd_Ratio_radd, dd_Ratio_sub, dd_Ratio_rsub, dd_Ratio_mul, dd_Ratio_rmul, dd_Ratio_neg, dd_Ratio_str, dd_Ratio_repr, dd_law_pot, dd_law_draw, dd_law_pick, dd_law_common, dd_law_low, dd_law_plus, dd_law_minus, dd_law_times, dd_law_integer, dd_law_parts, dd_law_is, dd_law_of_two, dd_law_of_integer, dd_law_total, dd_law_of_some, dd_law_deed, dd_law_right, dd_law]
def exs0 : List (PySem.W.Frag → Bool) := [(He.Fa.free "isinstance").ok, (He.Fa.free "int").ok, (He.Fa.free "bool").ok, (He.Fa.free "abs").ok, (He.Fa.free "str").ok, (He.Fa.free "len").ok, (He.Fa.free "max").ok, (He.Fa.free "min").ok, (He.Fa.free "range").ok, (He.Fa.free "divmod").ok, (He.Fa.free "repr").ok, (He.Fa.free "all").ok, (He.Fa.free "zip").ok, (He.Fa.glo "Ratio").ok, (He.Fa.cls "Ratio").ok, (He.Fa.mkr "Ratio").ok, (He.Fa.noat "Ratio" "own_top").ok, (He.Fa.noat "Ratio" "own_bottom").ok, (fun K => decide (PySem.W.findIn K (.ref (He.ga K "Ratio")) "__class__" = some (some (.builtin "object.__class__")))), (fun K => decide (PySem.W.mroIn K (He.ga K "Ratio") (.type "object") = some true)), (fun K => decide (PySem.W.kitOne K (.ref (He.ga K "Ratio")) (.ref (He.ga K "Ratio")) = some true)), (fun K => decide (PySem.W.kitOne K (.ref (He.ga K "Ratio")) (.type "int") = some false)), (fun K => decide (PySem.W.kitOne K (.ref (He.ga K "Ratio")) (.type "bool") = some false)), (fun K => decide (PySem.W.kitOne K (.ref (He.ga K "Ratio")) (.type "str") = some false)), (fun K => decide (PySem.W.kitOne K (.ref (He.ga K "Ratio")) (.type "list") = some false)), (fun K => decide (PySem.W.kitOne K (.ref (He.ga K "Ratio")) (.type "tuple") = some false)), (fun K => decide (PySem.W.kitOne K (.ref (He.ga K "Ratio")) (.type "dict") = some false)), (fun K => decide (PySem.W.kitOne K (.type "int") (.ref (He.ga K "Ratio")) = some false)), (fun K => decide (PySem.W.kitOne K (.type "bool") (.ref (He.ga K "Ratio")) = some false)), (fun K => decide (PySem.W.kitOne K (.type "str") (.ref (He.ga K "Ratio")) = some false))]
def exs1 : List (PySem.W.Frag → Bool) := [(fun K => decide (PySem.W.kitOne K (.type "list") (.ref (He.ga K "Ratio")) = some false)), (fun K => decide (PySem.W.kitOne K (.type "tuple") (.ref (He.ga K "Ratio")) = some false)), (fun K => decide (PySem.W.kitOne K (.type "dict") (.ref (He.ga K "Ratio")) = some false)), (fun K => decide (PySem.W.kitOne K (.type "NoneType") (.ref (He.ga K "Ratio")) = some false)), (fun K => PySem.W.readsIn K (He.ga K "Ratio") (.type "type")), (fun K => decide (PySem.W.specialIn K (.ref (He.ga K "Ratio")) "__getattribute__" = some (some (.builtin "type.__getattribute__")))), (fun K => decide (PySem.W.specialIn K (.builtin "object.__class__") "__get__" = some (some (.builtin "getset_descriptor.__get__")))), (fun K => decide (PySem.W.takesIn K (.builtin "object.__class__") = some true)), (He.Fa.glo "is_integer").ok, (He.Fa.keep "is_integer").ok, (He.Fa.glo "is_number").ok, (He.Fa.keep "is_number").ok, (He.Fa.glo "want_number").ok, (He.Fa.keep "want_number").ok, (He.Fa.glo "as_ratio").ok, (He.Fa.keep "as_ratio").ok, (He.Fa.glo "common_divisor").ok, (He.Fa.keep "common_divisor").ok, (He.Fa.meth "Ratio" "__init__").ok, (fun K => He5.wrapB K (He.ga K "Ratio") "classmethod" "classmethod.__get__" "total"), (fun K => PySem.W.fnIn K (He5.wf K (He.ga K "Ratio") "classmethod" "total")), (fun K => Z.propB K (He.ga K "Ratio") "top"), (fun K => Z.propB K (He.ga K "Ratio") "bottom"), (fun K => Z.propB K (He.ga K "Ratio") "sign"), (He.Fa.meth "Ratio" "over").ok, (He.Fa.meth "Ratio" "__add__").ok, (fun K => PySem.W.selfFirst K (He.ga K "Ratio")), (He.Fa.meth "Ratio" "__radd__").ok, (fun K => decide (PySem.W.subIn K (.ref (He.ga K "Ratio")) (.type "int") = some false)), (He.Fa.meth "Ratio" "__sub__").ok]
def exs2 : List (PySem.W.Frag → Bool) := [(He.Fa.meth "Ratio" "__rsub__").ok, (He.Fa.meth "Ratio" "__mul__").ok, (He.Fa.meth "Ratio" "__rmul__").ok, (He.Fa.meth "Ratio" "__neg__").ok, (He.Fa.meth "Ratio" "__str__").ok, (He.Fa.meth "Ratio" "__repr__").ok, (He.Fa.glo "_law_pot").ok, (He.Fa.keep "_law_pot").ok, (He.Fa.glo "_law_draw").ok, (He.Fa.keep "_law_draw").ok, (He.Fa.glo "_law_pick").ok, (He.Fa.keep "_law_pick").ok, (He.Fa.glo "_law_common").ok, (He.Fa.keep "_law_common").ok, (He.Fa.glo "_law_low").ok, (He.Fa.keep "_law_low").ok, (He.Fa.glo "_law_plus").ok, (He.Fa.keep "_law_plus").ok, (He.Fa.glo "_law_minus").ok, (He.Fa.keep "_law_minus").ok, (He.Fa.glo "_law_times").ok, (He.Fa.keep "_law_times").ok, (He.Fa.glo "_law_integer").ok, (He.Fa.keep "_law_integer").ok, (He.Fa.glo "_law_parts").ok, (He.Fa.keep "_law_parts").ok, (He.Fa.glo "_law_is").ok, (He.Fa.keep "_law_is").ok, (He.Fa.glo "_law_of_two").ok, (He.Fa.keep "_law_of_two").ok]
def exs3 : List (PySem.W.Frag → Bool) := [(He.Fa.glo "_law_of_integer").ok, (He.Fa.keep "_law_of_integer").ok, (He.Fa.glo "_law_total").ok, (He.Fa.keep "_law_total").ok, (He.Fa.glo "_law_of_some").ok, (He.Fa.keep "_law_of_some").ok, (He.Fa.glo "_law_deed").ok, (He.Fa.keep "_law_deed").ok, (He.Fa.glo "_law_right").ok, (He.Fa.keep "_law_right").ok, (He.Fa.glo "law").ok, (He.Fa.keep "law").ok]
def exs : List (PySem.W.Frag → Bool) := exs0 ++ exs1 ++ exs2 ++ exs3
abbrev RR : PySem.W.OpenRow := PySem.W.OpenLaw.row PySem.Challenge.rw_anypoints_k11_whole_ratios_by_rows_of_de
abbrev hk : PySem.W.Hook := Z.hookZ 6 exs fns
def ob (s : PySem.W.SharedT) : He.AlD := Z.obsZG 6 exs fns (HandSHeadRun.getT s)
theorem ob_eq (s : PySem.W.SharedT) : ob s = hk.obs s.abs := Z.obsZG_eq (HandSHeadRun.getT_eq s)
def names0 : List Str := ["_wall", "PointsError", "InvalidNumber", "StateError", "DividedByZero", "is_integer", "is_number", "want_number", "as_ratio", "common_divisor", "Ratio", "_law_pot", "_law_draw", "_law_pick", "_law_common", "_law_low", "_law_plus", "_law_minus", "_law_times", "_law_integer", "_law_parts", "_law_is", "_law_of_two", "_law_of_integer", "_law_total", "_law_of_some", "_law_deed", "_law_right"]
def names : List Str := names0
theorem run (w : World) : HandSHeadRun.RunEq RR (PySem.W.view RR.prog [31]) hk ob 6000 names w := by
  intro os
  kernel_rfl
theorem txt_of {K : PySem.W.Frag} {h : Heap} {mg : Str → Option Value} (X : K.In h) (G : h.Ns mainGlobals mg) (c : Z.SaysZ exs fns K) : Txt K mg where
  f_isinstance := He.free_ok X G (c.fact 0)
  f_int := He.free_ok X G (c.fact 1)
  f_bool := He.free_ok X G (c.fact 2)
  f_abs := He.free_ok X G (c.fact 3)
  f_str := He.free_ok X G (c.fact 4)
  f_len := He.free_ok X G (c.fact 5)
  f_max := He.free_ok X G (c.fact 6)
  f_min := He.free_ok X G (c.fact 7)
  f_range := He.free_ok X G (c.fact 8)
  f_divmod := He.free_ok X G (c.fact 9)
  f_repr := He.free_ok X G (c.fact 10)
  f_all := He.free_ok X G (c.fact 11)
  f_zip := He.free_ok X G (c.fact 12)
  g_Ratio := He.glo_ok X G (c.fact 13)
  cl_Ratio := He.cls_ok (c.fact 14)
  mk_Ratio := He.mkr_ok (c.fact 15)
  n_Ratio_own_top := He.noat_ok (c.fact 16)
  n_Ratio_own_bottom := He.noat_ok (c.fact 17)
  ca_Ratio := of_decide_eq_true (c.fact 18)
  cm_Ratio := of_decide_eq_true (c.fact 19)
  ki_Ratio_Ratio := of_decide_eq_true (c.fact 20)
  kt_Ratio_int := of_decide_eq_true (c.fact 21)
  kt_Ratio_bool := of_decide_eq_true (c.fact 22)
  kt_Ratio_str := of_decide_eq_true (c.fact 23)
  kt_Ratio_list := of_decide_eq_true (c.fact 24)
  kt_Ratio_tuple := of_decide_eq_true (c.fact 25)
  kt_Ratio_dict := of_decide_eq_true (c.fact 26)
  kb_int_Ratio := of_decide_eq_true (c.fact 27)
  kb_bool_Ratio := of_decide_eq_true (c.fact 28)
  kb_str_Ratio := of_decide_eq_true (c.fact 29)
  kb_list_Ratio := of_decide_eq_true (c.fact 30)
  kb_tuple_Ratio := of_decide_eq_true (c.fact 31)
  kb_dict_Ratio := of_decide_eq_true (c.fact 32)
  kb_NoneType_Ratio := of_decide_eq_true (c.fact 33)
  cr_Ratio := ⟨c.fact 34, of_decide_eq_true (c.fact 35)⟩
  oc := of_decide_eq_true (c.fact 36)
  ot := of_decide_eq_true (c.fact 37)
  d_is_integer := c.def_ 0 (d := dd_is_integer) rfl
  g_is_integer := He.glo_ok X G (c.fact 38)
  k_is_integer := He.keep_ok (c.fact 39)
  d_is_number := c.def_ 1 (d := dd_is_number) rfl
  g_is_number := He.glo_ok X G (c.fact 40)
  k_is_number := He.keep_ok (c.fact 41)
  d_want_number := c.def_ 2 (d := dd_want_number) rfl
  g_want_number := He.glo_ok X G (c.fact 42)
  k_want_number := He.keep_ok (c.fact 43)
  d_as_ratio := c.def_ 3 (d := dd_as_ratio) rfl
  g_as_ratio := He.glo_ok X G (c.fact 44)
  k_as_ratio := He.keep_ok (c.fact 45)
  d_common_divisor := c.def_ 4 (d := dd_common_divisor) rfl
  g_common_divisor := He.glo_ok X G (c.fact 46)
  k_common_divisor := He.keep_ok (c.fact 47)
  d_Ratio_init := c.def_ 5 (d := dd_Ratio_init) rfl
  m_Ratio_init := He.meth_ok (c.fact 48)
  d_Ratio_total := c.def_ 6 (d := dd_Ratio_total) rfl
  cm_Ratio_total := He5.cmet_of (c.fact 49) (c.fact 50)
  d_Ratio_top := c.def_ 7 (d := dd_Ratio_top) rfl
  p_Ratio_top := Z.prop_ok (c.fact 51)
  d_Ratio_bottom := c.def_ 8 (d := dd_Ratio_bottom) rfl
  p_Ratio_bottom := Z.prop_ok (c.fact 52)
  d_Ratio_sign := c.def_ 9 (d := dd_Ratio_sign) rfl
  p_Ratio_sign := Z.prop_ok (c.fact 53)
  d_Ratio_over := c.def_ 10 (d := dd_Ratio_over) rfl
  m_Ratio_over := He.meth_ok (c.fact 54)
  d_Ratio_add := c.def_ 11 (d := dd_Ratio_add) rfl
  m_Ratio_add := He.meth_ok (c.fact 55)
  o_Ratio_add := ⟨c.fact 56, (He.meth_ok (c.fact 55)).at_, (He.meth_ok (c.fact 55)).fn, ⟨_, (He.meth_ok (c.fact 57)).at_, .inr ⟨_, rfl⟩⟩⟩
  d_Ratio_radd := c.def_ 12 (d := dd_Ratio_radd) rfl
  m_Ratio_radd := He.meth_ok (c.fact 57)
  o_Ratio_radd := ⟨c.fact 56, ⟨_, (He.meth_ok (c.fact 55)).at_⟩, (He.meth_ok (c.fact 57)).at_, (He.meth_ok (c.fact 57)).fn, of_decide_eq_true (c.fact 58)⟩
  d_Ratio_sub := c.def_ 13 (d := dd_Ratio_sub) rfl
  m_Ratio_sub := He.meth_ok (c.fact 59)
  o_Ratio_sub := ⟨c.fact 56, (He.meth_ok (c.fact 59)).at_, (He.meth_ok (c.fact 59)).fn, ⟨_, (He.meth_ok (c.fact 60)).at_, .inr ⟨_, rfl⟩⟩⟩
  d_Ratio_rsub := c.def_ 14 (d := dd_Ratio_rsub) rfl
  m_Ratio_rsub := He.meth_ok (c.fact 60)
  o_Ratio_rsub := ⟨c.fact 56, ⟨_, (He.meth_ok (c.fact 59)).at_⟩, (He.meth_ok (c.fact 60)).at_, (He.meth_ok (c.fact 60)).fn, of_decide_eq_true (c.fact 58)⟩
  d_Ratio_mul := c.def_ 15 (d := dd_Ratio_mul) rfl
  m_Ratio_mul := He.meth_ok (c.fact 61)
  o_Ratio_mul := ⟨c.fact 56, (He.meth_ok (c.fact 61)).at_, (He.meth_ok (c.fact 61)).fn, ⟨_, (He.meth_ok (c.fact 62)).at_, .inr ⟨_, rfl⟩⟩⟩
  d_Ratio_rmul := c.def_ 16 (d := dd_Ratio_rmul) rfl
  m_Ratio_rmul := He.meth_ok (c.fact 62)
  o_Ratio_rmul := ⟨c.fact 56, ⟨_, (He.meth_ok (c.fact 61)).at_⟩, (He.meth_ok (c.fact 62)).at_, (He.meth_ok (c.fact 62)).fn, of_decide_eq_true (c.fact 58)⟩
  d_Ratio_neg := c.def_ 17 (d := dd_Ratio_neg) rfl
  m_Ratio_neg := He.meth_ok (c.fact 63)
  a_Ratio_neg := (He.meth_ok (c.fact 63)).at_
  i_Ratio_neg := (He.meth_ok (c.fact 63)).fn
  d_Ratio_str := c.def_ 18 (d := dd_Ratio_str) rfl
  m_Ratio_str := He.meth_ok (c.fact 64)
  a_Ratio_str := (He.meth_ok (c.fact 64)).at_
  i_Ratio_str := (He.meth_ok (c.fact 64)).fn
  d_Ratio_repr := c.def_ 19 (d := dd_Ratio_repr) rfl
  m_Ratio_repr := He.meth_ok (c.fact 65)
  a_Ratio_repr := (He.meth_ok (c.fact 65)).at_
  i_Ratio_repr := (He.meth_ok (c.fact 65)).fn
  d_law_pot := c.def_ 20 (d := dd_law_pot) rfl
  g_law_pot := He.glo_ok X G (c.fact 66)
  k_law_pot := He.keep_ok (c.fact 67)
  d_law_draw := c.def_ 21 (d := dd_law_draw) rfl
  g_law_draw := He.glo_ok X G (c.fact 68)
  k_law_draw := He.keep_ok (c.fact 69)
  d_law_pick := c.def_ 22 (d := dd_law_pick) rfl
  g_law_pick := He.glo_ok X G (c.fact 70)
  k_law_pick := He.keep_ok (c.fact 71)
  d_law_common := c.def_ 23 (d := dd_law_common) rfl
  g_law_common := He.glo_ok X G (c.fact 72)
  k_law_common := He.keep_ok (c.fact 73)
  d_law_low := c.def_ 24 (d := dd_law_low) rfl
  g_law_low := He.glo_ok X G (c.fact 74)
  k_law_low := He.keep_ok (c.fact 75)
  d_law_plus := c.def_ 25 (d := dd_law_plus) rfl
  g_law_plus := He.glo_ok X G (c.fact 76)
  k_law_plus := He.keep_ok (c.fact 77)
  d_law_minus := c.def_ 26 (d := dd_law_minus) rfl
  g_law_minus := He.glo_ok X G (c.fact 78)
  k_law_minus := He.keep_ok (c.fact 79)
  d_law_times := c.def_ 27 (d := dd_law_times) rfl
  g_law_times := He.glo_ok X G (c.fact 80)
  k_law_times := He.keep_ok (c.fact 81)
  d_law_integer := c.def_ 28 (d := dd_law_integer) rfl
  g_law_integer := He.glo_ok X G (c.fact 82)
  k_law_integer := He.keep_ok (c.fact 83)
  d_law_parts := c.def_ 29 (d := dd_law_parts) rfl
  g_law_parts := He.glo_ok X G (c.fact 84)
  k_law_parts := He.keep_ok (c.fact 85)
  d_law_is := c.def_ 30 (d := dd_law_is) rfl
  g_law_is := He.glo_ok X G (c.fact 86)
  k_law_is := He.keep_ok (c.fact 87)
  d_law_of_two := c.def_ 31 (d := dd_law_of_two) rfl
  g_law_of_two := He.glo_ok X G (c.fact 88)
  k_law_of_two := He.keep_ok (c.fact 89)
  d_law_of_integer := c.def_ 32 (d := dd_law_of_integer) rfl
  g_law_of_integer := He.glo_ok X G (c.fact 90)
  k_law_of_integer := He.keep_ok (c.fact 91)
  d_law_total := c.def_ 33 (d := dd_law_total) rfl
  g_law_total := He.glo_ok X G (c.fact 92)
  k_law_total := He.keep_ok (c.fact 93)
  d_law_of_some := c.def_ 34 (d := dd_law_of_some) rfl
  g_law_of_some := He.glo_ok X G (c.fact 94)
  k_law_of_some := He.keep_ok (c.fact 95)
  d_law_deed := c.def_ 35 (d := dd_law_deed) rfl
  g_law_deed := He.glo_ok X G (c.fact 96)
  k_law_deed := He.keep_ok (c.fact 97)
  d_law_right := c.def_ 36 (d := dd_law_right) rfl
  g_law_right := He.glo_ok X G (c.fact 98)
  k_law_right := He.keep_ok (c.fact 99)
  d_law := c.def_ 37 (d := dd_law) rfl
  g_law := He.glo_ok X G (c.fact 100)
  k_law := He.keep_ok (c.fact 101)
theorem law_ok {P : Program} {w : World} {K : PySem.W.Frag} {h : Heap} {mg : Str → Option Value} {f : Addr} (X : K.In h) (G : h.Ns mainGlobals mg) (hfa : mg ("law" : Str) = some (.ref f)) (c : Z.SaysZ exs fns K) :
    ∀ base : Heap, K.In base → base.Ns mainGlobals mg → Z.FnG P w K mg base 11 f (spLaw K) := by
  have T := txt_of X G c
  have e := hfa.symm.trans T.g_law
  cases e
  exact fun base _ _ => ok_law T
end A57
open PySem PySem.W PySem.Calls PyProof.Rows
theorem PySem.Challenge.cw_anypoints_k11_whole_ratios_by_rows_of_de_holds : PySem.Challenge.rw_anypoints_k11_whole_ratios_by_rows_of_de.Holds := by
  w_on; o_law
  refine HandSHeadRun.head_any (r := A57.RR) (q := view A57.RR.prog [31]) (H := A57.hk) (ob := A57.ob) (M := 6000) (loose := A57.names) (d := HandSHeadRun.topDef A57.RR.prog 31) (kwd := []) A57.ob_eq
    (by kernel_rfl) (fun s => by kernel_rfl) A57.run (by kernel_rfl) (by kernel_rfl) (by kernel_rfl) (by rfl) (by first | assumption | decide +kernel) (by decide +kernel) ⟨rfl, rfl, rfl, rfl, rfl, by decide +kernel⟩ ?hw ?hc
  case hw => w_witness2
  case hc =>
    refine Z.walk_g (l := PySem.Challenge.rw_anypoints_k11_whole_ratios_by_rows_of_de) (n := 63) (k := 11) rfl (by decide) (by kernel_rfl) ⟨rfl, by decide, by decide⟩ ?F
    intro w mg fa h Y G hmg0
    obtain ⟨K, KX, c⟩ := Y
    have hmg : mg ("law" : PySem.Str) = some (.ref fa) := by
      have e : (HandSHeadRun.topDef A57.RR.prog 31).name = ("law" : PySem.Str) := by kernel_rfl
      rw [← e]
      exact hmg0
    exact ⟨K, A57.spLaw K, KX, fun H a ns hl hS => ⟨a, ns, rfl, hS, Nat.le_trans hl (by decide), fun _ => rfl⟩, A57.law_ok (P := (PySem.Challenge.rw_anypoints_k11_whole_ratios_by_rows_of_de).prog) (w := w) KX G hmg c⟩


