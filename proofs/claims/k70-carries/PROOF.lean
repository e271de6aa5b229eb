import PyProof.Rows.All
import Wide.All
import OpenK.AllK
import Wide.FinOn
import KE.KExcIs
import HandS.ForMost
import HandS.Exc
import HandS.ExcOwn
import HandS.ExcField
import HandS.IsInst
import KE.GoesMore
import KE.GoesEnum
import HandS.DictComp
import HandS.Walk
import HandS.HotCalls
import HandS.ExcInit
import HandS.Property
import HandS.Wide
import HandS.More
import HandS.SetKeys
import HandS.ExcIs
import HandS.WordsExc
import HandS.Sort
import HandS.SortRule
import PySem.Challenge.RW_colonnade_k70_carries_added
set_option Elab.async false
set_option linter.all false
set_option maxRecDepth 100000
set_option maxHeartbeats 4000000
namespace L2.Ex
open PySem PySem.Spec PyProof.Rows

/-! ## o[i] of a list, read for an augmented store -/
section
variable {X : Cx}
theorem get_list : PGet X (rIxL X.K) := by
  intro pins s σ H o i ov iv Q I ro ri h
  obtain ⟨p, xs, z, v, rfl, rfl, hq, he, q⟩ := h
  cases ro
  obtain ⟨t, rfl⟩ := ri
  obtain ⟨its, r, pl, hz⟩ := I.list hq
  obtain ⟨j, h1, h2, h3, h4, h5⟩ := atI_get he
  obtain ⟨w, ew, rw'⟩ := r.get h2
  have fin : EP X pins σ Q w s := ⟨v, H, I, rw', q⟩
  have hl := r.length
  have hn := line63
  by_cases h0 : 0 ≤ z
  · have hj : z.toNat = j := Option.some.inj ((seqIndex_of h0 h5).symm.trans h1)
    exact wpAny_getItem_list pl.isList h0 (by omega) (by rw [hj]; simpa using ew) fin
  · have hj : (z + (its.toArray.size : Int)).toNat = j := by
      have e := (seqIndex_neg (by omega) h4).symm.trans h1
      rw [List.size_toArray, ← hl]
      exact Option.some.inj e
    exact wpAny_getItem_list_neg pl.isList (by omega) (by rw [List.size_toArray] <;> omega) (by omega) (by rw [hj]; simpa using ew) fin
end

/-! ## a property of an own class, stored -/
/-- the class has the name as a property at p whose setter is the def at g -/
structure SetOf (K : PySem.W.Frag) (C : Addr) (f : Str) (p g : Addr) : Prop where
  tk : PySem.W.takerIn K C f = some (some (.ref p))
  ty : PySem.W.typeIn K (.ref p) = some (.type "property")
  rc : ∃ a rest, PySem.W.recIn K p "property" = some (a :: .ref g :: rest)
section
variable {X : Cx} {CX : CXT} {k : Nat} {C p g a dx : Addr} {fs : List (Str × V)} {f : Str} {fd : FuncData} {ps : List Str} {sp : Sp} {E : XK}
theorem setprop_ok {pins : List (Addr × Obj)} {σ : St} {H : Hp} {s : Shared} {y : V} {u : Value} {R : Hp → Prop} (I : Inv X pins σ H s) (ea : H a = some (.ins C dx fs)) (c : Cls X.K C) (hp : SetOf X.K C f p g)
    (F : FnOk X.prog X.w X.K X.mg X.base CX k g fd ps sp) (hr : Room (k + 2) X.A) (hb : Binds X.K fd ps []) (hx : Passes CX X E) (ry : RelV y u) (h : sp [.ref a, y] H (fun _ H' => R H') E) :
    wpAny (model X.prog X.w) X.A (setAttr (.ref a) f u) (fun _ s' => ∃ H', Inv X pins σ H' s' ∧ R H') X.xe s := by
  obtain ⟨mA, O, _, _, _, _⟩ := ins_get I.hok ea
  obtain ⟨od, J, _⟩ := O.look
  obtain ⟨a0, rest, hrec⟩ := hp.rc
  have I1 := I.tok (s.toks + 1)
  have r2 : Vals [V.ref a, y] [Value.ref a, u] := .cons rfl (.cons ry .nil)
  have hl : ([Value.ref a, u] ++ []).length = ps.length := by
    rw [← F.len _ _ _ _ h]
    rfl
  refine PySem.W.set_plain I.kIn J c.sa (PySem.W.osa_descr (s := { s with toks := s.toks + 1 }) PySem.W.KF.slot_pset I1.kIn J c.po hp.tk hp.ty (PySem.W.prop_set (s := { s with toks := s.toks + 1 }) I1.kIn hrec ?_))
  refine codeAny_mono (F.run X.A.in1.in1 X.stack { s with toks := s.toks + 1 } H ⟨[.ref a, u], []⟩ [.ref a, u] [.ref a, y] _ E hr.in1.in1 I1.env0.in1.in1 (hb _ [.ref a, u] I1.kIn hl) r2 h) fun r s' hq => ?_
  cases r with
  | error er => exact hx pins σ H { s with toks := s.toks + 1 } er s' I1 hq
  | ok fl =>
    cases fl with
    | ret u' =>
      obtain ⟨v, H', I3, rv, q3⟩ := I1.after hq
      exact ⟨H', I3, q3⟩
    | next => exact False.elim hq
    | brk => exact False.elim hq
    | cont => exact False.elim hq
/-- e.f = value, f a property with a setter -/
def tPset (C : Addr) (sp : Sp) (E : XK) (ta tv : TE) : TS := fun D σ H => tv σ H fun y H1 => ta σ H1 fun x H2 => ∃ a dx fs, x = .ref a ∧ H2 a = some (.ins C dx fs) ∧ sp [.ref a, y] H2 (fun _ H' => D.nx σ H') E
theorem ps_pset {o value : Expr} {pos pos' : Pos} {ta tv : TE} (ha : PE X o ta) (hv : PE X value tv) (c : Cls X.K C) (hp : SetOf X.K C f p g) (F : FnOk X.prog X.w X.K X.mg X.base CX k g fd ps sp) (hr : Room (k + 2) X.A) (hb : Binds X.K fd ps []) (hx : Passes CX X E)
    (hs : swapsWith value (some (.Attribute o f pos')) pos.line X.env = pure false) : PS X (.Assign [.Attribute o f pos'] value pos) (tPset C sp E ta tv) := by
  refine ⟨fun pins s σ H D I h => ?_⟩
  refine plainObj_wpAny_Assign_Attribute (thn (hv.run pins s σ H _ I h) fun u s1 ⟨y, H1, I1, ry, q⟩ => thn (ha.run pins s1 σ H1 _ I1 q) fun ov s2 ⟨x, H2, I2, rx, a, dx, fs, ex, ea, q2⟩ => ?_) hs
  subst ex
  obtain rfl : ov = Value.ref a := rx
  exact wpAny_mono (setprop_ok I2 ea c hp F hr hb hx ry q2) (fun _ s3 ⟨H3, I3, q3⟩ => ⟨σ, H3, I3, q3⟩) fun _ _ z => z
end

/-! ## isinstance of a caught exception that has a dict of its own -/
/-- what the class of the exception must say -/
structure ExC (K : PySem.W.Frag) (D : Addr) : Prop where
  cl : (PySem.W.clsIn K D).isSome = true
  hg : PySem.W.findIn K (.ref D) "__getattribute__" = some (some (.builtin "BaseException.__getattribute__"))
  hk : PySem.W.findIn K (.ref D) "__getattr__" = some none
  hs : PySem.W.subIn K (.ref D) (.type "BaseException") = some true
  ha : PySem.W.findIn K (.ref D) "__class__" = some (some (.builtin "object.__class__"))
  hn : PySem.W.specialIn K (.builtin "object.__class__") "__get__" = some (some (.builtin "getset_descriptor.__get__"))
  ht : PySem.W.takesIn K (.builtin "object.__class__") = some true
  hm : PySem.W.mroIn K D (.type "object") = some true
def rIsX (K : PySem.W.Frag) (D a : Addr) (cls : Value) (d : Option Addr) : List V → Hp → VK → Prop := fun xs H Q => ∃ (c : V) (cv : Value) (b : Bool) (dd : Addr) (fs : List (Str × V)), xs = [.ref a, c] ∧ cls = .ref D ∧ ClsV c cv ∧ d = some dd ∧ H dd = some (.xd fs) ∧ PySem.W.kitOne K (.ref D) cv = some b ∧ Q (.bl b) H
def rIsXT (K : PySem.W.Frag) (D a : Addr) (cls : Value) (d : Option Addr) : List V → Hp → VK → Prop := fun xs H Q => ∃ (tp : Addr) (cs : List V) (us : List Value) (b : Bool) (dd : Addr) (fs : List (Str × V)), xs = [.ref a, .ref tp] ∧ cls = .ref D ∧ H tp = some (.tup cs) ∧ Paired ClsV cs us ∧ d = some dd ∧ H dd = some (.xd fs) ∧ PySem.W.kitAny K (.ref D) us = some b ∧ Q (.bl b) H
section
variable {X : Cx} {a D : Addr} {oe : Obj} {cls : Value} {d : Option Addr} {pn : List (Addr × Obj)}
theorem exc_inst {pins : List (Addr × Obj)} {σ : St} {H : Hp} {s : Shared} {dd : Addr} {fs : List (Str × V)} (hz : Zc (.ref D) (some dd) oe) (hf : ∃ vs, oe.data = .fields vs) (I : Inv (X.suite a ((a, oe) :: pn)) pins σ H s) (ed : H dd = some (.xd fs)) :
    ∃ od, PySem.W.InstAt s.heap a oe D (some od) := by
  obtain ⟨hget, _⟩ := I.pin (a, oe) (List.mem_append.mpr (.inl List.mem_cons_self))
  obtain ⟨vs, hv⟩ := hf
  have hx : ObjOk X.prog X.w H s.heap dd (.xd fs) := I.hok dd _ ed
  obtain ⟨mA, hns, hr⟩ := hx
  obtain ⟨od, ho, hl⟩ := lookIn_ns hns
  exact ⟨od, hget, hz.1, by unfold PySem.W.notCls; rw [hv] <;> rfl, by rw [hz.2]; exact ho⟩
theorem call_isX (C : ExC X.K D) (hz : Zc cls d oe) (hf : ∃ vs, oe.data = .fields vs) : CallR (X.suite a ((a, oe) :: pn)) (.builtin "isinstance") (rIsX X.K D a cls d) := by
  intro pins s σ H xs us Q I r h
  obtain ⟨c, cv, b, dd, fs, rfl, rfl, hc, rfl, ed, e, q⟩ := h
  obtain ⟨u1, u2, rfl, r1, r2⟩ := vals2 r
  cases r1
  have e2 := hc.eq r2
  subst e2
  obtain ⟨od, J⟩ := exc_inst hz hf I ed
  exact PySem.W.kia_one (PySem.W.kitx_exc C.cl C.hg C.hk C.hs C.ha C.hn C.ht C.hm) I.kIn J e (fun z => nomatch z) fun tk => ⟨.bl b, H, I.tok tk, rfl, q⟩
theorem call_isXT (C : ExC X.K D) (hz : Zc cls d oe) (hf : ∃ vs, oe.data = .fields vs) : CallR (X.suite a ((a, oe) :: pn)) (.builtin "isinstance") (rIsXT X.K D a cls d) := by
  intro pins s σ H xs us Q I r h
  obtain ⟨tp, cs, us', b, dd, fs, rfl, rfl, htp, hc, rfl, ed, e, q⟩ := h
  obtain ⟨u1, u2, rfl, r1, r2⟩ := vals2 r
  cases r1
  cases r2
  obtain ⟨od, J⟩ := exc_inst hz hf I ed
  obtain ⟨_, its, rv, o, h1, h2, n, h3⟩ := (show ObjOk X.prog X.w H s.heap tp (.tup cs) from I.hok tp _ htp)
  have e3 := ClsV.all hc rv
  subst e3
  obtain ⟨oc, od', oda, osl⟩ := o
  cases (show oc = _ from h2)
  cases (show oda = _ from h3)
  exact PySem.W.kia_tup (PySem.W.kitx_exc C.cl C.hg C.hk C.hs C.ha C.hn C.ht C.hm) I.kIn J h1 e (fun z => nomatch z) fun tk => ⟨.bl b, H, I.tok tk, rfl, q⟩
end

theorem call_isiS {X : Cx} {a : Addr} {pn : List (Addr × Obj)} : CallR (X.suite a pn) (.builtin "isinstance") (rIsi X.K) := call_isi (X := X.suite a pn)
theorem kit_yes {K : PySem.W.Frag} {t : Value} {C : Addr} (h1 : (PySem.W.clsIn K C).isSome = true) (h2 : PySem.W.typeIn K (.ref C) = some (.type "type")) (hs : PySem.W.subIn K t (.ref C) = some true) : PySem.W.kitOne K t (.ref C) = some true := by
  unfold PySem.W.kitOne PySem.W.kitCls
  split
  · rfl
  · show (if ((PySem.W.clsIn K C).isSome && PySem.W.typeIn K (.ref C) == some (.type "type")) = true then PySem.W.subIn K t (.ref C) else none) = some true
    rw [if_pos (by rw [h1, h2]; rfl), hs]
theorem kit_no {K : PySem.W.Frag} {t : Value} {C : Addr} (h1 : (PySem.W.clsIn K C).isSome = true) (h2 : PySem.W.typeIn K (.ref C) = some (.type "type")) (hs : PySem.W.subIn K t (.ref C) = some false)
    (h3 : PySem.W.subIn K (.ref C) (.ref C) = some true) : PySem.W.kitOne K t (.ref C) = some false := by
  unfold PySem.W.kitOne PySem.W.kitCls
  split
  · rename_i h
    rw [beq_iff_eq.mp h, h3] at hs
    cases hs
  · show (if ((PySem.W.clsIn K C).isSome && PySem.W.typeIn K (.ref C) == some (.type "type")) = true then PySem.W.subIn K t (.ref C) else none) = some false
    rw [if_pos (by rw [h1, h2]; rfl), hs]
/-! ## repr of data; defs that ask that no repr runs around them -/
section
variable {X : Cx}
def rRepr (K : PySem.W.Frag) : List V → Hp → VK → Prop := fun xs H Q => ∃ (a : Addr) (d : PyData), xs = [.ref a] ∧ Dp K H (.ref a) d ∧ d.showable = true ∧ d.hasDict = false ∧ d.depth ≤ 16 ∧ d.shown.length ≤ sizeLine ∧ Q (.str d.shown) H
theorem call_repr (hg : X.A.guards = some []) (hu : X.A.units + 64 < cLine) : CallR X (.builtin "repr") (rRepr X.K) := by
  intro pins s σ H xs us Q I r h
  obtain ⟨a, d, rfl, hd, h1, h2, h3, h4, q⟩ := h
  obtain ⟨u, rfl, ru⟩ := vals1 r
  cases ru
  obtain ⟨as, rd⟩ := Dp.reads I d _ _ hd rfl
  exact repr_of_reads' rd h1 (PyData.noDict_hsm h2) hg (by omega) (fun _ _ e => e) (fun h' u tk hk => ⟨.str _, H, I.kept (t' := tk) hk, ⟨_, rfl⟩, q⟩) h4
end
end L2.Ex

namespace L2.Ex
open PySem PySem.Spec PyProof.Rows
/-- as FnOk, where no repr runs around the call -/
structure GnOk (P : Program) (w : World) (K : PySem.W.Frag) (mg : Str → Option Value) (base : Heap) (CX : CXT) (k : Nat) (f : Addr) (fd : FuncData) (ps : List Str) (sp : Sp) : Prop where
  len : ∀ vs H Q E, sp vs H Q E → vs.length = ps.length
  run : ∀ (A : Around) (outer : List Env) (s : Shared) (H : Hp) (args : Args) (us : List Value) (vs : List V) (Q : VK) (E : XK),
    A.guards = some [] → Room k A → Env0 P w K mg base A outer s H → BindsTo s fd args (ps.zip us) → Vals vs us → sp vs H Q E → codeAny (model P w) A (.call (.ref f) args) (CR CX outer P w H s Q E) s
section
variable {X : Cx} {CX : CXT} {k : Nat} {f : Addr} {fd : FuncData} {ps : List Str} {sp : Sp} {dvs : List V} {ds : List Value} {E : XK} {x : Str} {p pos : Pos} {e : Expr} {es : List Expr} {t : TA}
theorem run_gn {pins : List (Addr × Obj)} {σ : St} {H : Hp} {s : Shared} {Q : VK} {us : List Value} {vs : List V} (gd : X.A.guards = some []) (F : GnOk X.prog X.w X.K X.mg X.base CX k f fd ps sp) (hr : Room k X.A)
    (hb : Binds X.K fd ps ds) (hd : Vals dvs ds) (hx : Passes CX X E) (I : Inv X pins σ H s) (r : Vals vs us) (h : sp (vs ++ dvs) H Q E) :
    wpAny (model X.prog X.w) X.A (call (.ref f) us) (EP X pins σ Q) X.xe s := by
  have rr := r.append hd
  have ll : (us ++ ds).length = ps.length := rr.length.symm.trans (F.len _ _ _ _ h)
  have go := F.run X.A X.stack s H ⟨us, []⟩ (us ++ ds) (vs ++ dvs) Q E gd hr I.env0 (hb s us I.kIn ll) rr h
  refine wpAny_call (codeAny_mono go ?_)
  intro res s' hq
  match res, hq with
  | .error er, hq => exact hx pins σ H s er s' I hq
  | .ok (.ret u), hq => exact I.after hq
  | .ok .next, hq => exact hq.elim
  | .ok .brk, hq => exact hq.elim
  | .ok .cont, hq => exact hq.elim
theorem pe_gcall (gd : X.A.guards = some []) (F : GnOk X.prog X.w X.K X.mg X.base CX k f fd ps sp) (hr : Room k X.A) (hg : Gl X x) (hm : X.mg x = some (.ref f))
    (hk : PySem.W.keepIn X.K (.ref f) = true) (hb : Binds X.K fd ps ds) (hd : Vals dvs ds) (hx : Passes CX X E) (ha : PA X (e :: es) t)
    (hdb : (x == ("__debug__" : Str)) = false := by decide) (he : starEach (e :: es) X.env = (false, eval e X.env) :: starEach es X.env := by rfl) (hpl : (backTo pos (starEach es X.env)).any (·.1) = false := by rfl) :
    PE X (.Call (.Name x p) (e :: es) [] pos) (tCall sp dvs E t) :=
  ⟨fun pins s σ H Q I h => wpAny_Call_Name_kw (ld_glob I hg hm (PySem.W.callWith_K (h₀ := X.base) I.ok.mod.kin hk
    (thn (ha.run pos pins s σ H _ I h) fun us s1 ⟨vs, H1, I1, r, q⟩ => ⟨I1.kIn, run_gn gd F hr hb hd hx I1 r q⟩) he hpl) hdb)⟩
end
theorem gn_of {CX : CXT} {P : Program} {w : World} {K : PySem.W.Frag} {mg : Str → Option Value} {base : Heap} {k : Nat} {f : Addr} {name qual : Str} {params : Arguments} {body : List Stmt} {scope : Scope} {dV kV doc pm cdv ct oc : Value}
    {an od : Option Addr} {osl : Array (Option Value)} {N ps : List Str} {sp : Sp}
    (lk : K.lookup f = some ⟨oc, od, .func (PySem.W.fnOf name qual params body scope dV kV doc pm an cdv ct), osl⟩) (hcd : PySem.W.codeIn K cdv qual = true) (S : FnScope N ps scope) (len : ∀ vs H Q E, sp vs H Q E → vs.length = ps.length)
    (hbody : ∀ (A : Around) (outer : List Env) (s : Shared) (H : Hp) (vs : List V) (Q : VK) (E : XK), A.guards = some [] → Room k (A.deeper (envOfC qual scope s.heap.objs.size f cdv)) → sp vs H Q E →
      ∃ t, PSs (cxOf CX P w K mg base N qual scope f cdv A outer s H E) body t ∧ t { nx := fun _ H' => Q .non H', rt := Q } (start N vs) H) :
    GnOk P w K mg base CX (k + 1) f (PySem.W.fnOf name qual params body scope dV kV doc pm an cdv ct) ps sp := by
  constructor
  · exact len
  intro A outer s H args us vs Q E gd hr e0 hb r hsp
  have hl := len _ _ _ _ hsp
  have keep : ∀ b o, base.get? b = some o → s.heap.get? b = some o := fun b o e => (e0.bs b o e).1
  have KX : K.In s.heap := e0.mod.kin.keeps keep
  have lim : s.heap.NoLimit := e0.mod.nolimit.keeps keep
  have kinds : ∀ y ∈ ps.zip us, scope.names.lookup y.1 = some .local ∨ (scope.names.lookup y.1 = some .cell ∧ ((cellsFrom (s.heap.objs.size + 1) scope.names []).lookup y.1).isSome = true) := by
    intro y hy
    have hm : y.1 ∈ ps := (List.of_mem_zip (a := y.1) (b := y.2) hy).1
    exact (S.par y.1 hm).imp (fun q => q) fun q => ⟨q, PySem.W.cellsFrom_some _ _ _ (.inl q)⟩
  refine codeAny_call_function hr.depth (KX _ _ lk) rfl S.co S.gen rfl (PySem.W.codeRec_of KX hcd) (hb _ _ _ _ (wpAny_newFunctionEnv_cells S.kind kinds ?_))
  intro env he s1 x
  cases he
  obtain ⟨t, ht, hq⟩ := hbody A outer s H vs Q E gd (hr.deeper _) hsp
  have I := inv_start (E := E) (CX := CX) S hr.hd e0 hl r x
  have fin : ∀ {σ' : St} {H' : Hp} {v : V} {u : Value} {s' : Shared}, Inv (cxOf CX P w K mg base N qual scope f cdv A outer s H E) [] σ' H' s' → RelV v u → Q v H' → CE outer P w H s Q u s' := by
    intro σ' H' v u s' J rv q
    exact ⟨v, H', J.os, J.bare, J.base, J.hok, rv, q⟩
  refine ⟨lim.keeps x.toInCall.keep, codeAny_func (wpAny_mono (ht.run [] s1 (start N vs) H _ I hq) ?_ fun _ _ z => z)⟩
  intro fl s' hs
  match fl, hs with
  | .ret u, ⟨v, σ', H', J, rv, q⟩ => exact fin J rv q
  | .next, ⟨σ', H', J, q⟩ => exact fin (v := V.non) (u := Value.none) J rfl q
  | .brk, ⟨_, _, _, q⟩ => exact q.elim
  | .cont, ⟨_, _, _, q⟩ => exact q.elim
section
variable {P : Program} {w : World} {K : PySem.W.Frag} {mg : Str → Option Value} {base : Heap}
theorem gn_ok {x qual : Str} {st : Stmt} {f : Addr} {fd : FuncData} {N ps : List Str} {k : Nat} {sp : Sp} (F : Fun K x qual st f fd) (S : FnScope N ps (defScope st)) (len : ∀ vs H Q E, sp vs H Q E → vs.length = ps.length)
    (hbody : ∀ (cdv : Value) (A : Around) (outer : List Env) (s : Shared) (H : Hp) (vs : List V) (Q : VK) (E : XK), A.guards = some [] → Room k (A.deeper (envOfC qual (defScope st) s.heap.objs.size f cdv)) → sp vs H Q E →
      ∃ t, PSs (cxOf CX0 P w K mg base N qual (defScope st) f cdv A outer s H E).nox (defBody st) t ∧ t { nx := fun _ H' => Q .non H', rt := Q } (start N vs) H) :
    GnOk P w K mg base CX0 (k + 1) f fd ps sp := by
  obtain ⟨oc, od, kV, doc, pm, an, cdv, ct, osl, e, lk, hcd⟩ := F.ex
  subst e
  refine gn_of lk hcd S len ?_
  intro A outer s H vs Q E gd hr hsp
  obtain ⟨t, h1, h2⟩ := hbody cdv A outer s H vs Q E gd hr hsp
  exact ⟨t, h1.nox, h2⟩
end
/-! ### the law's end -/
/-- all that the heap holds but the script -/
theorem call_g {P : Program} {w : World} {K : PySem.W.Frag} {mg mb : Str → Option Value} {CX : CXT} {k : Nat} {fa a : Addr} {fd : FuncData} {x : Str} {sp : Sp} {s1 : Shared} {vs : List Value} {ns : List Int}
    (KX : K.In s1.heap) (hns : s1.heap.Ns mainGlobals mg) (hb : s1.heap.Ns builtinsNs mb) (hbb : ∀ x : Str, x ≠ "__name__" → mb x = bootBuiltins x) (hlim : s1.heap.NoLimit) (hg : s1.gens = #[])
    (ha : s1.heap.get? a = some { cls := .type "list", data := .seq vs.toArray }) (hi : IntsAre vs ns) (hl : ns.length ≤ sizeLine) (hr : Room k callerA)
    (F : ∀ base : Heap, K.In base → base.Ns mainGlobals mg → GnOk P w K mg base CX k fa fd [x] sp) (hbind : ∀ (s : Shared) (u : Value), BindsTo s fd ⟨[u], []⟩ [(x, u)])
    (hsp : ∀ H : Hp, Only H → SqL K H a (ns.map V.int) → sp [.ref a] H (fun v _ => v = .bl true) fun _ _ _ => False) (hCX : ∀ H e s', CX [] H s1 (fun _ _ _ => False) e s' → False) :
    codeAny (model P w) callerA (.call (.ref fa) ⟨[.ref a], []⟩) (fun r s' => r = .ok (.ret (.bool true)) ∧ OldK s1.heap s'.heap ∧ s'.os = s1.os ∧ AllBare s'.gens) s1 := by
  have rv := vals_ints hi
  have lenV := hi.length
  have core : ∀ H : Hp, Only H → SqL K H a (ns.map V.int) → HOk P w H s1.heap → (∀ b, H b ≠ none → b = a) → (H a ≠ none → K.lookup a = none) →
      codeAny (model P w) callerA (.call (.ref fa) ⟨[.ref a], []⟩) (fun r s' => r = .ok (.ret (.bool true)) ∧ OldK s1.heap s'.heap ∧ s'.os = s1.os ∧ AllBare s'.gens) s1 := by
    intro H hO hS hok hA hK
    have some_ne : ∀ {b : Addr} {u : HO}, H b = some u → H b ≠ none := fun q z => by rw [q] at z; cases z
    have free_of : ∀ {b : Addr} {o : Obj}, s1.heap.get? b = some o → (b = a → False) → H b = none := fun {b o} e n => by
      cases q : H b with
      | none => rfl
      | some u => exact (n (hA b (some_ne q))).elim
    have nsK : ∀ {b : Addr} {m : Str → Option Value}, s1.heap.Ns b m → (hidT s1.heap H).Ns b m := by
      intro b m ⟨o, es, ep, e, d, r⟩
      refine ⟨o, es, ep, hidT_get e (free_of e ?_), d, r⟩
      intro z
      subst z
      rw [ha] at e
      cases e
      cases (show Data.seq vs.toArray _ = Data.dict es ep from d)
    have hKb : K.In (hidT s1.heap H) := by
      intro b o e
      refine hidT_get (KX b o e) ?_
      cases q : H b with
      | none => rfl
      | some u =>
        have z := hA b (some_ne q)
        subst z
        rw [hK (some_ne q)] at e
        cases e
    obtain ⟨mc, l1, l2⟩ := hlim
    have hM : Mod K mg (hidT s1.heap H) := ⟨hKb, nsK hns, ⟨mb, nsK hb, hbb⟩, ⟨mc, nsK l1, l2⟩⟩
    have nil_no : ∀ {α : Type} {b : α}, b ∈ ([] : List α) → False := fun z => nomatch z
    have e0 : Env0 P w K mg (hidT s1.heap H) callerA [] s1 H :=
      { frames := rfl, mod := hM, bs := fun b o e => of_hidT e, bsz := Nat.le_of_eq (hidT_size _ _), funs := trivial, frf := fun b hb => (nil_no (show b ∈ ([] : List Addr) from hb)).elim, hok := hok, bare := .of_eq hg }
    have go := (F _ hKb (nsK hns)).run callerA [] s1 H ⟨[.ref a], []⟩ [.ref a] [.ref a] _ _ rfl hr e0 (hbind s1 (.ref a)) (.cons rfl .nil) (hsp H hO hS)
    refine codeAny_mono go ?_
    intro r s' h
    match r, h with
    | .error e, h => exact (hCX H e s' h).elim
    | .ok .next, h => exact h.elim
    | .ok .brk, h => exact h.elim
    | .ok .cont, h => exact h.elim
    | .ok (.ret u), ⟨v, H', os, bare, un, hok', r', q⟩ =>
      have q' : v = .bl true := q
      subst q'
      obtain rfl : u = Value.bool true := r'
      refine ⟨rfl, OldK.of_keep ?_, os, bare⟩
      intro b o e
      cases q : H b with
      | none => exact un.keep b o e q (fun z => nil_no (show b ∈ ([] : List Addr) from z)) (fun z => nil_no z)
      | some u =>
        rcases hO b with z | ⟨ob, xs, z⟩
        · exact (some_ne q z).elim
        · have e1 := (hok b _ z).1
          have e2 := (hok' b _ (un.frzs b ob _ z)).1
          rw [e] at e1
          cases e1
          exact e2
  cases hk : K.lookup a with
  | some o =>
    have e := KX a o hk
    rw [ha] at e
    cases e
    refine core (fun _ => none) (fun _ => .inl rfl) (.inr ⟨_, vs.toArray, _, hk, rfl, rfl, rfl, by rw [List.size_toArray, lenV]; exact hl, by simpa using rv⟩) ?_ (fun b z => absurd rfl z) fun z => absurd rfl z
    intro b u z
    cases (show (none : Option HO) = some u from z)
  | none =>
    let H0 : Hp := fun b => if b = a then some (.frz { cls := .type "list", data := .seq vs.toArray } (.lst (ns.map V.int))) else none
    have at_a : H0 a = some (.frz { cls := .type "list", data := .seq vs.toArray } (.lst (ns.map V.int))) := if_pos rfl
    have off : ∀ {b : Addr}, b ≠ a → H0 b = none := fun h => if_neg h
    refine core H0 ?_ (.inl (.inr ⟨_, at_a⟩)) ?_ ?_ fun _ => hk
    · intro b
      by_cases h : b = a
      · exact .inr ⟨_, _, by rw [h]; exact at_a⟩
      · exact .inl (off h)
    · intro b u z
      by_cases h : b = a
      · subst h
        rw [at_a] at z
        cases z
        exact ⟨ha, by rw [List.length_map]; exact hl, vs, _, rv, ha⟩
      · rw [off h] at z
        cases z
    · intro b z
      by_cases h : b = a
      · exact h
      · exact absurd (off h) z
theorem walk_g {l : PySem.W.OpenLaw} {n k : Nat} {q : Program} {loose : List Str} {XP : (Str → Option Value) → Heap → Prop} {YP : World → Heap → Prop} {d : DefRec} {K : Params → PySem.W.Frag} {CX : World → CXT} {sp : World → Sp} {x : Str}
    (hn : l.most = some n) (hn2 : n ≤ sizeLine) (hdf : d.params.defaults = []) (hr : Room k callerA) (hY : ∀ (w : World) (h : Heap), YP w h → (K w.params).In h)
    (F : ∀ (w : World) (mg : Str → Option Value) (fa : Addr) (h : Heap), (K w.params).In h → h.Ns mainGlobals mg → mg d.name = some (.ref fa) →
      ∃ fd : FuncData, (∀ (s : Shared) (u : Value), BindsTo s fd ⟨[u], []⟩ [(x, u)]) ∧ ∀ base : Heap, (K w.params).In base → base.Ns mainGlobals mg → GnOk l.prog w (K w.params) mg base (CX w) k fa fd [x] (sp w))
    (hsp : ∀ (w : World) (H : Hp) (a : Addr) (ns : List Int), ns.length ≤ n → Only H → SqL (K w.params) H a (ns.map V.int) → sp w [.ref a] H (fun v _ => v = .bl true) fun _ _ _ => False)
    (hCX : ∀ (w : World) (H : Hp) (s : Shared) (e : Value) (s' : Shared), CX w [] H s (fun _ _ _ => False) e s' → False) :
    PySem.W.WalkO q loose XP YP l.row.toRowW d [] (fun f vs => PySem.call f vs) := by
  refine Att.attach_call hn hdf ?_
  intro w s0 s1 mg mb fa o pm cd doc a vs ns G Y ho hd hcd hmg hobj hints hlen hg
  have KX := hY w _ Y
  obtain ⟨fd, hb, hF⟩ := F w mg fa _ KX G.T.g hmg
  exact call_g KX G.T.g G.T.b G.T.builtins G.T.nolimit hg hobj hints (Nat.le_trans hlen hn2) hr hF hb (fun H hO hS => hsp w H a ns hlen hO hS) fun H e s' => hCX w H s1 e s'
end L2.Ex

namespace L2.Ex
open PySem PySem.Spec PyProof.Rows
/-! ## several except clauses, each with a name -/
/-- the ends of a suite behind which the slot i is empty -/
def offEnds (i : Nat) (D : Ends) : Ends := { nx := fun σ H => D.nx (σ.set i none) H, rt := D.rt, bk := fun σ H => D.bk (σ.set i none) H, ct := fun σ H => D.ct (σ.set i none) H }
/-- a clause: the class, the name's slot, the suite's reading -/
abbrev Clause := Value × Nat × (Addr → Value → Option Addr → TS)
def wNames (K : PySem.W.Frag) (Wout : WX) (D : Ends) : List Clause → WX
  | [] => Wout
  | (c, i, ts) :: r => fun cls d σ H => ∃ b, PySem.W.exmOne K cls c = some b ∧ (b = true → ∀ a, H a = none → ts a cls d (offEnds i D) (σ.set i (some (.ref a))) H) ∧ (b = false → wNames K Wout D r cls d σ H)
inductive HdsNm (X : Cx) : List ExceptHandler → List Clause → Prop
  | nil : HdsNm X [] []
  | cons {x n : Str} {c : Value} {i : Nat} {ts : Addr → Value → Option Addr → TS} {b0 : Stmt} {suite : List Stmt} {np pos' : Pos} {hds : List ExceptHandler} {l : List Clause} (hi : X.N[i]? = some n) (hln : X.env.kindOf n = some .local)
      (hc : Names X x c) (hsu : ∀ (a : Addr) (oe : Obj) (cls : Value) (d : Option Addr) (pn : List (Addr × Obj)), Zc cls d oe → (∃ vs, oe.data = .fields vs) → PSs (X.suite a ((a, oe) :: pn)) (b0 :: suite) (ts a cls d)) (r : HdsNm X hds l) :
      HdsNm X (.ExceptHandler (some (.Name x np)) (some n) (b0 :: suite) pos' :: hds) ((c, i, ts) :: l)
section
variable {X : Cx}
/-- an exception that has been caught in the frame: the state where the clauses are looked at -/
structure Held (X : Cx) (pins : List (Addr × Obj)) (D : Ends) (Wout : WX) (a : Addr) (B : Heap) (sI : Shared) (σ : St) (H : Hp) (cls : Value) (d : Option Addr) (s' : Shared) (h3 : Heap) : Prop where
  stk : X.stack = X.env :: X.outer
  fr : X.env.frame = some X.env.locals
  tk : Takes X Wout
  J : Inv X pins σ H sI
  nb : ∀ b o, sI.heap.get? b = some o → b ∉ frs X.stack → B.get? b = some o
  up : sI.heap.UpToSlots h3
  fl : HandSPX.FlyingZ B (X.env :: X.outer) a (Zc cls d) h3
  na : H a = none
  os : s'.os = sI.os
  ag : AllBare s'.gens
theorem suite_end {pins : List (Addr × Obj)} {D : Ends} {n : Str} {i : Nat} {q : Addr × Obj} {a : Addr} {pos' : Pos} {f : Flow} {s6 : Shared} (ok : X.Ok) (hN : X.N.Nodup) (hi : X.N[i]? = some n) (hln : X.env.kindOf n = some .local)
    (hsp : SP (X.suite a (q :: (X.pn ++ pins))) [] (offEnds i D) f s6) : wpAny (model X.prog X.w) X.A (do bindName X.env n .none; unbindBehindTheSuite X.env n pos') (fun _ s7 => SP X pins D f s7) X.xe s6 := by
  match f, hsp with
  | .next, ⟨_, _, S, z⟩ => exact gone_ok (S.unsuite ok) hN hi hln fun _ J => ⟨_, _, J, z⟩
  | .brk, ⟨_, _, S, z⟩ => exact gone_ok (S.unsuite ok) hN hi hln fun _ J => ⟨_, _, J, z⟩
  | .cont, ⟨_, _, S, z⟩ => exact gone_ok (S.unsuite ok) hN hi hln fun _ J => ⟨_, _, J, z⟩
  | .ret u, ⟨_, _, _, S, r, z⟩ => exact gone_ok (S.unsuite ok) hN hi hln fun _ J => ⟨_, _, _, J, r, z⟩
theorem names_handle {pins : List (Addr × Obj)} {D : Ends} {Wout : WX} {a : Addr} {B : Heap} {sI : Shared} {σ : St} {H : Hp} {cls : Value} {d : Option Addr} {s' : Shared} {h3 : Heap} (hN : X.N.Nodup) (Y : Held X pins D Wout a B sI σ H cls d s' h3) :
    ∀ {hds : List ExceptHandler} {l : List Clause}, HdsNm X hds l → wNames X.K Wout D l cls d σ H → wpAny (model X.prog X.w) X.A (handleBy (.ref a) X.env hds) (SP X pins D) X.xe { s' with heap := h3 } := by
  obtain ⟨hs, hf, tk, J, nb, up, fl, na, os, ag⟩ := Y
  have ok := J.ok
  have J3 : Inv X pins σ H { s' with heap := h3 } := J.landed nb fl.1 up os ag
  obtain ⟨oe, vs, he, hz, hd⟩ := fl.there
  have nfr : a ∉ frs (X.env :: X.outer) := by
    intro hm
    obtain ⟨_, o', e', hnf⟩ := fl.2.2.1.mem hm
    rw [he] at e'
    cases e'
    exact hnf _ hd
  have inFr : ∀ {e : Env}, e ∈ X.env :: X.outer → e.frame = some a → False := fun h1 h2 => nfr (List.mem_filterMap.mpr ⟨_, h1, h2⟩)
  have nL : a ≠ X.env.locals := fun z => inFr List.mem_cons_self (by rw [hf, z])
  have nF : a ∉ X.fs := by
    intro hm
    obtain ⟨e, h1, h2⟩ := List.mem_filterMap.mp hm
    exact inFr (List.mem_cons_of_mem _ h1) h2
  intro hds l hk
  induction hk with
  | nil =>
    intro w
    refine wpAny_handleBy_nil ?_
    obtain ⟨_, _, _, oe', vs', T, oT, ts', g1, _, g2, g3, _⟩ := id fl
    unfold PySem.passOn
    refine wpAny_bind (wpAny_field g1 g2 g3 ?_)
    rw [if_neg (by simp : ¬ ((Value.ref T == Value.none) = true))]
    have fin : wpAny (model X.prog X.w) X.A (setFlight (.ref a) X.env.frame) (fun _ s4 => wpAny (model X.prog X.w) X.A (throw (.ref a) : Sem Flow) (SP X pins D) X.xe s4) X.xe { s' with heap := h3 } := by
      rw [hf]
      refine HandSPX.setFlight_upZ fl fun h4 hh4 up4 => wpAny_throw (tk _ _ ?_)
      have sky : Sky B X.stack a (Zc cls d) X.env.locals h4 := .inr (.inr (by rw [hs]; exact hh4))
      exact ⟨a, B, sI, pins, σ, H, cls, d, rfl, J, nb, up.trans up4, sky, na, os, ag, w⟩
    first
      | exact wpAny_bind (wpAny_pure (wpAny_bind fin))
      | exact wpAny_bind fin
  | @cons x n c i ts b0 suite np pos' hds2 l2 hi hln hc hsu r ih =>
    rintro ⟨b, hb1, hyes, hno⟩
    have S3 := J3.suite he hd na nL nF
    have LT : PySem.W.Looks (model X.prog X.w) h3 (typeOf (.ref a)) cls := fun _ _ _ _ k q => wpAny_typeOf_ref (k _ _ he) (by rw [hz.1]; exact q)
    have LM := PySem.W.exm_one (M := model X.prog X.w) J3.kIn LT hb1
    have test : ∀ {Q E : Value → Shared → Prop}, Q c { s' with heap := h3 } → wpAny (model X.prog X.w) (X.A.mark (some (.ref a))) (eval (.Name x np) X.env) Q E { s' with heap := h3 } := by
      intro Q E q
      rcases hc with ⟨hg, hdb, hm | ⟨hm, hv, hn⟩⟩
      · exact ld_glob (X := X.suite a ((a, oe) :: (X.pn ++ pins))) S3 hg hm q hdb
      · exact ld_blt (X := X.suite a ((a, oe) :: (X.pn ++ pins))) S3 hg hm hv q hn hdb
    refine wpAny_handleBy_cons (codeAny_handlers_test (test (LM.here ?_))) (by intro q; cases q)
    cases b with
    | false => exact ih (hno rfl)
    | true =>
      refine codeAny_handlers_suite_as (HandSPX.lands_againZ fl fun h4 fl4 up4 => ?_)
      have J4 : Inv X pins σ H { s' with heap := h4 } := J.landed nb fl4.1 (up.trans up4) os ag
      obtain ⟨oe4, vs4, he4, hz4, hd4⟩ := fl4.there
      refine store_ok (X := X.suite a ((a, oe4) :: (X.pn ++ pins))) (v := .ref a) (J4.suite he4 hd4 na nL nF) hN hi (.inl hln) rfl (fun s5 S5 => ?_) (.inr hln)
      exact wpAny_mono ((hsu a oe4 cls d (X.pn ++ pins) hz4 ⟨_, hd4⟩).run [] s5 _ H _ S5 (hyes rfl a na)) (fun f s6 hsp => suite_end ok hN hi hln hsp) fun _ _ z => False.elim z
variable {body : List Stmt} {h0 : ExceptHandler} {hds : List ExceptHandler} {l : List Clause} {pos : Pos} {tb : WX → TS} {Wout : WX}
theorem ps_try_names (hs : X.stack = X.env :: X.outer) (hf : X.env.frame = some X.env.locals) (hN : X.N.Nodup) (tk : Takes X Wout)
    (hb : ∀ (W : WX) (pn : List (Addr × Obj)) (xe : Value → Shared → Prop), Takes (X.tr pn xe) W → PassesOwn (model X.prog X.w) X.A X.env xe → PSs (X.tr pn xe) body (tb W)) (hh : HdsNm X (h0 :: hds) l) :
    PS X (.Try body (h0 :: hds) [] [] pos) (fun D σ H => tb (wNames X.K Wout D l) D σ H) := by
  constructor
  intro pins s σ H D I h
  have ok := I.ok
  have hfr : X.A.frames = some (X.env :: X.outer) := by rw [ok.frames, hs]
  let xe' : Value → Shared → Prop := fun e s1 => wpAny (model X.prog X.w) X.A (noteFrame e X.env) (fun _ s2 => wpAny (model X.prog X.w) X.A (setFlight e none)
    (fun _ s3 => wpAny (model X.prog X.w) X.A (handleBy e X.env (h0 :: hds)) (SP X pins D) X.xe s3) X.xe s2) X.xe s1
  have catch_ : Takes (X.tr (X.pn ++ pins) xe') (wNames X.K Wout D l) := by
    rintro u s' ⟨a, B, sI, pins', σ', H', cls, d, rfl, J', nb, up, sky, na, os, ag, w⟩
    have sky' : Sky B (X.env :: X.outer) a (Zc cls d) X.env.locals s'.heap := by rw [← hs]; exact sky
    show wpAny (model X.prog X.w) X.A (noteFrame (.ref a) X.env) _ _ _
    exact Sky.land Zc.steady hfr hf sky' fun h3 fl3 up3 => names_handle hN ⟨hs, hf, tk, J'.ofTry ok, nb, up.trans up3, fl3, na, os, ag⟩ hh w
  refine wpAny_Try_except (wpAny_mono ((hb (wNames X.K Wout D l) (X.pn ++ pins) xe' catch_ PassesOwn.looking).run [] s σ H D (I.toTry _) h) ?_ fun _ _ z => z)
  intro f s1 hsp
  match f, hsp with
  | .next, ⟨σ', H', J', q⟩ => exact wpAny_execs_nil ⟨σ', H', J'.ofTry ok, q⟩
  | .brk, ⟨σ', H', J', q⟩ => exact ⟨σ', H', J'.ofTry ok, q⟩
  | .cont, ⟨σ', H', J', q⟩ => exact ⟨σ', H', J'.ofTry ok, q⟩
  | .ret u, ⟨v, σ', H', J', r, q⟩ => exact ⟨v, σ', H', J'.ofTry ok, r, q⟩
end
/-! ## o.m(e, ..) in a try's body -/
section
variable {X : Cx} {CX : CXT} {k : Nat} {f C : Addr} {fd : FuncData} {ps : List Str} {sp : Sp} {E : St → XK} {m : Str} {pos apos : Pos} {e o : Expr} {es : List Expr} {ta : TE} {t : TA}
def tMethX (C : Addr) (m : Str) (sp : Sp) (E : St → XK) (ta : TE) (t : TA) : TE := fun σ H Q => ta σ H fun x H1 => ∃ a dx fs, x = .ref a ∧ H1 a = some (.ins C dx fs) ∧ fs.lookup m = none ∧ t σ H1 fun vs H2 => sp (x :: vs) H2 Q (E σ)
theorem pe_methX {pl : Sem Bool} (he : PE X o ta) (c : Cls X.K C) (hm : Meth X.K C m f) (F : FnOk X.prog X.w X.K X.mg X.base CX k f fd ps sp) (hr : Room k X.A) (hb : Binds X.K fd ps []) (hx : ∀ σ, PassesAt CX X σ (E σ)) (ha : PA X (e :: es) t)
    (hst : starEach (e :: es) X.env = (false, eval e X.env) :: starEach es X.env := by rfl) (hpl : (backTo pos (starEach es X.env)).any (·.1) = false := by rfl)
    (ht : eval (.Call (.Attribute o m apos) (e :: es) [] pos) X.env = (do
      let ov ← eval o X.env
      standAt apos.atName
      let (f, first) ← holding [ov] (getMethod ov m pl)
      callWith pos f first (backTo pos (starEach (e :: es) X.env)) (backToKw pos (keywordEach [] X.env))) := by rfl) :
    PE X (.Call (.Attribute o m apos) (e :: es) [] pos) (tMethX C m sp E ta t) := by
  constructor
  intro pins s σ H Q I h
  refine PySem.W.methodCall_KW (pl := pl) (thn (he.run pins s σ H _ I h) ?_) ht
  rintro u s1 ⟨x, H1, I1, rx, a, dx, fs, rfl, ea, l, q⟩
  obtain rfl : u = Value.ref a := rx
  refine getmeth_ok I1 ea c hm l (PySem.W.callWith_K (first := [.ref a]) (h₀ := X.base) I.ok.mod.kin hm.kp (thn (ha.run pos pins s1 σ H1 _ I1 q) ?_) hst hpl)
  rintro us s2 ⟨vs, H2, I2, r, q2⟩
  exact ⟨I2.kIn, run_fnS (us := .ref a :: us) (vs := .ref a :: vs) F hr hb (hx σ) I2 (.cons rfl r) q2⟩
end
end L2.Ex

namespace L2.Ex
open PySem PySem.Spec PyProof.Rows
/-! ## enumerate(a tuple) -/
set_option maxHeartbeats 1000000 in
theorem meets_enumT {v : Value} {o : Obj} {H : Heap → Prop} (B : Begins v o H) :
    Meets (Builtin.«enumerate.__new__» ⟨[.type "enumerate", v], []⟩) (fun _ R s => H s.heap ∧
      R (.ok (.ret (.ref (s.heap.push o).objs.size))) { s with heap := (s.heap.push o).push { cls := .type "enumerate", data := .fields #[.none, .bool false, .ref s.heap.objs.size, rawInt 0, .none, .none] } }) :=
  .of_wp fun prog w A R s h => by
    obtain ⟨hp, g, d, tk, os⟩ := s
    obtain ⟨h1, h⟩ := h
    have hsub := sub_enumerate
    have go : ∀ {A' : Around} {E : Value → Shared → Prop} {Q : Value → Shared → Prop}, Q (.ref hp.objs.size) ⟨hp.push o, g, d, tk, os⟩ → wpAny (model prog w) A' (pyIter v) Q E ⟨hp, g, d, tk, os⟩ := fun q => B.iter prog w _ _ ⟨hp, g, d, tk, os⟩ _ h1 q
    wp_walk using go
    refine wpAny_stack_any fun st => wpAny_pure ?_
    split
    · rename_i c _ _ _ _ _
      cases (c == Value.type "enumerate") <;> (wp_walk using go) <;> exact ⟨_, rfl, h⟩
    · wp_walk using go
      exact ⟨_, rfl, h⟩
section
variable {prog : Program} {w : World} {A : Around} {E : Value → Shared → Prop} {s : Shared}
theorem call_enumB {v : Value} {o : Obj} {H : Heap → Prop} {Q : Value → Shared → Prop} (B : Begins v o H) (h1 : H s.heap)
    (h : ∀ h', IsEnum h' (s.heap.objs.size + 1) s.heap.objs.size 0 .none → h'.get? s.heap.objs.size = some o → h'.objs.size = s.heap.objs.size + 2 →
      (∀ b o, s.heap.get? b = some o → h'.get? b = some o) → Q (.ref (s.heap.objs.size + 1)) { s with heap := h' }) :
    wpAny (model prog w) A (call (.type "enumerate") [v]) Q E s := by
  have hz : (s.heap.push o).objs.size = s.heap.objs.size + 1 := Heap.size_push ..
  refine callType_new F.called_enumerate (by decide) (F.typeCall_enumerate_1 _) (F.newCall_enumerate_1 _) (fun obj => F.args_object_init_2 obj _) F.entry_enumerate_new (meets_enumT B) ⟨h1, ?_⟩
  have he : IsEnum ((s.heap.push o).push { cls := .type "enumerate", data := .fields #[.none, .bool false, .ref s.heap.objs.size, rawInt 0, .none, .none] }) (s.heap.objs.size + 1) s.heap.objs.size 0 .none := by
    have e := Heap.get?_push_size (s.heap.push o) (o := { cls := .type "enumerate", data := .fields #[.none, .bool false, .ref s.heap.objs.size, rawInt 0, .none, .none] }) rfl
    rw [hz] at e
    exact e
  show _ ∧ _
  rw [hz]
  exact ⟨⟨_, he, rfl⟩, h _ he (Heap.get?_push_of_some _ (Heap.get?_push_size _ B.free)) (by rw [Heap.size_push, hz]) fun b o x => Heap.get?_push_of_some _ (Heap.get?_push_of_some _ x)⟩
end
/-- the tuple at a as it stands at each turn, each item in a new pair -/
def IteT (K : PySem.W.Frag) (a : Addr) : It :=
  ⟨fun i H => ∃ (xs : List V) (x : V), SqT K H a xs ∧ xs[i]? = some x, fun i H v H' => ∃ T x, v = .ref T ∧ H T = none ∧ H' = upd H T (.tup [.int (i : Nat), x]) ∧ ∀ xs, SqT K H a xs → xs[i]? = some x, fun i H => ∃ xs : List V, SqT K H a xs ∧ xs.length = i⟩
theorem turn_enumT {P : Program} {w : World} {K : PySem.W.Frag} {elts : List Expr} {kk : Nat} {tpos : Pos} (a e it : Addr) :
    Turn P w K (.Tuple elts kk tpos) (IteT K a) [e, it] e (fun i h => (∃ old, IsEnum h e it ((i : Nat) : Int) old) ∧ h.IsTupleIter it a i ∧ e ≠ it ∧ a ≠ e ∧ a ≠ it) where
  mem := by simp
  obj := fun i h st b hb => by
    obtain ⟨⟨old, he⟩, ⟨o, ho, hc, hd⟩, _⟩ := st
    have e' : b = e ∨ b = it := by simpa using hb
    rcases e' with z | z
    · rw [z]
      exact ⟨_, he, fun v q => nomatch q⟩
    · rw [z]
      exact ⟨o, ho, fun v q => by rw [hd] at q; cases q⟩
  keep := fun i h h' st k => let ⟨⟨old, he⟩, hi, hne⟩ := st; ⟨⟨old, k e (by simp) _ he⟩, hi.at fun o q => k it (by simp) o q, hne⟩
  item := by
    intro X hP hw hK hc i pins s σ H E I hf st hg
    subst hP hw hK
    obtain ⟨⟨old, he⟩, hit, hne, hae, hai⟩ := st
    obtain ⟨xs, x, hq, hx⟩ := hg
    obtain ⟨its, rv, p, hz⟩ := I.tuple hq
    obtain ⟨u, hu, ru⟩ := rv.get hx
    have hel : e < s.heap.objs.size := Heap.lt_size he
    have hil : it < s.heap.objs.size := by obtain ⟨_, q, _⟩ := hit; exact Heap.lt_size q
    have pt : s.heap.IsTuple a its.toArray := p
    have lt : i < its.toArray.size := by
      have := (List.getElem?_eq_some_iff.mp hu).1
      simpa using this
    have D := Draws.tuple (prog := X.prog) (w := X.w) (A := X.A.in1) (I.ok.hd hc) it a hai its.toArray
    refine wpAny_pyNext_enum_itemD D he ⟨hit, pt⟩ lt hne (by simp [hne, Ne.symm hae]) fun y h' tk hy ho hst' hT hsz hk => ?_
    obtain rfl : y = u := by
      rw [show its.toArray[i]? = some u by simpa using hu] at hy
      exact (Option.some.inj hy).symm
    refine ⟨_, rfl, wpAny_letOwnedTupleGo_enum (s := { s with heap := h', toks := tk + 1 }) ho fun h'' he' sb => ?_⟩
    have hT2 : h''.get? s.heap.objs.size = some { cls := .type "tuple", data := .seq #[.int i tk, y] } := (sb.2 _ (Nat.ne_of_gt hel)).trans hT
    have new : ObjOk X.prog X.w (upd H s.heap.objs.size (.tup [.int (i : Nat), x])) h'' s.heap.objs.size (.tup [.int (i : Nat), x]) :=
      ⟨by show 2 ≤ sizeLine; decide, [.int i tk, y], .cons ⟨_, rfl⟩ (.cons ru .nil), ⟨_, hT2, rfl, _, rfl⟩⟩
    have I1 : Inv X pins σ (upd H s.heap.objs.size (.tup [.int (i : Nat), x])) { s with heap := h'', toks := tk + 1 } :=
      I.turnedNew (ch := [e, it]) (fun b ob hb q => (sb.2 b (fun z => hb (by simp [z]))).trans (hk b ob (fun z => hb (by simp [z])) (fun z => hb (by simp [z])) q)) hf (Nat.le_refl _) new
    refine ⟨.ref s.heap.objs.size, _, I1, rfl, ⟨_, x, rfl, I.hok.fresh (Nat.le_refl _), rfl, fun ys hy => by rw [I.tuple_inj hy hq]; exact hx⟩, ⟨⟨y, ?_⟩, hst'.1.at fun o q => (sb.2 it (Ne.symm hne)).trans q, hne, hae, hai⟩, fun b hb => ?_⟩
    · have e1 : ((i + 1 : Nat) : Int) = (i : Int) + 1 := by omega
      rw [e1]
      exact he'
    · have hb' : b < s.heap.objs.size := by
        have e' : b = e ∨ b = it := by simpa using hb
        rcases e' with z | z
        · rw [z]; exact hel
        · rw [z]; exact hil
      rw [upd_ne (Nat.ne_of_lt hb')]
      exact (hf b hb).1
  done := by
    intro X hP hw hK hc i pins s σ H E I hf st hg
    subst hP hw hK
    obtain ⟨⟨old, he⟩, hit, hne, hae, hai⟩ := st
    obtain ⟨xs, hq, hx⟩ := hg
    obtain ⟨its, rv, p, hz⟩ := I.tuple hq
    obtain ⟨f0, f1, f2, f3, f4, f5⟩ := hf it (by simp)
    have hl := rv.length
    have pt : s.heap.IsTuple a its.toArray := p
    have D := Draws.tuple (prog := X.prog) (w := X.w) (A := X.A.in1) (I.ok.hd hc) it a hai its.toArray
    have ei : its.toArray.size = i := by simp; omega
    rw [ei] at D
    exact wpAny_pyNext_enum_endD D he ⟨hit, pt⟩ fun h' eb => ⟨rfl, I.turned (t' := s.toks) (fun b o hb q => eb b o hb q) f0 f1 f3 f4 f5⟩
  self := fun A i s Q E st h => let ⟨⟨_, he⟩, _⟩ := st; wpAny_pyIter_enum he h
def iEnumT (K : PySem.W.Frag) (ta : TA) : TI := fun σ H R => ta σ H fun vs H1 => ∃ a xs, vs = [.ref a] ∧ SqT K H1 a xs ∧ R (IteT K a) H1
theorem pi_enumT {X : Cx} {e : Expr} {ta : TA} {p pos tpos : Pos} {elts : List Expr} {kk : Nat} (hg : Gl X "enumerate") (hm : X.mg "enumerate" = none) (ha : PA X [e] ta) (hs : starEach [e] X.env = [(false, eval e X.env)] := by rfl) :
    PI X (.Tuple elts kk tpos) (.Call (.Name "enumerate" p) [e] [] pos) (iEnumT X.K ta) := by
  refine ⟨fun pins s σ H R I h => ?_⟩
  refine Call_ (ld_blt I hg hm boot_enumerate (PyProof.Rows.callWith_type1 (thn (ha.run pos pins s σ H _ I h) fun us s1 ⟨vs, H1, I1, r1, q1⟩ => ?_) hs rfl))
  obtain ⟨a, xs, ex, hq, q⟩ := q1
  subst ex
  cases r1 with
  | cons r rr =>
    cases rr
    cases r
    obtain ⟨its, rv, p', hz⟩ := I1.tuple hq
    have pt : s1.heap.IsTuple a its.toArray := p'
    have la : a < s1.heap.objs.size := by obtain ⟨_, q, _⟩ := pt; exact Heap.lt_size q
    refine call_enumB (begins_tuple a its.toArray) pt fun h' he hit hsz hk => wpAny_pyIter_enum he ?_
    have I2 : Inv X pins σ H1 { s1 with heap := h' } := I1.kept (t' := s1.toks) hk
    refine ⟨s1.heap.objs.size + 1, [s1.heap.objs.size + 1, s1.heap.objs.size], _, _, H1, rfl, I2, turn_enumT a (s1.heap.objs.size + 1) s1.heap.objs.size, ⟨⟨.none, he⟩, ⟨_, hit, rfl, rfl⟩, Nat.succ_ne_self _, Nat.ne_of_lt (Nat.lt_succ_of_lt la), Nat.ne_of_lt la⟩, fun b hb => ?_, q⟩
    have e' : b = s1.heap.objs.size + 1 ∨ b = s1.heap.objs.size := by simpa using hb
    have hle : s1.heap.objs.size ≤ b := by
      rcases e' with z | z
      · rw [z]; exact Nat.le_add_right _ _
      · rw [z]; exact Nat.le_refl _
    exact I1.fpOk hle (I1.hok.fresh hle)
theorem walk_enumT {K : PySem.W.Frag} {a : Addr} {xs : List V} : Walk (IteT K a) xs.length (fun H => SqT K H a xs) (YPair (fun i => some (.int (i : Nat))) (fun i => xs[i]?)) := by
  refine ⟨fun i _ hi q => ⟨xs, xs[i], q, by simp [hi]⟩, fun _ q => ⟨xs, q, rfl⟩, fun i H v H' _ q y => ?_⟩
  obtain ⟨T, x, h1, h2, h3, h4⟩ := y
  exact ⟨T, .int (i : Nat), x, h1, h2, h3, rfl, h4 xs q⟩
/-! ## a dict comprehension over any walk -/
theorem dc_it {J : It} {n : Nat} {G : Hp → Prop} {Y : Nat → Hp → V → Hp → Prop} (wk : Walk J n G Y) {g : TG} {tt : TT} {tk tv : TE} {vs : List Nat} {σ : St} {H1 : Hp} {D : Addr} {Qd : Hp → Prop} (Pv : Nat → Hp → Prop) (h0 : Pv 0 (upd H1 D (.dK []))) (hG : ∀ i H, i ≤ n → Pv i H → G H)
    (hs : ∀ i x H H', i < n → Pv i H → Y i H x H' → g x (wipe σ vs) H' fun σ2 H2 => wipe σ2 vs = wipe σ vs ∧ tt σ2 H2 fun b H3 =>
      if b = true then tk σ2 H3 fun y H4 => tv σ2 H4 fun z H5 => ∃ kvs k, y = kV k ∧ H5 D = some (.dK kvs) ∧ kvs.length < sizeLine ∧ Pv (i + 1) (upd H5 D (.dK (putK kvs k z))) else Pv (i + 1) H3) (hd : ∀ H, Pv n H → Qd H) :
    ∃ W : Nat → Nat → Hp → Prop, (∃ m, W 0 m (upd H1 D (.dK []))) ∧ ∀ i m H, W i m H →
      (J.stop i H ∧ Qd H) ∨ (J.go i H ∧ ∃ Nx : Hp → Prop, (∀ H', Nx H' → ∃ m', m' < m ∧ W (i + 1) m' H') ∧ ∀ x H', J.yld i H x H' → g x (wipe σ vs) H' fun σ2 H2 => wipe σ2 vs = wipe σ vs ∧ tt σ2 H2 fun b H3 =>
        if b = true then tk σ2 H3 fun y H4 => tv σ2 H4 fun z H5 => ∃ kvs k, y = kV k ∧ H5 D = some (.dK kvs) ∧ kvs.length < sizeLine ∧ Nx (upd H5 D (.dK (putK kvs k z))) else Nx H3) := by
  refine ⟨fun i m H => m = n - i ∧ i ≤ n ∧ Pv i H, ⟨n, by simp, Nat.zero_le _, h0⟩, ?_⟩
  rintro i m H ⟨rfl, hi, p⟩
  have q := hG i H hi p
  rcases Nat.lt_or_ge i n with hlt | hge
  · exact .inr ⟨wk.goes i H hlt q, Pv (i + 1), fun H' p' => ⟨n - (i + 1), by omega, rfl, hlt, p'⟩, fun x H' y => hs i x H H' hlt p (wk.yields i H x H' hlt q y)⟩
  · obtain rfl : i = n := by omega
    exact .inl ⟨wk.stops H q, hd H p⟩
/-! ## a + b by an own __add__ -/
structure AddOf (K : PySem.W.Frag) (C f : Addr) : Prop where
  sf : PySem.W.selfFirst K C = true
  at_ : PySem.W.findIn K (.ref C) "__add__" = some (some (.ref f))
  fn : PySem.W.isFn K (.ref f) = true
def rAddO (C : Addr) (sp : Sp) : R2 := fun x y H Q => ∃ a b dx dy fs gs, x = .ref a ∧ y = .ref b ∧ H a = some (.ins C dx fs) ∧ H b = some (.ins C dy gs) ∧ sp [.ref a, .ref b] H (fun v H' => (∃ p, v = .ref p) ∧ Q v H') E0
section
variable {X : Cx} {CX : CXT} {k : Nat} {C f : Addr} {fd : FuncData} {ps : List Str} {sp : Sp}
theorem op_addO (c : Cls X.K C) (ha : AddOf X.K C f) (F : FnOk X.prog X.w X.K X.mg X.base CX k f fd ps sp) (hr : Room k X.A) (hb : Binds X.K fd ps []) (hx : Passes CX X E0) : OpR X (binaryOp .Add) (rAddO C sp) := by
  intro pins s σ H x y v u Q I rx ry h
  obtain ⟨a, b, dx, dy, fs, gs, rfl, rfl, ea, eb, h⟩ := h
  obtain rfl : v = Value.ref a := rx
  obtain rfl : u = Value.ref b := ry
  obtain ⟨mA, O, _, _, _, _⟩ := ins_get I.hok ea
  obtain ⟨mB, O2, _, _, _, _⟩ := ins_get I.hok eb
  obtain ⟨od, J, _⟩ := O.look
  obtain ⟨od2, J2, _⟩ := O2.look
  have e := run_fn (us := [Value.ref a, .ref b]) (vs := [.ref a, .ref b]) F hr hb .nil hx I (.cons rfl (.cons rfl .nil)) h
  obtain ⟨m, hF⟩ := I.fr
  refine PySem.W.binop_K hF I.ok.mod.kin J J2.type ha.sf ha.at_ ha.fn (wpAny_mono e (fun r s' hq => ?_) fun _ _ z => z)
  obtain ⟨z, H', I', rz, ⟨p, rfl⟩, q⟩ := hq
  obtain rfl : r = Value.ref p := rz
  exact ⟨.ref p, H', I', (rfl : Value.ref p = Value.ref p), q⟩
end
end L2.Ex

namespace L2.Ex
open PySem PySem.Spec PyProof.Rows
/-! ## rules whose readings name the fragment by hand (for blocks of comprehensions) -/
section
variable {X : Cx} {K : PySem.W.Frag}
theorem ixL (h : X.K = K) : IxR X (rIxL K) := h ▸ ix_list
theorem ixT (h : X.K = K) : IxR X (rIxT K) := h ▸ ix_tup
theorem pgTup {es : List Expr} {k : Nat} {t : TGs} {n : Nat} {pos : Pos} (h : X.K = K) (hc : X.calm = true) (ht : PGs X es t) (hn : (assignEach es X.env).length = n := by rfl) (hst : (assignEach es X.env).findIdx? (·.1) = none := by rfl) : PG X (.Tuple es k pos) (gTup K n t) :=
  h ▸ pg_tup hc ht hn hst
theorem peFld {e : Expr} {f : Str} {pos : Pos} {ta : TE} (h : X.K = K) (he : PE X e ta) (hb : attributeBase e f X.env (eval e X.env) = eval e X.env) : PE X (.Attribute e f pos) (tFld K ta f) := h ▸ pe_fld he hb
theorem opEqD (h : X.K = K) (hu : X.A.units + 64 < cLine) : OpR X (compareOp .Eq) (rEqD K) := h ▸ op_eqD hu
theorem callTupOf (h : X.K = K) : CallR X (.type "tuple") (fun xs H Q => ∃ p ys, xs = [.ref p] ∧ ((SqL K H p ys ∧ ∀ l, H l = none → Q (.ref l) (upd H l (.tup ys))) ∨ (SqT K H p ys ∧ Q (.ref p) H))) := h ▸ call_tuple_of
theorem mtIndex (h : X.K = K) : MtR X "list.index" (rIndex K) := h ▸ mt_index
theorem piList {tg l : Expr} {tl : TE} (h : X.K = K) (hl : PE X l tl) : PI X tg l (iList K tl) := h ▸ pi_list hl
theorem piTup {tg l : Expr} {tl : TE} (h : X.K = K) (hl : PE X l tl) : PI X tg l (iTup K tl) := h ▸ pi_tup hl
/-- name = {..} on one line -/
theorem ps_setDc {i : Nat} {y : Str} {py : Pos} {kx vx tg iter : Expr} {ifs : List Expr} {scope : Scope} {own : List (Str × Nat)} {pos spos : Pos} {wi : TI} {g : TG} {tt : TT} {tk tv : TE} (hc : X.calm = true) (hN : X.N.Nodup) (hy : X.N[i]? = some y) (hyl : X.env.scope.names.lookup y = some .local)
    (hsw : swapsWith (.DictComp kx vx [⟨tg, iter, ifs, 0⟩] scope pos) (some (.Name y py)) spos.line X.env = pure true) (hi : PI X tg iter wi) (ok : BlkOk X.N X.env.scope scope own)
    (hg : ∀ (s : Shared) (H : Hp) (C : Addr) (cl : List (Str × Addr)) (fp : List Addr), PG (X.blk s H scope (compEnvC scope cl C X.env) fp) tg g) (ht : ∀ (s : Shared) (H : Hp) (C : Addr) (cl : List (Str × Addr)) (fp : List Addr), PTs (X.blk s H scope (compEnvC scope cl C X.env) fp) ifs tt)
    (hk : ∀ (s : Shared) (H : Hp) (C : Addr) (cl : List (Str × Addr)) (fp : List Addr), PE (X.blk s H scope (compEnvC scope cl C X.env) fp) kx tk)
    (he : ∀ (s : Shared) (H : Hp) (C : Addr) (cl : List (Str × Addr)) (fp : List Addr), PE (X.blk s H scope (compEnvC scope cl C X.env) fp) vx tv) (hs : ∀ x, foldedSetIterable iter X.env x = pure x := by intro _; rfl) :
    PS X (.Assign [.Name y py] (.DictComp kx vx [⟨tg, iter, ifs, 0⟩] scope pos) spos) (tAsg (tDc wi g tt tk tv (own.map (·.2))) (gName i)) := by
  refine ⟨fun pins s σ H D I h => ?_⟩
  rw [exec_Assign_Name_used _ _ _ _ hsw]
  refine wpAny_bind (wpAny_standAt (wpAny_bind ?_))
  show wpAny _ X.A (do let _ ← comprehension (.DictComp kx vx [⟨tg, iter, ifs, 0⟩] scope pos) scope X.env (firstIterPos [⟨tg, iter, ifs, 0⟩] pos) newDict false (eval iter X.env) (some (assign (.Name y py) X.env))) _ _ s
  have h : tDc wi g tt tk tv (own.map (·.2)) σ H (fun x H1 => gName i x σ H1 D.nx) := h
  refine wpAny_bind (thn (dc_core (Qf := fun _ s' => SP X pins D .next s') hc hN I hi ok hg ht hk he hs h fun L C s' m H' I' q hn f => ?_) fun _ s' hq => wpAny_pure (wpAny_pure hq))
  show wpAny _ _ (assign (.Name y py) X.env (.ref L)) _ _ _
  obtain ⟨f0, f1, f2, f3, f4, f5⟩ := f
  refine wpAny_assign_Name (store_ok2 (v := V.ref L) I' hN hy (.inl hyl) rfl (fun s2 I2 ⟨a, sb, ha⟩ => ?_) (.inr hyl))
  have haC : C ≠ a := ha.elim (fun z => by rw [z]; exact f1) fun z e => f4 y a z e.symm
  exact ⟨m, hn.sameBut sb haC, fun h3 sb3 => ⟨_, H', I2.turned (t' := s2.toks) (fun b o hb e => (sb3.2 b hb).trans e) f0 f1 f3 f4 f5, q⟩⟩
theorem sw_trueD {kx vx : Expr} {gs : List Comprehension} {scope : Scope} {pos py : Pos} {y : Str} {l : Nat} {env : Env} (hk : env.scope.kind = .function) (hy : env.scope.names.lookup y = some .local) (hl : (py.line == pos.line) = true)
    (ha : (scope.names.any fun (n, k) => n == y && (k == .local || k == .cell)) = false) : swapsWith (.DictComp kx vx gs scope pos) (some (.Name y py)) l env = pure true := by
  have ky : env.kindOf y = some .local := hy
  have hb : env.blockKind = .function := by unfold Env.blockKind; rw [hk]; rfl
  unfold swapsWith
  simp only [hb, ky, ha, Expr.pos, hl]
  rfl
end
end L2.Ex

namespace L2.Ex
open PySem PySem.Spec PyProof.Rows L2H
/-! ## a def that raises nothing, called within an except suite -/
structure PnOk (P : Program) (w : World) (K : PySem.W.Frag) (mg : Str → Option Value) (base : Heap) (k : Nat) (f : Addr) (fd : FuncData) (ps : List Str) (sp : Sp) : Prop where
  len : ∀ vs H Q E, sp vs H Q E → vs.length = ps.length
  run : ∀ (A : Around) (outer : List Env) (s : Shared) (H : Hp) (args : Args) (us : List Value) (vs : List V) (Q : VK) (E : XK) (p : Addr × Obj),
    RoomH k A → PinOk outer H s p → Env0 P w K mg base A outer s H → BindsTo s fd args (ps.zip us) → Vals vs us → sp vs H Q E → codeAny (model P w) A (.call (.ref f) args) (CR CX0 outer P w H s Q E) s
section
variable {P : Program} {w : World} {K : PySem.W.Frag} {mg : Str → Option Value} {base : Heap}
theorem pn_ok {x qual : Str} {st : Stmt} {f : Addr} {fd : FuncData} {N ps : List Str} {k : Nat} {sp : Sp} (F : Fun K x qual st f fd) (S : FnScope N ps (defScope st)) (len : ∀ vs H Q E, sp vs H Q E → vs.length = ps.length)
    (hbody : ∀ (cdv : Value) (A : Around) (outer : List Env) (s : Shared) (H : Hp) (vs : List V) (Q : VK) (E : XK) (p : Addr × Obj), RoomH k (A.deeper (envOfC qual (defScope st) s.heap.objs.size f cdv)) → sp vs H Q E →
      ∃ t, PSs (cxH CX0 P w K mg base N qual (defScope st) f cdv A outer s H E p) (defBody st) t ∧ t { nx := fun _ H' => Q .non H', rt := Q } (start N vs) H) :
    PnOk P w K mg base (k + 1) f fd ps sp := by
  obtain ⟨oc, od, kV, doc, pm, an, cdv, ct, osl, e, lk, hcd⟩ := F.ex
  subst e
  constructor
  · exact len
  intro A outer s H args us vs Q E p hr hpin e0 hb r hsp
  have hl := len _ _ _ _ hsp
  have keep : ∀ b o, base.get? b = some o → s.heap.get? b = some o := fun b o e => (e0.bs b o e).1
  have KX : K.In s.heap := e0.mod.kin.keeps keep
  have lim : s.heap.NoLimit := e0.mod.nolimit.keeps keep
  have kinds : ∀ y ∈ ps.zip us, (defScope st).names.lookup y.1 = some .local ∨ ((defScope st).names.lookup y.1 = some .cell ∧ ((cellsFrom (s.heap.objs.size + 1) (defScope st).names []).lookup y.1).isSome = true) := by
    intro y hy
    have hm : y.1 ∈ ps := (List.of_mem_zip (a := y.1) (b := y.2) hy).1
    exact (S.par y.1 hm).imp (fun q => q) fun q => ⟨q, PySem.W.cellsFrom_some _ _ _ (.inl q)⟩
  refine codeAny_call_function hr.depth (KX _ _ lk) rfl S.co S.gen rfl (PySem.W.codeRec_of KX hcd) (hb _ _ _ _ (wpAny_newFunctionEnv_cells S.kind kinds ?_))
  intro env he s1 x
  cases he
  obtain ⟨t, ht, hq⟩ := hbody cdv A outer s H vs Q E p (hr.deeper _) hsp
  have I := inv_startH (E := E) (CX := CX0) S hpin e0 hl r x
  have fin : ∀ {σ' : St} {H' : Hp} {v : V} {u : Value} {s' : Shared}, Inv (cxH CX0 P w K mg base N qual (defScope st) f cdv A outer s H E p) [] σ' H' s' → RelV v u → Q v H' → CE outer P w H s Q u s' := by
    intro σ' H' v u s' J rv q
    exact ⟨v, H', J.os, J.bare, J.base, J.hok, rv, q⟩
  refine ⟨lim.keeps x.toInCall.keep, codeAny_func (wpAny_mono (ht.run [] s1 (start N vs) H _ I hq) ?_ fun _ _ z => z)⟩
  intro fl s' hs
  match fl, hs with
  | .ret u, ⟨v, σ', H', J, rv, q⟩ => exact fin J rv q
  | .next, ⟨σ', H', J, q⟩ => exact fin (v := V.non) (u := Value.none) J rfl q
  | .brk, ⟨_, _, _, q⟩ => exact q.elim
  | .cont, ⟨_, _, _, q⟩ => exact q.elim
end
section
variable {X : Cx} {k : Nat} {f : Addr} {fd : FuncData} {ps : List Str} {sp : Sp} {x : Str} {p pos : Pos} {e : Expr} {es : List Expr} {t : TA}
theorem pe_pcall (F : PnOk X.prog X.w X.K X.mg X.base k f fd ps sp) (hr : RoomH k X.A) (hpn : ∃ q, q ∈ X.pn) (hg : Gl X x) (hm : X.mg x = some (.ref f)) (hk : PySem.W.keepIn X.K (.ref f) = true) (hb : Binds X.K fd ps []) (ha : PA X (e :: es) t)
    (hdb : (x == ("__debug__" : Str)) = false := by decide) (he : starEach (e :: es) X.env = (false, eval e X.env) :: starEach es X.env := by rfl) (hpl : (backTo pos (starEach es X.env)).any (·.1) = false := by rfl) :
    PE X (.Call (.Name x p) (e :: es) [] pos) (tCall sp [] E0 t) := by
  constructor
  intro pins s σ H Q I h
  obtain ⟨q, hq⟩ := hpn
  refine wpAny_Call_Name_kw (ld_glob I hg hm (PySem.W.callWith_K (h₀ := X.base) I.ok.mod.kin hk (thn (ha.run pos pins s σ H _ I h) ?_) he hpl) hdb)
  rintro us s1 ⟨vs, H1, I1, r, h1⟩
  refine ⟨I1.kIn, ?_⟩
  have h1 : sp (vs ++ []) H1 Q E0 := h1
  rw [List.append_nil] at h1
  have ll : us.length = ps.length := r.length.symm.trans (F.len _ _ _ _ h1)
  have bb := hb s1 us I1.kIn (by rw [List.append_nil]; exact ll)
  rw [List.append_nil] at bb
  have P1 := I1.pin q (List.mem_append_left _ hq)
  have pin : PinOk X.stack H1 s1 q := by
    refine ⟨P1.1, P1.2.1, ?_, P1.2.2.2.2⟩
    intro hm
    rcases List.mem_cons.mp (I1.stkSub q.1 hm) with z | z
    · exact P1.2.2.1 z
    · exact P1.2.2.2.1 z
  refine wpAny_call (codeAny_mono (F.run X.A X.stack s1 H1 ⟨us, []⟩ us vs Q E0 q hr pin I1.env0 bb r h1) ?_)
  intro res s' hres
  match res, hres with
  | .error er, hres => exact (pass0 (X := X) pins σ H1 s1 er s' I1 hres)
  | .ok (.ret u), hres => exact I1.after hres
  | .ok .next, hres => exact hres.elim
  | .ok .brk, hres => exact hres.elim
  | .ok .cont, hres => exact hres.elim
end
end L2.Ex

namespace L2.Cd
open PySem PySem.Spec PyProof.Rows L2.Ex
def top (i : Nat) : Stmt := PySem.Challenge.pw_colonnade_k70_carries_added.main.body.getD i (.Pass ⟨0, 0, 0, 0⟩)
abbrev s_NoCode_init : Stmt := inClass (top 3) 0
abbrev s_NoTable_init : Stmt := inClass (top 4) 0
abbrev s_NoBook_init : Stmt := inClass (top 5) 0
abbrev s_in_order : Stmt := top 7
abbrev s_told_by_first : Stmt := top 8
abbrev s_kept_by : Stmt := top 9
abbrev s_Carry_init : Stmt := inClass (top 11) 0
abbrev s_Carry_new_place : Stmt := inClass (top 11) 1
abbrev s_Carry_new_code : Stmt := inClass (top 11) 2
abbrev s_Carry_keeps_places : Stmt := inClass (top 11) 3
abbrev s_Carry_keeps_codes : Stmt := inClass (top 11) 4
abbrev s_Carry_add : Stmt := inClass (top 11) 5
abbrev s_law_digits : Stmt := top 13
abbrev s_law_draw : Stmt := top 14
abbrev s_law_apart : Stmt := top 15
abbrev s_law_keeps : Stmt := top 16
abbrev s_law_kept : Stmt := top 17
abbrev s_law_places : Stmt := top 18
abbrev s_law_codes : Stmt := top 19
abbrev s_law_olds : Stmt := top 20
abbrev s_law_int : Stmt := top 21
abbrev s_law_row : Stmt := top 22
abbrev s_law_relation : Stmt := top 23
abbrev s_law_refused : Stmt := top 24
abbrev s_law_missing : Stmt := top 25
abbrev s_law_one_table : Stmt := top 26
abbrev s_law_one_book : Stmt := top 27
abbrev s_law_carry : Stmt := top 28
abbrev s_law_made : Stmt := top 29
abbrev s_law_through : Stmt := top 30
abbrev s_law_led : Stmt := top 31
abbrev s_law_least : Stmt := top 32
abbrev s_law_moments : Stmt := top 33
abbrev s_law_two_rows : Stmt := top 34
abbrev s_law_two_books : Stmt := top 35
abbrev s_law : Stmt := top 36
theorem sc_NoCode_init : FnScope ["self", "code"] ["self", "code"] (defScope s_NoCode_init) := ⟨rfl, rfl, rfl, by decide +kernel, rfl, by decide +kernel, by decide +kernel⟩
theorem sc_NoTable_init : FnScope ["self", "name"] ["self", "name"] (defScope s_NoTable_init) := ⟨rfl, rfl, rfl, by decide +kernel, rfl, by decide +kernel, by decide +kernel⟩
theorem sc_NoBook_init : FnScope ["self", "name"] ["self", "name"] (defScope s_NoBook_init) := ⟨rfl, rfl, rfl, by decide +kernel, rfl, by decide +kernel, by decide +kernel⟩
theorem sc_in_order : FnScope ["ordered", "value", "code", "above", "other"] ["ordered"] (defScope s_in_order) := ⟨rfl, rfl, rfl, by decide +kernel, rfl, by decide +kernel, by decide +kernel⟩
theorem sc_told_by_first : FnScope ["ordered", "pair", "other"] ["ordered"] (defScope s_told_by_first) := ⟨rfl, rfl, rfl, by decide +kernel, rfl, by decide +kernel, by decide +kernel⟩
theorem sc_kept_by : FnScope ["pairs", "ordered", "shifts", "value", "code"] ["pairs"] (defScope s_kept_by) := ⟨rfl, rfl, rfl, by decide +kernel, rfl, by decide +kernel, by decide +kernel⟩
theorem sc_Carry_init : FnScope ["self", "places", "codes", "moments", "table", "book", "old"] ["self", "places", "codes", "moments"] (defScope s_Carry_init) := ⟨rfl, rfl, rfl, by decide +kernel, rfl, by decide +kernel, by decide +kernel⟩
theorem sc_Carry_new_place : FnScope ["self", "table", "old"] ["self", "table", "old"] (defScope s_Carry_new_place) := ⟨rfl, rfl, rfl, by decide +kernel, rfl, by decide +kernel, by decide +kernel⟩
theorem sc_Carry_new_code : FnScope ["self", "book", "old"] ["self", "book", "old"] (defScope s_Carry_new_code) := ⟨rfl, rfl, rfl, by decide +kernel, rfl, by decide +kernel, by decide +kernel⟩
theorem sc_Carry_keeps_places : FnScope ["self", "table", "places", "old", "new"] ["self", "table"] (defScope s_Carry_keeps_places) := ⟨rfl, rfl, rfl, by decide +kernel, rfl, by decide +kernel, by decide +kernel⟩
theorem sc_Carry_keeps_codes : FnScope ["self", "book", "codes", "old"] ["self", "book"] (defScope s_Carry_keeps_codes) := ⟨rfl, rfl, rfl, by decide +kernel, rfl, by decide +kernel, by decide +kernel⟩
theorem sc_Carry_add : FnScope ["self", "other", "places", "codes", "table", "new", "book", "old"] ["self", "other"] (defScope s_Carry_add) := ⟨rfl, rfl, rfl, by decide +kernel, rfl, by decide +kernel, by decide +kernel⟩
theorem sc_law_digits : FnScope ["_law_script", "_law_cell"] ["_law_script"] (defScope s_law_digits) := ⟨rfl, rfl, rfl, by decide +kernel, rfl, by decide +kernel, by decide +kernel⟩
theorem sc_law_draw : FnScope ["_law_pool", "_law_many", "_law_digit"] ["_law_pool", "_law_many"] (defScope s_law_draw) := ⟨rfl, rfl, rfl, by decide +kernel, rfl, by decide +kernel, by decide +kernel⟩
theorem sc_law_apart : FnScope ["_law_one", "_law_two", "_law_rank"] ["_law_one", "_law_two", "_law_rank"] (defScope s_law_apart) := ⟨rfl, rfl, rfl, by decide +kernel, rfl, by decide +kernel, by decide +kernel⟩
theorem sc_law_keeps : FnScope ["_law_pairs", "_law_rank", "_law_one", "_law_two"] ["_law_pairs", "_law_rank"] (defScope s_law_keeps) := ⟨rfl, rfl, rfl, by decide +kernel, rfl, by decide +kernel, by decide +kernel⟩
theorem sc_law_kept : FnScope ["_law_pairs", "_law_best", "_law_rank"] ["_law_pairs"] (defScope s_law_kept) := ⟨rfl, rfl, rfl, by decide +kernel, rfl, by decide +kernel, by decide +kernel⟩
theorem sc_law_places : FnScope ["_law_pool", "_law_many", "_law_left", "_law_k", "_law_mode", "_law_row_here", "_law_at"] ["_law_pool", "_law_many"] (defScope s_law_places) := ⟨rfl, rfl, rfl, by decide +kernel, rfl, by decide +kernel, by decide +kernel⟩
theorem sc_law_codes : FnScope ["_law_pool", "_law_olds_here", "_law_ranks", "_law_mode", "_law_shift", "_law_table", "_law_old", "_law_rank", "_law_news"] ["_law_pool", "_law_olds_here"] (defScope s_law_codes) := ⟨rfl, rfl, rfl, by decide +kernel, rfl, by decide +kernel, by decide +kernel⟩
theorem sc_law_olds : FnScope ["_law_pool", "_law_many", "_law_low", "_law_olds_here", "_law_k", "_law_at"] ["_law_pool", "_law_many", "_law_low"] (defScope s_law_olds) := ⟨rfl, rfl, rfl, by decide +kernel, rfl, by decide +kernel, by decide +kernel⟩
theorem sc_law_int : FnScope ["_law_told", "_law_due"] ["_law_told", "_law_due"] (defScope s_law_int) := ⟨rfl, rfl, rfl, by decide +kernel, rfl, by decide +kernel, by decide +kernel⟩
theorem sc_law_row : FnScope ["_law_told", "_law_due", "_law_k"] ["_law_told", "_law_due"] (defScope s_law_row) := ⟨rfl, rfl, rfl, by decide +kernel, rfl, by decide +kernel, by decide +kernel⟩
theorem sc_law_relation : FnScope ["_law_told", "_law_pairs", "_law_names"] ["_law_told", "_law_pairs"] (defScope s_law_relation) := ⟨rfl, rfl, rfl, by decide +kernel, rfl, by decide +kernel, by decide +kernel⟩
theorem sc_law_refused : FnScope ["_law_which", "_law_carry_here", "_law_name", "e"] ["_law_which", "_law_carry_here", "_law_name"] (defScope s_law_refused) := ⟨rfl, rfl, rfl, by decide +kernel, rfl, by decide +kernel, by decide +kernel⟩
theorem sc_law_missing : FnScope ["_law_carry_here", "_law_book", "_law_code", "e"] ["_law_carry_here", "_law_book", "_law_code"] (defScope s_law_missing) := ⟨rfl, rfl, rfl, by decide +kernel, rfl, by decide +kernel, by decide +kernel⟩
theorem sc_law_one_table : FnScope ["_law_carry_here", "_law_name", "_law_row_here", "_law_pairs", "_law_k"] ["_law_carry_here", "_law_name", "_law_row_here"] (defScope s_law_one_table) := ⟨rfl, rfl, rfl, by decide +kernel, rfl, by decide +kernel, by decide +kernel⟩
theorem sc_law_one_book : FnScope ["_law_carry_here", "_law_name", "_law_table", "_law_pairs", "_law_old"] ["_law_carry_here", "_law_name", "_law_table"] (defScope s_law_one_book) := ⟨rfl, rfl, rfl, by decide +kernel, rfl, by decide +kernel, by decide +kernel⟩
theorem sc_law_carry : FnScope ["_law_carry_here", "_law_rows", "_law_tables", "_law_name", "_law_which"] ["_law_carry_here", "_law_rows", "_law_tables"] (defScope s_law_carry) := ⟨rfl, rfl, rfl, by decide +kernel, rfl, by decide +kernel, by decide +kernel⟩
theorem sc_law_made : FnScope ["_law_rows", "_law_tables", "_law_moments_here", "_law_lists", "_law_places_here", "_law_name", "_law_codes_here", "_law_kept_here", "_law_handed", "_law_carry_here"] ["_law_rows", "_law_tables", "_law_moments_here", "_law_lists"] (defScope s_law_made) := ⟨rfl, rfl, rfl, by decide +kernel, rfl, by decide +kernel, by decide +kernel⟩
theorem sc_law_through : FnScope ["_law_first", "_law_second", "_law_row_here", "_law_place"] ["_law_first", "_law_second"] (defScope s_law_through) := ⟨rfl, rfl, rfl, by decide +kernel, rfl, by decide +kernel, by decide +kernel⟩
theorem sc_law_led : FnScope ["_law_first", "_law_second", "_law_table", "_law_old"] ["_law_first", "_law_second"] (defScope s_law_led) := ⟨rfl, rfl, rfl, by decide +kernel, rfl, by decide +kernel, by decide +kernel⟩
theorem sc_law_least : FnScope ["_law_told", "_law_names", "_law_ranks", "_law_one"] ["_law_told"] (defScope s_law_least) := ⟨rfl, rfl, rfl, by decide +kernel, rfl, by decide +kernel, by decide +kernel⟩
theorem sc_law_moments : FnScope ["_law_pool", "_law_moments_here", "_law_k"] ["_law_pool"] (defScope s_law_moments) := ⟨rfl, rfl, rfl, by decide +kernel, rfl, by decide +kernel, by decide +kernel⟩
theorem sc_law_two_rows : FnScope ["_law_pool", "_law_many", "_law_first", "_law_second"] ["_law_pool", "_law_many"] (defScope s_law_two_rows) := ⟨rfl, rfl, rfl, by decide +kernel, rfl, by decide +kernel, by decide +kernel⟩
theorem sc_law_two_books : FnScope ["_law_pool", "_law_many", "_law_olds_here", "_law_first", "_law_news", "_law_more", "_law_second", "_law_old"] ["_law_pool", "_law_many"] (defScope s_law_two_books) := ⟨rfl, rfl, rfl, by decide +kernel, rfl, by decide +kernel, by decide +kernel⟩
theorem sc_law : FnScope ["_law_script", "_law_pool", "_law_names", "_law_books", "_law_rows", "_law_tables", "_law_name", "_law_drawn", "_law_k", "_law_lists", "_law_made_here", "_law_moments_here", "_law_carry_here"] ["_law_script"] (defScope s_law) := ⟨rfl, rfl, rfl, by decide +kernel, rfl, by decide +kernel, by decide +kernel⟩
/-- where the top has laid the classes, the defs, the properties -/
structure Ad where
  c_ColonnadeError : Addr
  c_NoCode : Addr
  c_NoTable : Addr
  c_NoBook : Addr
  c_Carry : Addr
  f_NoCode_init : Addr
  f_NoTable_init : Addr
  f_NoBook_init : Addr
  f_in_order : Addr
  f_told_by_first : Addr
  f_kept_by : Addr
  f_Carry_init : Addr
  f_Carry_new_place : Addr
  f_Carry_new_code : Addr
  f_Carry_keeps_places : Addr
  f_Carry_keeps_codes : Addr
  f_Carry_add : Addr
  f_law_digits : Addr
  f_law_draw : Addr
  f_law_apart : Addr
  f_law_keeps : Addr
  f_law_kept : Addr
  f_law_places : Addr
  f_law_codes : Addr
  f_law_olds : Addr
  f_law_int : Addr
  f_law_row : Addr
  f_law_relation : Addr
  f_law_refused : Addr
  f_law_missing : Addr
  f_law_one_table : Addr
  f_law_one_book : Addr
  f_law_carry : Addr
  f_law_made : Addr
  f_law_through : Addr
  f_law_led : Addr
  f_law_least : Addr
  f_law_moments : Addr
  f_law_two_rows : Addr
  f_law_two_books : Addr
  f_law : Addr
structure Fd where
  f_NoCode_init : FuncData
  f_NoTable_init : FuncData
  f_NoBook_init : FuncData
  f_in_order : FuncData
  f_told_by_first : FuncData
  f_kept_by : FuncData
  f_Carry_init : FuncData
  f_Carry_new_place : FuncData
  f_Carry_new_code : FuncData
  f_Carry_keeps_places : FuncData
  f_Carry_keeps_codes : FuncData
  f_Carry_add : FuncData
  f_law_digits : FuncData
  f_law_draw : FuncData
  f_law_apart : FuncData
  f_law_keeps : FuncData
  f_law_kept : FuncData
  f_law_places : FuncData
  f_law_codes : FuncData
  f_law_olds : FuncData
  f_law_int : FuncData
  f_law_row : FuncData
  f_law_relation : FuncData
  f_law_refused : FuncData
  f_law_missing : FuncData
  f_law_one_table : FuncData
  f_law_one_book : FuncData
  f_law_carry : FuncData
  f_law_made : FuncData
  f_law_through : FuncData
  f_law_led : FuncData
  f_law_least : FuncData
  f_law_moments : FuncData
  f_law_two_rows : FuncData
  f_law_two_books : FuncData
  f_law : FuncData
structure Tx (K : PySem.W.Frag) (mg : Str → Option Value) (A : Ad) (D : Fd) : Prop where
  b_isinstance : mg "isinstance" = none
  b_int : mg "int" = none
  b_bool : mg "bool" = none
  b_list : mg "list" = none
  b_len : mg "len" = none
  b_min : mg "min" = none
  b_max : mg "max" = none
  b_sorted : mg "sorted" = none
  b_range : mg "range" = none
  b_dict : mg "dict" = none
  b_abs : mg "abs" = none
  b_all : mg "all" = none
  b_zip : mg "zip" = none
  b_enumerate : mg "enumerate" = none
  b_tuple : mg "tuple" = none
  b_str : mg "str" = none
  m_ColonnadeError : mg "ColonnadeError" = some (.ref A.c_ColonnadeError)
  m_NoCode : mg "NoCode" = some (.ref A.c_NoCode)
  m_NoTable : mg "NoTable" = some (.ref A.c_NoTable)
  m_NoBook : mg "NoBook" = some (.ref A.c_NoBook)
  m_Carry : mg "Carry" = some (.ref A.c_Carry)
  F_NoCode_init : Fun K "__init__" "NoCode.__init__" s_NoCode_init A.f_NoCode_init D.f_NoCode_init
  F_NoTable_init : Fun K "__init__" "NoTable.__init__" s_NoTable_init A.f_NoTable_init D.f_NoTable_init
  F_NoBook_init : Fun K "__init__" "NoBook.__init__" s_NoBook_init A.f_NoBook_init D.f_NoBook_init
  m_in_order : mg "in_order" = some (.ref A.f_in_order)
  F_in_order : Fun K "in_order" "in_order" s_in_order A.f_in_order D.f_in_order
  m_told_by_first : mg "told_by_first" = some (.ref A.f_told_by_first)
  F_told_by_first : Fun K "told_by_first" "told_by_first" s_told_by_first A.f_told_by_first D.f_told_by_first
  m_kept_by : mg "kept_by" = some (.ref A.f_kept_by)
  F_kept_by : Fun K "kept_by" "kept_by" s_kept_by A.f_kept_by D.f_kept_by
  F_Carry_init : Fun K "__init__" "Carry.__init__" s_Carry_init A.f_Carry_init D.f_Carry_init
  F_Carry_new_place : Fun K "new_place" "Carry.new_place" s_Carry_new_place A.f_Carry_new_place D.f_Carry_new_place
  me_Carry_new_place : Meth K A.c_Carry "new_place" A.f_Carry_new_place
  F_Carry_new_code : Fun K "new_code" "Carry.new_code" s_Carry_new_code A.f_Carry_new_code D.f_Carry_new_code
  me_Carry_new_code : Meth K A.c_Carry "new_code" A.f_Carry_new_code
  F_Carry_keeps_places : Fun K "keeps_places" "Carry.keeps_places" s_Carry_keeps_places A.f_Carry_keeps_places D.f_Carry_keeps_places
  me_Carry_keeps_places : Meth K A.c_Carry "keeps_places" A.f_Carry_keeps_places
  F_Carry_keeps_codes : Fun K "keeps_codes" "Carry.keeps_codes" s_Carry_keeps_codes A.f_Carry_keeps_codes D.f_Carry_keeps_codes
  me_Carry_keeps_codes : Meth K A.c_Carry "keeps_codes" A.f_Carry_keeps_codes
  F_Carry_add : Fun K "__add__" "Carry.__add__" s_Carry_add A.f_Carry_add D.f_Carry_add
  me_Carry_add : Meth K A.c_Carry "__add__" A.f_Carry_add
  m_law_digits : mg "_law_digits" = some (.ref A.f_law_digits)
  F_law_digits : Fun K "_law_digits" "_law_digits" s_law_digits A.f_law_digits D.f_law_digits
  m_law_draw : mg "_law_draw" = some (.ref A.f_law_draw)
  F_law_draw : Fun K "_law_draw" "_law_draw" s_law_draw A.f_law_draw D.f_law_draw
  m_law_apart : mg "_law_apart" = some (.ref A.f_law_apart)
  F_law_apart : Fun K "_law_apart" "_law_apart" s_law_apart A.f_law_apart D.f_law_apart
  m_law_keeps : mg "_law_keeps" = some (.ref A.f_law_keeps)
  F_law_keeps : Fun K "_law_keeps" "_law_keeps" s_law_keeps A.f_law_keeps D.f_law_keeps
  m_law_kept : mg "_law_kept" = some (.ref A.f_law_kept)
  F_law_kept : Fun K "_law_kept" "_law_kept" s_law_kept A.f_law_kept D.f_law_kept
  m_law_places : mg "_law_places" = some (.ref A.f_law_places)
  F_law_places : Fun K "_law_places" "_law_places" s_law_places A.f_law_places D.f_law_places
  m_law_codes : mg "_law_codes" = some (.ref A.f_law_codes)
  F_law_codes : Fun K "_law_codes" "_law_codes" s_law_codes A.f_law_codes D.f_law_codes
  m_law_olds : mg "_law_olds" = some (.ref A.f_law_olds)
  F_law_olds : Fun K "_law_olds" "_law_olds" s_law_olds A.f_law_olds D.f_law_olds
  m_law_int : mg "_law_int" = some (.ref A.f_law_int)
  F_law_int : Fun K "_law_int" "_law_int" s_law_int A.f_law_int D.f_law_int
  m_law_row : mg "_law_row" = some (.ref A.f_law_row)
  F_law_row : Fun K "_law_row" "_law_row" s_law_row A.f_law_row D.f_law_row
  m_law_relation : mg "_law_relation" = some (.ref A.f_law_relation)
  F_law_relation : Fun K "_law_relation" "_law_relation" s_law_relation A.f_law_relation D.f_law_relation
  m_law_refused : mg "_law_refused" = some (.ref A.f_law_refused)
  F_law_refused : Fun K "_law_refused" "_law_refused" s_law_refused A.f_law_refused D.f_law_refused
  m_law_missing : mg "_law_missing" = some (.ref A.f_law_missing)
  F_law_missing : Fun K "_law_missing" "_law_missing" s_law_missing A.f_law_missing D.f_law_missing
  m_law_one_table : mg "_law_one_table" = some (.ref A.f_law_one_table)
  F_law_one_table : Fun K "_law_one_table" "_law_one_table" s_law_one_table A.f_law_one_table D.f_law_one_table
  m_law_one_book : mg "_law_one_book" = some (.ref A.f_law_one_book)
  F_law_one_book : Fun K "_law_one_book" "_law_one_book" s_law_one_book A.f_law_one_book D.f_law_one_book
  m_law_carry : mg "_law_carry" = some (.ref A.f_law_carry)
  F_law_carry : Fun K "_law_carry" "_law_carry" s_law_carry A.f_law_carry D.f_law_carry
  m_law_made : mg "_law_made" = some (.ref A.f_law_made)
  F_law_made : Fun K "_law_made" "_law_made" s_law_made A.f_law_made D.f_law_made
  m_law_through : mg "_law_through" = some (.ref A.f_law_through)
  F_law_through : Fun K "_law_through" "_law_through" s_law_through A.f_law_through D.f_law_through
  m_law_led : mg "_law_led" = some (.ref A.f_law_led)
  F_law_led : Fun K "_law_led" "_law_led" s_law_led A.f_law_led D.f_law_led
  m_law_least : mg "_law_least" = some (.ref A.f_law_least)
  F_law_least : Fun K "_law_least" "_law_least" s_law_least A.f_law_least D.f_law_least
  m_law_moments : mg "_law_moments" = some (.ref A.f_law_moments)
  F_law_moments : Fun K "_law_moments" "_law_moments" s_law_moments A.f_law_moments D.f_law_moments
  m_law_two_rows : mg "_law_two_rows" = some (.ref A.f_law_two_rows)
  F_law_two_rows : Fun K "_law_two_rows" "_law_two_rows" s_law_two_rows A.f_law_two_rows D.f_law_two_rows
  m_law_two_books : mg "_law_two_books" = some (.ref A.f_law_two_books)
  F_law_two_books : Fun K "_law_two_books" "_law_two_books" s_law_two_books A.f_law_two_books D.f_law_two_books
  m_law : mg "law" = some (.ref A.f_law)
  F_law : Fun K "law" "law" s_law A.f_law D.f_law
  cl_Carry : Cls K A.c_Carry
  mk_Carry : Mk K A.c_Carry A.f_Carry_init
  ad_Carry : AddOf K A.c_Carry A.f_Carry_add
  na_Carry_places : NoAttr K A.c_Carry "places"
  na_Carry_codes : NoAttr K A.c_Carry "codes"
  na_Carry_moments : NoAttr K A.c_Carry "moments"
  ox_NoCode : OexC K A.c_NoCode
  xi_NoCode : PySem.W.findIn K (.ref A.c_NoCode) "__init__" = some (some (.ref A.f_NoCode_init))
  xt_NoCode : PySem.W.typeIn K (.ref A.f_NoCode_init) = some (.type "function")
  xf_NoCode : XfC K A.c_NoCode
  ex_NoCode : ExC K A.c_NoCode
  xn_NoCode_code : PySem.W.findIn K (.ref A.c_NoCode) "code" = some none
  ox_NoTable : OexC K A.c_NoTable
  xi_NoTable : PySem.W.findIn K (.ref A.c_NoTable) "__init__" = some (some (.ref A.f_NoTable_init))
  xt_NoTable : PySem.W.typeIn K (.ref A.f_NoTable_init) = some (.type "function")
  xf_NoTable : XfC K A.c_NoTable
  ex_NoTable : ExC K A.c_NoTable
  xn_NoTable_name : PySem.W.findIn K (.ref A.c_NoTable) "name" = some none
  ox_NoBook : OexC K A.c_NoBook
  xi_NoBook : PySem.W.findIn K (.ref A.c_NoBook) "__init__" = some (some (.ref A.f_NoBook_init))
  xt_NoBook : PySem.W.typeIn K (.ref A.f_NoBook_init) = some (.type "function")
  xf_NoBook : XfC K A.c_NoBook
  ex_NoBook : ExC K A.c_NoBook
  xn_NoBook_name : PySem.W.findIn K (.ref A.c_NoBook) "name" = some none
  iy_Carry : PySem.W.findIn K (.ref A.c_Carry) "__class__" = some (some (.builtin "object.__class__"))
  im_Carry : PySem.W.mroIn K A.c_Carry (.type "object") = some true
  gx_get : PySem.W.specialIn K (.builtin "object.__class__") "__get__" = some (some (.builtin "getset_descriptor.__get__"))
  gx_tak : PySem.W.takesIn K (.builtin "object.__class__") = some true
  sub_NoTable_NoTable : PySem.W.exmOne K (.ref A.c_NoTable) (.ref A.c_NoTable) = some true
  sub_NoBook_NoTable : PySem.W.exmOne K (.ref A.c_NoBook) (.ref A.c_NoTable) = some false
  sub_NoBook_NoBook : PySem.W.exmOne K (.ref A.c_NoBook) (.ref A.c_NoBook) = some true
  sub_NoCode_NoCode : PySem.W.exmOne K (.ref A.c_NoCode) (.ref A.c_NoCode) = some true
  ki_NoCode : PySem.W.kitOne K (.ref A.c_NoCode) (.ref A.c_ColonnadeError) = some true
  ki_NoTable : PySem.W.kitOne K (.ref A.c_NoTable) (.ref A.c_ColonnadeError) = some true
  ki_NoBook : PySem.W.kitOne K (.ref A.c_NoBook) (.ref A.c_ColonnadeError) = some true
section
variable {K : PySem.W.Frag} {mg : Str → Option Value} {A : Ad} {D : Fd}
theorem b_NoCode_init (T : Tx K mg A D) : Binds K D.f_NoCode_init ["self", "code"] [] := T.F_NoCode_init.binds (ps := ["self", "code"]) fun _ _ _ _ _ _ us hl => match us, hl with | [_, _], _ => rfl
theorem b_NoTable_init (T : Tx K mg A D) : Binds K D.f_NoTable_init ["self", "name"] [] := T.F_NoTable_init.binds (ps := ["self", "name"]) fun _ _ _ _ _ _ us hl => match us, hl with | [_, _], _ => rfl
theorem b_NoBook_init (T : Tx K mg A D) : Binds K D.f_NoBook_init ["self", "name"] [] := T.F_NoBook_init.binds (ps := ["self", "name"]) fun _ _ _ _ _ _ us hl => match us, hl with | [_, _], _ => rfl
theorem b_in_order (T : Tx K mg A D) : Binds K D.f_in_order ["ordered"] [] := T.F_in_order.binds (ps := ["ordered"]) fun _ _ _ _ _ _ us hl => match us, hl with | [_], _ => rfl
theorem b_told_by_first (T : Tx K mg A D) : Binds K D.f_told_by_first ["ordered"] [] := T.F_told_by_first.binds (ps := ["ordered"]) fun _ _ _ _ _ _ us hl => match us, hl with | [_], _ => rfl
theorem b_kept_by (T : Tx K mg A D) : Binds K D.f_kept_by ["pairs"] [] := T.F_kept_by.binds (ps := ["pairs"]) fun _ _ _ _ _ _ us hl => match us, hl with | [_], _ => rfl
theorem b_Carry_init (T : Tx K mg A D) : Binds K D.f_Carry_init ["self", "places", "codes", "moments"] [] := T.F_Carry_init.binds (ps := ["self", "places", "codes", "moments"]) fun _ _ _ _ _ _ us hl => match us, hl with | [_, _, _, _], _ => rfl
theorem b_Carry_new_place (T : Tx K mg A D) : Binds K D.f_Carry_new_place ["self", "table", "old"] [] := T.F_Carry_new_place.binds (ps := ["self", "table", "old"]) fun _ _ _ _ _ _ us hl => match us, hl with | [_, _, _], _ => rfl
theorem b_Carry_new_code (T : Tx K mg A D) : Binds K D.f_Carry_new_code ["self", "book", "old"] [] := T.F_Carry_new_code.binds (ps := ["self", "book", "old"]) fun _ _ _ _ _ _ us hl => match us, hl with | [_, _, _], _ => rfl
theorem b_Carry_keeps_places (T : Tx K mg A D) : Binds K D.f_Carry_keeps_places ["self", "table"] [] := T.F_Carry_keeps_places.binds (ps := ["self", "table"]) fun _ _ _ _ _ _ us hl => match us, hl with | [_, _], _ => rfl
theorem b_Carry_keeps_codes (T : Tx K mg A D) : Binds K D.f_Carry_keeps_codes ["self", "book"] [] := T.F_Carry_keeps_codes.binds (ps := ["self", "book"]) fun _ _ _ _ _ _ us hl => match us, hl with | [_, _], _ => rfl
theorem b_Carry_add (T : Tx K mg A D) : Binds K D.f_Carry_add ["self", "other"] [] := T.F_Carry_add.binds (ps := ["self", "other"]) fun _ _ _ _ _ _ us hl => match us, hl with | [_, _], _ => rfl
theorem b_law_digits (T : Tx K mg A D) : Binds K D.f_law_digits ["_law_script"] [] := T.F_law_digits.binds (ps := ["_law_script"]) fun _ _ _ _ _ _ us hl => match us, hl with | [_], _ => rfl
theorem b_law_draw (T : Tx K mg A D) : Binds K D.f_law_draw ["_law_pool", "_law_many"] [] := T.F_law_draw.binds (ps := ["_law_pool", "_law_many"]) fun _ _ _ _ _ _ us hl => match us, hl with | [_, _], _ => rfl
theorem b_law_apart (T : Tx K mg A D) : Binds K D.f_law_apart ["_law_one", "_law_two", "_law_rank"] [] := T.F_law_apart.binds (ps := ["_law_one", "_law_two", "_law_rank"]) fun _ _ _ _ _ _ us hl => match us, hl with | [_, _, _], _ => rfl
theorem b_law_keeps (T : Tx K mg A D) : Binds K D.f_law_keeps ["_law_pairs", "_law_rank"] [] := T.F_law_keeps.binds (ps := ["_law_pairs", "_law_rank"]) fun _ _ _ _ _ _ us hl => match us, hl with | [_, _], _ => rfl
theorem b_law_kept (T : Tx K mg A D) : Binds K D.f_law_kept ["_law_pairs"] [] := T.F_law_kept.binds (ps := ["_law_pairs"]) fun _ _ _ _ _ _ us hl => match us, hl with | [_], _ => rfl
theorem b_law_places (T : Tx K mg A D) : Binds K D.f_law_places ["_law_pool", "_law_many"] [] := T.F_law_places.binds (ps := ["_law_pool", "_law_many"]) fun _ _ _ _ _ _ us hl => match us, hl with | [_, _], _ => rfl
theorem b_law_codes (T : Tx K mg A D) : Binds K D.f_law_codes ["_law_pool", "_law_olds_here"] [] := T.F_law_codes.binds (ps := ["_law_pool", "_law_olds_here"]) fun _ _ _ _ _ _ us hl => match us, hl with | [_, _], _ => rfl
theorem b_law_olds (T : Tx K mg A D) : Binds K D.f_law_olds ["_law_pool", "_law_many", "_law_low"] [] := T.F_law_olds.binds (ps := ["_law_pool", "_law_many", "_law_low"]) fun _ _ _ _ _ _ us hl => match us, hl with | [_, _, _], _ => rfl
theorem b_law_int (T : Tx K mg A D) : Binds K D.f_law_int ["_law_told", "_law_due"] [] := T.F_law_int.binds (ps := ["_law_told", "_law_due"]) fun _ _ _ _ _ _ us hl => match us, hl with | [_, _], _ => rfl
theorem b_law_row (T : Tx K mg A D) : Binds K D.f_law_row ["_law_told", "_law_due"] [] := T.F_law_row.binds (ps := ["_law_told", "_law_due"]) fun _ _ _ _ _ _ us hl => match us, hl with | [_, _], _ => rfl
theorem b_law_relation (T : Tx K mg A D) : Binds K D.f_law_relation ["_law_told", "_law_pairs"] [] := T.F_law_relation.binds (ps := ["_law_told", "_law_pairs"]) fun _ _ _ _ _ _ us hl => match us, hl with | [_, _], _ => rfl
theorem b_law_refused (T : Tx K mg A D) : Binds K D.f_law_refused ["_law_which", "_law_carry_here", "_law_name"] [] := T.F_law_refused.binds (ps := ["_law_which", "_law_carry_here", "_law_name"]) fun _ _ _ _ _ _ us hl => match us, hl with | [_, _, _], _ => rfl
theorem b_law_missing (T : Tx K mg A D) : Binds K D.f_law_missing ["_law_carry_here", "_law_book", "_law_code"] [] := T.F_law_missing.binds (ps := ["_law_carry_here", "_law_book", "_law_code"]) fun _ _ _ _ _ _ us hl => match us, hl with | [_, _, _], _ => rfl
theorem b_law_one_table (T : Tx K mg A D) : Binds K D.f_law_one_table ["_law_carry_here", "_law_name", "_law_row_here"] [] := T.F_law_one_table.binds (ps := ["_law_carry_here", "_law_name", "_law_row_here"]) fun _ _ _ _ _ _ us hl => match us, hl with | [_, _, _], _ => rfl
theorem b_law_one_book (T : Tx K mg A D) : Binds K D.f_law_one_book ["_law_carry_here", "_law_name", "_law_table"] [] := T.F_law_one_book.binds (ps := ["_law_carry_here", "_law_name", "_law_table"]) fun _ _ _ _ _ _ us hl => match us, hl with | [_, _, _], _ => rfl
theorem b_law_carry (T : Tx K mg A D) : Binds K D.f_law_carry ["_law_carry_here", "_law_rows", "_law_tables"] [] := T.F_law_carry.binds (ps := ["_law_carry_here", "_law_rows", "_law_tables"]) fun _ _ _ _ _ _ us hl => match us, hl with | [_, _, _], _ => rfl
theorem b_law_made (T : Tx K mg A D) : Binds K D.f_law_made ["_law_rows", "_law_tables", "_law_moments_here", "_law_lists"] [] := T.F_law_made.binds (ps := ["_law_rows", "_law_tables", "_law_moments_here", "_law_lists"]) fun _ _ _ _ _ _ us hl => match us, hl with | [_, _, _, _], _ => rfl
theorem b_law_through (T : Tx K mg A D) : Binds K D.f_law_through ["_law_first", "_law_second"] [] := T.F_law_through.binds (ps := ["_law_first", "_law_second"]) fun _ _ _ _ _ _ us hl => match us, hl with | [_, _], _ => rfl
theorem b_law_led (T : Tx K mg A D) : Binds K D.f_law_led ["_law_first", "_law_second"] [] := T.F_law_led.binds (ps := ["_law_first", "_law_second"]) fun _ _ _ _ _ _ us hl => match us, hl with | [_, _], _ => rfl
theorem b_law_least (T : Tx K mg A D) : Binds K D.f_law_least ["_law_told"] [] := T.F_law_least.binds (ps := ["_law_told"]) fun _ _ _ _ _ _ us hl => match us, hl with | [_], _ => rfl
theorem b_law_moments (T : Tx K mg A D) : Binds K D.f_law_moments ["_law_pool"] [] := T.F_law_moments.binds (ps := ["_law_pool"]) fun _ _ _ _ _ _ us hl => match us, hl with | [_], _ => rfl
theorem b_law_two_rows (T : Tx K mg A D) : Binds K D.f_law_two_rows ["_law_pool", "_law_many"] [] := T.F_law_two_rows.binds (ps := ["_law_pool", "_law_many"]) fun _ _ _ _ _ _ us hl => match us, hl with | [_, _], _ => rfl
theorem b_law_two_books (T : Tx K mg A D) : Binds K D.f_law_two_books ["_law_pool", "_law_many"] [] := T.F_law_two_books.binds (ps := ["_law_pool", "_law_many"]) fun _ _ _ _ _ _ us hl => match us, hl with | [_, _], _ => rfl
theorem b_law (T : Tx K mg A D) : Binds K D.f_law ["_law_script"] [] := T.F_law.binds (ps := ["_law_script"]) fun _ _ _ _ _ _ us hl => match us, hl with | [_], _ => rfl
end
end L2.Cd

namespace L2.Cd
open PySem PySem.Spec PyProof.Rows L2.Ex
/-! ## lists of pairs -/
abbrev Pr := Int × Int
structure PairsAt (H : Hp) (a : Addr) (xs : List V) (k : V → Pr) : Prop where
  ls : H a = some (.lst xs)
  it : ∀ x ∈ xs, ∃ t, x = .ref t ∧ H t = some (.tup [.int (k x).1, .int (k x).2])
theorem PairsAt.same {H H' : Hp} {a : Addr} {xs : List V} {k : V → Pr} (h : PairsAt H a xs k) (s : Same H H') : PairsAt H' a xs k :=
  ⟨s _ _ h.ls, fun x hx => let ⟨t, e, ht⟩ := h.it x hx; ⟨t, e, s _ _ ht⟩⟩
theorem dI {a b : Int} : decide (V.int a = V.int b) = decide (a = b) := by simp
theorem dB {a b : Bool} : decide (V.bl a = V.bl b) = (a == b) := by cases a <;> cases b <;> rfl
theorem same_new {H : Hp} {p : Addr} {o : HO} (h : H p = none) : Same H (upd H p o) := fun x u e => by rw [upd_ne (ne_of_none e h)]; exact e
theorem if_true_of {c : Bool} {A B : Prop} (hc : c = true) (h : A) : if c = true then A else B := by rw [if_pos hc]; exact h
theorem if_false_of {c : Bool} {A B : Prop} (hc : c = false) (h : B) : if c = true then A else B := by rw [hc, if_neg Bool.false_ne_true]; exact h
/-- the couples of neighbours -/
def adjB (f : Pr → Pr → Bool) (ps : List Pr) : Bool := ((List.range (ps.length - 1)).map fun j => f (ps.getD j (0, 0)) (ps.getD (j + 1) (0, 0))).all id
def fIn (p q : Pr) : Bool := (decide (p.1 < q.1) && decide (p.2 < q.2)) || (decide (p.1 = q.1) && decide (p.2 = q.2))
def fFirst (p q : Pr) : Bool := decide (p = q) || !decide (p.1 = q.1)
theorem cut1 (xs : List V) : cutV xs (some 1) none = xs.drop 1 := by
  cases xs with
  | nil => rfl
  | cons x r =>
    unfold cutV
    rw [show HT.sIx (x :: r).length 0 (some 1) = 1 by unfold HT.sIx; simp]
    rw [show HT.sIx (x :: r).length (x :: r).length none = (x :: r).length by rfl]
    simp
def apart (p q : Pr) (r : Int) : Bool :=
  if r = 1 then decide (p.1 = q.1) != decide (p.2 = q.2) else if r = 2 then decide (p.1 < q.1) != decide (p.2 < q.2) else if r = 0 then false else if r = 3 then !decide (p.2 - p.1 = q.2 - q.1) else !decide (p.1 = p.2)
def keepsB (ps : List Pr) (r : Int) : Bool := ps.all fun p => ps.all fun q => !apart p q r
def keptN (ps : List Pr) : Int := if keepsB ps 4 then 4 else if keepsB ps 3 then 3 else if keepsB ps 2 then 2 else if keepsB ps 1 then 1 else 0
section
variable {P : Program} {w : World} {K : PySem.W.Frag} {mg : Str → Option Value} {base : Heap} {A : Ad} {D : Fd}
def spAdj (f : Pr → Pr → Bool) : Sp := fun vs H Q _ => ∃ (a : Addr) (xs : List V) (k : V → Pr), vs = [.ref a] ∧ PairsAt H a xs k ∧ xs.length < 1000 ∧ ∀ H', Same H H' → Q (.bl (adjB f (xs.map k))) H'
theorem getD_k {xs : List V} {k : V → Pr} {i : Nat} {x : V} (h : xs[i]? = some x) : (xs.map k).getD i (0, 0) = k x := by
  rw [List.getD_eq_getElem?_getD, List.getElem?_map, h]
  rfl
theorem drop1_at {xs : List V} {i : Nat} : (xs.drop 1)[i]? = xs[i + 1]? := by rw [List.getElem?_drop, Nat.add_comm]
theorem adj_all {f : Pr → Pr → Bool} {xs : List V} {k : V → Pr} {n : Nat} (hn : n = min xs.length (xs.drop 1).length) : (((List.range n).map fun j => f ((xs.map k).getD j (0, 0)) ((xs.map k).getD (j + 1) (0, 0))).all id) = adjB f (xs.map k) := by
  unfold adjB
  rw [List.length_map, hn, List.length_drop, show min xs.length (xs.length - 1) = xs.length - 1 by omega]
theorem ok_in_order (T : Tx K mg A D) : FnOk P w K mg base CX0 2 A.f_in_order D.f_in_order ["ordered"] (spAdj fIn) := by
  refine T.F_in_order.ok sc_in_order (fun vs H Q E h => ?_) (fun cdv A' outer s H vs Q E hr h => ?_)
  · obtain ⟨a, xs, k, rfl, _⟩ := h
    rfl
  · obtain ⟨a, xs, k, rfl, hp, hl, q⟩ := h
    have hu := hu_of hr
    refine ⟨_, ((pss_one (ps_ret (pe_callB (cr_all rfl) (by rfl) T.b_all (by decide +kernel) (pa_cons (pe_lc (own := [("value", 1), ("code", 2), ("above", 3), ("other", 4)]) (g := (gTup K 2 (gCons (gTup K 2 (gCons (gName 1) (gCons (gName 2) gNil))) (gCons (gTup K 2 (gCons (gName 3) (gCons (gName 4) gNil))) gNil)))) rfl sc_in_order.nd (pi_zip (by rfl) T.b_zip (pa_cons (pv 0) (pa_cons (pe_slice sl_list (pv 0) (po_some pe_int) po_none) pa_nil))) (blkOk_by (own := [("value", 1), ("code", 2), ("above", 3), ("other", 4)]) (N := ["ordered", "value", "code", "above", "other"]) (sc := defScope s_in_order) (by decide +kernel)) (fun _ _ _ _ _ => (pgTup (K := K) rfl rfl (pgs_cons (pgTup (K := K) rfl rfl (pgs_cons (pg_name (i := 1) sc_in_order.nd rfl (by first | exact Or.inl rfl | exact Or.inr rfl)) (pgs_cons (pg_name (i := 2) sc_in_order.nd rfl (by first | exact Or.inl rfl | exact Or.inr rfl)) pgs_nil))) (pgs_cons (pgTup (K := K) rfl rfl (pgs_cons (pg_name (i := 3) sc_in_order.nd rfl (by first | exact Or.inl rfl | exact Or.inr rfl)) (pgs_cons (pg_name (i := 4) sc_in_order.nd rfl (by first | exact Or.inl rfl | exact Or.inr rfl)) pgs_nil))) pgs_nil)))) (fun _ _ _ _ _ => pts_nil) (fun _ _ _ _ _ => (pe_or (pe_and (pe_cmpR op_lt (pv 1) (pv 3) (nomark _)) (pe_one (pe_cmpR op_lt (pv 2) (pv 4) (nomark _)))) (pe_one (pe_and (pe_cmpR op_eq (pv 1) (pv 3) (nomark _)) (pe_one (pe_cmpR op_eq (pv 2) (pv 4) (nomark _)))))))) pa_nil))))), ?_⟩
    refine ⟨_, rfl, _, rfl, 1, rfl, a, xs, rfl, SqL.of hp.ls, fun t ht => ?_⟩
    rw [cut1]
    have s1 := same_new (o := .lst (xs.drop 1)) ht
    refine ⟨a, t, xs, xs.drop 1, rfl, SqL.of (s1 _ _ hp.ls), SqL.of upd_same, fun D hD => ?_⟩
    refine lc_it (walk_zip rfl) (fun i H2 => Same H H2 ∧ H2 t = some (.lst (xs.drop 1)) ∧ H2 D = some (.lst (((List.range i).map fun j => fIn ((xs.map k).getD j (0, 0)) ((xs.map k).getD (j + 1) (0, 0))).map V.bl))) ⟨s1.trans (same_new hD), (same_new hD) _ _ upd_same, upd_same⟩ (fun i H2 _ h => ⟨SqL.of (h.1 _ _ hp.ls), SqL.of h.2.1⟩) ?_ ?_
    · rintro i v H2 H3 hi ⟨s2, ht2, hD2⟩ ⟨T0, x, y, rfl, hT, rfl, hx, hy⟩
      have hy : (xs.drop 1)[i]? = some y := hy
      have hx : xs[i]? = some x := hx
      rw [drop1_at] at hy
      obtain ⟨tx, rfl, htx⟩ := hp.it x (List.mem_of_getElem? hx)
      obtain ⟨ty, rfl, hty⟩ := hp.it y (List.mem_of_getElem? hy)
      have s3 := s2.trans (same_new (o := .tup [.ref tx, .ref ty]) hT)
      have gx := getD_k (k := k) hx
      have gy := getD_k (k := k) hy
      have hD3 := (same_new (o := .tup [.ref tx, .ref ty]) hT) _ _ hD2
      have ht3 := (same_new (o := .tup [.ref tx, .ref ty]) hT) _ _ ht2
      have nD : D ≠ t := fun z => by rw [z, upd_same] at hD; cases hD
      refine ⟨T0, _, rfl, SqT.of upd_same, rfl, .ref tx, _, rfl, ⟨tx, _, rfl, SqT.of (s3 _ _ htx), rfl, .int _, _, rfl, .int _, _, rfl, rfl, .ref ty, _, rfl, ⟨ty, _, rfl, SqT.of (s3 _ _ hty), rfl, .int _, _, rfl, .int _, _, rfl, rfl, rfl, ?_⟩⟩⟩
      refine ⟨rfl, ?_⟩
      refine iteT (B := True) ?_
      refine iteT ?_
      have fin : ∀ b : Bool, b = fIn (k (.ref tx)) (k (.ref ty)) → ∃ acc, upd H2 T0 (.tup [.ref tx, .ref ty]) D = some (.lst acc) ∧ acc.length < sizeLine ∧ (Same H (upd (upd H2 T0 (.tup [.ref tx, .ref ty])) D (.lst (acc ++ [V.bl b]))) ∧ upd (upd H2 T0 (.tup [.ref tx, .ref ty])) D (.lst (acc ++ [V.bl b])) t = some (.lst (xs.drop 1)) ∧
          upd (upd H2 T0 (.tup [.ref tx, .ref ty])) D (.lst (acc ++ [V.bl b])) D = some (.lst (((List.range (i + 1)).map fun j => fIn ((xs.map k).getD j (0, 0)) ((xs.map k).getD (j + 1) (0, 0))).map V.bl))) := by
        intro b hb
        refine ⟨_, hD3, ?_, ?_, ?_, ?_⟩
        · rw [List.length_map, List.length_map, List.length_range, sizeLine_eq]
          omega
        · intro b' o e
          rw [upd_ne (ne_of_none (s1 _ _ e) hD)]
          exact s3 b' o e
        · rw [upd_ne nD.symm]
          exact ht3
        · rw [upd_same, List.range_succ, List.map_append, List.map_append, hb, ← gx, ← gy]
          rfl
      generalize k (.ref tx) = p at *
      generalize k (.ref ty) = r at *
      refine ⟨_, rfl, _, rfl, _, _, rfl, rfl, _, rfl, ?_⟩
      by_cases h1 : p.1 < r.1
      · refine if_true_of (decide_eq_true h1) ?_
        refine ⟨_, rfl, _, rfl, _, _, rfl, rfl, _, rfl, ?_⟩
        by_cases h2 : p.2 < r.2
        · refine if_true_of (decide_eq_true h2) ?_
          exact fin true (by simp [fIn, h1, h2])
        · refine if_false_of (decide_eq_false h2) ?_
          refine ⟨_, rfl, _, rfl, rfl, _, rfl, ?_⟩
          refine if_false_of (by rw [dI]; exact decide_eq_false (by omega)) ?_
          exact fin false (by simp [fIn, h2]; omega)
      · refine if_false_of (decide_eq_false h1) ?_
        refine ⟨_, rfl, ?_⟩
        refine if_false_of rfl ?_
        refine ⟨_, rfl, _, rfl, rfl, _, rfl, ?_⟩
        by_cases h3 : p.1 = r.1
        · refine if_true_of (by rw [dI]; exact decide_eq_true h3) ?_
          refine ⟨_, rfl, _, rfl, rfl, ?_⟩
          rw [dI]
          exact fin _ (by simp [fIn, h1, h3])
        · refine if_false_of (by rw [dI]; exact decide_eq_false h3) ?_
          exact fin false (by simp [fIn, h1, h3])
    · rintro H2 ⟨s2, ht2, hD2⟩
      refine ⟨D, _, rfl, SqL.of hD2, ?_⟩
      rw [adj_all rfl]
      exact q _ s2
theorem prd (p : Pr) : (PyData.tuple [.int p.1, .int p.2]).canLay0 = true ∧ SeqAt.shaped (.tuple [.int p.1, .int p.2]) = true := by
  have c : ∀ i : Int, (PyData.int i).canLay0 = true ∧ (PyData.int i).depth ≤ 1 := fun b => ⟨by unfold PyData.canLay0; rfl, by unfold PyData.depth; omega⟩
  have e : (PyData.tuple [.int p.1, .int p.2]).canLay0 = true := by
    unfold PyData.canLay0 PyData.canLayAll0 PyData.canLayAll0 PyData.canLayAll0
    rw [(c _).1, (c _).1]
    rfl
  refine ⟨e, ?_⟩
  unfold SeqAt.shaped
  refine Bool.and_eq_true_iff.mpr ⟨e, decide_eq_true ?_⟩
  have d1 := (c p.1).2
  have d2 := (c p.2).2
  unfold PyData.depth PyData.depthAll PyData.depthAll PyData.depthAll
  omega
theorem prd_eqv (p q : Pr) : PyData.eqv (.tuple [.int p.1, .int p.2]) (.tuple [.int q.1, .int q.2]) = decide (p = q) := by
  obtain ⟨a, b⟩ := p
  obtain ⟨c, d⟩ := q
  have e : PyData.eqv (.tuple [.int a, .int b]) (.tuple [.int c, .int d]) = (decide (a = c) && decide (b = d)) := by
    simp [PyData.eqv, PyData.eqvAll]
    by_cases h : a = c <;> by_cases h2 : b = d <;> simp [h, h2]
  show PyData.eqv (.tuple [.int a, .int b]) (.tuple [.int c, .int d]) = _
  rw [e]
  by_cases h : a = c <;> by_cases h2 : b = d <;> simp [h, h2]
theorem ok_told_by_first (T : Tx K mg A D) : FnOk P w K mg base CX0 2 A.f_told_by_first D.f_told_by_first ["ordered"] (spAdj fFirst) := by
  refine T.F_told_by_first.ok sc_told_by_first (fun vs H Q E h => ?_) (fun cdv A' outer s H vs Q E hr h => ?_)
  · obtain ⟨a, xs, k, rfl, _⟩ := h
    rfl
  · obtain ⟨a, xs, k, rfl, hp, hl, q⟩ := h
    have hu := hu_of hr
    refine ⟨_, ((pss_one (ps_ret (pe_callB (cr_all rfl) (by rfl) T.b_all (by decide +kernel) (pa_cons (pe_lc (own := [("pair", 1), ("other", 2)]) (g := (gTup K 2 (gCons (gName 1) (gCons (gName 2) gNil)))) rfl sc_told_by_first.nd (pi_zip (by rfl) T.b_zip (pa_cons (pv 0) (pa_cons (pe_slice sl_list (pv 0) (po_some pe_int) po_none) pa_nil))) (blkOk_by (own := [("pair", 1), ("other", 2)]) (N := ["ordered", "pair", "other"]) (sc := defScope s_told_by_first) (by decide +kernel)) (fun _ _ _ _ _ => (pgTup (K := K) rfl rfl (pgs_cons (pg_name (i := 1) sc_told_by_first.nd rfl (by first | exact Or.inl rfl | exact Or.inr rfl)) (pgs_cons (pg_name (i := 2) sc_told_by_first.nd rfl (by first | exact Or.inl rfl | exact Or.inr rfl)) pgs_nil)))) (fun _ _ _ _ _ => pts_nil) (fun _ _ _ _ _ => (pe_or (pe_cmpR (opEqD (K := K) rfl (hr.units)) (pv 1) (pv 2) (nomark _)) (pe_one (pe_cmpR op_ne (pe_ix (ixT (K := K) rfl) (pv 1) pe_int (fun _ _ => rfl)) (pe_ix (ixT (K := K) rfl) (pv 2) pe_int (fun _ _ => rfl)) (nomark _)))))) pa_nil))))), ?_⟩
    refine ⟨_, rfl, _, rfl, 1, rfl, a, xs, rfl, SqL.of hp.ls, fun t ht => ?_⟩
    rw [cut1]
    have s1 := same_new (o := .lst (xs.drop 1)) ht
    refine ⟨a, t, xs, xs.drop 1, rfl, SqL.of (s1 _ _ hp.ls), SqL.of upd_same, fun D hD => ?_⟩
    refine lc_it (walk_zip rfl) (fun i H2 => Same H H2 ∧ H2 t = some (.lst (xs.drop 1)) ∧ H2 D = some (.lst (((List.range i).map fun j => fFirst ((xs.map k).getD j (0, 0)) ((xs.map k).getD (j + 1) (0, 0))).map V.bl))) ⟨s1.trans (same_new hD), (same_new hD) _ _ upd_same, upd_same⟩ (fun i H2 _ h => ⟨SqL.of (h.1 _ _ hp.ls), SqL.of h.2.1⟩) ?_ ?_
    · rintro i v H2 H3 hi ⟨s2, ht2, hD2⟩ ⟨T0, x, y, rfl, hT, rfl, hx, hy⟩
      have hy : (xs.drop 1)[i]? = some y := hy
      have hx : xs[i]? = some x := hx
      rw [drop1_at] at hy
      obtain ⟨tx, rfl, htx⟩ := hp.it x (List.mem_of_getElem? hx)
      obtain ⟨ty, rfl, hty⟩ := hp.it y (List.mem_of_getElem? hy)
      have s3 := s2.trans (same_new (o := .tup [.ref tx, .ref ty]) hT)
      have gx := getD_k (k := k) hx
      have gy := getD_k (k := k) hy
      have hD3 := (same_new (o := .tup [.ref tx, .ref ty]) hT) _ _ hD2
      have ht3 := (same_new (o := .tup [.ref tx, .ref ty]) hT) _ _ ht2
      have hx3 := s3 _ _ htx
      have hy3 := s3 _ _ hty
      have nD : D ≠ t := fun z => by rw [z, upd_same] at hD; cases hD
      refine ⟨T0, _, rfl, SqT.of upd_same, rfl, .ref tx, _, rfl, .ref ty, _, rfl, rfl, ?_⟩
      refine ⟨rfl, ?_⟩
      refine iteT (B := True) ?_
      refine iteT ?_
      have fin : ∀ b : Bool, b = fFirst (k (.ref tx)) (k (.ref ty)) → ∃ acc, upd H2 T0 (.tup [.ref tx, .ref ty]) D = some (.lst acc) ∧ acc.length < sizeLine ∧ (Same H (upd (upd H2 T0 (.tup [.ref tx, .ref ty])) D (.lst (acc ++ [V.bl b]))) ∧ upd (upd H2 T0 (.tup [.ref tx, .ref ty])) D (.lst (acc ++ [V.bl b])) t = some (.lst (xs.drop 1)) ∧
          upd (upd H2 T0 (.tup [.ref tx, .ref ty])) D (.lst (acc ++ [V.bl b])) D = some (.lst (((List.range (i + 1)).map fun j => fFirst ((xs.map k).getD j (0, 0)) ((xs.map k).getD (j + 1) (0, 0))).map V.bl))) := by
        intro b hb
        refine ⟨_, hD3, ?_, ?_, ?_, ?_⟩
        · rw [List.length_map, List.length_map, List.length_range, sizeLine_eq]
          omega
        · intro b' o e
          rw [upd_ne (ne_of_none (s1 _ _ e) hD)]
          exact s3 b' o e
        · rw [upd_ne nD.symm]
          exact ht3
        · rw [upd_same, List.range_succ, List.map_append, List.map_append, hb, ← gx, ← gy]
          rfl
      generalize k (.ref tx) = p at *
      generalize k (.ref ty) = r at *
      refine ⟨_, rfl, _, rfl, .tuple [.int p.1, .int p.2], .tuple [.int r.1, .int r.2], .tup (SqT.of hx3) (.cons (.int _) (.cons (.int _) .nil)), .tup (SqT.of hy3) (.cons (.int _) (.cons (.int _) .nil)), (prd p).2, (prd r).2, _, rfl, ?_⟩
      rw [prd_eqv]
      by_cases h1 : p = r
      · refine if_true_of (decide_eq_true h1) ?_
        exact fin true (by simp [fFirst, h1])
      · refine if_false_of (decide_eq_false h1) ?_
        refine ⟨_, rfl, tx, _, _, .int p.1, rfl, rfl, SqT.of hx3, rfl, _, rfl, ty, _, _, .int r.1, rfl, rfl, SqT.of hy3, rfl, rfl, ?_⟩
        rw [dI]
        exact fin _ (by simp [fFirst, h1])
    · rintro H2 ⟨s2, ht2, hD2⟩
      refine ⟨D, _, rfl, SqL.of hD2, ?_⟩
      rw [adj_all rfl]
      exact q _ s2
end
end L2.Cd

namespace L2.Cd
open PySem PySem.Spec PyProof.Rows L2.Ex
/-! ## what the pairs keep: all couples, and neighbours of the sorted list -/
def LexS (S : List Pr) : Prop := S.Pairwise fun p q => p.1 < q.1 ∨ (p.1 = q.1 ∧ p.2 ≤ q.2)
theorem keeps_iff {ps : List Pr} {r : Int} : keepsB ps r = true ↔ ∀ p ∈ ps, ∀ q ∈ ps, apart p q r = false := by
  unfold keepsB
  simp only [List.all_eq_true, Bool.not_eq_true']
theorem keeps_perm {ps S : List Pr} (h : S.Perm ps) {r : Int} : keepsB S r = keepsB ps r := by
  rw [Bool.eq_iff_iff, keeps_iff, keeps_iff]
  exact ⟨fun a p hp q hq => a p (h.mem_iff.mpr hp) q (h.mem_iff.mpr hq), fun a p hp q hq => a p (h.mem_iff.mp hp) q (h.mem_iff.mp hq)⟩
theorem keptN_perm {ps S : List Pr} (h : S.Perm ps) : keptN S = keptN ps := by
  unfold keptN
  rw [keeps_perm h, keeps_perm h, keeps_perm h, keeps_perm h]
theorem adj_iff {f : Pr → Pr → Bool} {S : List Pr} : adjB f S = true ↔ ∀ j p q, S[j]? = some p → S[j + 1]? = some q → f p q = true := by
  unfold adjB
  rw [List.all_eq_true]
  constructor
  · intro h j p q hp hq
    have hj : j + 1 < S.length := (List.getElem?_eq_some_iff.mp hq).1
    have := h (f (S.getD j (0, 0)) (S.getD (j + 1) (0, 0))) (List.mem_map.mpr ⟨j, List.mem_range.mpr (by omega), rfl⟩)
    rw [List.getD_eq_getElem?_getD, List.getD_eq_getElem?_getD, hp, hq] at this
    exact this
  · intro h b hb
    obtain ⟨j, hj, rfl⟩ := List.mem_map.mp hb
    have hj := List.mem_range.mp hj
    have h1 : S[j]? = some (S[j]'(by omega)) := List.getElem?_eq_getElem _
    have h2 : S[j + 1]? = some (S[j + 1]'(by omega)) := List.getElem?_eq_getElem _
    have := h j _ _ h1 h2
    rw [List.getD_eq_getElem?_getD, List.getD_eq_getElem?_getD, h1, h2]
    exact this
/-- from neighbours to all couples -/
theorem chain_all {T : Pr → Pr → Prop} (tr : ∀ p q r, T p q → T q r → T p r) {S : List Pr} (h : ∀ j p q, S[j]? = some p → S[j + 1]? = some q → T p q) : ∀ (d i : Nat) (p q : Pr), S[i]? = some p → S[i + d + 1]? = some q → T p q := by
  intro d
  induction d with
  | zero => intro i p q hp hq; exact h i p q hp hq
  | succ d ih =>
    intro i p q hp hq
    have hl : i + (d + 1) + 1 < S.length := (List.getElem?_eq_some_iff.mp hq).1
    have hm : S[i + d + 1]? = some (S[i + d + 1]'(by omega)) := List.getElem?_eq_getElem _
    exact tr _ _ _ (ih i p _ hp hm) (h (i + d + 1) _ q hm (by rw [show i + d + 1 + 1 = i + (d + 1) + 1 by omega]; exact hq))
theorem couples {T : Pr → Pr → Prop} (tr : ∀ p q r, T p q → T q r → T p r) {S : List Pr} (h : ∀ j p q, S[j]? = some p → S[j + 1]? = some q → T p q) {p q : Pr} (hp : p ∈ S) (hq : q ∈ S) : p = q ∨ T p q ∨ T q p := by
  obtain ⟨i, hi, ei⟩ := List.mem_iff_getElem.mp hp
  obtain ⟨j, hj, ej⟩ := List.mem_iff_getElem.mp hq
  have h1 : S[i]? = some p := by rw [List.getElem?_eq_getElem hi, ei]
  have h2 : S[j]? = some q := by rw [List.getElem?_eq_getElem hj, ej]
  rcases Nat.lt_trichotomy i j with z | z | z
  · exact .inr (.inl (chain_all tr h (j - i - 1) i p q h1 (by rw [show i + (j - i - 1) + 1 = j by omega]; exact h2)))
  · subst z
    rw [h1] at h2
    exact .inl (Option.some.inj h2)
  · exact .inr (.inr (chain_all tr h (i - j - 1) j q p h2 (by rw [show j + (i - j - 1) + 1 = i by omega]; exact h1)))
theorem lex_adj {S : List Pr} (h : LexS S) {j : Nat} {p q : Pr} (hp : S[j]? = some p) (hq : S[j + 1]? = some q) : p.1 < q.1 ∨ (p.1 = q.1 ∧ p.2 ≤ q.2) := by
  have hl : j + 1 < S.length := (List.getElem?_eq_some_iff.mp hq).1
  have := List.pairwise_iff_getElem.mp h j (j + 1) (by omega) hl (by omega)
  rw [List.getElem?_eq_getElem (by omega)] at hp
  rw [List.getElem?_eq_getElem hl] at hq
  cases hp
  cases hq
  exact this
theorem in_keeps {S : List Pr} (h : LexS S) : adjB fIn S = keepsB S 2 := by
  rw [Bool.eq_iff_iff, adj_iff, keeps_iff]
  constructor
  · intro a p hp q hq
    have c := couples (T := fun p q => (p.1 < q.1 ∧ p.2 < q.2) ∨ p = q) (fun p q r h1 h2 => by
      rcases h1 with h1 | rfl
      · rcases h2 with h2 | rfl
        · exact .inl ⟨by omega, by omega⟩
        · exact .inl h1
      · exact h2) (fun j p q h1 h2 => by
      have := a j p q h1 h2
      simp only [fIn, Bool.or_eq_true, Bool.and_eq_true, decide_eq_true_eq] at this
      rcases this with h | h
      · exact .inl h
      · exact .inr (Prod.ext h.1 h.2)) hp hq
    show (decide (p.1 < q.1) != decide (p.2 < q.2)) = false
    rcases c with rfl | (h | rfl) | (h | rfl)
    · simp
    · simp [h.1, h.2]
    · simp
    · have h1 : ¬ p.1 < q.1 := by omega
      have h2 : ¬ p.2 < q.2 := by omega
      simp [h1, h2]
    · simp
  · intro a j p q hp hq
    have z := a p (List.mem_of_getElem? hp) q (List.mem_of_getElem? hq)
    have z : (decide (p.1 < q.1) != decide (p.2 < q.2)) = false := z
    have l := lex_adj h hp hq
    by_cases h1 : p.1 < q.1
    · by_cases h2 : p.2 < q.2
      · simp [fIn, h1, h2]
      · simp [h1, h2] at z
    · by_cases h2 : p.2 < q.2
      · simp [h1, h2] at z
      · have e1 : p.1 = q.1 := by omega
        have e2 : p.2 = q.2 := by omega
        simp [fIn, e1, e2]
theorem first_iff {S : List Pr} (h : LexS S) : adjB fFirst S = true ↔ ∀ p ∈ S, ∀ q ∈ S, p.1 = q.1 → p = q := by
  rw [adj_iff]
  constructor
  · intro a p hp q hq e
    have c := couples (T := fun p q => p.1 ≤ q.1 ∧ (p.1 = q.1 → p = q)) (fun p q r h1 h2 => ⟨by omega, fun e => by
      have e1 : p.1 = q.1 := by omega
      have e2 : q.1 = r.1 := by omega
      exact (h1.2 e1).trans (h2.2 e2)⟩) (fun j p q h1 h2 => by
      have l := lex_adj h h1 h2
      have := a j p q h1 h2
      simp only [fFirst, Bool.or_eq_true, decide_eq_true_eq, Bool.not_eq_true', decide_eq_false_iff_not] at this
      exact ⟨by omega, fun e => this.elim (fun z => z) fun z => absurd e z⟩) hp hq
    rcases c with c | c | c
    · exact c
    · exact c.2 e
    · exact (c.2 e.symm).symm
  · intro a j p q hp hq
    by_cases e : p.1 = q.1
    · have := a p (List.mem_of_getElem? hp) q (List.mem_of_getElem? hq) e
      simp [fFirst, this]
    · simp [fFirst, e]
theorem keeps1_iff {ps : List Pr} : keepsB ps 1 = true ↔ ∀ p ∈ ps, ∀ q ∈ ps, (p.1 = q.1 ↔ p.2 = q.2) := by
  rw [keeps_iff]
  constructor
  · intro a p hp q hq
    have z : (decide (p.1 = q.1) != decide (p.2 = q.2)) = false := a p hp q hq
    by_cases h1 : p.1 = q.1 <;> by_cases h2 : p.2 = q.2 <;> simp [h1, h2] at z ⊢
  · intro a p hp q hq
    show (decide (p.1 = q.1) != decide (p.2 = q.2)) = false
    have z := a p hp q hq
    by_cases h1 : p.1 = q.1
    · simp [h1, z.mp h1]
    · have : ¬ p.2 = q.2 := fun e => h1 (z.mpr e)
      simp [h1, this]
def sw (p : Pr) : Pr := (p.2, p.1)
theorem first_keeps {S S2 : List Pr} (h : LexS S) (h2 : LexS S2) (hp : S2.Perm (S.map sw)) : (adjB fFirst S && adjB fFirst S2) = keepsB S 1 := by
  rw [Bool.eq_iff_iff, Bool.and_eq_true, first_iff h, first_iff h2, keeps1_iff]
  constructor
  · rintro ⟨a, b⟩ p hp' q hq'
    refine ⟨fun e => by rw [a p hp' q hq' e], fun e => ?_⟩
    have := b (sw p) (hp.mem_iff.mpr (List.mem_map.mpr ⟨p, hp', rfl⟩)) (sw q) (hp.mem_iff.mpr (List.mem_map.mpr ⟨q, hq', rfl⟩)) e
    exact congrArg Prod.snd this
  · intro a
    refine ⟨fun p hp' q hq' e => Prod.ext e ((a p hp' q hq').mp e), fun p hp' q hq' e => ?_⟩
    obtain ⟨p0, m1, rfl⟩ := List.mem_map.mp (hp.mem_iff.mp hp')
    obtain ⟨q0, m2, rfl⟩ := List.mem_map.mp (hp.mem_iff.mp hq')
    exact Prod.ext e ((a p0 m1 q0 m2).mpr e)
theorem keeps3_iff {ps : List Pr} : keepsB ps 3 = true ↔ ∀ p ∈ ps, ∀ q ∈ ps, p.2 - p.1 = q.2 - q.1 := by
  rw [keeps_iff]
  refine ⟨fun a p hp q hq => ?_, fun a p hp q hq => ?_⟩
  · have z : (!decide (p.2 - p.1 = q.2 - q.1)) = false := a p hp q hq
    simpa using z
  · show (!decide (p.2 - p.1 = q.2 - q.1)) = false
    simpa using a p hp q hq
theorem keeps4_iff {ps : List Pr} : keepsB ps 4 = true ↔ ∀ p ∈ ps, p.1 = p.2 := by
  rw [keeps_iff]
  refine ⟨fun a p hp => ?_, fun a p hp q hq => ?_⟩
  · have z : (!decide (p.1 = p.2)) = false := a p hp p hp
    simpa using z
  · show (!decide (p.1 = p.2)) = false
    simpa using a p hp
theorem keeps2_iff {ps : List Pr} : keepsB ps 2 = true ↔ ∀ p ∈ ps, ∀ q ∈ ps, (p.1 < q.1 ↔ p.2 < q.2) := by
  rw [keeps_iff]
  constructor
  · intro a p hp q hq
    have z : (decide (p.1 < q.1) != decide (p.2 < q.2)) = false := a p hp q hq
    by_cases h1 : p.1 < q.1 <;> by_cases h2 : p.2 < q.2 <;> simp [h1, h2] at z ⊢
  · intro a p hp q hq
    show (decide (p.1 < q.1) != decide (p.2 < q.2)) = false
    have z := a p hp q hq
    by_cases h1 : p.1 < q.1
    · simp [h1, z.mp h1]
    · have : ¬ p.2 < q.2 := fun e => h1 (z.mpr e)
      simp [h1, this]
/-! ### the ranks -/
theorem keptN_nil : keptN [] = 4 := rfl
theorem keptN_eq4 {ps : List Pr} (h : ∀ p ∈ ps, p.2 - p.1 = 0) : keptN ps = 4 := by
  unfold keptN
  rw [if_pos (keeps4_iff.mpr fun p hp => by have := h p hp; omega)]
theorem keptN_eq3 {ps : List Pr} (h : ∀ p ∈ ps, ∀ q ∈ ps, p.2 - p.1 = q.2 - q.1) {p : Pr} (hp : p ∈ ps) (h0 : p.2 - p.1 ≠ 0) : keptN ps = 3 := by
  unfold keptN
  rw [if_neg fun z => h0 (by have := keeps4_iff.mp z p hp; omega), if_pos (keeps3_iff.mpr h)]
theorem keptN_less {ps : List Pr} (h : ¬ ∀ p ∈ ps, ∀ q ∈ ps, p.2 - p.1 = q.2 - q.1) : keptN ps = if keepsB ps 2 then 2 else if keepsB ps 1 then 1 else 0 := by
  unfold keptN
  rw [if_neg fun z => h fun p hp q hq => by have := keeps4_iff.mp z p hp; have := keeps4_iff.mp z q hq; omega, if_neg fun z => h (keeps3_iff.mp z)]
theorem keptN_ge {ps : List Pr} {r : Int} (h0 : 1 ≤ r) (h : r ≤ keptN ps) : keepsB ps r = true := by
  have k43 : keepsB ps 4 = true → keepsB ps 3 = true := fun z => keeps3_iff.mpr fun p hp q hq => by
    have := keeps4_iff.mp z p hp; have := keeps4_iff.mp z q hq; omega
  have k32 : keepsB ps 3 = true → keepsB ps 2 = true := fun z => keeps2_iff.mpr fun p hp q hq => by
    have := keeps3_iff.mp z p hp q hq; omega
  have k21 : keepsB ps 2 = true → keepsB ps 1 = true := fun z => keeps1_iff.mpr fun p hp q hq => by
    have := keeps2_iff.mp z p hp q hq; have := keeps2_iff.mp z q hq p hp; omega
  have m : ∀ k : Int, keepsB ps k = true → (k = 1 ∨ k = 2 ∨ k = 3 ∨ k = 4) → r ≤ k → keepsB ps r = true := by
    intro k hk c hr
    have : r = 1 ∨ r = 2 ∨ r = 3 ∨ r = 4 := by omega
    rcases c with rfl | rfl | rfl | rfl <;> rcases this with rfl | rfl | rfl | rfl <;> first | exact hk | exact k21 hk | exact k32 hk | exact k43 hk | exact k21 (k32 hk) | exact k32 (k43 hk) | exact k21 (k32 (k43 hk)) | omega
  unfold keptN at h
  by_cases h4 : keepsB ps 4 = true
  · rw [if_pos h4] at h; exact m 4 h4 (by simp) h
  rw [if_neg h4] at h
  by_cases h3 : keepsB ps 3 = true
  · rw [if_pos h3] at h; exact m 3 h3 (by simp) h
  rw [if_neg h3] at h
  by_cases h2 : keepsB ps 2 = true
  · rw [if_pos h2] at h; exact m 2 h2 (by simp) h
  rw [if_neg h2] at h
  by_cases h1 : keepsB ps 1 = true
  · rw [if_pos h1] at h; exact m 1 h1 (by simp) h
  rw [if_neg h1] at h
  omega
theorem keptN_le {ps : List Pr} {r : Int} (h0 : r = 1 ∨ r = 2 ∨ r = 3 ∨ r = 4) (h : keepsB ps r = true) : r ≤ keptN ps := by
  unfold keptN
  rcases h0 with rfl | rfl | rfl | rfl
  · rw [h]; simp only [if_true]; split <;> (try split) <;> (try split) <;> omega
  · rw [h]; simp only [if_true]; split <;> (try split) <;> omega
  · rw [h]; simp only [if_true]; split <;> omega
  · rw [h]; simp
theorem keptN_rng (ps : List Pr) : 0 ≤ keptN ps ∧ keptN ps ≤ 4 := by
  unfold keptN
  split
  · decide
  split
  · decide
  split
  · decide
  split <;> decide
/-- what goes through two carries keeps at least the weaker relation -/
theorem least_of {ps qs rs : List Pr} (h : ∀ r ∈ rs, ∃ p ∈ ps, ∃ q ∈ qs, p.1 = r.1 ∧ p.2 = q.1 ∧ q.2 = r.2) : min (keptN ps) (keptN qs) ≤ keptN rs := by
  have := keptN_rng ps
  have := keptN_rng qs
  have := keptN_rng rs
  by_cases z : min (keptN ps) (keptN qs) = 0
  · omega
  have c : min (keptN ps) (keptN qs) = 1 ∨ min (keptN ps) (keptN qs) = 2 ∨ min (keptN ps) (keptN qs) = 3 ∨ min (keptN ps) (keptN qs) = 4 := by omega
  have a := keptN_ge (ps := ps) (r := min (keptN ps) (keptN qs)) (by omega) (Int.min_le_left _ _)
  have b := keptN_ge (ps := qs) (r := min (keptN ps) (keptN qs)) (by omega) (Int.min_le_right _ _)
  generalize min (keptN ps) (keptN qs) = r at *
  refine keptN_le c ?_
  rcases c with rfl | rfl | rfl | rfl
  · refine keeps1_iff.mpr fun x hx y hy => ?_
    obtain ⟨p, hp, q, hq, e1, e2, e3⟩ := h x hx
    obtain ⟨p', hp', q', hq', e1', e2', e3'⟩ := h y hy
    have := keeps1_iff.mp a p hp p' hp'
    have := keeps1_iff.mp b q hq q' hq'
    omega
  · refine keeps2_iff.mpr fun x hx y hy => ?_
    obtain ⟨p, hp, q, hq, e1, e2, e3⟩ := h x hx
    obtain ⟨p', hp', q', hq', e1', e2', e3'⟩ := h y hy
    have := keeps2_iff.mp a p hp p' hp'
    have := keeps2_iff.mp b q hq q' hq'
    omega
  · refine keeps3_iff.mpr fun x hx y hy => ?_
    obtain ⟨p, hp, q, hq, e1, e2, e3⟩ := h x hx
    obtain ⟨p', hp', q', hq', e1', e2', e3'⟩ := h y hy
    have := keeps3_iff.mp a p hp p' hp'
    have := keeps3_iff.mp b q hq q' hq'
    omega
  · refine keeps4_iff.mpr fun x hx => ?_
    obtain ⟨p, hp, q, hq, e1, e2, e3⟩ := h x hx
    have := keeps4_iff.mp a p hp
    have := keeps4_iff.mp b q hq
    omega
end L2.Cd

namespace L2.Cd
open PySem PySem.Spec PyProof.Rows L2.Ex
/-! ## pairs by their list -/
def Al (H : Hp) : List V → List Pr → Prop
  | [], [] => True
  | x :: r, p :: s => (∃ t, x = .ref t ∧ H t = some (.tup [.int p.1, .int p.2])) ∧ Al H r s
  | _, _ => False
def PsAt (H : Hp) (a : Addr) (ps : List Pr) : Prop := ∃ xs, H a = some (.lst xs) ∧ Al H xs ps
theorem Al.same {H H' : Hp} (s : Same H H') : ∀ {xs : List V} {ps : List Pr}, Al H xs ps → Al H' xs ps
  | [], [], _ => trivial
  | x :: r, p :: q, h => ⟨let ⟨t, e, ht⟩ := h.1; ⟨t, e, s _ _ ht⟩, Al.same s h.2⟩
  | [], _ :: _, h => h.elim
  | _ :: _, [], h => h.elim
theorem PsAt.same {H H' : Hp} {a : Addr} {ps : List Pr} (h : PsAt H a ps) (s : Same H H') : PsAt H' a ps := let ⟨xs, e, x⟩ := h; ⟨xs, s _ _ e, x.same s⟩
theorem Al.len {H : Hp} : ∀ {xs : List V} {ps : List Pr}, Al H xs ps → xs.length = ps.length
  | [], [], _ => rfl
  | x :: r, p :: q, h => by rw [List.length_cons, List.length_cons, Al.len h.2]
  | [], _ :: _, h => h.elim
  | _ :: _, [], h => h.elim
theorem Al.snoc {H : Hp} {t : Addr} {p : Pr} (ht : H t = some (.tup [.int p.1, .int p.2])) : ∀ {xs : List V} {ps : List Pr}, Al H xs ps → Al H (xs ++ [.ref t]) (ps ++ [p])
  | [], [], _ => ⟨⟨t, rfl, ht⟩, trivial⟩
  | x :: r, p :: q, h => ⟨h.1, Al.snoc ht h.2⟩
  | [], _ :: _, h => h.elim
  | _ :: _, [], h => h.elim
theorem Al.at {H : Hp} : ∀ {xs : List V} {ps : List Pr} {i : Nat} {x : V}, Al H xs ps → xs[i]? = some x → ∃ t p, x = .ref t ∧ ps[i]? = some p ∧ H t = some (.tup [.int p.1, .int p.2])
  | [], _, i, x, _, e => by simp at e
  | x :: r, p :: q, 0, y, h, e => by
    cases e
    obtain ⟨t, e, ht⟩ := h.1
    exact ⟨t, p, e, rfl, ht⟩
  | x :: r, p :: q, i + 1, y, h, e => Al.at (xs := r) (ps := q) (i := i) h.2 e
  | _ :: _, [], _, _, h, _ => h.elim
def kOf (H : Hp) : V → Pr
  | .ref t => match H t with
    | some (.tup [.int i, .int j]) => (i, j)
    | _ => (0, 0)
  | _ => (0, 0)
theorem kOf_at {H : Hp} {t : Addr} {p : Pr} (h : H t = some (.tup [.int p.1, .int p.2])) : kOf H (.ref t) = p := by
  show (match H t with | some (.tup [.int i, .int j]) => (i, j) | _ => ((0, 0) : Pr)) = p
  rw [h]
theorem Al.k {H : Hp} : ∀ {xs : List V} {ps : List Pr}, Al H xs ps → xs.map (kOf H) = ps ∧ ∀ x ∈ xs, ∃ t, x = .ref t ∧ H t = some (.tup [.int (kOf H x).1, .int (kOf H x).2])
  | [], [], _ => ⟨rfl, fun x hx => by cases hx⟩
  | x :: r, p :: q, h => by
    obtain ⟨⟨t, rfl, ht⟩, h2⟩ := h
    obtain ⟨a, b⟩ := Al.k h2
    refine ⟨by rw [List.map_cons, a, kOf_at ht], fun y hy => ?_⟩
    rcases List.mem_cons.mp hy with rfl | hy
    · exact ⟨t, rfl, by rw [kOf_at ht]; exact ht⟩
    · exact b y hy
  | [], _ :: _, h => h.elim
  | _ :: _, [], h => h.elim
theorem Al.of {H : Hp} {k : V → Pr} : ∀ {xs : List V}, (∀ x ∈ xs, ∃ t, x = .ref t ∧ H t = some (.tup [.int (k x).1, .int (k x).2])) → Al H xs (xs.map k)
  | [], _ => trivial
  | x :: r, h => ⟨h x List.mem_cons_self, Al.of fun y hy => h y (List.mem_cons_of_mem _ hy)⟩
theorem PsAt.pairs {H : Hp} {a : Addr} {ps : List Pr} (h : PsAt H a ps) : ∃ xs, PairsAt H a xs (kOf H) ∧ xs.map (kOf H) = ps := by
  obtain ⟨xs, e, x⟩ := h
  obtain ⟨k1, k2⟩ := x.k
  exact ⟨xs, ⟨e, k2⟩, k1⟩
section
variable {P : Program} {w : World} {K : PySem.W.Frag} {mg : Str → Option Value} {base : Heap} {A : Ad} {D : Fd}
def spApart : Sp := fun vs H Q _ => ∃ (a b : Addr) (p q : Pr) (r : Int), vs = [.ref a, .ref b, .int r] ∧ H a = some (.tup [.int p.1, .int p.2]) ∧ H b = some (.tup [.int q.1, .int q.2]) ∧ Q (.bl (apart p q r)) H
theorem ok_law_apart (T : Tx K mg A D) : FnOk P w K mg base CX0 2 A.f_law_apart D.f_law_apart ["_law_one", "_law_two", "_law_rank"] spApart := by
  refine T.F_law_apart.ok sc_law_apart (fun vs H Q E h => ?_) (fun cdv A' outer s H vs Q E hr h => ?_)
  · obtain ⟨a, b, p, q, r, rfl, _⟩ := h
    rfl
  · obtain ⟨a, b, p, q, r, rfl, ha, hb, k⟩ := h
    refine ⟨_, ((pss_cons (ps_if (pt_cmpR op_eq (pv 2) pe_int (nomark _)) (pss_one (ps_ret (pe_cmpR op_ne (pe_cmpR op_eq (pe_ix ix_tup (pv 0) pe_int (fun _ _ => rfl)) (pe_ix ix_tup (pv 1) pe_int (fun _ _ => rfl)) (nomark _)) (pe_cmpR op_eq (pe_ix ix_tup (pv 0) pe_int (fun _ _ => rfl)) (pe_ix ix_tup (pv 1) pe_int (fun _ _ => rfl)) (nomark _)) (nomark _)))) pss_nil)
      (pss_cons (ps_if (pt_cmpR op_eq (pv 2) pe_int (nomark _)) (pss_one (ps_ret (pe_cmpR op_ne (pe_cmpR op_lt (pe_ix ix_tup (pv 0) pe_int (fun _ _ => rfl)) (pe_ix ix_tup (pv 1) pe_int (fun _ _ => rfl)) (nomark _)) (pe_cmpR op_lt (pe_ix ix_tup (pv 0) pe_int (fun _ _ => rfl)) (pe_ix ix_tup (pv 1) pe_int (fun _ _ => rfl)) (nomark _)) (nomark _)))) pss_nil)
      (pss_cons (ps_if (pt_cmpR op_eq (pv 2) pe_int (nomark _)) (pss_one (ps_ret pe_bl)) pss_nil)
      (pss_cons (ps_if (pt_val (pe_callB call_isi (by rfl) T.b_isinstance (by decide +kernel) (pa_cons (pe_ix ix_tup (pv 0) pe_int (fun _ _ => rfl)) (pa_cons (pe_bltn (v := .ty "str") (by rfl) T.b_str (by decide +kernel) rfl) pa_nil)))) (pss_one (ps_ret pe_bl)) pss_nil)
      (pss_cons (ps_if (pt_cmpR op_eq (pv 2) pe_int (nomark _)) (pss_one (ps_ret (pe_cmpR op_ne (pe_op op_sub (pe_ix ix_tup (pv 0) pe_int (fun _ _ => rfl)) (pe_ix ix_tup (pv 0) pe_int (fun _ _ => rfl))) (pe_op op_sub (pe_ix ix_tup (pv 1) pe_int (fun _ _ => rfl)) (pe_ix ix_tup (pv 1) pe_int (fun _ _ => rfl))) (nomark _)))) pss_nil)
      (pss_one (ps_ret (pe_cmpR op_ne (pe_ix ix_tup (pv 0) pe_int (fun _ _ => rfl)) (pe_ix ix_tup (pv 0) pe_int (fun _ _ => rfl)) (nomark _)))))))))), ?_⟩
    unfold apart at k
    refine ⟨_, rfl, rfl, _, rfl, ?_⟩
    by_cases h1 : r = 1
    · refine if_true_of (by rw [dI]; exact decide_eq_true h1) ?_
      rw [if_pos h1] at k
      refine ⟨_, rfl, a, _, _, .int p.1, rfl, rfl, SqT.of ha, rfl, _, rfl, b, _, _, .int q.1, rfl, rfl, SqT.of hb, rfl, rfl, _, rfl, a, _, _, .int p.2, rfl, rfl, SqT.of ha, rfl, _, rfl, b, _, _, .int q.2, rfl, rfl, SqT.of hb, rfl, rfl, rfl, ?_⟩
      rw [dI, dI, dB]
      exact k
    refine if_false_of (by rw [dI]; exact decide_eq_false h1) ?_
    rw [if_neg h1] at k
    refine ⟨_, rfl, rfl, _, rfl, ?_⟩
    by_cases h2 : r = 2
    · refine if_true_of (by rw [dI]; exact decide_eq_true h2) ?_
      rw [if_pos h2] at k
      refine ⟨_, rfl, a, _, _, .int p.1, rfl, rfl, SqT.of ha, rfl, _, rfl, b, _, _, .int q.1, rfl, rfl, SqT.of hb, rfl, _, _, rfl, rfl, _, rfl, a, _, _, .int p.2, rfl, rfl, SqT.of ha, rfl, _, rfl, b, _, _, .int q.2, rfl, rfl, SqT.of hb, rfl, _, _, rfl, rfl, rfl, ?_⟩
      rw [dB]
      exact k
    refine if_false_of (by rw [dI]; exact decide_eq_false h2) ?_
    rw [if_neg h2] at k
    refine ⟨_, rfl, rfl, _, rfl, ?_⟩
    by_cases h3 : r = 0
    · refine if_true_of (by rw [dI]; exact decide_eq_true h3) ?_
      rw [if_pos h3] at k
      exact k
    refine if_false_of (by rw [dI]; exact decide_eq_false h3) ?_
    rw [if_neg h3] at k
    refine ⟨_, rfl, a, _, _, .int p.1, rfl, rfl, SqT.of ha, rfl, _, _, _, _, false, rfl, .ty "str", .base (.int _), kit_ty (by decide +kernel), _, rfl, ?_⟩
    refine if_false_of rfl ?_
    refine ⟨_, rfl, rfl, _, rfl, ?_⟩
    by_cases h4 : r = 3
    · refine if_true_of (by rw [dI]; exact decide_eq_true h4) ?_
      rw [if_pos h4] at k
      refine ⟨_, rfl, a, _, _, .int p.2, rfl, rfl, SqT.of ha, rfl, _, rfl, a, _, _, .int p.1, rfl, rfl, SqT.of ha, rfl, _, _, rfl, rfl, _, rfl, b, _, _, .int q.2, rfl, rfl, SqT.of hb, rfl, _, rfl, b, _, _, .int q.1, rfl, rfl, SqT.of hb, rfl, _, _, rfl, rfl, rfl, ?_⟩
      rw [dI]
      exact k
    refine if_false_of (by rw [dI]; exact decide_eq_false h4) ?_
    rw [if_neg h4] at k
    refine ⟨_, rfl, a, _, _, .int p.1, rfl, rfl, SqT.of ha, rfl, _, rfl, a, _, _, .int p.2, rfl, rfl, SqT.of ha, rfl, rfl, ?_⟩
    rw [dI]
    exact k
def spKeeps : Sp := fun vs H Q _ => ∃ (a : Addr) (ps : List Pr) (r : Int), vs = [.ref a, .int r] ∧ PsAt H a ps ∧ Q (.bl (keepsB ps r)) H
theorem ok_law_keeps (T : Tx K mg A D) : FnOk P w K mg base CX0 4 A.f_law_keeps D.f_law_keeps ["_law_pairs", "_law_rank"] spKeeps := by
  refine T.F_law_keeps.ok sc_law_keeps (fun vs H Q E h => ?_) (fun cdv A' outer s H vs Q E hr h => ?_)
  · obtain ⟨a, ps, r, rfl, _⟩ := h
    rfl
  · obtain ⟨a, ps, r, rfl, ⟨xs, ha, hx⟩, k⟩ := h
    refine ⟨_, ((pss_cons (ps_for PassesOwn.never rfl (pi_list (pv 0)) (pg_name (i := 2) sc_law_keeps.nd rfl (by first | exact Or.inl rfl | exact Or.inr rfl)) (pss_one (ps_for PassesOwn.never rfl (pi_list (pv 0)) (pg_name (i := 3) sc_law_keeps.nd rfl (by first | exact Or.inl rfl | exact Or.inr rfl)) (pss_one (ps_if (pt_val (pe_call (ok_law_apart T) (hr.mono (by decide)) (by rfl) T.m_law_apart T.F_law_apart.kp (b_law_apart T) .nil pass0 (pa_cons (pv 2) (pa_cons (pv 3) (pa_cons (pv 1) pa_nil))))) (pss_one (ps_ret pe_bl)) pss_nil)))))
      (pss_one (ps_ret pe_bl)))), ?_⟩
    have hlen := hx.len
    have bad : ∀ p ∈ ps, ∀ q ∈ ps, apart p q r = true → Q (.bl false) H := fun p hp q hq e => by
      rw [show keepsB ps r = false from Bool.eq_false_iff.mpr fun z => by
        have h2 := List.all_eq_true.mp (List.all_eq_true.mp z p hp) q hq
        rw [e] at h2
        cases h2] at k
      exact k
    refine ⟨_, rfl, a, rfl, ⟨_, SqL.of ha⟩, for_list (K := K) (a := a) (xs := xs) (fun i σ H2 => H2 = H ∧ (∀ j p, j < i → ps[j]? = some p → ∀ q ∈ ps, apart p q r = false) ∧ ∃ v2 v3, σ = [some (.ref a), some (.int r), v2, v3]) ⟨rfl, fun j p hj => absurd hj (Nat.not_lt_zero _), none, none, rfl⟩ (fun i σ H2 _ h => by rw [h.1]; exact SqL.of ha) ?_ ?_⟩
    · rintro i x σ H2 hi ⟨rfl, hb, v2, v3, rfl⟩
      obtain ⟨t, p, rfl, hp, ht⟩ := hx.at hi
      refine ⟨_, rfl, a, rfl, ⟨_, SqL.of ha⟩, for_list (K := K) (a := a) (xs := xs) (fun m σ H3 => H3 = H2 ∧ (∀ j q, j < m → ps[j]? = some q → apart p q r = false) ∧ ∃ v3, σ = [some (.ref a), some (.int r), some (.ref t), v3]) ⟨rfl, fun j p hj => absurd hj (Nat.not_lt_zero _), v3, rfl⟩ (fun i σ H2 _ h => by rw [h.1]; exact SqL.of ha) ?_ ?_⟩
      · rintro m y σ H3 hm ⟨rfl, hb2, v3, rfl⟩
        obtain ⟨u, q, rfl, hq, hu⟩ := hx.at hm
        refine ⟨_, rfl, _, rfl, _, rfl, t, u, p, q, r, rfl, ht, hu, _, rfl, ?_⟩
        by_cases e : apart p q r = true
        · refine if_true_of e ?_
          exact bad p (List.mem_of_getElem? hp) q (List.mem_of_getElem? hq) e
        · have e := Bool.eq_false_iff.mpr e
          refine if_false_of e ?_
          refine ⟨rfl, fun j q' hj hq' => ?_, _, rfl⟩
          rcases Nat.lt_succ_iff_lt_or_eq.mp hj with z | z
          · exact hb2 j q' z hq'
          · rw [z, hq] at hq'
            cases hq'
            exact e
      · rintro σ H3 ⟨rfl, hb2, v3, rfl⟩
        refine ⟨rfl, fun j p' hj hp' q' hq' => ?_, _, _, rfl⟩
        rcases Nat.lt_succ_iff_lt_or_eq.mp hj with z | z
        · exact hb j p' z hp' q' hq'
        · rw [z, hp] at hp'
          cases hp'
          obtain ⟨m, hm, em⟩ := List.mem_iff_getElem.mp hq'
          exact hb2 m q' (by rw [hlen]; exact hm) (by rw [List.getElem?_eq_getElem hm, em])
    · rintro σ H2 ⟨rfl, hb, v2, v3, rfl⟩
      rw [show keepsB ps r = true from keeps_iff.mpr fun p hp q hq => by
        obtain ⟨m, hm, em⟩ := List.mem_iff_getElem.mp hp
        exact hb m p (by rw [hlen]; exact hm) (by rw [List.getElem?_eq_getElem hm, em]) q hq] at k
      exact k
def spKept : Sp := fun vs H Q _ => ∃ (a : Addr) (ps : List Pr), vs = [.ref a] ∧ PsAt H a ps ∧ Q (.int (keptN ps)) H
theorem ok_law_kept (T : Tx K mg A D) : FnOk P w K mg base CX0 6 A.f_law_kept D.f_law_kept ["_law_pairs"] spKept := by
  refine T.F_law_kept.ok sc_law_kept (fun vs H Q E h => ?_) (fun cdv A' outer s H vs Q E hr h => ?_)
  · obtain ⟨a, ps, rfl, _⟩ := h
    rfl
  · obtain ⟨a, ps, rfl, hp, k⟩ := h
    refine ⟨_, ((pss_cons (ps_set (i := 1) sc_law_kept.nd rfl (by first | exact Or.inl rfl | exact Or.inr rfl) pe_int)
      (pss_cons (ps_for PassesOwn.never rfl (pi_range1 (by rfl) T.b_range (pa_cons pe_int pa_nil)) (pg_name (i := 2) sc_law_kept.nd rfl (by first | exact Or.inl rfl | exact Or.inr rfl)) (pss_one (ps_if (pt_val (pe_call (ok_law_keeps T) (hr.mono (by decide)) (by rfl) T.m_law_keeps T.F_law_keeps.kp (b_law_keeps T) .nil pass0 (pa_cons (pv 0) (pa_cons (pv 2) pa_nil)))) (pss_one (ps_set (i := 1) sc_law_kept.nd rfl (by first | exact Or.inl rfl | exact Or.inr rfl) (pv 2))) pss_nil)))
      (pss_one (ps_ret (pv 1)))))), ?_⟩
    refine ⟨5, rfl, by decide, by decide, for_range (lo := 0) (n := 5) (fun i σ H2 => H2 = H ∧ ∃ (b : Int) (v2 : Option V), σ = [some (.ref a), some (.int b), v2] ∧ (∀ r : Int, b < r → r < i → keepsB ps r = false) ∧ 0 ≤ b ∧ (0 < b → keepsB ps b = true) ∧ b ≤ 4) ⟨rfl, 0, none, rfl, fun r h1 h2 => by omega, by omega, fun z => by omega, by omega⟩ ?_ ?_⟩
    · rintro i σ H2 hi ⟨rfl, b, v2, rfl, h1, h2, h3, h4⟩
      refine ⟨_, rfl, _, rfl, a, ps, 0 + (i : Int), rfl, hp, _, rfl, ?_⟩
      by_cases e : keepsB ps (0 + (i : Int)) = true
      · refine if_true_of e ?_
        refine ⟨_, rfl, rfl, 0 + (i : Int), _, rfl, fun r z1 z2 => by omega, by omega, fun _ => e, by omega⟩
      · have e := Bool.eq_false_iff.mpr e
        refine if_false_of e ?_
        refine ⟨rfl, b, _, rfl, fun r z1 z2 => ?_, h2, h3, h4⟩
        by_cases z : r = 0 + (i : Int)
        · rw [z]; exact e
        · exact h1 r z1 (by omega)
    · rintro σ H2 ⟨rfl, b, v2, rfl, h1, h2, h3, h4⟩
      have e : keptN ps = b := by
        have c : b = 0 ∨ b = 1 ∨ b = 2 ∨ b = 3 ∨ b = 4 := by omega
        unfold keptN
        rcases c with rfl | rfl | rfl | rfl | rfl
        · rw [h1 4 (by decide) (by decide), h1 3 (by decide) (by decide), h1 2 (by decide) (by decide), h1 1 (by decide) (by decide)]; rfl
        · rw [h1 4 (by decide) (by decide), h1 3 (by decide) (by decide), h1 2 (by decide) (by decide), h3 (by decide)]; rfl
        · rw [h1 4 (by decide) (by decide), h1 3 (by decide) (by decide), h3 (by decide)]; rfl
        · rw [h1 4 (by decide) (by decide), h3 (by decide)]; rfl
        · rw [h3 (by decide)]; rfl
      rw [e] at k
      exact ⟨_, rfl, k⟩
def names5 : List Str := ["none", "same", "order", "distance", "value"]
def nameN (n : Int) : Str := names5.getD n.toNat ""
theorem names5_at {n : Int} (h0 : 0 ≤ n) (h1 : n ≤ 4) : atI (names5.map V.str) n = some (.str (nameN n)) := by
  have c : n = 0 ∨ n = 1 ∨ n = 2 ∨ n = 3 ∨ n = 4 := by omega
  rcases c with rfl | rfl | rfl | rfl | rfl <;> rfl
def spRelation : Sp := fun vs H Q _ => ∃ (a : Addr) (ps : List Pr), vs = [.str (nameN (keptN ps)), .ref a] ∧ PsAt H a ps ∧ ∀ H', Same H H' → Q (.bl true) H'
theorem ok_law_relation (T : Tx K mg A D) : FnOk P w K mg base CX0 8 A.f_law_relation D.f_law_relation ["_law_told", "_law_pairs"] spRelation := by
  refine T.F_law_relation.ok sc_law_relation (fun vs H Q E h => ?_) (fun cdv A' outer s H vs Q E hr h => ?_)
  · obtain ⟨a, ps, rfl, _⟩ := h
    rfl
  · obtain ⟨a, ps, rfl, hp, k⟩ := h
    refine ⟨_, ((pss_cons (ps_set (i := 2) sc_law_relation.nd rfl (by first | exact Or.inl rfl | exact Or.inr rfl) (pe_lst (pa_cons pe_str (pa_cons pe_str (pa_cons pe_str (pa_cons pe_str (pa_cons pe_str pa_nil)))))))
      (pss_one (ps_ret (pe_and (pe_callB call_isi (by rfl) T.b_isinstance (by decide +kernel) (pa_cons (pv 0) (pa_cons (pe_bltn (v := .ty "str") (by rfl) T.b_str (by decide +kernel) rfl) pa_nil))) (pe_one (pe_cmpR op_eq (pv 0) (pe_ix ix_list (pv 2) (pe_call (ok_law_kept T) (hr.mono (by decide)) (by rfl) T.m_law_kept T.F_law_kept.kp (b_law_kept T) .nil pass0 (pa_cons (pv 1) pa_nil)) (fun _ _ => rfl)) (nomark _)))))))), ?_⟩
    refine ⟨by show 5 ≤ sizeLine; decide, fun t ht => ?_⟩
    have s1 := same_new (o := .lst (names5.map V.str)) ht
    refine ⟨_, rfl, _, _, _, _, true, rfl, .ty "str", .base (.str _), kit_ty (by decide +kernel), _, rfl, ?_⟩
    refine if_true_of rfl ?_
    refine ⟨_, rfl, _, rfl, _, rfl, a, ps, rfl, hp.same s1, t, names5.map V.str, _, _, rfl, rfl, SqL.of upd_same, names5_at (keptN_rng ps).1 (keptN_rng ps).2, rfl, ?_⟩
    rw [decide_eq_true rfl]
    exact k _ s1
end
end L2.Cd

namespace L2.Cd
open PySem PySem.Spec PyProof.Rows L2.Ex
section
variable {P : Program} {w : World} {K : PySem.W.Frag} {mg : Str → Option Value} {base : Heap} {A : Ad} {D : Fd}
def spKeptBy : Sp := fun vs H Q _ => ∃ (a : Addr) (ps : List Pr), vs = [.ref a] ∧ PsAt H a ps ∧ ps.length < 1000 ∧ ∀ H', Same H H' → Q (.str (nameN (keptN ps))) H'
theorem lex_of {k : V → Pr} {ys : List V} (h : SrtO.Srtd (ltP k) ys) : LexS (ys.map k) := by
  refine List.pairwise_map.mpr (List.Pairwise.imp (fun {x y} e => ?_) h)
  have := SrtO.lexB_no.mp e
  omega
theorem Al.keepT {H H' : Hp} (s : ∀ t xs, H t = some (.tup xs) → H' t = some (.tup xs)) : ∀ {xs : List V} {ps : List Pr}, Al H xs ps → Al H' xs ps
  | [], [], _ => trivial
  | x :: r, p :: q, h => ⟨let ⟨t, e, ht⟩ := h.1; ⟨t, e, s _ _ ht⟩, Al.keepT s h.2⟩
  | [], _ :: _, h => h.elim
  | _ :: _, [], h => h.elim
theorem Al.pairsAt {H : Hp} {a : Addr} {xs : List V} {ps : List Pr} (h : Al H xs ps) (ha : H a = some (.lst xs)) : PairsAt H a xs (kOf H) ∧ xs.map (kOf H) = ps := ⟨⟨ha, h.k.2⟩, h.k.1⟩
theorem sorted_al {H2 : Hp} {us ys : List V} {o : Addr} {ps : List Pr} (hal : Al H2 us ps) (stb : SrtO.Stb (ltP (kOf H2)) ys us) (srt : SrtO.Srtd (ltP (kOf H2)) ys) (ho : H2 o = none) :
    ∃ S, Al (upd H2 o (.lst ys)) ys S ∧ S.Perm ps ∧ LexS S := by
  obtain ⟨k1, k2⟩ := hal.k
  refine ⟨ys.map (kOf H2), (Al.of fun x hx => k2 x (stb.perm.mem_iff.mp hx)).same (same_new ho), ?_, lex_of srt⟩
  have := stb.perm.map (kOf H2)
  rw [k1] at this
  exact this
theorem rng_min {S : List Pr} {f : Pr → Int} {mn mx : Int} (h1 : mn ∈ S.map f) (h2 : ∀ y ∈ S.map f, mn ≤ y) (h3 : mx ∈ S.map f) (h4 : ∀ y ∈ S.map f, y ≤ mx) : mn = mx ↔ ∀ p ∈ S, ∀ q ∈ S, f p = f q := by
  constructor
  · intro e p hp q hq
    have a := h2 _ (List.mem_map.mpr ⟨p, hp, rfl⟩)
    have b := h4 _ (List.mem_map.mpr ⟨p, hp, rfl⟩)
    have c := h2 _ (List.mem_map.mpr ⟨q, hq, rfl⟩)
    have d := h4 _ (List.mem_map.mpr ⟨q, hq, rfl⟩)
    omega
  · intro h
    obtain ⟨p, hp, rfl⟩ := List.mem_map.mp h1
    obtain ⟨q, hq, rfl⟩ := List.mem_map.mp h3
    exact h p hp q hq
/-- the walk over a list of pairs that lays new pairs -/
theorem lay_pairs {g : Pr → Pr} {H H1 : Hp} {a D : Addr} {ps : List Pr} {xs : List V} {Qd : Hp → Prop} {gt : TG} {te : TE} {σ : St} {vs : List Nat} (hl : ps.length < 1000) (ha : H1 a = some (.lst xs)) (hx : Al H1 xs ps) (s1 : Same H H1) (hD : H1 D = none)
    (turn : ∀ (t : Addr) (p : Pr) (H2 : Hp) (N : V → Hp → Prop), H2 t = some (.tup [.int p.1, .int p.2]) → (∀ T0, H2 T0 = none → N (.ref T0) (upd H2 T0 (.tup [.int (g p).1, .int (g p).2]))) → gt (.ref t) (wipe σ vs) H2 fun σ2 H3 => wipe σ2 vs = wipe σ vs ∧ te σ2 H3 N)
    (fin : ∀ H2, Same H H2 → PsAt H2 D (ps.map g) → Qd H2) :
    ∃ W : Nat → Nat → Hp → Prop, (∃ m, W 0 m (upd H1 D (.lst []))) ∧ ∀ i m H, W i m H →
      ((Itl K a).stop i H ∧ Qd H) ∨ ((Itl K a).go i H ∧ ∃ Nx : Hp → Prop, (∀ H', Nx H' → ∃ m', m' < m ∧ W (i + 1) m' H') ∧ ∀ x H', (Itl K a).yld i H x H' → gt x (wipe σ vs) H' fun σ2 H2 => wipe σ2 vs = wipe σ vs ∧ tYes σ2 H2 fun b H3 =>
        if b = true then te σ2 H3 fun y H4 => ∃ acc, H4 D = some (.lst acc) ∧ acc.length < sizeLine ∧ Nx (upd H4 D (.lst (acc ++ [y]))) else Nx H3) := by
  have hlen := hx.len
  refine lc_it (walk_list (K := K) (a := a) (xs := xs)) (fun i H2 => Same H1 H2 ∧ ∃ us, H2 D = some (.lst us) ∧ Al H2 us ((ps.map g).take i) ∧ us.length ≤ i) ⟨same_new hD, [], upd_same, trivial, Nat.le_refl _⟩ (fun i H2 _ h => SqL.of (h.1 _ _ ha)) ?_ ?_
  · rintro i x H2 H3 hi ⟨s2, us, hD2, hus, hul⟩ ⟨rfl, hxi⟩
    obtain ⟨t, p, rfl, hp, ht⟩ := hx.at hxi
    refine turn t p H3 _ (s2 _ _ ht) fun T0 hT => ?_
    have s3 := s2.trans (same_new (o := .tup [.int (g p).1, .int (g p).2]) hT)
    have nT : D ≠ T0 := ne_of_none hD2 hT
    have hg : (ps.map g)[i]? = some (g p) := by rw [List.getElem?_map, hp]; rfl
    refine ⟨us, (same_new hT) _ _ hD2, by rw [sizeLine_eq]; omega, fun b o e => ?_, us ++ [.ref T0], upd_same, ?_, ?_⟩
    · rw [upd_ne (ne_of_none e hD)]
      exact s3 b o e
    · rw [List.take_add_one, hg]
      refine Al.snoc (by rw [upd_ne nT.symm, upd_same]) (hus.keepT fun t ys e => ?_)
      rw [upd_ne (ne_of e hD2 (fun z => by cases z)), upd_ne (ne_of_none e hT)]
      exact e
    · rw [List.length_append]
      exact Nat.succ_le_succ hul
  · rintro H2 ⟨s2, us, hD2, hus, hul⟩
    refine fin H2 (s1.trans s2) ⟨us, hD2, ?_⟩
    rw [hlen, ← List.length_map (f := g), List.take_length] at hus
    exact hus
theorem ok_kept_by (T : Tx K mg A D) : FnOk P w K mg base CX0 4 A.f_kept_by D.f_kept_by ["pairs"] spKeptBy := by
  refine T.F_kept_by.ok sc_kept_by (fun vs H Q E h => ?_) (fun cdv A' outer s H vs Q E hr h => ?_)
  · obtain ⟨a, ps, rfl, _⟩ := h
    rfl
  · obtain ⟨a, ps, rfl, ⟨xs, ha, hx⟩, hl, q⟩ := h
    have hu := hu_of hr
    refine ⟨_, ((pss_cons (ps_set (i := 1) sc_kept_by.nd rfl (by first | exact Or.inl rfl | exact Or.inr rfl) (pe_callB cr_sortedPO (by rfl) T.b_sorted (by decide +kernel) (pa_cons (pe_lc (own := [("value", 3), ("code", 4)]) (g := (gTup K 2 (gCons (gName 3) (gCons (gName 4) gNil)))) rfl sc_kept_by.nd (pi_list (pv 0)) (blkOk_by (own := [("value", 3), ("code", 4)]) (N := ["pairs", "ordered", "shifts", "value", "code"]) (sc := defScope s_kept_by) (by decide +kernel)) (fun _ _ _ _ _ => (pgTup (K := K) rfl rfl (pgs_cons (pg_name (i := 3) sc_kept_by.nd rfl (by first | exact Or.inl rfl | exact Or.inr rfl)) (pgs_cons (pg_name (i := 4) sc_kept_by.nd rfl (by first | exact Or.inl rfl | exact Or.inr rfl)) pgs_nil)))) (fun _ _ _ _ _ => pts_nil) (fun _ _ _ _ _ => (pe_tup (pa_cons (pv 3) (pa_cons (pv 4) pa_nil))))) pa_nil)))
      (pss_cons (ps_if (pt_not (pt_truth (pv 1) (by intro _; rfl))) (pss_one (ps_ret pe_str)) pss_nil)
      (pss_cons (ps_if (pt_val (pe_callB call_isi (by rfl) T.b_isinstance (by decide +kernel) (pa_cons (pe_ix ix_tup (pe_ix ix_list (pv 1) pe_int (fun _ _ => rfl)) pe_int (fun _ _ => rfl)) (pa_cons (pe_bltn (v := .ty "int") (by rfl) T.b_int (by decide +kernel) rfl) pa_nil)))) (pss_cons (ps_setLc (i := 2) (own := [("value", 3), ("code", 4)]) (g := (gTup K 2 (gCons (gName 3) (gCons (gName 4) gNil)))) rfl sc_kept_by.nd rfl rfl (sw_true rfl rfl rfl (by decide +kernel)) (pi_list (pv 1)) (blkOk_by (own := [("value", 3), ("code", 4)]) (N := ["pairs", "ordered", "shifts", "value", "code"]) (sc := defScope s_kept_by) (by decide +kernel)) (fun _ _ _ _ _ => (pgTup (K := K) rfl rfl (pgs_cons (pg_name (i := 3) sc_kept_by.nd rfl (by first | exact Or.inl rfl | exact Or.inr rfl)) (pgs_cons (pg_name (i := 4) sc_kept_by.nd rfl (by first | exact Or.inl rfl | exact Or.inr rfl)) pgs_nil)))) (fun _ _ _ _ _ => pts_nil) (fun _ _ _ _ _ => (pe_op op_sub (pv 4) (pv 3))))
      (pss_one (ps_if (pt_cmpR op_eq (pe_callB (cr_min rfl) (by rfl) T.b_min (by decide +kernel) (pa_cons (pv 2) pa_nil)) (pe_callB (cr_max rfl) (by rfl) T.b_max (by decide +kernel) (pa_cons (pv 2) pa_nil)) (nomark _)) (pss_one (ps_ret (pe_ifExp (pt_cmpR op_eq (pe_ix ix_list (pv 2) pe_int (fun _ _ => rfl)) pe_int (nomark _)) pe_str pe_str))) pss_nil))) pss_nil)
      (pss_cons (ps_if (pt_val (pe_call (ok_in_order T) (hr.mono (by decide)) (by rfl) T.m_in_order T.F_in_order.kp (b_in_order T) .nil pass0 (pa_cons (pv 1) pa_nil))) (pss_one (ps_ret pe_str)) pss_nil)
      (pss_cons (ps_if (PW.pt (pw_and (pt_val (pe_call (ok_told_by_first T) (hr.mono (by decide)) (by rfl) T.m_told_by_first T.F_told_by_first.kp (b_told_by_first T) .nil pass0 (pa_cons (pv 1) pa_nil))) (pw_and1 (pt_val (pe_call (ok_told_by_first T) (hr.mono (by decide)) (by rfl) T.m_told_by_first T.F_told_by_first.kp (b_told_by_first T) .nil pass0 (pa_cons (pe_callB cr_sortedPO (by rfl) T.b_sorted (by decide +kernel) (pa_cons (pe_lc (own := [("value", 3), ("code", 4)]) (g := (gTup K 2 (gCons (gName 3) (gCons (gName 4) gNil)))) rfl sc_kept_by.nd (pi_list (pv 1)) (blkOk_by (own := [("value", 3), ("code", 4)]) (N := ["pairs", "ordered", "shifts", "value", "code"]) (sc := defScope s_kept_by) (by decide +kernel)) (fun _ _ _ _ _ => (pgTup (K := K) rfl rfl (pgs_cons (pg_name (i := 3) sc_kept_by.nd rfl (by first | exact Or.inl rfl | exact Or.inr rfl)) (pgs_cons (pg_name (i := 4) sc_kept_by.nd rfl (by first | exact Or.inl rfl | exact Or.inr rfl)) pgs_nil)))) (fun _ _ _ _ _ => pts_nil) (fun _ _ _ _ _ => (pe_tup (pa_cons (pv 4) (pa_cons (pv 3) pa_nil))))) pa_nil)) pa_nil)))))) (pss_one (ps_ret pe_str)) pss_nil)
      (pss_one (ps_ret pe_str)))))))), ?_⟩
    refine ⟨_, rfl, a, rfl, ⟨_, SqL.of ha⟩, fun D1 hD1 => lay_pairs (g := fun p => p) hl ha hx (Same.refl H) hD1 (fun t p H2 N ht nx => ?_) fun H2 s2 ⟨us, hus, hal⟩ => ?_⟩
    · exact ⟨t, _, rfl, SqT.of ht, rfl, .int p.1, _, rfl, .int p.2, _, rfl, rfl, rfl, _, rfl, _, rfl, by show 2 ≤ sizeLine; decide, fun T0 h0 => nx T0 h0⟩
    rw [show ps.map (fun p : Pr => p) = ps by simp] at hal
    refine ⟨D1, us, kOf H2, rfl, SqL.of hus, hal.k.2, fun ys o srt stb ho => ?_⟩
    obtain ⟨S, hS, hperm, hlex⟩ := sorted_al hal stb srt ho
    have s3 := s2.trans (same_new (o := .lst ys) ho)
    have ho3 : upd H2 o (.lst ys) o = some (.lst ys) := upd_same
    generalize upd H2 o (.lst ys) = H3 at hS s3 ho3
    have hlS : S.length = ps.length := hperm.length_eq
    have hlY := hS.len
    rw [← keptN_perm hperm] at q
    refine ⟨_, rfl, _, .inl ⟨ys, SqL.of ho3, rfl⟩, ?_⟩
    cases ys with
    | nil =>
      refine if_true_of rfl ?_
      obtain rfl : S = [] := by cases S with | nil => rfl | cons _ _ => exact hS.elim
      exact q _ s3
    | cons y0 yr =>
    refine if_false_of rfl ?_
    obtain ⟨p0, Sr, rfl⟩ : ∃ p0 Sr, S = p0 :: Sr := by cases S with | nil => exact hS.elim | cons a b => exact ⟨a, b, rfl⟩
    obtain ⟨⟨t0, rfl, ht0⟩, _⟩ := id hS
    refine ⟨_, rfl, o, _, _, .ref t0, rfl, rfl, SqL.of ho3, atI_nat (j := 0) rfl, t0, _, _, .int p0.1, rfl, rfl, SqT.of ht0, rfl, _, _, _, _, true, rfl, .ty "int", .base (.int _), kit_ty (by decide +kernel), _, rfl, ?_⟩
    refine if_true_of rfl ?_
    -- shifts
    refine ⟨_, rfl, o, rfl, ⟨_, SqL.of ho3⟩, fun D2 hD2 => lc_it (walk_list (K := K) (a := o) (xs := .ref t0 :: yr)) (fun i H4 => Same H3 H4 ∧ H4 D2 = some (.lst ((((p0 :: Sr).take i).map fun p => p.2 - p.1).map V.int))) ⟨same_new hD2, upd_same⟩ (fun i H4 _ h => SqL.of (h.1 _ _ ho3)) ?_ ?_⟩
    · rintro i x H4 H5 hi ⟨s4, hD4⟩ ⟨rfl, hxi⟩
      obtain ⟨t, p, rfl, hp, ht⟩ := hS.at hxi
      have htH := s4 _ _ ht
      refine ⟨t, _, rfl, SqT.of htH, rfl, .int p.1, _, rfl, .int p.2, _, rfl, rfl, rfl, ?_⟩
      refine iteT (B := True) ?_
      refine iteT ?_
      refine ⟨_, rfl, _, rfl, _, _, rfl, rfl, _, hD4, ?_, fun b o' e => ?_, ?_⟩
      · rw [List.length_map, List.length_map, List.length_take, sizeLine_eq]
        omega
      · rw [upd_ne (ne_of_none e hD2)]
        exact s4 b o' e
      · rw [upd_same, List.take_add_one, hp, List.map_append, List.map_append]
        rfl
    rintro H4 ⟨s4, hD4⟩
    rw [hlY, List.take_length] at hD4
    have sS : ∀ {H5 : Hp}, Same H4 H5 → Same H H5 := fun s5 => s3.trans (s4.trans s5)
    refine ⟨_, rfl, D2, (p0 :: Sr).map fun p => p.2 - p.1, rfl, SqL.of hD4, by simp, fun mn m1 m2 => ⟨_, rfl, D2, (p0 :: Sr).map fun p => p.2 - p.1, rfl, SqL.of hD4, by simp, fun mx x1 x2 => ⟨rfl, _, rfl, ?_⟩⟩⟩
    have hmm := rng_min m1 m2 x1 x2
    by_cases hm : mn = mx
    · refine if_true_of (by rw [dI]; exact decide_eq_true hm) ?_
      have all := hmm.mp hm
      refine ⟨_, rfl, D2, _, _, .int (p0.2 - p0.1), rfl, rfl, SqL.of hD4, atI_nat (j := 0) rfl, rfl, _, rfl, ?_⟩
      by_cases h0 : p0.2 - p0.1 = 0
      · refine if_true_of (by rw [dI]; exact decide_eq_true h0) ?_
        rw [keptN_eq4 fun p hp => (all p hp p0 List.mem_cons_self).trans h0] at q
        exact q _ (sS (Same.refl _))
      · refine if_false_of (by rw [dI]; exact decide_eq_false h0) ?_
        rw [keptN_eq3 all List.mem_cons_self h0] at q
        exact q _ (sS (Same.refl _))
    refine if_false_of (by rw [dI]; exact decide_eq_false hm) ?_
    rw [keptN_less fun z => hm (hmm.mpr z)] at q
    -- in_order
    have hS4 := hS.same s4
    have ho4 := s4 _ _ ho3
    obtain ⟨pa, pk⟩ := hS4.pairsAt ho4
    refine ⟨_, rfl, o, _, kOf H4, rfl, pa, by omega, fun H5 s5 => ⟨_, rfl, ?_⟩⟩
    rw [pk, in_keeps hlex]
    by_cases h2 : keepsB (p0 :: Sr) 2 = true
    · refine if_true_of h2 ?_
      rw [if_pos h2] at q
      exact q _ (sS s5)
    refine if_false_of (Bool.eq_false_iff.mpr h2) ?_
    rw [if_neg h2] at q
    -- told_by_first
    have hS5 := hS4.same s5
    have ho5 := s5 _ _ ho4
    obtain ⟨pa5, pk5⟩ := hS5.pairsAt ho5
    refine ⟨_, rfl, o, _, kOf H5, rfl, pa5, by omega, fun H6 s6 => ⟨_, rfl, ?_⟩⟩
    rw [pk5]
    have hS6 := hS5.same s6
    have ho6 := s6 _ _ ho5
    by_cases hf : adjB fFirst (p0 :: Sr) = true
    · refine if_true_of hf ?_
      refine ⟨_, rfl, o, rfl, ⟨_, SqL.of ho6⟩, fun D3 hD3 => lay_pairs (g := sw) (by omega) ho6 hS6 (Same.refl H6) hD3 (fun t p H2 N ht nx => ?_) fun H7 s7 ⟨us3, hus3, hal3⟩ => ?_⟩
      · exact ⟨t, _, rfl, SqT.of ht, rfl, .int p.1, _, rfl, .int p.2, _, rfl, rfl, rfl, _, rfl, _, rfl, by show 2 ≤ sizeLine; decide, fun T0 h0 => nx T0 h0⟩
      refine ⟨D3, us3, kOf H7, rfl, SqL.of hus3, hal3.k.2, fun zs o2 srt2 stb2 ho2 => ?_⟩
      obtain ⟨S2, hS2, hperm2, hlex2⟩ := sorted_al hal3 stb2 srt2 ho2
      obtain ⟨pa8, pk8⟩ := hS2.pairsAt (a := o2) upd_same
      have s8 := s7.trans (same_new (o := .lst zs) ho2)
      refine ⟨o2, zs, _, rfl, pa8, ?_, fun H9 s9 => ⟨_, rfl, ?_⟩⟩
      · rw [hS2.len, hperm2.length_eq, List.length_map]
        omega
      rw [pk8]
      have e := first_keeps hlex hlex2 hperm2
      rw [hf, Bool.true_and] at e
      rw [e]
      by_cases h1 : keepsB (p0 :: Sr) 1 = true
      · refine if_true_of h1 ?_
        rw [if_pos h1] at q
        exact q _ (sS (s5.trans (s6.trans (s8.trans s9))))
      · refine if_false_of (Bool.eq_false_iff.mpr h1) ?_
        rw [if_neg h1] at q
        exact q _ (sS (s5.trans (s6.trans (s8.trans s9))))
    · refine if_false_of (Bool.eq_false_iff.mpr hf) ?_
      refine if_false_of rfl ?_
      have h1 : keepsB (p0 :: Sr) 1 = false := Bool.eq_false_iff.mpr fun z => hf ((first_iff hlex).mpr fun p hp q hq e => Prod.ext e ((keeps1_iff.mp z p hp q hq).mp e))
      rw [if_neg (by rw [h1]; decide)] at q
      exact q _ (sS (s5.trans s6))
end
end L2.Cd

namespace L2.Cd
open PySem PySem.Spec PyProof.Rows L2.Ex
/-! ## the carry -/
def oi : Option Int → V
  | none => .non
  | some i => .int i
abbrev Rw := Str × Addr × List (Option Int)
abbrev Bk := Str × Addr × List Pr
def rowK (rs : List Rw) : List (Key × V) := rs.map fun r => (.inr r.1, .ref r.2.1)
def bkK (bs : List Bk) : List (Key × V) := bs.map fun r => (.inr r.1, .ref r.2.1)
def cK (c : List Pr) : List (Key × V) := c.map fun e => (.inl e.1, .int e.2)
def caF (pd cd m : Addr) : List (Str × V) := [("places", .ref pd), ("codes", .ref cd), ("moments", .ref m)]
structure CarryAt (C : Addr) (H : Hp) (p pd cd m : Addr) (rs : List Rw) (bs : List Bk) (ms : List Int) : Prop where
  ob : ∃ dx, H p = some (.ins C dx (caF pd cd m))
  hp : H pd = some (.dK (rowK rs))
  hc : H cd = some (.dK (bkK bs))
  hm : H m = some (.tup (ms.map V.int))
  row : ∀ r ∈ rs, H r.2.1 = some (.tup (r.2.2.map oi))
  bk : ∀ b ∈ bs, H b.2.1 = some (.dK (cK b.2.2))
  rn : (rs.map (·.1)).Nodup
  bn : (bs.map (·.1)).Nodup
  cn : ∀ b ∈ bs, (b.2.2.map (·.1)).Nodup
  ln : (∀ r ∈ rs, r.2.2.length < 500) ∧ (∀ b ∈ bs, b.2.2.length < 500) ∧ rs.length < 500 ∧ bs.length < 500 ∧ ms.length < 500
def fpC (p pd cd m : Addr) (rs : List Rw) (bs : List Bk) : Addr → Prop := fun b => b = p ∨ b = pd ∨ b = cd ∨ b = m ∨ (∃ r ∈ rs, b = r.2.1) ∨ ∃ r ∈ bs, b = r.2.1
theorem CarryAt.keep {C : Addr} {H H' : Hp} {p pd cd m : Addr} {rs : List Rw} {bs : List Bk} {ms : List Int} (h : CarryAt C H p pd cd m rs bs ms) (k : ∀ b o, fpC p pd cd m rs bs b → H b = some o → H' b = some o) : CarryAt C H' p pd cd m rs bs ms := by
  obtain ⟨⟨dx, ob⟩, hp, hc, hm, row, bk, rn, bn, cn, ln⟩ := h
  exact ⟨⟨dx, k _ _ (.inl rfl) ob⟩, k _ _ (.inr (.inl rfl)) hp, k _ _ (.inr (.inr (.inl rfl))) hc, k _ _ (.inr (.inr (.inr (.inl rfl)))) hm, fun r hr => k _ _ (.inr (.inr (.inr (.inr (.inl ⟨r, hr, rfl⟩))))) (row r hr), fun r hr => k _ _ (.inr (.inr (.inr (.inr (.inr ⟨r, hr, rfl⟩))))) (bk r hr), rn, bn, cn, ln⟩
theorem CarryAt.same {C : Addr} {H H' : Hp} {p pd cd m : Addr} {rs : List Rw} {bs : List Bk} {ms : List Int} (h : CarryAt C H p pd cd m rs bs ms) (s : Same H H') : CarryAt C H' p pd cd m rs bs ms := h.keep fun b o _ e => s b o e
theorem valV_mem : ∀ {kw : List (Key × V)}, (kw.map (·.1)).Nodup → ∀ p ∈ kw, valV kw p.1 = some p.2
  | [], _, p, h => by cases h
  | a :: r, nd, p, h => by
    rw [List.map_cons] at nd
    obtain ⟨n1, n2⟩ := List.nodup_cons.mp nd
    rcases List.mem_cons.mp h with rfl | h
    · exact valV_pos rfl
    · rw [valV_neg (fun z => n1 (by rw [z]; exact List.mem_map.mpr ⟨p, h, rfl⟩))]
      exact valV_mem n2 p h
theorem valV_out : ∀ {kw : List (Key × V)} {k : Key}, k ∉ kw.map (·.1) → valV kw k = none
  | [], _, _ => rfl
  | a :: r, k, h => by
    rw [valV_neg (fun z => h (by rw [← z]; exact List.mem_cons_self))]
    exact valV_out fun z => h (List.mem_cons_of_mem _ z)
theorem nd_inr : ∀ {xs : List Str}, xs.Nodup → (xs.map fun x => (Sum.inr x : Key)).Nodup
  | [], _ => List.nodup_nil
  | x :: r, h => by
    obtain ⟨h1, h2⟩ := List.nodup_cons.mp h
    refine List.nodup_cons.mpr ⟨fun z => ?_, nd_inr h2⟩
    obtain ⟨y, hy, e⟩ := List.mem_map.mp z
    cases e
    exact h1 hy
theorem nd_inl : ∀ {xs : List Int}, xs.Nodup → (xs.map fun x => (Sum.inl x : Key)).Nodup
  | [], _ => List.nodup_nil
  | x :: r, h => by
    obtain ⟨h1, h2⟩ := List.nodup_cons.mp h
    refine List.nodup_cons.mpr ⟨fun z => ?_, nd_inl h2⟩
    obtain ⟨y, hy, e⟩ := List.mem_map.mp z
    cases e
    exact h1 hy
theorem rowK_keys {rs : List Rw} : (rowK rs).map (·.1) = (rs.map (·.1)).map fun x => (Sum.inr x : Key) := by unfold rowK; rw [List.map_map, List.map_map]; rfl
theorem bkK_keys {rs : List Bk} : (bkK rs).map (·.1) = (rs.map (·.1)).map fun x => (Sum.inr x : Key) := by unfold bkK; rw [List.map_map, List.map_map]; rfl
theorem cK_keys {c : List Pr} : (cK c).map (·.1) = (c.map (·.1)).map fun x => (Sum.inl x : Key) := by unfold cK; rw [List.map_map, List.map_map]; rfl
theorem rowK_at {rs : List Rw} (nd : (rs.map (·.1)).Nodup) {r : Rw} (h : r ∈ rs) : valV (rowK rs) (.inr r.1) = some (.ref r.2.1) :=
  valV_mem (by rw [rowK_keys]; exact nd_inr nd) (Sum.inr r.1, V.ref r.2.1) (List.mem_map.mpr ⟨r, h, rfl⟩)
theorem bkK_at {rs : List Bk} (nd : (rs.map (·.1)).Nodup) {r : Bk} (h : r ∈ rs) : valV (bkK rs) (.inr r.1) = some (.ref r.2.1) :=
  valV_mem (by rw [bkK_keys]; exact nd_inr nd) (Sum.inr r.1, V.ref r.2.1) (List.mem_map.mpr ⟨r, h, rfl⟩)
theorem cK_at {c : List Pr} (nd : (c.map (·.1)).Nodup) {r : Pr} (h : r ∈ c) : valV (cK c) (.inl r.1) = some (.int r.2) :=
  valV_mem (by rw [cK_keys]; exact nd_inl nd) (Sum.inl r.1, V.int r.2) (List.mem_map.mpr ⟨r, h, rfl⟩)
theorem rowK_out {rs : List Rw} {x : Str} (h : x ∉ rs.map (·.1)) : valV (rowK rs) (.inr x) = none := valV_out (by
  rw [rowK_keys]
  intro z
  obtain ⟨y, hy, e⟩ := List.mem_map.mp z
  cases e
  exact h hy)
theorem bkK_out {rs : List Bk} {x : Str} (h : x ∉ rs.map (·.1)) : valV (bkK rs) (.inr x) = none := valV_out (by
  rw [bkK_keys]
  intro z
  obtain ⟨y, hy, e⟩ := List.mem_map.mp z
  cases e
  exact h hy)
theorem cK_out {c : List Pr} {x : Int} (h : x ∉ c.map (·.1)) : valV (cK c) (.inl x) = none := valV_out (by
  rw [cK_keys]
  intro z
  obtain ⟨y, hy, e⟩ := List.mem_map.mp z
  cases e
  exact h hy)
theorem dget_s {H : Hp} {a : Addr} {kvs : List (Key × V)} {x : Str} {o : Option V} (h : H a = some (.dK kvs)) (e : valV kvs (.inr x) = o) : DGet H a (.str x) o := e ▸ DGet.k (k := Sum.inr x) h
theorem dget_i {H : Hp} {a : Addr} {kvs : List (Key × V)} {x : Int} {o : Option V} (h : H a = some (.dK kvs)) (e : valV kvs (.inl x) = o) : DGet H a (.int x) o := e ▸ DGet.k (k := Sum.inl x) h
theorem dget_sR {H : Hp} {a : Addr} {kvs : List (Key × V)} {x : Str} {o : Option V} (h : Rd H a (.dK kvs)) (e : valV kvs (.inr x) = o) : DGet H a (.str x) o := .inl ⟨kvs, .inr x, h, rfl, e.symm⟩
theorem dget_iR {H : Hp} {a : Addr} {kvs : List (Key × V)} {x : Int} {o : Option V} (h : Rd H a (.dK kvs)) (e : valV kvs (.inl x) = o) : DGet H a (.int x) o := .inl ⟨kvs, .inl x, h, rfl, e.symm⟩
theorem ca_places {pd cd m : Addr} : (caF pd cd m).lookup ("places" : Str) = some (.ref pd) := rfl
theorem ca_codes {pd cd m : Addr} : (caF pd cd m).lookup ("codes" : Str) = some (.ref cd) := by
  unfold caF
  rw [List.lookup_cons, show (("codes" : Str) == "places") = false by decide +kernel]
  rfl
theorem ca_moments {pd cd m : Addr} : (caF pd cd m).lookup ("moments" : Str) = some (.ref m) := by
  unfold caF
  rw [List.lookup_cons, show (("moments" : Str) == "places") = false by decide +kernel]
  show List.lookup _ _ = _
  rw [List.lookup_cons, show (("moments" : Str) == "codes") = false by decide +kernel]
  rfl
theorem ca_no {pd cd m : Addr} {f : Str} (h1 : (f == "places") = false) (h2 : (f == "codes") = false) (h3 : (f == "moments") = false) : (caF pd cd m).lookup f = none := by
  unfold caF
  rw [List.lookup_cons, h1]
  show List.lookup _ _ = _
  rw [List.lookup_cons, h2]
  show List.lookup _ _ = _
  rw [List.lookup_cons, h3]
  rfl
/-- the pairs that a row of places tells -/
def pairsTo (row : List (Option Int)) (n : Nat) : List Pr := (List.range n).filterMap fun i => (row.getD i none).map fun v => ((i : Int), v)
def pairsOf (row : List (Option Int)) : List Pr := pairsTo row row.length
theorem pairsTo_succ {row : List (Option Int)} {n : Nat} {o : Option Int} (h : row[n]? = some o) : pairsTo row (n + 1) = pairsTo row n ++ (o.map fun v => ((n : Int), v)).toList := by
  unfold pairsTo
  rw [List.range_succ, List.filterMap_append]
  congr 1
  have e : row.getD n none = o := by rw [List.getD_eq_getElem?_getD, h]; rfl
  rw [List.filterMap_cons, List.filterMap_nil, e]
  cases o <;> rfl
theorem pairsTo_len {row : List (Option Int)} {n : Nat} : (pairsTo row n).length ≤ n := by
  have := List.length_filterMap_le (fun i => (row.getD i none).map fun v => ((i : Int), v)) (List.range n)
  rw [List.length_range] at this
  exact this
section
variable {P : Program} {w : World} {K : PySem.W.Frag} {mg : Str → Option Value} {base : Heap} {A : Ad} {D : Fd}
/-! ### the errors -/
/-- an error of the class at C is made: its own dict holds the field f -/
def spX (C : Addr) (f : Str) : Sp := fun vs H Q _ => ∃ (a : Addr) (y : V), vs = [.ref a, y] ∧ H a = some (exo a C none) ∧ ∀ d, H d = none → d ≠ a → Q .non (upd (upd H d (exd d [(f, y)])) a (exo a C (some d)))
theorem ok_NoCode_init (T : Tx K mg A D) : FnOk P w K mg base CX0 1 A.f_NoCode_init D.f_NoCode_init ["self", "code"] (spX A.c_NoCode "code") := by
  refine T.F_NoCode_init.ok sc_NoCode_init (fun vs H Q E h => ?_) (fun cdv A' outer s H vs Q E hr h => ?_)
  · obtain ⟨a, y, rfl, _⟩ := h
    rfl
  · obtain ⟨a, y, rfl, ha, k⟩ := h
    refine ⟨_, ((pss_one (ps_ost (pv 0) (pv 1)))), ?_⟩
    exact ⟨_, rfl, _, rfl, a, _, rfl, T.ox_NoCode, T.xn_NoCode_code, .inl ⟨ha, fun dx n ne => k dx n ne⟩⟩
theorem ok_NoTable_init (T : Tx K mg A D) : FnOk P w K mg base CX0 1 A.f_NoTable_init D.f_NoTable_init ["self", "name"] (spX A.c_NoTable "name") := by
  refine T.F_NoTable_init.ok sc_NoTable_init (fun vs H Q E h => ?_) (fun cdv A' outer s H vs Q E hr h => ?_)
  · obtain ⟨a, y, rfl, _⟩ := h
    rfl
  · obtain ⟨a, y, rfl, ha, k⟩ := h
    refine ⟨_, ((pss_one (ps_ost (pv 0) (pv 1)))), ?_⟩
    exact ⟨_, rfl, _, rfl, a, _, rfl, T.ox_NoTable, T.xn_NoTable_name, .inl ⟨ha, fun dx n ne => k dx n ne⟩⟩
theorem ok_NoBook_init (T : Tx K mg A D) : FnOk P w K mg base CX0 1 A.f_NoBook_init D.f_NoBook_init ["self", "name"] (spX A.c_NoBook "name") := by
  refine T.F_NoBook_init.ok sc_NoBook_init (fun vs H Q E h => ?_) (fun cdv A' outer s H vs Q E hr h => ?_)
  · obtain ⟨a, y, rfl, _⟩ := h
    rfl
  · obtain ⟨a, y, rfl, ha, k⟩ := h
    refine ⟨_, ((pss_one (ps_ost (pv 0) (pv 1)))), ?_⟩
    exact ⟨_, rfl, _, rfl, a, _, rfl, T.ox_NoBook, T.xn_NoBook_name, .inl ⟨ha, fun dx n ne => k dx n ne⟩⟩
theorem raise_one {C : Addr} {f : Str} {y : V} {H : Hp} {Q : XK} (q : ∀ d, H d = none → Q (.ref C) (some d) (upd H d (.xd [(f, y)]))) : ([y] : List V).length ≤ 1000 ∧ ∀ a, H a = none → spX C f (.ref a :: ([y] ++ [])) (upd H a (exo a C none))
    (fun v H2 => v = .non ∧ ∃ (d : Addr) (fs : List (Str × V)), H2 a = some (exo a C (some d)) ∧ H2 d = some (exd d fs) ∧ H d = none ∧ Q (.ref C) (some d) (upd (del H2 a) d (.xd fs))) (fun _ _ _ => False) := by
  refine ⟨(by show 1 ≤ 1000; decide), fun a ha => ⟨a, y, rfl, upd_same, fun d hd hda => ⟨rfl, d, [(f, y)], upd_same, by rw [upd_ne hda, upd_same], by rw [upd_ne hda] at hd; exact hd, ?_⟩⟩⟩
  have hd' : H d = none := by rw [upd_ne hda] at hd; exact hd
  have e : upd (del (upd (upd (upd H a (exo a C none)) d (exd d [(f, y)])) a (exo a C (some d))) a) d (.xd [(f, y)]) = upd H d (.xd [(f, y)]) := by
    funext b
    by_cases h : b = d
    · rw [h, upd_same, upd_same]
    · rw [upd_ne h, upd_ne h]
      by_cases h' : b = a
      · rw [h', del_same, ha]
      · rw [del_ne h', upd_ne h', upd_ne h, upd_ne h']
  rw [e]
  exact q d hd'
/-! ### what a carry tells -/
def spNewPlace (C CN : Addr) : Sp := fun vs H Q E => ∃ (p pd cd m : Addr) (rs : List Rw) (bs : List Bk) (ms : List Int) (x : Str) (i : Int), vs = [.ref p, .str x, .int i] ∧ CarryAt C H p pd cd m rs bs ms ∧
  ((x ∉ rs.map (·.1) ∧ ∀ d, H d = none → E (.ref CN) (some d) (upd H d (.xd [("name", .str x)]))) ∨ ∃ r ∈ rs, r.1 = x ∧ ∃ (j : Nat) (o : Option Int), i = j ∧ r.2.2[j]? = some o ∧ Q (oi o) H)
theorem ok_Carry_new_place (T : Tx K mg A D) : FnOk P w K mg base (L2.CX P w) 4 A.f_Carry_new_place D.f_Carry_new_place ["self", "table", "old"] (spNewPlace A.c_Carry A.c_NoTable) := by
  refine T.F_Carry_new_place.okX sc_Carry_new_place (fun vs H Q E h => ?_) (fun cdv A' outer s H vs Q E hr h => ?_)
  · obtain ⟨p, pd, cd, m, rs, bs, ms, x, i, rfl, _⟩ := h
    rfl
  · obtain ⟨p, pd, cd, m, rs, bs, ms, x, i, rfl, Y, h⟩ := h
    have hu := hu_of hr
    refine ⟨_, ((pss_cons (ps_if (pt_cmp (pc_dnotin hu (pv 1) (pe_fld (pv 0) rfl))) (pss_one (ps_raise rfl (takes_of rfl rfl rfl rfl) (pmk_oex T.ox_NoTable T.xi_NoTable T.xt_NoTable (ok_NoTable_init T) (hr.mono (by decide)) (b_NoTable_init T) .nil (fun _ _ _ _ _ _ _ h => h.elim) (by rfl) T.m_NoTable (pa_cons (pv 1) pa_nil)))) pss_nil)
      (pss_one (ps_ret (pe_ix ix_tup (pe_dget hu (pe_fld (pv 0) rfl) (pv 1) (fun _ _ => rfl)) (pv 2) (fun _ _ => rfl)))))), ?_⟩
    obtain ⟨dx, ob⟩ := Y.ob
    rcases h with ⟨hx, k⟩ | ⟨r, hr', rfl, j, o, rfl, ho, k⟩
    · refine ⟨_, rfl, _, rfl, p, _, dx, _, _, rfl, ob, T.cl_Carry, T.na_Carry_places, ca_places, pd, _, rfl, dget_s Y.hp (rowK_out hx), _, rfl, ?_⟩
      refine if_true_of rfl ?_
      exact ⟨_, rfl, raise_one k⟩
    · refine ⟨_, rfl, _, rfl, p, _, dx, _, _, rfl, ob, T.cl_Carry, T.na_Carry_places, ca_places, pd, _, rfl, dget_s Y.hp (rowK_at Y.rn hr'), _, rfl, ?_⟩
      refine if_false_of rfl ?_
      exact ⟨_, rfl, p, _, dx, _, _, rfl, ob, T.cl_Carry, T.na_Carry_places, ca_places, _, rfl, pd, _, rfl, dget_s Y.hp (rowK_at Y.rn hr'), _, rfl, r.2.1, _, _, oi o, rfl, rfl, SqT.of (Y.row r hr'), atI_nat (by rw [List.getElem?_map, ho]; rfl), k⟩
def spNewCode (C CB CN : Addr) : Sp := fun vs H Q E => ∃ (p pd cd m : Addr) (rs : List Rw) (bs : List Bk) (ms : List Int) (x : Str) (i : Int), vs = [.ref p, .str x, .int i] ∧ CarryAt C H p pd cd m rs bs ms ∧
  ((x ∉ bs.map (·.1) ∧ ∀ d, H d = none → E (.ref CB) (some d) (upd H d (.xd [("name", .str x)]))) ∨ ∃ b ∈ bs, b.1 = x ∧ ((i ∉ b.2.2.map (·.1) ∧ ∀ d, H d = none → E (.ref CN) (some d) (upd H d (.xd [("code", .int i)]))) ∨ ∃ j, (i, j) ∈ b.2.2 ∧ Q (.int j) H))
theorem ok_Carry_new_code (T : Tx K mg A D) : FnOk P w K mg base (L2.CX P w) 4 A.f_Carry_new_code D.f_Carry_new_code ["self", "book", "old"] (spNewCode A.c_Carry A.c_NoBook A.c_NoCode) := by
  refine T.F_Carry_new_code.okX sc_Carry_new_code (fun vs H Q E h => ?_) (fun cdv A' outer s H vs Q E hr h => ?_)
  · obtain ⟨p, pd, cd, m, rs, bs, ms, x, i, rfl, _⟩ := h
    rfl
  · obtain ⟨p, pd, cd, m, rs, bs, ms, x, i, rfl, Y, h⟩ := h
    have hu := hu_of hr
    refine ⟨_, ((pss_cons (ps_if (pt_cmp (pc_dnotin hu (pv 1) (pe_fld (pv 0) rfl))) (pss_one (ps_raise rfl (takes_of rfl rfl rfl rfl) (pmk_oex T.ox_NoBook T.xi_NoBook T.xt_NoBook (ok_NoBook_init T) (hr.mono (by decide)) (b_NoBook_init T) .nil (fun _ _ _ _ _ _ _ h => h.elim) (by rfl) T.m_NoBook (pa_cons (pv 1) pa_nil)))) pss_nil)
      (pss_cons (ps_if (pt_cmp (pc_dnotin hu (pv 2) (pe_dget hu (pe_fld (pv 0) rfl) (pv 1) (fun _ _ => rfl)))) (pss_one (ps_raise rfl (takes_of rfl rfl rfl rfl) (pmk_oex T.ox_NoCode T.xi_NoCode T.xt_NoCode (ok_NoCode_init T) (hr.mono (by decide)) (b_NoCode_init T) .nil (fun _ _ _ _ _ _ _ h => h.elim) (by rfl) T.m_NoCode (pa_cons (pv 2) pa_nil)))) pss_nil)
      (pss_one (ps_ret (pe_dget hu (pe_dget hu (pe_fld (pv 0) rfl) (pv 1) (fun _ _ => rfl)) (pv 2) (fun _ _ => rfl))))))), ?_⟩
    obtain ⟨dx, ob⟩ := Y.ob
    rcases h with ⟨hx, k⟩ | ⟨b, hb, rfl, h⟩
    · refine ⟨_, rfl, _, rfl, p, _, dx, _, _, rfl, ob, T.cl_Carry, T.na_Carry_codes, ca_codes, cd, _, rfl, dget_s Y.hc (bkK_out hx), _, rfl, ?_⟩
      refine if_true_of rfl ?_
      exact ⟨_, rfl, raise_one k⟩
    · refine ⟨_, rfl, _, rfl, p, _, dx, _, _, rfl, ob, T.cl_Carry, T.na_Carry_codes, ca_codes, cd, _, rfl, dget_s Y.hc (bkK_at Y.bn hb), _, rfl, ?_⟩
      refine if_false_of rfl ?_
      rcases h with ⟨hi, k⟩ | ⟨j, hj, k⟩
      · refine ⟨_, rfl, _, rfl, p, _, dx, _, _, rfl, ob, T.cl_Carry, T.na_Carry_codes, ca_codes, _, rfl, cd, _, rfl, dget_s Y.hc (bkK_at Y.bn hb), b.2.1, _, rfl, dget_i (Y.bk b hb) (cK_out hi), _, rfl, ?_⟩
        refine if_true_of rfl ?_
        exact ⟨_, rfl, raise_one k⟩
      · refine ⟨_, rfl, _, rfl, p, _, dx, _, _, rfl, ob, T.cl_Carry, T.na_Carry_codes, ca_codes, _, rfl, cd, _, rfl, dget_s Y.hc (bkK_at Y.bn hb), b.2.1, _, rfl, dget_i (Y.bk b hb) (cK_at (Y.cn b hb) hj), _, rfl, ?_⟩
        refine if_false_of rfl ?_
        exact ⟨_, rfl, p, _, dx, _, _, rfl, ob, T.cl_Carry, T.na_Carry_codes, ca_codes, _, rfl, cd, _, rfl, dget_s Y.hc (bkK_at Y.bn hb), _, rfl, b.2.1, _, rfl, dget_i (Y.bk b hb) (cK_at (Y.cn b hb) hj), k⟩
def spKeepsP (C CN : Addr) : Sp := fun vs H Q E => ∃ (p pd cd m : Addr) (rs : List Rw) (bs : List Bk) (ms : List Int) (x : Str), vs = [.ref p, .str x] ∧ CarryAt C H p pd cd m rs bs ms ∧
  ((x ∉ rs.map (·.1) ∧ ∀ d, H d = none → E (.ref CN) (some d) (upd H d (.xd [("name", .str x)]))) ∨ ∃ r ∈ rs, r.1 = x ∧ ∀ H', Same H H' → Q (.str (nameN (keptN (pairsOf r.2.2)))) H')
theorem ok_Carry_keeps_places (T : Tx K mg A D) : FnOk P w K mg base (L2.CX P w) 8 A.f_Carry_keeps_places D.f_Carry_keeps_places ["self", "table"] (spKeepsP A.c_Carry A.c_NoTable) := by
  refine T.F_Carry_keeps_places.okX sc_Carry_keeps_places (fun vs H Q E h => ?_) (fun cdv A' outer s H vs Q E hr h => ?_)
  · obtain ⟨p, pd, cd, m, rs, bs, ms, x, rfl, _⟩ := h
    rfl
  · obtain ⟨p, pd, cd, m, rs, bs, ms, x, rfl, Y, h⟩ := h
    have hu := hu_of hr
    refine ⟨_, ((pss_cons (ps_if (pt_cmp (pc_dnotin hu (pv 1) (pe_fld (pv 0) rfl))) (pss_one (ps_raise rfl (takes_of rfl rfl rfl rfl) (pmk_oex T.ox_NoTable T.xi_NoTable T.xt_NoTable (ok_NoTable_init T) (hr.mono (by decide)) (b_NoTable_init T) .nil (fun _ _ _ _ _ _ _ h => h.elim) (by rfl) T.m_NoTable (pa_cons (pv 1) pa_nil)))) pss_nil)
      (pss_cons (ps_set (i := 2) sc_Carry_keeps_places.nd rfl (by first | exact Or.inl rfl | exact Or.inr rfl) (pe_dget hu (pe_fld (pv 0) rfl) (pv 1) (fun _ _ => rfl)))
      (pss_one (ps_ret (pe_call (ok_kept_by T) (hr.mono (by decide)) (by rfl) T.m_kept_by T.F_kept_by.kp (b_kept_by T) .nil pass0 (pa_cons (pe_lc (own := [("old", 3), ("new", 4)]) (g := (gTup K 2 (gCons (gName 3) (gCons (gName 4) gNil)))) rfl sc_Carry_keeps_places.nd (pi_enumT (by rfl) T.b_enumerate (pa_cons (pv 2) pa_nil)) (blkOk_by (own := [("old", 3), ("new", 4)]) (N := ["self", "table", "places", "old", "new"]) (sc := defScope s_Carry_keeps_places) (by decide +kernel)) (fun _ _ _ _ _ => (pgTup (K := K) rfl rfl (pgs_cons (pg_name (i := 3) sc_Carry_keeps_places.nd rfl (by first | exact Or.inl rfl | exact Or.inr rfl)) (pgs_cons (pg_name (i := 4) sc_Carry_keeps_places.nd rfl (by first | exact Or.inl rfl | exact Or.inr rfl)) pgs_nil)))) (fun _ _ _ _ _ => (pts_one (pt_cmpR op_notN (pv 4) pe_non (nomark _)))) (fun _ _ _ _ _ => (pe_tup (pa_cons (pv 3) (pa_cons (pv 4) pa_nil))))) pa_nil))))))), ?_⟩
    obtain ⟨dx, ob⟩ := Y.ob
    rcases h with ⟨hx, k⟩ | ⟨r, hr', rfl, k⟩
    · refine ⟨_, rfl, _, rfl, p, _, dx, _, _, rfl, ob, T.cl_Carry, T.na_Carry_places, ca_places, pd, _, rfl, dget_s Y.hp (rowK_out hx), _, rfl, ?_⟩
      refine if_true_of rfl ?_
      exact ⟨_, rfl, raise_one k⟩
    · refine ⟨_, rfl, _, rfl, p, _, dx, _, _, rfl, ob, T.cl_Carry, T.na_Carry_places, ca_places, pd, _, rfl, dget_s Y.hp (rowK_at Y.rn hr'), _, rfl, ?_⟩
      refine if_false_of rfl ?_
      refine ⟨_, rfl, p, _, dx, _, _, rfl, ob, T.cl_Carry, T.na_Carry_places, ca_places, _, rfl, pd, _, rfl, dget_s Y.hp (rowK_at Y.rn hr'), ?_⟩
      have hrow := Y.row r hr'
      have hl := Y.ln.1 r hr'
      refine ⟨_, rfl, r.2.1, _, rfl, SqT.of hrow, fun D1 hD1 => lc_it (walk_enumT (K := K) (a := r.2.1) (xs := r.2.2.map oi)) (fun i H2 => Same H H2 ∧ ∃ us, H2 D1 = some (.lst us) ∧ Al H2 us (pairsTo r.2.2 i)) ⟨same_new hD1, [], upd_same, trivial⟩ (fun i H2 _ h => SqT.of (h.1 _ _ hrow)) ?_ ?_⟩
      · rintro i v H2 H3 hi ⟨s2, us, hD2, hus⟩ ⟨T0, x, y, rfl, hT, rfl, hx, hy⟩
        cases hx
        have hy : (r.2.2.map oi)[i]? = some y := hy
        rw [List.getElem?_map] at hy
        obtain ⟨o, ho, rfl⟩ : ∃ o, r.2.2[i]? = some o ∧ y = oi o := by
          cases e : r.2.2[i]? with
          | none => rw [e] at hy; cases hy
          | some o => rw [e] at hy; exact ⟨o, rfl, (Option.some.inj hy).symm⟩
        have sT := same_new (o := .tup [.int (i : Nat), oi o]) hT
        have hD3 := sT _ _ hD2
        have hus3 := hus.same sT
        have hl3 := hus.len
        have pl := pairsTo_len (row := r.2.2) (n := i)
        rw [List.length_map] at hi
        refine ⟨T0, _, rfl, SqT.of upd_same, rfl, .int (i : Nat), _, rfl, oi o, _, rfl, rfl, ?_⟩
        refine ⟨rfl, ?_⟩
        cases o with
        | none =>
          refine ⟨_, rfl, rfl, _, rfl, ?_⟩
          refine if_false_of rfl ?_
          exact ⟨s2.trans sT, us, hD3, by rw [pairsTo_succ ho]; simpa using hus3⟩
        | some z =>
          refine ⟨_, rfl, rfl, _, rfl, ?_⟩
          refine if_true_of rfl ?_
          refine ⟨_, rfl, _, rfl, by show 2 ≤ sizeLine; decide, fun T1 hT1 => ⟨us, (same_new hT1) _ _ hD3, by rw [sizeLine_eq]; omega, ?_, us ++ [.ref T1], upd_same, ?_⟩⟩
          · intro b o' e
            rw [upd_ne (ne_of_none e hD1)]
            exact (s2.trans (sT.trans (same_new hT1))) b o' e
          · rw [pairsTo_succ ho]
            have nT1 : D1 ≠ T1 := ne_of_none hD3 hT1
            refine Al.snoc (p := ((i : Int), z)) (by rw [upd_ne nT1.symm, upd_same]; rfl) (hus3.keepT fun t ys e => ?_)
            rw [upd_ne (ne_of e hD3 (fun z => by cases z)), upd_ne (ne_of_none e hT1)]
            exact e
      · rintro H2 ⟨s2, us, hD2, hus⟩
        rw [List.length_map] at hus
        refine ⟨D1, pairsOf r.2.2, rfl, ⟨us, hD2, hus⟩, ?_, fun H3 s3 => k _ (s2.trans s3)⟩
        have := pairsTo_len (row := r.2.2) (n := r.2.2.length)
        show (pairsTo r.2.2 r.2.2.length).length < 1000
        omega
end
end L2.Cd

namespace L2.Cd
open PySem PySem.Spec PyProof.Rows L2.Ex
theorem lock_same {H H' : Hp} {d : Addr} {u : HO} (h : H d = some u) (k : ∀ b o, H b = some o → b ≠ d → H' b = some o) : Same H (upd H' d u) := fun b o e => by
  by_cases z : b = d
  · rw [z, upd_same, ← h, ← z]; exact e
  · rw [upd_ne z]; exact k b o e z
theorem cK_ix {c : List Pr} {i : Nat} {k : Key} {v : V} (h : (cK c)[i]? = some (k, v)) : ∃ e, c[i]? = some e ∧ k = .inl e.1 ∧ v = .int e.2 := by
  unfold cK at h
  rw [List.getElem?_map] at h
  cases e : c[i]? with
  | none => rw [e] at h; cases h
  | some e' => rw [e] at h; cases h; exact ⟨e', rfl, rfl, rfl⟩
theorem rowK_ix {c : List Rw} {i : Nat} {k : Key} {v : V} (h : (rowK c)[i]? = some (k, v)) : ∃ e, c[i]? = some e ∧ k = .inr e.1 ∧ v = .ref e.2.1 := by
  unfold rowK at h
  rw [List.getElem?_map] at h
  cases e : c[i]? with
  | none => rw [e] at h; cases h
  | some e' => rw [e] at h; cases h; exact ⟨e', rfl, rfl, rfl⟩
theorem bkK_ix {c : List Bk} {i : Nat} {k : Key} {v : V} (h : (bkK c)[i]? = some (k, v)) : ∃ e, c[i]? = some e ∧ k = .inr e.1 ∧ v = .ref e.2.1 := by
  unfold bkK at h
  rw [List.getElem?_map] at h
  cases e : c[i]? with
  | none => rw [e] at h; cases h
  | some e' => rw [e] at h; cases h; exact ⟨e', rfl, rfl, rfl⟩
section
variable {P : Program} {w : World} {K : PySem.W.Frag} {mg : Str → Option Value} {base : Heap} {A : Ad} {D : Fd}
def spKeepsC (C CN : Addr) : Sp := fun vs H Q E => ∃ (p pd cd m : Addr) (rs : List Rw) (bs : List Bk) (ms : List Int) (x : Str), vs = [.ref p, .str x] ∧ CarryAt C H p pd cd m rs bs ms ∧
  ((x ∉ bs.map (·.1) ∧ ∀ d, H d = none → E (.ref CN) (some d) (upd H d (.xd [("name", .str x)]))) ∨ ∃ r ∈ bs, r.1 = x ∧ ∀ H', Same H H' → Q (.str (nameN (keptN r.2.2))) H')
theorem ok_Carry_keeps_codes (T : Tx K mg A D) : FnOk P w K mg base (L2.CX P w) 8 A.f_Carry_keeps_codes D.f_Carry_keeps_codes ["self", "book"] (spKeepsC A.c_Carry A.c_NoBook) := by
  refine T.F_Carry_keeps_codes.okX sc_Carry_keeps_codes (fun vs H Q E h => ?_) (fun cdv A' outer s H vs Q E hr h => ?_)
  · obtain ⟨p, pd, cd, m, rs, bs, ms, x, rfl, _⟩ := h
    rfl
  · obtain ⟨p, pd, cd, m, rs, bs, ms, x, rfl, Y, h⟩ := h
    have hu := hu_of hr
    refine ⟨_, ((pss_cons (ps_if (pt_cmp (pc_dnotin hu (pv 1) (pe_fld (pv 0) rfl))) (pss_one (ps_raise rfl (takes_of rfl rfl rfl rfl) (pmk_oex T.ox_NoBook T.xi_NoBook T.xt_NoBook (ok_NoBook_init T) (hr.mono (by decide)) (b_NoBook_init T) .nil (fun _ _ _ _ _ _ _ h => h.elim) (by rfl) T.m_NoBook (pa_cons (pv 1) pa_nil)))) pss_nil)
      (pss_cons (ps_set (i := 2) sc_Carry_keeps_codes.nd rfl (by first | exact Or.inl rfl | exact Or.inr rfl) (pe_dget hu (pe_fld (pv 0) rfl) (pv 1) (fun _ _ => rfl)))
      (pss_one (ps_ret (pe_call (ok_kept_by T) (hr.mono (by decide)) (by rfl) T.m_kept_by T.F_kept_by.kp (b_kept_by T) .nil pass0 (pa_cons (pe_lock (pe_lc (own := [("old", 3)]) (g := (gName 3)) rfl sc_Carry_keeps_codes.nd (pi_keys (pv 2)) (blkOk_by (own := [("old", 3)]) (N := ["self", "book", "codes", "old"]) (sc := defScope s_Carry_keeps_codes) (by decide +kernel)) (fun _ _ _ _ _ => (pg_name (i := 3) sc_Carry_keeps_codes.nd rfl (by first | exact Or.inl rfl | exact Or.inr rfl))) (fun _ _ _ _ _ => pts_nil) (fun _ _ _ _ _ => (pe_tup (pa_cons (pv 3) (pa_cons (pe_dget hu (pv 2) (pv 3) (fun _ _ => rfl)) pa_nil)))))) pa_nil))))))), ?_⟩
    obtain ⟨dx, ob⟩ := Y.ob
    rcases h with ⟨hx, k⟩ | ⟨r, hr', rfl, k⟩
    · refine ⟨_, rfl, _, rfl, p, _, dx, _, _, rfl, ob, T.cl_Carry, T.na_Carry_codes, ca_codes, cd, _, rfl, dget_s Y.hc (bkK_out hx), _, rfl, ?_⟩
      refine if_true_of rfl ?_
      exact ⟨_, rfl, raise_one k⟩
    · refine ⟨_, rfl, _, rfl, p, _, dx, _, _, rfl, ob, T.cl_Carry, T.na_Carry_codes, ca_codes, cd, _, rfl, dget_s Y.hc (bkK_at Y.bn hr'), _, rfl, ?_⟩
      refine if_false_of rfl ?_
      refine ⟨_, rfl, p, _, dx, _, _, rfl, ob, T.cl_Carry, T.na_Carry_codes, ca_codes, _, rfl, cd, _, rfl, dget_s Y.hc (bkK_at Y.bn hr'), ?_⟩
      have hd := Y.bk r hr'
      have hl := Y.ln.2.1 r hr'
      have nd := Y.cn r hr'
      refine ⟨r.2.1, _, hd, trivial, fun od => ⟨_, rfl, r.2.1, od, rfl, .inl ⟨cK r.2.2, upd_same, fun D1 hD1 => lc_it (walk_keys (d := r.2.1) (o := od) (kvs := cK r.2.2)) (fun i H2 => H2 r.2.1 = some (.frz od (.dK (cK r.2.2))) ∧ (∀ b o, H b = some o → b ≠ r.2.1 → H2 b = some o) ∧ ∃ us, H2 D1 = some (.lst us) ∧ Al H2 us (r.2.2.take i))
        ⟨?_, ?_, [], upd_same, trivial⟩ (fun i H2 _ h => h.1) ?_ ?_⟩⟩⟩
      · rw [upd_ne (ne_of_none (H := upd H _ _) upd_same hD1), upd_same]
      · intro b o e hb
        have e2 : upd H r.2.1 (.frz od (.dK (cK r.2.2))) b = some o := by rw [upd_ne hb]; exact e
        rw [upd_ne (ne_of_none e2 hD1)]
        exact e2
      · rintro i v H2 H3 hi ⟨hf, kp, us, hD2, hus⟩ ⟨rfl, kk, vv, hkv, rfl⟩
        obtain ⟨e, he, rfl, rfl⟩ := cK_ix hkv
        have hi2 : i < r.2.2.length := (List.getElem?_eq_some_iff.mp he).1
        have hl3 := hus.len
        rw [List.length_take] at hl3
        refine ⟨rfl, ?_⟩
        refine iteT (B := True) ?_
        refine iteT ?_
        refine ⟨_, rfl, _, rfl, _, rfl, r.2.1, _, rfl, dget_iR (.inr ⟨od, hf⟩) (cK_at nd (List.mem_of_getElem? he)), by show 2 ≤ sizeLine; decide, fun T1 hT1 => ⟨us, (same_new hT1) _ _ hD2, by rw [sizeLine_eq]; omega, ?_, ?_, us ++ [.ref T1], upd_same, ?_⟩⟩
        · rw [upd_ne (ne_of hf hD2 (fun z => by cases z)), upd_ne (ne_of_none hf hT1)]
          exact hf
        · intro b o e' hb
          have e2 := kp b o e' hb
          have nb : b ≠ D1 := by
            have e3 : upd H r.2.1 (.frz od (.dK (cK r.2.2))) b = some o := by rw [upd_ne hb]; exact e'
            exact ne_of_none e3 hD1
          rw [upd_ne nb, upd_ne (ne_of_none e2 hT1)]
          exact e2
        · rw [List.take_add_one, he]
          have nT1 : D1 ≠ T1 := ne_of_none hD2 hT1
          refine Al.snoc (p := e) (by rw [upd_ne nT1.symm, upd_same]; rfl) (hus.keepT fun t ys e => ?_)
          rw [upd_ne (ne_of e hD2 (fun z => by cases z)), upd_ne (ne_of_none e hT1)]
          exact e
      · rintro H2 ⟨hf, kp, us, hD2, hus⟩
        rw [show (cK r.2.2).length = r.2.2.length by unfold cK; rw [List.length_map], List.take_length] at hus
        have sS := lock_same hd kp
        have nD : D1 ≠ r.2.1 := ne_of hD2 hf (fun z => by cases z)
        refine ⟨hf, D1, r.2.2, rfl, ⟨us, by rw [upd_ne nD]; exact hD2, hus.keepT fun t ys e => ?_⟩, by omega, fun H3 s3 => k _ (sS.trans s3)⟩
        rw [upd_ne (ne_of e hf (fun z => by cases z))]
        exact e
end
end L2.Cd

namespace L2.Cd
open PySem PySem.Spec PyProof.Rows L2.Ex
/-! ## a carry is made -/
structure InAt (H : Hp) (pl co mo : Addr) (rs : List Rw) (bs : List Bk) (ms : List Int) : Prop where
  hp : H pl = some (.dK (rowK rs))
  hc : H co = some (.dK (bkK bs))
  hm : H mo = some (.lst (ms.map V.int)) ∨ H mo = some (.tup (ms.map V.int))
  row : ∀ r ∈ rs, H r.2.1 = some (.lst (r.2.2.map oi)) ∨ H r.2.1 = some (.tup (r.2.2.map oi))
  bk : ∀ b ∈ bs, H b.2.1 = some (.dK (cK b.2.2))
  rn : (rs.map (·.1)).Nodup
  bn : (bs.map (·.1)).Nodup
  cn : ∀ b ∈ bs, (b.2.2.map (·.1)).Nodup
  ln : (∀ r ∈ rs, r.2.2.length < 500) ∧ (∀ b ∈ bs, b.2.2.length < 500) ∧ rs.length < 500 ∧ bs.length < 500 ∧ ms.length < 500
def rdat (r : Rw) : Str × List (Option Int) := (r.1, r.2.2)
def bdat (r : Bk) : Str × List Pr := (r.1, r.2.2)
/-- new, or a tuple -/
def NewT (H : Hp) (b : Addr) : Prop := H b = none ∨ ∃ xs, H b = some (.tup xs)
theorem rowK_snoc {rs : List Rw} {r : Rw} (h : r.1 ∉ rs.map (·.1)) : putK (rowK rs) (.inr r.1) (.ref r.2.1) = rowK (rs ++ [r]) := by
  rw [putK_new _ (rowK_out h)]
  unfold rowK
  rw [List.map_append]
  rfl
theorem bkK_snoc {rs : List Bk} {r : Bk} (h : r.1 ∉ rs.map (·.1)) : putK (bkK rs) (.inr r.1) (.ref r.2.1) = bkK (rs ++ [r]) := by
  rw [putK_new _ (bkK_out h)]
  unfold bkK
  rw [List.map_append]
  rfl
theorem cK_snoc {c : List Pr} {e : Pr} (h : e.1 ∉ c.map (·.1)) : putK (cK c) (.inl e.1) (.int e.2) = cK (c ++ [e]) := by
  rw [putK_new _ (cK_out h)]
  unfold cK
  rw [List.map_append]
  rfl
theorem bkK_ne {bs : List Bk} {c : List Pr} {e : Bk} (h : e ∈ bs) : bkK bs ≠ cK c := fun z => by
  have m : ((Sum.inr e.1 : Key), V.ref e.2.1) ∈ cK c := by
    rw [← z]
    exact List.mem_map.mpr ⟨e, h, rfl⟩
  obtain ⟨p, _, hp⟩ := List.mem_map.mp m
  cases hp
theorem take_new {α β : Type} {f : α → β} {l : List α} {i : Nat} {x : α} (nd : (l.map f).Nodup) (h : l[i]? = some x) : f x ∉ (l.take i).map f := by
  intro z
  have e : (l.map f)[i]? = some (f x) := by rw [List.getElem?_map, h]; rfl
  rw [List.map_take] at z
  obtain ⟨j, hj, ej⟩ := List.mem_iff_getElem.mp z
  rw [List.length_take] at hj
  have e2 : (l.map f)[j]? = some (f x) := by
    rw [List.getElem_take] at ej
    rw [List.getElem?_eq_getElem (by omega), ej]
  have := nd_ix nd e2 e
  omega
theorem names_of {rs rs' : List Rw} (h : rs'.map rdat = rs.map rdat) : rs'.map (·.1) = rs.map (·.1) := by
  have := congrArg (List.map Prod.fst) h
  rwa [List.map_map, List.map_map] at this
theorem names_ofB {rs rs' : List Bk} (h : rs'.map bdat = rs.map bdat) : rs'.map (·.1) = rs.map (·.1) := by
  have := congrArg (List.map Prod.fst) h
  rwa [List.map_map, List.map_map] at this
section
variable {P : Program} {w : World} {K : PySem.W.Frag} {mg : Str → Option Value} {base : Heap} {A : Ad} {D : Fd}
def spCInit (C : Addr) : Sp := fun vs H Q _ => ∃ (p dx pl co mo : Addr) (rs : List Rw) (bs : List Bk) (ms : List Int), vs = [.ref p, .ref pl, .ref co, .ref mo] ∧ H p = some (.ins C dx []) ∧ InAt H pl co mo rs bs ms ∧
  ∀ (pd cd m : Addr) (rs' : List Rw) (bs' : List Bk) (H' : Hp), CarryAt C H' p pd cd m rs' bs' ms → rs'.map rdat = rs.map rdat → bs'.map bdat = bs.map bdat → (∀ b o, H b = some o → b ≠ p → H' b = some o) → (∀ b, fpC p pd cd m rs' bs' b → b = p ∨ NewT H b) → Q .non H'
theorem ok_Carry_init (T : Tx K mg A D) : FnOk P w K mg base CX0 2 A.f_Carry_init D.f_Carry_init ["self", "places", "codes", "moments"] (spCInit A.c_Carry) := by
  refine T.F_Carry_init.ok sc_Carry_init (fun vs H Q E h => ?_) (fun cdv A' outer s H vs Q E hr h => ?_)
  · obtain ⟨p, dx, pl, co, mo, rs, bs, ms, rfl, _⟩ := h
    rfl
  · obtain ⟨p, dx, pl, co, mo, rs, bs, ms, rfl, hp, Y, k⟩ := h
    have hu := hu_of hr
    refine ⟨_, ((pss_cons (ps_fld (pv 0) (pe_lock (pe_dc (own := [("table", 4)]) (g := (gName 4)) rfl sc_Carry_init.nd (pi_keys (pv 1)) (blkOk_by (own := [("table", 4)]) (N := ["self", "places", "codes", "moments", "table", "book", "old"]) (sc := defScope s_Carry_init) (by decide +kernel)) (fun _ _ _ _ _ => (pg_name (i := 4) sc_Carry_init.nd rfl (by first | exact Or.inl rfl | exact Or.inr rfl))) (fun _ _ _ _ _ => pts_nil) (fun _ _ _ _ _ => (pv 4)) (fun _ _ _ _ _ => (pe_callTy (callTupOf (K := K) rfl) (by rfl) T.b_tuple (by decide +kernel) (pa_cons (pe_dget hu (pv 1) (pv 4) (fun _ _ => rfl)) pa_nil))))) rfl)
      (pss_cons (ps_fld (pv 0) (pe_lock (pe_dc (own := [("book", 5)]) (g := (gName 5)) rfl sc_Carry_init.nd (pi_keys (pv 2)) (blkOk_by (own := [("book", 5)]) (N := ["self", "places", "codes", "moments", "table", "book", "old"]) (sc := defScope s_Carry_init) (by decide +kernel)) (fun _ _ _ _ _ => (pg_name (i := 5) sc_Carry_init.nd rfl (by first | exact Or.inl rfl | exact Or.inr rfl))) (fun _ _ _ _ _ => pts_nil) (fun _ _ _ _ _ => (pv 5)) (fun _ _ _ _ _ => (pe_lock (pe_dc (own := [("old", 6)]) (g := (gName 6)) rfl sc_Carry_init.nd (pi_keys (pe_dget hu (pv 2) (pv 5) (fun _ _ => rfl))) (blkOk_by (own := [("old", 6)]) (N := ["self", "places", "codes", "moments", "table", "book", "old"]) (by kernel_rfl)) (fun _ _ _ _ _ => (pg_name (i := 6) sc_Carry_init.nd rfl (by first | exact Or.inl rfl | exact Or.inr rfl))) (fun _ _ _ _ _ => pts_nil) (fun _ _ _ _ _ => (pv 6)) (fun _ _ _ _ _ => (pe_dget hu (pe_dget hu (pv 2) (pv 5) (fun _ _ => rfl)) (pv 6) (fun _ _ => rfl)))))))) rfl)
      (pss_one (ps_fld (pv 0) (pe_callTy call_tuple_of (by rfl) T.b_tuple (by decide +kernel) (pa_cons (pv 3) pa_nil)) rfl))))), ?_⟩
    -- places
    refine ⟨pl, _, Y.hp, trivial, fun od => ⟨_, rfl, pl, od, rfl, .inl ⟨rowK rs, upd_same, fun pd hpd => dc_it (walk_keys (d := pl) (o := od) (kvs := rowK rs)) (fun i H2 => H2 pl = some (.frz od (.dK (rowK rs))) ∧ (∀ b o, H b = some o → b ≠ pl → H2 b = some o) ∧
      ∃ rs', H2 pd = some (.dK (rowK rs')) ∧ rs'.map rdat = (rs.take i).map rdat ∧ (∀ r ∈ rs', H2 r.2.1 = some (.tup (r.2.2.map oi))) ∧ ∀ r ∈ rs', NewT H r.2.1)
      ⟨?_, ?_, [], upd_same, rfl, fun r hr => (by cases hr), fun r hr => (by cases hr)⟩ (fun i H2 _ h => h.1) ?_ ?_⟩⟩⟩
    · rw [upd_ne (ne_of_none (H := upd H _ _) upd_same hpd), upd_same]
    · intro b o e hb
      have e2 : upd H pl (.frz od (.dK (rowK rs))) b = some o := by rw [upd_ne hb]; exact e
      rw [upd_ne (ne_of_none e2 hpd)]
      exact e2
    · rintro i v H2 H3 hi ⟨hf, kp, rs', hD2, hrs, htup, hnew⟩ ⟨rfl, kk, vv, hkv, rfl⟩
      obtain ⟨e, he, rfl, rfl⟩ := rowK_ix hkv
      have hm := List.mem_of_getElem? he
      have hi2 : i < rs.length := (List.getElem?_eq_some_iff.mp he).1
      have pd_ne : ∀ {b o}, H b = some o → b ≠ pl → b ≠ pd := fun {b o} e hb => by
        have e2 : upd H pl (.frz od (.dK (rowK rs))) b = some o := by rw [upd_ne hb]; exact e
        exact ne_of_none e2 hpd
      have nm : e.1 ∉ rs'.map (·.1) := by
        rw [names_of hrs]
        exact take_new (f := fun r : Rw => r.1) Y.rn he
      have hl' : rs'.length ≤ i := by
        have := congrArg List.length hrs
        rw [List.length_map, List.length_map, List.length_take] at this
        omega
      refine ⟨rfl, ?_⟩
      refine iteT (B := True) ?_
      refine iteT ?_
      refine ⟨_, rfl, _, rfl, _, rfl, pl, _, rfl, dget_sR (.inr ⟨od, hf⟩) (rowK_at Y.rn hm), ?_⟩
      have fin : ∀ (t : Addr) (H4 : Hp), Same H3 H4 → H4 t = some (.tup (e.2.2.map oi)) → NewT H t → ∃ kvs k, kV (Sum.inr e.1) = kV k ∧ H4 pd = some (.dK kvs) ∧ kvs.length < sizeLine ∧ (upd H4 pd (.dK (putK kvs k (.ref t))) pl = some (.frz od (.dK (rowK rs))) ∧ (∀ b o, H b = some o → b ≠ pl → upd H4 pd (.dK (putK kvs k (.ref t))) b = some o) ∧
          ∃ rs', upd H4 pd (.dK (putK kvs k (.ref t))) pd = some (.dK (rowK rs')) ∧ rs'.map rdat = (rs.take (i + 1)).map rdat ∧ (∀ r ∈ rs', upd H4 pd (.dK (putK kvs k (.ref t))) r.2.1 = some (.tup (r.2.2.map oi))) ∧ ∀ r ∈ rs', NewT H r.2.1) := by
        intro t H4 s4 ht hn
        have hpd4 := s4 _ _ hD2
        refine ⟨rowK rs', .inr e.1, rfl, hpd4, ?_, ?_, fun b o e' hb => ?_, rs' ++ [(e.1, t, e.2.2)], ?_, ?_, fun r hr => ?_, fun r hr => ?_⟩
        · unfold rowK
          have := Y.ln.2.2.1
          rw [List.length_map, sizeLine_eq]
          omega
        · rw [upd_ne (ne_of hf hD2 (fun z => by cases z))]
          exact s4 _ _ hf
        · rw [upd_ne (pd_ne e' hb)]
          exact s4 _ _ (kp b o e' hb)
        · rw [upd_same, rowK_snoc (r := (e.1, t, e.2.2)) nm]
        · rw [List.take_add_one, he, List.map_append, List.map_append, hrs]
          rfl
        · rcases List.mem_append.mp hr with h | h
          · have h2 := s4 _ _ (htup r h)
            rw [upd_ne (ne_of h2 hpd4 (fun z => by cases z))]
            exact h2
          · rw [List.mem_singleton.mp h, upd_ne (ne_of ht hpd4 (fun z => by cases z))]
            exact ht
        · rcases List.mem_append.mp hr with h | h
          · exact hnew r h
          · rw [List.mem_singleton.mp h]
            exact hn
      rcases Y.row e hm with hrow | hrow
      · have hr3 := kp _ _ hrow (ne_of hrow Y.hp (fun z => by cases z))
        refine ⟨e.2.1, _, rfl, .inl ⟨SqL.of hr3, fun l hl => fin l _ (same_new hl) upd_same (.inl ?_)⟩⟩
        cases q : H l with
        | none => rfl
        | some o =>
          by_cases z : l = pl
          · rw [z, hf] at hl; cases hl
          · rw [kp l o q z] at hl; cases hl
      · have hr3 := kp _ _ hrow (ne_of hrow Y.hp (fun z => by cases z))
        exact ⟨e.2.1, _, rfl, .inr ⟨SqT.of hr3, fin e.2.1 _ (Same.refl _) hr3 (.inr ⟨_, hrow⟩)⟩⟩
    rintro H2 ⟨hf, kp, rs', hD2, hrs, htup, hnew⟩
    rw [show (rowK rs).length = rs.length by unfold rowK; rw [List.length_map], List.take_length] at hrs
    have s2 : Same H (upd H2 pl (.dK (rowK rs))) := lock_same Y.hp kp
    have npd : pd ≠ pl := ne_of hD2 hf (fun z => by cases z)
    have hpd2 : upd H2 pl (.dK (rowK rs)) pd = some (.dK (rowK rs')) := by rw [upd_ne npd]; exact hD2
    have htup2 : ∀ r ∈ rs', upd H2 pl (.dK (rowK rs)) r.2.1 = some (.tup (r.2.2.map oi)) := fun r hr => by
      rw [upd_ne (ne_of (htup r hr) hf (fun z => by cases z))]
      exact htup r hr
    refine ⟨hf, ?_⟩
    generalize upd H2 pl (.dK (rowK rs)) = H3 at s2 hpd2 htup2 ⊢
    have pd0 : H pd = none := by
      cases q : H pd with
      | none => rfl
      | some o =>
        rw [upd_ne npd] at hpd
        rw [q] at hpd
        cases hpd
    have npp : p ≠ pd := ne_of_none hp pd0
    refine ⟨_, rfl, p, _, dx, [], rfl, s2 _ _ hp, T.cl_Carry, T.na_Carry_places, (by show 0 < 1000; decide), ?_⟩
    have pF : ∀ (H5 : Hp), Same H3 H5 → H5 p = some (.ins A.c_Carry dx []) := fun H5 s5 => s5 _ _ (s2 _ _ hp)
    have e1 : putF "places" (.ref pd) [] = [(("places" : Str), V.ref pd)] := rfl
    rw [e1]
    have sP : ∀ b o, H b = some o → b ≠ p → upd H3 p (.ins A.c_Carry dx [(("places" : Str), V.ref pd)]) b = some o := fun b o e hb => by rw [upd_ne hb]; exact s2 b o e
    have hp3 : upd H3 p (.ins A.c_Carry dx [(("places" : Str), V.ref pd)]) p = some (.ins A.c_Carry dx [(("places" : Str), V.ref pd)]) := upd_same
    have hpd3 : upd H3 p (.ins A.c_Carry dx [(("places" : Str), V.ref pd)]) pd = some (.dK (rowK rs')) := by rw [upd_ne npp.symm]; exact hpd2
    have htup3 : ∀ r ∈ rs', upd H3 p (.ins A.c_Carry dx [(("places" : Str), V.ref pd)]) r.2.1 = some (.tup (r.2.2.map oi)) := fun r hr => by
      rw [upd_ne (ne_of (htup2 r hr) (s2 _ _ hp) (fun z => by cases z))]
      exact htup2 r hr
    have nm0 : ∀ {b}, upd H3 p (.ins A.c_Carry dx [(("places" : Str), V.ref pd)]) b = none → H b = none := fun {b} hb => by
      cases q : H b with
      | none => rfl
      | some o =>
        by_cases z : b = p
        · rw [z, upd_same] at hb; cases hb
        · rw [sP b o q z] at hb; cases hb
    generalize upd H3 p (.ins A.c_Carry dx [(("places" : Str), V.ref pd)]) = H4 at sP hp3 hpd3 htup3 nm0 ⊢
    have nP : ∀ {b o}, H b = some o → (∀ D f, o ≠ .ins D dx f) → b ≠ p := fun h n z => by
      rw [z, hp] at h
      exact n _ _ (Option.some.inj h).symm
    have hco4 : H4 co = some (.dK (bkK bs)) := sP _ _ Y.hc (nP Y.hc fun _ _ z => by cases z)
    have hbk4 : ∀ b ∈ bs, H4 b.2.1 = some (.dK (cK b.2.2)) := fun b hb => sP _ _ (Y.bk b hb) (nP (Y.bk b hb) fun _ _ z => by cases z)
    -- codes
    refine ⟨co, _, hco4, trivial, fun od => ⟨_, rfl, co, od, rfl, .inl ⟨bkK bs, upd_same, fun cd hcd => dc_it (walk_keys (d := co) (o := od) (kvs := bkK bs)) (fun i H2 => H2 co = some (.frz od (.dK (bkK bs))) ∧ (∀ b o, H4 b = some o → b ≠ co → H2 b = some o) ∧
      ∃ bs', H2 cd = some (.dK (bkK bs')) ∧ bs'.map bdat = (bs.take i).map bdat ∧ (∀ r ∈ bs', H2 r.2.1 = some (.dK (cK r.2.2)) ∧ r.2.1 ≠ cd ∧ r.2.1 ≠ co) ∧ ∀ r ∈ bs', H4 r.2.1 = none)
      ⟨?_, ?_, [], upd_same, rfl, fun r hr => (by cases hr), fun r hr => (by cases hr)⟩ (fun i H2 _ h => h.1) ?_ ?_⟩⟩⟩
    · rw [upd_ne (ne_of_none (H := upd H4 _ _) upd_same hcd), upd_same]
    · intro b o e hb
      have e2 : upd H4 co (.frz od (.dK (bkK bs))) b = some o := by rw [upd_ne hb]; exact e
      rw [upd_ne (ne_of_none e2 hcd)]
      exact e2
    · rintro i v H5 H6 hi ⟨hf5, kp5, bs', hD5, hbs, hdk, hnw⟩ ⟨rfl, kk, vv, hkv, rfl⟩
      obtain ⟨e, he, rfl, rfl⟩ := bkK_ix hkv
      have hm := List.mem_of_getElem? he
      have hi2 : i < bs.length := (List.getElem?_eq_some_iff.mp he).1
      have cd_ne : ∀ {b o}, H4 b = some o → b ≠ co → b ≠ cd := fun {b o} e hb => by
        have e2 : upd H4 co (.frz od (.dK (bkK bs))) b = some o := by rw [upd_ne hb]; exact e
        exact ne_of_none e2 hcd
      have ncc : cd ≠ co := ne_of hD5 hf5 (fun z => by cases z)
      have nm : e.1 ∉ bs'.map (·.1) := by
        rw [names_ofB hbs]
        exact take_new (f := fun r : Bk => r.1) Y.bn he
      have hl' : bs'.length ≤ i := by
        have := congrArg List.length hbs
        rw [List.length_map, List.length_map, List.length_take] at this
        omega
      have hd4 := hbk4 e hm
      by_cases ned : e.2.1 = co
      · rw [ned, hco4] at hd4
        have z : bkK bs = cK e.2.2 := by injection hd4 with z; injection z
        exact absurd z (bkK_ne hm)
      have hd5 := kp5 _ _ hd4 ned
      have ndc : e.2.1 ≠ cd := cd_ne hd4 ned
      have cn := Y.cn e hm
      have cl := Y.ln.2.1 e hm
      refine ⟨rfl, ?_⟩
      refine iteT (B := True) ?_
      refine iteT ?_
      refine ⟨_, rfl, ?_⟩
      refine ⟨e.2.1, _, hd5, trivial, fun od2 => ⟨_, rfl, _, rfl, co, _, rfl, dget_sR (.inr ⟨od, by rw [upd_ne (Ne.symm ned)]; exact hf5⟩) (bkK_at Y.bn hm), e.2.1, od2, rfl, .inl ⟨cK e.2.2, upd_same, fun D2 hD2 => dc_it (walk_keys (d := e.2.1) (o := od2) (kvs := cK e.2.2)) (fun j H7 => H7 e.2.1 = some (.frz od2 (.dK (cK e.2.2))) ∧ (∀ b o, H6 b = some o → b ≠ e.2.1 → H7 b = some o) ∧ H7 D2 = some (.dK (cK (e.2.2.take j))))
        ⟨?_, ?_, upd_same⟩ (fun i H2 _ h => h.1) ?_ ?_⟩⟩⟩
      · rw [upd_ne (ne_of_none (H := upd H6 _ _) upd_same hD2), upd_same]
      · intro b o e' hb
        have e2 : upd H6 e.2.1 (.frz od2 (.dK (cK e.2.2))) b = some o := by rw [upd_ne hb]; exact e'
        rw [upd_ne (ne_of_none e2 hD2)]
        exact e2
      · rintro j v H7 H8 hj ⟨hf7, kp7, hD7⟩ ⟨rfl, kk, vv, hkv, rfl⟩
        obtain ⟨c, hc, rfl, rfl⟩ := cK_ix hkv
        have hmc := List.mem_of_getElem? hc
        have D2_ne : ∀ {b o}, H6 b = some o → b ≠ e.2.1 → b ≠ D2 := fun {b o} e' hb => by
          have e2 : upd H6 e.2.1 (.frz od2 (.dK (cK e.2.2))) b = some o := by rw [upd_ne hb]; exact e'
          exact ne_of_none e2 hD2
        refine ⟨rfl, ?_⟩
        refine iteT (B := True) ?_
        refine iteT ?_
        refine ⟨_, rfl, _, rfl, _, rfl, co, _, rfl, dget_sR (.inr ⟨od, kp7 _ _ hf5 (Ne.symm ned)⟩) (bkK_at Y.bn hm), _, rfl, e.2.1, _, rfl, dget_iR (.inr ⟨od2, hf7⟩) (cK_at cn hmc), _, .inl c.1, rfl, hD7, ?_, ?_, ?_, ?_⟩
        · unfold cK
          rw [List.length_map, List.length_take, sizeLine_eq]
          omega
        · rw [upd_ne (ne_of hf7 hD7 (fun z => by cases z))]
          exact hf7
        · intro b o e' hb
          rw [upd_ne (D2_ne e' hb)]
          exact kp7 b o e' hb
        · rw [upd_same, cK_snoc (take_new (f := fun r : Pr => r.1) cn hc), List.take_add_one, hc]
          rfl
      · rintro H7 ⟨hf7, kp7, hD7⟩
        rw [show (cK e.2.2).length = e.2.2.length by unfold cK; rw [List.length_map], List.take_length] at hD7
        have s7 : Same H6 (upd H7 e.2.1 (.dK (cK e.2.2))) := lock_same hd5 kp7
        have nD2 : D2 ≠ e.2.1 := ne_of hD7 hf7 (fun z => by cases z)
        have hD8 : upd H7 e.2.1 (.dK (cK e.2.2)) D2 = some (.dK (cK e.2.2)) := by rw [upd_ne nD2]; exact hD7
        have D20 : H6 D2 = none := by rw [upd_ne nD2] at hD2; exact hD2
        refine ⟨hf7, ?_⟩
        generalize upd H7 e.2.1 (.dK (cK e.2.2)) = H8 at s7 hD8 ⊢
        have hcd8 := s7 _ _ hD5
        have nDcd : D2 ≠ cd := (ne_of_none hD5 D20).symm
        have nDco : D2 ≠ co := (ne_of_none hf5 D20).symm
        refine ⟨bkK bs', .inr e.1, rfl, hcd8, ?_, ?_, fun b o e' hb => ?_, bs' ++ [(e.1, D2, e.2.2)], ?_, ?_, fun r hr => ?_, fun r hr => ?_⟩
        · unfold bkK
          have := Y.ln.2.2.2.1
          rw [List.length_map, sizeLine_eq]
          omega
        · rw [upd_ne ncc.symm]
          exact s7 _ _ hf5
        · rw [upd_ne (cd_ne e' hb)]
          exact s7 _ _ (kp5 b o e' hb)
        · rw [upd_same, bkK_snoc (r := (e.1, D2, e.2.2)) nm]
        · rw [List.take_add_one, he, List.map_append, List.map_append, hbs]
          rfl
        · rcases List.mem_append.mp hr with h | h
          · obtain ⟨h2, h3, h4⟩ := hdk r h
            rw [upd_ne h3]
            exact ⟨s7 _ _ h2, h3, h4⟩
          · rw [List.mem_singleton.mp h, upd_ne nDcd]
            exact ⟨hD8, nDcd, nDco⟩
        · rcases List.mem_append.mp hr with h | h
          · exact hnw r h
          · rw [List.mem_singleton.mp h]
            cases q : H4 D2 with
            | none => rfl
            | some o => rw [kp5 _ _ q nDco] at D20; cases D20
    rintro H5 ⟨hf5, kp5, bs', hD5, hbs, hdk, hnw⟩
    rw [show (bkK bs).length = bs.length by unfold bkK; rw [List.length_map], List.take_length] at hbs
    have s5 : Same H4 (upd H5 co (.dK (bkK bs))) := lock_same hco4 kp5
    have ncd : cd ≠ co := ne_of hD5 hf5 (fun z => by cases z)
    have hcd5 : upd H5 co (.dK (bkK bs)) cd = some (.dK (bkK bs')) := by rw [upd_ne ncd]; exact hD5
    have hbk5 : ∀ r ∈ bs', upd H5 co (.dK (bkK bs)) r.2.1 = some (.dK (cK r.2.2)) := fun r hr => by
      rw [upd_ne (hdk r hr).2.2]
      exact (hdk r hr).1
    refine ⟨hf5, ?_⟩
    generalize upd H5 co (.dK (bkK bs)) = H6 at s5 hcd5 hbk5 ⊢
    have cd0 : H4 cd = none := by
      rw [upd_ne ncd] at hcd
      exact hcd
    have hp6 := s5 _ _ hp3
    have npc : p ≠ cd := ne_of_none hp3 cd0
    refine ⟨_, rfl, p, _, dx, _, rfl, hp6, T.cl_Carry, T.na_Carry_codes, (by show 1 < 1000; decide), ?_⟩
    have e2 : putF "codes" (.ref cd) [(("places" : Str), V.ref pd)] = [(("places" : Str), V.ref pd), ("codes", .ref cd)] := by
      unfold putF
      rw [if_neg (by decide +kernel)]
      rfl
    rw [e2]
    have nP6 : ∀ {b o}, H6 b = some o → (∀ D f, o ≠ .ins D dx f) → b ≠ p := fun h n z => by
      rw [z, hp6] at h
      exact n _ _ (Option.some.inj h).symm
    have k7 : ∀ b o, H6 b = some o → b ≠ p → upd H6 p (.ins A.c_Carry dx [(("places" : Str), V.ref pd), ("codes", .ref cd)]) b = some o := fun b o e hb => by rw [upd_ne hb]; exact e
    have hp7 : upd H6 p (.ins A.c_Carry dx [(("places" : Str), V.ref pd), ("codes", .ref cd)]) p = some (.ins A.c_Carry dx [(("places" : Str), V.ref pd), ("codes", .ref cd)]) := upd_same
    generalize upd H6 p (.ins A.c_Carry dx [(("places" : Str), V.ref pd), ("codes", .ref cd)]) = H7 at k7 hp7 ⊢
    have e3 : ∀ m : Addr, putF "moments" (.ref m) [(("places" : Str), V.ref pd), ("codes", .ref cd)] = caF pd cd m := fun m => by
      unfold putF
      rw [if_neg (by decide +kernel)]
      unfold putF
      rw [if_neg (by decide +kernel)]
      rfl
    have sH : ∀ b o, H b = some o → b ≠ p → H7 b = some o := fun b o e hb => k7 _ _ (s5 _ _ (sP b o e hb)) hb
    have fin : ∀ (m : Addr) (H8 : Hp), Same H7 H8 → H8 m = some (.tup (ms.map V.int)) → NewT H m → Q .non (upd H8 p (.ins A.c_Carry dx (caF pd cd m))) := by
      intro m H8 s8 hm hn
      have all : ∀ b o, H6 b = some o → (∀ D f, o ≠ .ins D dx f) → upd H8 p (.ins A.c_Carry dx (caF pd cd m)) b = some o := fun b o e n => by
        rw [upd_ne (nP6 e n)]
        exact s8 _ _ (k7 b o e (nP6 e n))
      have rl : rs'.length = rs.length := by
        have := congrArg List.length hrs
        rwa [List.length_map, List.length_map] at this
      have bl : bs'.length = bs.length := by
        have := congrArg List.length hbs
        rwa [List.length_map, List.length_map] at this
      have rin : ∀ r ∈ rs', ∃ r0 ∈ rs, r0.2.2 = r.2.2 := fun r hr => by
        have : rdat r ∈ rs.map rdat := hrs ▸ List.mem_map.mpr ⟨r, hr, rfl⟩
        obtain ⟨r0, h0, e0⟩ := List.mem_map.mp this
        exact ⟨r0, h0, (Prod.mk.inj (show (r0.1, r0.2.2) = (r.1, r.2.2) from e0)).2⟩
      have bin : ∀ r ∈ bs', ∃ r0 ∈ bs, r0.2.2 = r.2.2 := fun r hr => by
        have : bdat r ∈ bs.map bdat := hbs ▸ List.mem_map.mpr ⟨r, hr, rfl⟩
        obtain ⟨r0, h0, e0⟩ := List.mem_map.mp this
        exact ⟨r0, h0, (Prod.mk.inj (show (r0.1, r0.2.2) = (r.1, r.2.2) from e0)).2⟩
      refine k pd cd m rs' bs' _ ⟨⟨dx, upd_same⟩, all _ _ (s5 _ _ hpd3) (fun _ _ z => by cases z), all _ _ hcd5 (fun _ _ z => by cases z), ?_, fun r hr => all _ _ (s5 _ _ (htup3 r hr)) (fun _ _ z => by cases z), fun r hr => all _ _ (hbk5 r hr) (fun _ _ z => by cases z), ?_, ?_, fun r hr => ?_, ⟨fun r hr => ?_, fun r hr => ?_, ?_, ?_, Y.ln.2.2.2.2⟩⟩ hrs hbs (fun b o e hb => ?_) ?_
      · rw [upd_ne (ne_of hm (s8 _ _ hp7) (fun z => by cases z))]
        exact hm
      · rw [names_of hrs]; exact Y.rn
      · rw [names_ofB hbs]; exact Y.bn
      · obtain ⟨r0, h0, e0⟩ := bin r hr
        rw [← e0]; exact Y.cn r0 h0
      · obtain ⟨r0, h0, e0⟩ := rin r hr
        rw [← e0]; exact Y.ln.1 r0 h0
      · obtain ⟨r0, h0, e0⟩ := bin r hr
        rw [← e0]; exact Y.ln.2.1 r0 h0
      · rw [rl]; exact Y.ln.2.2.1
      · rw [bl]; exact Y.ln.2.2.2.1
      · rw [upd_ne hb]
        exact s8 _ _ (sH b o e hb)
      · rintro b (h | h | h | h | ⟨r, hr, h⟩ | ⟨r, hr, h⟩)
        · exact .inl h
        · rw [h]; exact .inr (.inl pd0)
        · rw [h]; exact .inr (.inl (nm0 cd0))
        · rw [h]; exact .inr hn
        · rw [h]; exact .inr (hnew r hr)
        · rw [h]; exact .inr (.inl (nm0 (hnw r hr)))
    rcases Y.hm with hm | hm
    · have hm7 := sH _ _ hm (nP hm fun _ _ z => by cases z)
      refine ⟨_, rfl, mo, _, rfl, .inl ⟨SqL.of hm7, fun l hl => ?_⟩⟩
      have s8 := same_new (o := .tup (ms.map V.int)) hl
      refine ⟨_, rfl, p, _, dx, _, rfl, s8 _ _ hp7, T.cl_Carry, T.na_Carry_moments, (by show 2 < 1000; decide), ?_⟩
      rw [e3]
      refine fin l _ s8 upd_same (.inl ?_)
      cases q : H l with
      | none => rfl
      | some o =>
        by_cases z : l = p
        · rw [z, hp7] at hl; cases hl
        · rw [sH l o q z] at hl; cases hl
    · have hm7 := sH _ _ hm (nP hm fun _ _ z => by cases z)
      refine ⟨_, rfl, mo, _, rfl, .inr ⟨SqT.of hm7, ?_⟩⟩
      refine ⟨_, rfl, p, _, dx, _, rfl, hp7, T.cl_Carry, T.na_Carry_moments, (by show 2 < 1000; decide), ?_⟩
      rw [e3]
      exact fin mo _ (Same.refl _) hm7 (.inr ⟨_, hm⟩)
end
end L2.Cd

namespace L2.Cd
open PySem PySem.Spec PyProof.Rows L2.Ex
def Kp (A : Addr → Prop) (H H' : Hp) : Prop := ∀ b o, H b = some o → ¬ A b → H' b = some o
theorem Kp.same {A : Addr → Prop} {H H1 : Hp} (a : Same H H1) : Kp A H H1 := fun x o e _ => a x o e
theorem Kp.of {A : Addr → Prop} {H H1 H2 : Hp} (a : Kp A H H1) (b : Kp A H1 H2) : Kp A H H2 := fun x o e n => b x o (a x o e n) n
theorem Kp.at {A : Addr → Prop} {H : Hp} {p : Addr} {o : HO} (h : A p) : Kp A H (upd H p o) := fun x u e n => by rw [upd_ne (fun z => n (by rw [z]; exact h))]; exact e
def PoolP (H : Hp) (P0 : Addr) : Prop := ∃ ns : List Int, H P0 = some (.lst (ns.map V.int)) ∧ ns.length ≤ 63
theorem PoolP.same {H H' : Hp} {P0 : Addr} (h : PoolP H P0) (s : Same H H') : PoolP H' P0 := let ⟨ns, e, l⟩ := h; ⟨ns, s _ _ e, l⟩
def isP (P0 : Addr) : Addr → Prop := fun b => b = P0
theorem eqv_empty {ns : List Int} : PyData.eqv (.list (ns.map PyData.int)) (.list []) = ns.isEmpty := by
  cases ns with
  | nil => simp [PyData.eqv, PyData.eqvAll]
  | cons a r => simp [PyData.eqv, PyData.eqvAll]
theorem lay_ints : ∀ ns : List Int, PyData.canLayAll0 (ns.map PyData.int) = true
  | [] => by rw [List.map_nil]; unfold PyData.canLayAll0; rfl
  | y :: r => by
    rw [List.map_cons]
    unfold PyData.canLayAll0
    rw [lay_ints r, show (PyData.int y).canLay0 = true by unfold PyData.canLay0; rfl]
    rfl
theorem depth_ints : ∀ ns : List Int, PyData.depthAll (ns.map PyData.int) ≤ 1
  | [] => by show PyData.depthAll [] ≤ 1; unfold PyData.depthAll; omega
  | y :: r => by
    rw [List.map_cons]
    unfold PyData.depthAll
    have := depth_ints r
    have h2 : (PyData.int y).depth ≤ 1 := by unfold PyData.depth; omega
    omega
theorem shaped_ints (ns : List Int) : SeqAt.shaped (PyData.list (ns.map PyData.int)) = true := by
  unfold SeqAt.shaped
  refine Bool.and_eq_true_iff.mpr ⟨by unfold PyData.canLay0; exact lay_ints ns, decide_eq_true ?_⟩
  unfold PyData.depth
  have := depth_ints ns
  omega
theorem Dp.ints {K : PySem.W.Frag} {H : Hp} : ∀ ns : List Int, DpAll K H (ns.map V.int) (ns.map PyData.int)
  | [] => .nil
  | y :: r => .cons (.int y) (Dp.ints r)
section
variable {P : Program} {w : World} {K : PySem.W.Frag} {mg : Str → Option Value} {base : Heap} {A : Ad} {D : Fd}
def spDraw : Sp := fun vs H Q _ => ∃ (P0 : Addr) (m : Int), vs = [.ref P0, .int m] ∧ PoolP H P0 ∧ 0 < m ∧ m.natAbs < 2 ^ 20 ∧ ∀ (d : Int) (H' : Hp), 0 ≤ d → d < m → PoolP H' P0 → Kp (isP P0) H H' → Q (.int d) H'
theorem ok_law_draw (T : Tx K mg A D) : FnOk P w K mg base CX0 2 A.f_law_draw D.f_law_draw ["_law_pool", "_law_many"] spDraw := by
  refine T.F_law_draw.ok sc_law_draw (fun vs H Q E h => ?_) (fun cdv A' outer s H vs Q E hr h => ?_)
  · obtain ⟨P0, m, rfl, _⟩ := h
    rfl
  · obtain ⟨P0, m, rfl, ⟨ns, hP, hl⟩, hm, hm2, k⟩ := h
    have hu := hu_of hr
    refine ⟨_, ((pss_cons (ps_if (pt_cmpR (op_eqD (hr.units)) (pv 0) (pe_lst pa_nil) (nomark _)) (pss_one (ps_ret pe_int)) pss_nil)
      (pss_cons (ps_set (i := 2) sc_law_draw.nd rfl (by first | exact Or.inl rfl | exact Or.inr rfl) (pe_op op_mod (pe_callTy call_int1 (by rfl) T.b_int (by decide +kernel) (pa_cons (pe_ix ix_list (pv 0) pe_int (fun _ _ => rfl)) pa_nil)) (pv 1)))
      (pss_cons (ps_asg (pe_op op_fdivW (pe_ix ix_list (pv 0) pe_int (fun _ _ => rfl)) (pv 1)) (pg_sub (pv 0) pe_int set_list))
      (pss_cons (ps_if (pt_cmpR op_eq (pe_ix ix_list (pv 0) pe_int (fun _ _ => rfl)) pe_int (nomark _)) (pss_one (ps_expr (pe_bm PySem.F.plainAttrs_list PySem.F.slot_list_pop PySem.F.type_list_pop mt_popAt (pv 0) (pa_cons pe_int pa_nil)))) pss_nil)
      (pss_one (ps_ret (pv 2)))))))), ?_⟩
    have hlog : m.natAbs.log2 < 9000 := by
      have := PySem.Flt.log2_lt_of (k := 20) (by decide) hm2
      omega
    refine ⟨_, rfl, by show 0 ≤ sizeLine; decide, fun t ht => ?_⟩
    have s1 := same_new (o := .lst []) ht
    have hP1 := s1 _ _ hP
    refine ⟨.list (ns.map PyData.int), .list [], .lst (SqL.of hP1) (Dp.ints ns), .lst (SqL.of upd_same) .nil, shaped_ints ns, shaped_ints [], _, rfl, ?_⟩
    rw [eqv_empty]
    cases ns with
    | nil =>
      refine if_true_of rfl ?_
      exact k 0 _ (Int.le_refl _) hm ⟨[], hP1, by decide⟩ (Kp.same s1)
    | cons n r =>
      refine if_false_of rfl ?_
      have kp1 : Kp (isP P0) H (upd H t (.lst [])) := Kp.same s1
      generalize upd H t (.lst []) = H1 at hP1 kp1 ⊢
      refine ⟨_, rfl, P0, _, _, .int n, rfl, rfl, SqL.of hP1, atI_nat (j := 0) rfl, .inl ⟨_, rfl, _, rfl, _, _, rfl, rfl, hm, ?_⟩⟩
      refine ⟨_, rfl, P0, _, _, .int n, rfl, rfl, SqL.of hP1, atI_nat (j := 0) rfl, _, rfl, _, _, rfl, rfl, ⟨hm, hlog⟩, ?_⟩
      refine ⟨_, rfl, P0, _, _, 0, rfl, rfl, hP1, (by show ixN (List.length _) ((0 : Nat) : Int) = some 0; unfold ixN; simp), ?_⟩
      have hP2 : upd H1 P0 (.lst (((n :: r).map V.int).set 0 (.int (n / m)))) P0 = some (.lst (((n / m) :: r).map V.int)) := upd_same
      have kp2 : Kp (isP P0) H (upd H1 P0 (.lst (((n :: r).map V.int).set 0 (.int (n / m))))) := kp1.of (Kp.at rfl)
      generalize upd H1 P0 (.lst (((n :: r).map V.int).set 0 (.int (n / m)))) = H2 at hP2 kp2 ⊢
      refine ⟨_, rfl, P0, _, _, .int (n / m), rfl, rfl, SqL.of hP2, atI_nat (j := 0) rfl, rfl, _, rfl, ?_⟩
      have b0 : 0 ≤ n % m := Int.emod_nonneg _ (by omega)
      have b1 : n % m < m := Int.emod_lt_of_pos _ hm
      by_cases h0 : n / m = 0
      · refine if_true_of (by rw [dI]; exact decide_eq_true h0) ?_
        refine ⟨_, rfl, .inl ⟨rfl, _, SqL.of hP2⟩, P0, _, 0, 0, _, rfl, rfl, hP2, by decide, by decide, seqIndex_of (by decide) (by simp), rfl, ?_⟩
        exact ⟨_, rfl, k _ _ b0 b1 ⟨r, upd_same, by simp at hl; omega⟩ (kp2.of (Kp.at rfl))⟩
      · refine if_false_of (by rw [dI]; exact decide_eq_false h0) ?_
        exact ⟨_, rfl, k _ _ b0 b1 ⟨(n / m) :: r, hP2, hl⟩ kp2⟩
def spInt : Sp := fun vs H Q _ => ∃ o : Option Int, vs = [oi o, oi o] ∧ Q (.bl true) H
theorem ok_law_int (T : Tx K mg A D) : FnOk P w K mg base CX0 2 A.f_law_int D.f_law_int ["_law_told", "_law_due"] spInt := by
  refine T.F_law_int.ok sc_law_int (fun vs H Q E h => ?_) (fun cdv A' outer s H vs Q E hr h => ?_)
  · obtain ⟨o, rfl, _⟩ := h
    rfl
  · obtain ⟨o, rfl, k⟩ := h
    refine ⟨_, ((pss_cons (ps_if (pt_cmpR op_isN (pv 1) pe_non (nomark _)) (pss_one (ps_ret (pe_cmpR op_isN (pv 0) pe_non (nomark _)))) pss_nil)
      (pss_one (ps_ret (pe_and (pe_callB call_isi (by rfl) T.b_isinstance (by decide +kernel) (pa_cons (pv 0) (pa_cons (pe_bltn (v := .ty "int") (by rfl) T.b_int (by decide +kernel) rfl) pa_nil))) (pe_and (pe_not (pe_callB call_isi (by rfl) T.b_isinstance (by decide +kernel) (pa_cons (pv 0) (pa_cons (pe_bltn (v := .ty "bool") (by rfl) T.b_bool (by decide +kernel) rfl) pa_nil)))) (pe_one (pe_cmpR op_eq (pv 0) (pv 1) (nomark _))))))))), ?_⟩
    refine ⟨_, rfl, rfl, _, rfl, ?_⟩
    cases o with
    | none =>
      refine if_true_of rfl ?_
      exact ⟨_, rfl, rfl, k⟩
    | some i =>
      refine if_false_of rfl ?_
      refine ⟨_, rfl, _, _, _, _, true, rfl, .ty "int", .base (.int _), kit_ty (by decide +kernel), _, rfl, ?_⟩
      refine if_true_of rfl ?_
      refine ⟨_, rfl, _, _, _, _, false, rfl, .ty "bool", .base (.int _), kit_ty (by decide +kernel), _, rfl, _, rfl, ?_⟩
      refine if_true_of rfl ?_
      refine ⟨_, rfl, _, rfl, rfl, ?_⟩
      rw [decide_eq_true rfl]
      exact k
/-- told: a tuple; due: a list -/
def spRow : Sp := fun vs H Q _ => ∃ (a b : Addr) (row : List (Option Int)), vs = [.ref a, .ref b] ∧ H a = some (.tup (row.map oi)) ∧ H b = some (.lst (row.map oi)) ∧ row.length < 500 ∧ ∀ H', Same H H' → Q (.bl true) H'
theorem ok_law_row (T : Tx K mg A D) : FnOk P w K mg base CX0 4 A.f_law_row D.f_law_row ["_law_told", "_law_due"] spRow := by
  refine T.F_law_row.ok sc_law_row (fun vs H Q E h => ?_) (fun cdv A' outer s H vs Q E hr h => ?_)
  · obtain ⟨a, b, row, rfl, _⟩ := h
    rfl
  · obtain ⟨a, b, row, rfl, ha, hb, hl, k⟩ := h
    refine ⟨_, ((pss_cons (ps_if (PW.pt (pw_or (pt_not (pt_val (pe_callB call_isi (by rfl) T.b_isinstance (by decide +kernel) (pa_cons (pv 0) (pa_cons (pe_bltn (v := .ty "tuple") (by rfl) T.b_tuple (by decide +kernel) rfl) pa_nil))))) (pw_or1 (pt_cmpR op_ne (pe_callB call_len_seq (by rfl) T.b_len (by decide +kernel) (pa_cons (pv 0) pa_nil)) (pe_callB call_len_seq (by rfl) T.b_len (by decide +kernel) (pa_cons (pv 1) pa_nil)) (nomark _))))) (pss_one (ps_ret pe_bl)) pss_nil)
      (pss_one (ps_ret (pe_callB (cr_all rfl) (by rfl) T.b_all (by decide +kernel) (pa_cons (pe_lc (own := [("_law_k", 2)]) (g := (gName 2)) rfl sc_law_row.nd (pi_range1 (by rfl) T.b_range (pa_cons (pe_callB call_len_seq (by rfl) T.b_len (by decide +kernel) (pa_cons (pv 1) pa_nil)) pa_nil)) (blkOk_by (own := [("_law_k", 2)]) (N := ["_law_told", "_law_due", "_law_k"]) (sc := defScope s_law_row) (by decide +kernel)) (fun _ _ _ _ _ => (pg_name (i := 2) sc_law_row.nd rfl (by first | exact Or.inl rfl | exact Or.inr rfl))) (fun _ _ _ _ _ => pts_nil) (fun _ _ _ _ _ => (pe_call (ok_law_int T) (hr.mono (by decide)) (by rfl) T.m_law_int T.F_law_int.kp (b_law_int T) .nil pass0 (pa_cons (pe_ix (ixT (K := K) rfl) (pv 0) (pv 2) (fun _ _ => rfl)) (pa_cons (pe_ix (ixL (K := K) rfl) (pv 1) (pv 2) (fun _ _ => rfl)) pa_nil))))) pa_nil)))))), ?_⟩
    refine ⟨_, rfl, _, _, _, _, true, rfl, .ty "tuple", .base (.tup ha), kit_ty (by decide +kernel), _, rfl, ?_⟩
    refine if_false_of rfl ?_
    refine ⟨_, rfl, a, _, rfl, .inr (SqT.of ha), _, rfl, b, _, rfl, .inl (SqL.of hb), rfl, _, rfl, ?_⟩
    refine if_false_of (by simp) ?_
    refine ⟨_, rfl, b, _, rfl, .inl (SqL.of hb), _, rfl, by omega, by rw [List.length_map]; omega, fun D1 hD1 => lc_it (walk_range (lo := 0) (n := _)) (fun i H2 => Same H H2 ∧ H2 D1 = some (.lst ((List.replicate i true).map V.bl))) ⟨same_new hD1, upd_same⟩ (fun _ _ _ _ => trivial) ?_ ?_⟩
    · rintro i v H2 H3 hi ⟨s2, hD2⟩ ⟨rfl, rfl⟩
      have hi : i < row.length := by simpa using hi
      obtain ⟨o, ho⟩ : ∃ o, row[i]? = some o := ⟨row[i], List.getElem?_eq_getElem hi⟩
      have hoV : (row.map oi)[i]? = some (oi o) := by rw [List.getElem?_map, ho]; rfl
      refine ⟨rfl, ?_⟩
      refine iteT (B := True) ?_
      refine iteT ?_
      refine ⟨_, rfl, _, rfl, a, _, _, oi o, rfl, rfl, SqT.of (s2 _ _ ha), (by rw [Int.zero_add]; exact atI_nat hoV), _, rfl, _, rfl, b, _, _, oi o, rfl, rfl, SqL.of (s2 _ _ hb), (by rw [Int.zero_add]; exact atI_nat hoV), o, rfl, _, hD2, ?_, ?_, ?_⟩
      · rw [List.length_map, List.length_replicate, sizeLine_eq]; omega
      · intro b' o' e
        rw [upd_ne (ne_of_none e hD1)]
        exact s2 b' o' e
      · rw [upd_same, List.replicate_succ', List.map_append]; rfl
    · rintro H2 ⟨s2, hD2⟩
      refine ⟨D1, _, rfl, SqL.of hD2, ?_⟩
      rw [show (List.replicate ((row.map oi).length : Int).toNat true).all id = true by simp]
      exact k _ s2
end
end L2.Cd

namespace L2.Cd
open PySem PySem.Spec PyProof.Rows L2.Ex
section
variable {P : Program} {w : World} {K : PySem.W.Frag} {mg : Str → Option Value} {base : Heap} {A : Ad} {D : Fd}
def spRefused (C : Addr) : Sp := fun vs H Q _ => ∃ (p pd cd m : Addr) (rs : List Rw) (bs : List Bk) (ms : List Int) (x : Str) (i : Int), vs = [.int i, .ref p, .str x] ∧ CarryAt C H p pd cd m rs bs ms ∧ x ∉ rs.map (·.1) ∧ x ∉ bs.map (·.1) ∧ (i = 0 ∨ i = 1 ∨ i = 2 ∨ i = 3) ∧ ∀ H', Same H H' → Q (.bl true) H'
theorem ok_law_refused (T : Tx K mg A D) : FnOk P w K mg base CX0 12 A.f_law_refused D.f_law_refused ["_law_which", "_law_carry_here", "_law_name"] (spRefused A.c_Carry) := by
  refine T.F_law_refused.ok sc_law_refused (fun vs H Q E h => ?_) (fun cdv A' outer s H vs Q E hr h => ?_)
  · obtain ⟨p, pd, cd, m, rs, bs, ms, x, i, rfl, _⟩ := h
    rfl
  · obtain ⟨p, pd, cd, m, rs, bs, ms, x, i, rfl, Y, h1, h2, hi, k⟩ := h
    have hu := hu_of hr
    refine ⟨_, ((pss_cons (ps_try_names rfl rfl sc_law_refused.nd takes0 (fun W pn xe tk _ => (pss_one (ps_if (pt_cmpR op_eq (pv 0) pe_int (nomark _)) (pss_one (ps_expr (pe_methX (pv 1) T.cl_Carry T.me_Carry_new_place (ok_Carry_new_place T) (hr.mono (by decide)) (b_Carry_new_place T) (fun σ => passAt tk σ) (pa_cons (pv 2) (pa_cons pe_int pa_nil))))) (pss_one (ps_if (pt_cmpR op_eq (pv 0) pe_int (nomark _)) (pss_one (ps_expr (pe_methX (pv 1) T.cl_Carry T.me_Carry_keeps_places (ok_Carry_keeps_places T) (hr.mono (by decide)) (b_Carry_keeps_places T) (fun σ => passAt tk σ) (pa_cons (pv 2) pa_nil)))) (pss_one (ps_if (pt_cmpR op_eq (pv 0) pe_int (nomark _)) (pss_one (ps_expr (pe_methX (pv 1) T.cl_Carry T.me_Carry_new_code (ok_Carry_new_code T) (hr.mono (by decide)) (b_Carry_new_code T) (fun σ => passAt tk σ) (pa_cons (pv 2) (pa_cons pe_int pa_nil))))) (pss_one (ps_expr (pe_methX (pv 1) T.cl_Carry T.me_Carry_keeps_codes (ok_Carry_keeps_codes T) (hr.mono (by decide)) (b_Carry_keeps_codes T) (fun σ => passAt tk σ) (pa_cons (pv 2) pa_nil))))))))))) (HdsNm.cons (i := 3) rfl rfl ⟨rfl, by decide, .inl T.m_NoTable⟩ (fun a oe cls d pn hz hf => (pss_one (ps_ret (pe_and (pe_cmpR op_lt (pv 0) pe_int (nomark _)) (pe_and (pe_cmpR op_eq (pe_xf T.xf_NoTable T.xn_NoTable_name hz hf (pv 3)) (pv 2) (nomark _)) (pe_one (pe_callB (call_isX T.ex_NoTable hz hf) (by rfl) T.b_isinstance (by decide +kernel) (pa_cons (pv 3) (pa_cons (pe_glob (v := .ref _) (by rfl) T.m_ColonnadeError rfl) pa_nil))))))))) (HdsNm.cons (i := 3) rfl rfl ⟨rfl, by decide, .inl T.m_NoBook⟩ (fun a oe cls d pn hz hf => (pss_one (ps_ret (pe_and (pe_cmpR op_gt (pv 0) pe_int (nomark _)) (pe_and (pe_cmpR op_eq (pe_xf T.xf_NoBook T.xn_NoBook_name hz hf (pv 3)) (pv 2) (nomark _)) (pe_one (pe_callB (call_isX T.ex_NoBook hz hf) (by rfl) T.b_isinstance (by decide +kernel) (pa_cons (pv 3) (pa_cons (pe_glob (v := .ref _) (by rfl) T.m_ColonnadeError rfl) pa_nil))))))))) HdsNm.nil)))
      (pss_one (ps_ret pe_bl)))), ?_⟩
    obtain ⟨dx, ob⟩ := Y.ob
    refine ⟨_, rfl, rfl, _, rfl, ?_⟩
    rcases hi with rfl | rfl | rfl | rfl
    · refine if_true_of rfl ?_
      refine ⟨_, rfl, p, dx, _, rfl, ob, ca_no (by decide +kernel) (by decide +kernel) (by decide +kernel), _, rfl, p, pd, cd, m, rs, bs, ms, x, 0, rfl, Y, .inl ⟨h1, fun d hd => ⟨true, T.sub_NoTable_NoTable, fun _ a ha => ?_, fun z => (by cases z)⟩⟩⟩
      refine ⟨_, rfl, _, _, rfl, rfl, _, rfl, ?_⟩
      refine if_true_of rfl ?_
      refine ⟨_, rfl, rfl, rfl, d, _, _, rfl, upd_same, rfl, _, rfl, rfl, _, rfl, ?_⟩
      refine if_true_of (decide_eq_true rfl) ?_
      exact ⟨_, rfl, _, _, true, d, _, rfl, rfl, .own _, rfl, upd_same, T.ki_NoTable, k _ (same_new hd)⟩
    · refine if_false_of rfl ?_
      refine ⟨_, rfl, rfl, _, rfl, ?_⟩
      refine if_true_of rfl ?_
      refine ⟨_, rfl, p, dx, _, rfl, ob, ca_no (by decide +kernel) (by decide +kernel) (by decide +kernel), _, rfl, p, pd, cd, m, rs, bs, ms, x, rfl, Y, .inl ⟨h1, fun d hd => ⟨true, T.sub_NoTable_NoTable, fun _ a ha => ?_, fun z => (by cases z)⟩⟩⟩
      refine ⟨_, rfl, _, _, rfl, rfl, _, rfl, ?_⟩
      refine if_true_of rfl ?_
      refine ⟨_, rfl, rfl, rfl, d, _, _, rfl, upd_same, rfl, _, rfl, rfl, _, rfl, ?_⟩
      refine if_true_of (decide_eq_true rfl) ?_
      exact ⟨_, rfl, _, _, true, d, _, rfl, rfl, .own _, rfl, upd_same, T.ki_NoTable, k _ (same_new hd)⟩
    · refine if_false_of rfl ?_
      refine ⟨_, rfl, rfl, _, rfl, ?_⟩
      refine if_false_of rfl ?_
      refine ⟨_, rfl, rfl, _, rfl, ?_⟩
      refine if_true_of rfl ?_
      refine ⟨_, rfl, p, dx, _, rfl, ob, ca_no (by decide +kernel) (by decide +kernel) (by decide +kernel), _, rfl, p, pd, cd, m, rs, bs, ms, x, 0, rfl, Y, .inl ⟨h2, fun d hd => ⟨false, T.sub_NoBook_NoTable, fun z => (by cases z), fun _ => ⟨true, T.sub_NoBook_NoBook, fun _ a ha => ?_, fun z => (by cases z)⟩⟩⟩⟩
      refine ⟨_, rfl, _, _, rfl, rfl, _, rfl, ?_⟩
      refine if_true_of rfl ?_
      refine ⟨_, rfl, rfl, rfl, d, _, _, rfl, upd_same, rfl, _, rfl, rfl, _, rfl, ?_⟩
      refine if_true_of (decide_eq_true rfl) ?_
      exact ⟨_, rfl, _, _, true, d, _, rfl, rfl, .own _, rfl, upd_same, T.ki_NoBook, k _ (same_new hd)⟩
    · refine if_false_of rfl ?_
      refine ⟨_, rfl, rfl, _, rfl, ?_⟩
      refine if_false_of rfl ?_
      refine ⟨_, rfl, rfl, _, rfl, ?_⟩
      refine if_false_of rfl ?_
      refine ⟨_, rfl, p, dx, _, rfl, ob, ca_no (by decide +kernel) (by decide +kernel) (by decide +kernel), _, rfl, p, pd, cd, m, rs, bs, ms, x, rfl, Y, .inl ⟨h2, fun d hd => ⟨false, T.sub_NoBook_NoTable, fun z => (by cases z), fun _ => ⟨true, T.sub_NoBook_NoBook, fun _ a ha => ?_, fun z => (by cases z)⟩⟩⟩⟩
      refine ⟨_, rfl, _, _, rfl, rfl, _, rfl, ?_⟩
      refine if_true_of rfl ?_
      refine ⟨_, rfl, rfl, rfl, d, _, _, rfl, upd_same, rfl, _, rfl, rfl, _, rfl, ?_⟩
      refine if_true_of (decide_eq_true rfl) ?_
      exact ⟨_, rfl, _, _, true, d, _, rfl, rfl, .own _, rfl, upd_same, T.ki_NoBook, k _ (same_new hd)⟩
theorem okn_law_int (T : Tx K mg A D) : PnOk P w K mg base 2 A.f_law_int D.f_law_int ["_law_told", "_law_due"] spInt := by
  refine pn_ok T.F_law_int sc_law_int (fun vs H Q E h => ?_) (fun cdv A' outer s H vs Q E p hr h => ?_)
  · obtain ⟨o, rfl, _⟩ := h
    rfl
  · obtain ⟨o, rfl, k⟩ := h
    refine ⟨_, ((pss_cons (ps_if (pt_cmpR op_isN (pv 1) pe_non (nomark _)) (pss_one (ps_ret (pe_cmpR op_isN (pv 0) pe_non (nomark _)))) pss_nil)
      (pss_one (ps_ret (pe_and (pe_callB call_isi (by rfl) T.b_isinstance (by decide +kernel) (pa_cons (pv 0) (pa_cons (pe_bltn (v := .ty "int") (by rfl) T.b_int (by decide +kernel) rfl) pa_nil))) (pe_and (pe_not (pe_callB call_isi (by rfl) T.b_isinstance (by decide +kernel) (pa_cons (pv 0) (pa_cons (pe_bltn (v := .ty "bool") (by rfl) T.b_bool (by decide +kernel) rfl) pa_nil)))) (pe_one (pe_cmpR op_eq (pv 0) (pv 1) (nomark _))))))))), ?_⟩
    refine ⟨_, rfl, rfl, _, rfl, ?_⟩
    cases o with
    | none =>
      refine if_true_of rfl ?_
      exact ⟨_, rfl, rfl, k⟩
    | some i =>
      refine if_false_of rfl ?_
      refine ⟨_, rfl, _, _, _, _, true, rfl, .ty "int", .base (.int _), kit_ty (by decide +kernel), _, rfl, ?_⟩
      refine if_true_of rfl ?_
      refine ⟨_, rfl, _, _, _, _, false, rfl, .ty "bool", .base (.int _), kit_ty (by decide +kernel), _, rfl, _, rfl, ?_⟩
      refine if_true_of rfl ?_
      refine ⟨_, rfl, _, rfl, rfl, ?_⟩
      rw [decide_eq_true rfl]
      exact k
def spMissing (C : Addr) : Sp := fun vs H Q _ => ∃ (p pd cd m : Addr) (rs : List Rw) (bs : List Bk) (ms : List Int) (b : Bk) (i : Int), vs = [.ref p, .str b.1, .int i] ∧ CarryAt C H p pd cd m rs bs ms ∧ b ∈ bs ∧ i ∉ b.2.2.map (·.1) ∧ ∀ H', Same H H' → Q (.bl true) H'
theorem ok_law_missing (T : Tx K mg A D) : FnOk P w K mg base CX0 12 A.f_law_missing D.f_law_missing ["_law_carry_here", "_law_book", "_law_code"] (spMissing A.c_Carry) := by
  refine T.F_law_missing.ok sc_law_missing (fun vs H Q E h => ?_) (fun cdv A' outer s H vs Q E hr h => ?_)
  · obtain ⟨p, pd, cd, m, rs, bs, ms, b, i, rfl, _⟩ := h
    rfl
  · obtain ⟨p, pd, cd, m, rs, bs, ms, b, i, rfl, Y, hb, hi, k⟩ := h
    have hu := hu_of hr
    refine ⟨_, ((pss_cons (ps_try_names rfl rfl sc_law_missing.nd takes0 (fun W pn xe tk _ => (pss_one (ps_expr (pe_methX (pv 0) T.cl_Carry T.me_Carry_new_code (ok_Carry_new_code T) (hr.mono (by decide)) (b_Carry_new_code T) (fun σ => passAt tk σ) (pa_cons (pv 1) (pa_cons (pv 2) pa_nil)))))) (HdsNm.cons (i := 3) rfl rfl ⟨rfl, by decide, .inl T.m_NoCode⟩ (fun a oe cls d pn hz hf => (pss_one (ps_ret (pe_and (pe_callB (call_isX T.ex_NoCode hz hf) (by rfl) T.b_isinstance (by decide +kernel) (pa_cons (pv 3) (pa_cons (pe_glob (v := .ref _) (by rfl) T.m_ColonnadeError rfl) pa_nil))) (pe_one (pe_pcall (okn_law_int T) ⟨(hr.mono (j := 2) (by decide)).dp, (hr.mono (j := 2) (by decide)).un⟩ ⟨_, List.mem_cons_self⟩ (by rfl) T.m_law_int T.F_law_int.kp (b_law_int T) (pa_cons (pe_xf T.xf_NoCode T.xn_NoCode_code hz hf (pv 3)) (pa_cons (pv 2) pa_nil)))))))) HdsNm.nil))
      (pss_one (ps_ret pe_bl)))), ?_⟩
    obtain ⟨dx, ob⟩ := Y.ob
    refine ⟨_, rfl, p, dx, _, rfl, ob, ca_no (by decide +kernel) (by decide +kernel) (by decide +kernel), _, rfl, _, rfl, p, pd, cd, m, rs, bs, ms, b.1, i, rfl, Y, .inr ⟨b, hb, rfl, .inl ⟨hi, fun d hd => ⟨true, T.sub_NoCode_NoCode, fun _ a ha => ?_, fun z => (by cases z)⟩⟩⟩⟩
    refine ⟨_, rfl, _, _, true, d, _, rfl, rfl, .own _, rfl, upd_same, T.ki_NoCode, _, rfl, ?_⟩
    refine if_true_of rfl ?_
    exact ⟨_, rfl, rfl, rfl, d, _, _, rfl, upd_same, rfl, _, rfl, some i, rfl, k _ (same_new hd)⟩
def spOneTable (C : Addr) : Sp := fun vs H Q _ => ∃ (p pd cd m : Addr) (rs : List Rw) (bs : List Bk) (ms : List Int) (r : Rw) (rl : Addr), vs = [.ref p, .str r.1, .ref rl] ∧ CarryAt C H p pd cd m rs bs ms ∧ r ∈ rs ∧ H rl = some (.lst (r.2.2.map oi)) ∧ ∀ H', Same H H' → Q (.bl true) H'
theorem ok_law_one_table (T : Tx K mg A D) : FnOk P w K mg base CX0 12 A.f_law_one_table D.f_law_one_table ["_law_carry_here", "_law_name", "_law_row_here"] (spOneTable A.c_Carry) := by
  refine T.F_law_one_table.ok sc_law_one_table (fun vs H Q E h => ?_) (fun cdv A' outer s H vs Q E hr h => ?_)
  · obtain ⟨p, pd, cd, m, rs, bs, ms, r, rl, rfl, _⟩ := h
    rfl
  · obtain ⟨p, pd, cd, m, rs, bs, ms, r, rl, rfl, Y, hrs, hrl, k⟩ := h
    have hu := hu_of hr
    refine ⟨_, ((pss_cons (ps_if (PW.pt (pw_or (pt_cmp (pc_dnotin hu (pv 1) (pe_fld (pv 0) rfl))) (pw_or1 (pt_not (pt_val (pe_call (ok_law_row T) (hr.mono (by decide)) (by rfl) T.m_law_row T.F_law_row.kp (b_law_row T) .nil pass0 (pa_cons (pe_dget hu (pe_fld (pv 0) rfl) (pv 1) (fun _ _ => rfl)) (pa_cons (pv 2) pa_nil)))))))) (pss_one (ps_ret pe_bl)) pss_nil)
      (pss_cons (ps_set (i := 3) sc_law_one_table.nd rfl (by first | exact Or.inl rfl | exact Or.inr rfl) (pe_lst pa_nil))
      (pss_cons (ps_for PassesOwn.never rfl (pi_range1 (by rfl) T.b_range (pa_cons (pe_callB call_len_seq (by rfl) T.b_len (by decide +kernel) (pa_cons (pv 2) pa_nil)) pa_nil)) (pg_name (i := 4) sc_law_one_table.nd rfl (by first | exact Or.inl rfl | exact Or.inr rfl)) (pss_cons (ps_if (pt_not (pt_val (pe_call (ok_law_int T) (hr.mono (by decide)) (by rfl) T.m_law_int T.F_law_int.kp (b_law_int T) .nil pass0 (pa_cons (pe_meth (pv 0) T.cl_Carry T.me_Carry_new_place (ok_Carry_new_place T) (hr.mono (by decide)) (b_Carry_new_place T) .nil passL (pa_cons (pv 1) (pa_cons (pv 4) pa_nil))) (pa_cons (pe_ix ix_list (pv 2) (pv 4) (fun _ _ => rfl)) pa_nil))))) (pss_one (ps_ret pe_bl)) pss_nil)
      (pss_one (ps_if (pt_cmpR op_notN (pe_ix ix_list (pv 2) (pv 4) (fun _ _ => rfl)) pe_non (nomark _)) (pss_one (ps_expr (pe_bm PySem.F.plainAttrs_list PySem.F.slot_list_append PySem.F.type_list_append mt_append (pv 3) (pa_cons (pe_tup (pa_cons (pv 4) (pa_cons (pe_ix ix_list (pv 2) (pv 4) (fun _ _ => rfl)) pa_nil))) pa_nil)))) pss_nil))))
      (pss_one (ps_ret (pe_call (ok_law_relation T) (hr.mono (by decide)) (by rfl) T.m_law_relation T.F_law_relation.kp (b_law_relation T) .nil pass0 (pa_cons (pe_meth (pv 0) T.cl_Carry T.me_Carry_keeps_places (ok_Carry_keeps_places T) (hr.mono (by decide)) (b_Carry_keeps_places T) .nil passL (pa_cons (pv 1) pa_nil)) (pa_cons (pv 3) pa_nil))))))))), ?_⟩
    obtain ⟨dx, ob⟩ := Y.ob
    have hlen := Y.ln.1 r hrs
    refine ⟨_, rfl, _, rfl, p, _, dx, _, _, rfl, ob, T.cl_Carry, T.na_Carry_places, ca_places, pd, _, rfl, dget_s Y.hp (rowK_at Y.rn hrs), _, rfl, ?_⟩
    refine if_false_of rfl ?_
    refine ⟨_, rfl, p, _, dx, _, _, rfl, ob, T.cl_Carry, T.na_Carry_places, ca_places, _, rfl, pd, _, rfl, dget_s Y.hp (rowK_at Y.rn hrs), _, rfl, r.2.1, rl, r.2.2, rfl, Y.row r hrs, hrl, hlen, fun H2 s2 => ⟨_, rfl, ?_⟩⟩
    refine if_false_of rfl ?_
    refine ⟨by show 0 ≤ sizeLine; decide, fun pa hpa => ?_⟩
    have s3 := s2.trans (same_new (o := .lst []) hpa)
    refine ⟨_, rfl, rl, _, rfl, .inl (SqL.of (s3 _ _ hrl)), _, rfl, by omega, by rw [List.length_map]; omega, for_range (lo := 0) (n := _) (fun i σ H3 => ∃ (v4 : Option V) (us : List V), σ = [some (.ref p), some (.str r.1), some (.ref rl), some (.ref pa), v4] ∧ Same H H3 ∧ H3 pa = some (.lst us) ∧ Al H3 us (pairsTo r.2.2 i))
      ⟨none, [], rfl, s3, upd_same, trivial⟩ ?_ ?_⟩
    · rintro i σ H3 hi ⟨v4, us, rfl, s4, hpa3, hus⟩
      have hi : i < r.2.2.length := by simpa using hi
      obtain ⟨o, ho⟩ : ∃ o, r.2.2[i]? = some o := ⟨r.2.2[i], List.getElem?_eq_getElem hi⟩
      have hoV : (r.2.2.map oi)[i]? = some (oi o) := by rw [List.getElem?_map, ho]; rfl
      have Y3 := Y.same s4
      have hrl3 := s4 _ _ hrl
      have pl := pairsTo_len (row := r.2.2) (n := i)
      have hl3 := hus.len
      have pa0 : H pa = none := s2.free hpa
      refine ⟨_, rfl, p, dx, _, rfl, s4 _ _ ob, ca_no (by decide +kernel) (by decide +kernel) (by decide +kernel), _, rfl, _, rfl, p, pd, cd, m, rs, bs, ms, r.1, 0 + (i : Int), rfl, Y3, .inr ⟨r, hrs, rfl, i, o, by omega, ho, ?_⟩⟩
      refine ⟨_, rfl, _, rfl, rl, _, _, oi o, rfl, rfl, SqL.of hrl3, (by rw [Int.zero_add]; exact atI_nat hoV), o, rfl, _, rfl, ?_⟩
      refine if_false_of rfl ?_
      refine ⟨_, rfl, _, rfl, rl, _, _, oi o, rfl, rfl, SqL.of hrl3, (by rw [Int.zero_add]; exact atI_nat hoV), rfl, _, rfl, ?_⟩
      cases o with
      | none =>
        refine if_false_of rfl ?_
        exact ⟨_, us, rfl, s4, hpa3, by rw [pairsTo_succ ho]; simpa using hus⟩
      | some z =>
        refine if_true_of rfl ?_
        refine ⟨_, rfl, .inl ⟨rfl, _, SqL.of hpa3⟩, _, rfl, _, rfl, _, rfl, rl, _, _, .int z, rfl, rfl, SqL.of hrl3, (by rw [Int.zero_add]; exact atI_nat hoV), by show 2 ≤ sizeLine; decide, fun T1 hT1 => ⟨pa, us, _, rfl, rfl, (same_new hT1) _ _ hpa3, by rw [sizeLine_eq]; omega, ?_⟩⟩
        refine ⟨_, us ++ [.ref T1], rfl, fun b o' e => ?_, upd_same, ?_⟩
        · rw [upd_ne (ne_of_none e pa0)]
          exact (s4.trans (same_new hT1)) b o' e
        · rw [pairsTo_succ ho]
          have nT1 : pa ≠ T1 := ne_of_none hpa3 hT1
          refine Al.snoc (p := ((i : Int), z)) (by rw [upd_ne nT1.symm, upd_same, Int.zero_add]) (hus.keepT fun t ys e => ?_)
          rw [upd_ne (ne_of e hpa3 (fun z => by cases z)), upd_ne (ne_of_none e hT1)]
          exact e
    · rintro σ H3 ⟨v4, us, rfl, s4, hpa3, hus⟩
      have e : (((r.2.2.map oi).length : Int)).toNat = r.2.2.length := by simp
      rw [e] at hus
      refine ⟨_, rfl, p, dx, _, rfl, s4 _ _ ob, ca_no (by decide +kernel) (by decide +kernel) (by decide +kernel), _, rfl, p, pd, cd, m, rs, bs, ms, r.1, rfl, Y.same s4, .inr ⟨r, hrs, rfl, fun H5 s5 => ⟨_, rfl, pa, pairsOf r.2.2, rfl, ⟨us, s5 _ _ hpa3, hus.same s5⟩, fun H6 s6 => k _ (s4.trans (s5.trans s6))⟩⟩⟩
end
end L2.Cd

namespace L2.Cd
open PySem PySem.Spec PyProof.Rows L2.Ex
section
variable {P : Program} {w : World} {K : PySem.W.Frag} {mg : Str → Option Value} {base : Heap} {A : Ad} {D : Fd}
theorem CarryAt.lock {C : Addr} {H : Hp} {p pd cd m d : Addr} {rs : List Rw} {bs : List Bk} {ms : List Int} {u : HO} (h : CarryAt C H p pd cd m rs bs ms) (n : ¬ fpC p pd cd m rs bs d) : CarryAt C (upd H d u) p pd cd m rs bs ms :=
  h.keep fun b o hb e => by rw [upd_ne (fun z => n (by rw [← z]; exact hb))]; exact e
def spOneBook (C : Addr) : Sp := fun vs H Q _ => ∃ (p pd cd m : Addr) (rs : List Rw) (bs : List Bk) (ms : List Int) (r : Bk) (tb : Addr), vs = [.ref p, .str r.1, .ref tb] ∧ CarryAt C H p pd cd m rs bs ms ∧ r ∈ bs ∧ H tb = some (.dK (cK r.2.2)) ∧ ¬ fpC p pd cd m rs bs tb ∧ ∀ H', Same H H' → Q (.bl true) H'
theorem ok_law_one_book (T : Tx K mg A D) : FnOk P w K mg base CX0 16 A.f_law_one_book D.f_law_one_book ["_law_carry_here", "_law_name", "_law_table"] (spOneBook A.c_Carry) := by
  refine T.F_law_one_book.ok sc_law_one_book (fun vs H Q E h => ?_) (fun cdv A' outer s H vs Q E hr h => ?_)
  · obtain ⟨p, pd, cd, m, rs, bs, ms, r, tb, rfl, _⟩ := h
    rfl
  · obtain ⟨p, pd, cd, m, rs, bs, ms, r, tb, rfl, Y, hrs, htb, hn, k⟩ := h
    have hu := hu_of hr
    refine ⟨_, ((pss_cons (ps_if (PW.pt (pw_or (pt_cmp (pc_dnotin hu (pv 1) (pe_fld (pv 0) rfl))) (pw_or1 (pt_cmpR op_ne (pe_callB call_lenD (by rfl) T.b_len (by decide +kernel) (pa_cons (pe_dget hu (pe_fld (pv 0) rfl) (pv 1) (fun _ _ => rfl)) pa_nil)) (pe_callB call_lenD (by rfl) T.b_len (by decide +kernel) (pa_cons (pv 2) pa_nil)) (nomark _))))) (pss_one (ps_ret pe_bl)) pss_nil)
      (pss_cons (ps_set (i := 3) sc_law_one_book.nd rfl (by first | exact Or.inl rfl | exact Or.inr rfl) (pe_lst pa_nil))
      (pss_cons (ps_lock (ps_for PassesOwn.never rfl (pi_keys (pv 2)) (pg_name (i := 4) sc_law_one_book.nd rfl (by first | exact Or.inl rfl | exact Or.inr rfl)) (pss_cons (ps_if (pt_cmp (pc_dnotin hu (pv 4) (pe_dget hu (pe_fld (pv 0) rfl) (pv 1) (fun _ _ => rfl)))) (pss_one (ps_ret pe_bl)) pss_nil)
      (pss_cons (ps_if (pt_not (pt_val (pe_call (ok_law_int T) (hr.mono (by decide)) (by rfl) T.m_law_int T.F_law_int.kp (b_law_int T) .nil pass0 (pa_cons (pe_dget hu (pe_dget hu (pe_fld (pv 0) rfl) (pv 1) (fun _ _ => rfl)) (pv 4) (fun _ _ => rfl)) (pa_cons (pe_dget hu (pv 2) (pv 4) (fun _ _ => rfl)) pa_nil))))) (pss_one (ps_ret pe_bl)) pss_nil)
      (pss_cons (ps_if (pt_not (pt_val (pe_call (ok_law_int T) (hr.mono (by decide)) (by rfl) T.m_law_int T.F_law_int.kp (b_law_int T) .nil pass0 (pa_cons (pe_meth (pv 0) T.cl_Carry T.me_Carry_new_code (ok_Carry_new_code T) (hr.mono (by decide)) (b_Carry_new_code T) .nil passL (pa_cons (pv 1) (pa_cons (pv 4) pa_nil))) (pa_cons (pe_dget hu (pv 2) (pv 4) (fun _ _ => rfl)) pa_nil))))) (pss_one (ps_ret pe_bl)) pss_nil)
      (pss_one (ps_expr (pe_bm PySem.F.plainAttrs_list PySem.F.slot_list_append PySem.F.type_list_append mt_append (pv 3) (pa_cons (pe_tup (pa_cons (pv 4) (pa_cons (pe_dget hu (pv 2) (pv 4) (fun _ _ => rfl)) pa_nil))) pa_nil)))))))))
      (pss_cons (ps_if (pt_not (pt_val (pe_call (ok_law_relation T) (hr.mono (by decide)) (by rfl) T.m_law_relation T.F_law_relation.kp (b_law_relation T) .nil pass0 (pa_cons (pe_meth (pv 0) T.cl_Carry T.me_Carry_keeps_codes (ok_Carry_keeps_codes T) (hr.mono (by decide)) (b_Carry_keeps_codes T) .nil passL (pa_cons (pv 1) pa_nil)) (pa_cons (pv 3) pa_nil))))) (pss_one (ps_ret pe_bl)) pss_nil)
      (pss_one (ps_ret (pe_call (ok_law_missing T) (hr.mono (by decide)) (by rfl) T.m_law_missing T.F_law_missing.kp (b_law_missing T) .nil pass0 (pa_cons (pv 0) (pa_cons (pv 1) (pa_cons (pe_op op_add (pe_callB (cr_max rfl) (by rfl) T.b_max (by decide +kernel) (pa_cons (pe_op op_cat (pe_lock (pe_lc (own := [("_law_old", 4)]) (g := (gName 4)) rfl sc_law_one_book.nd (pi_keys (pv 2)) (blkOk_by (own := [("_law_old", 4)]) (N := ["_law_carry_here", "_law_name", "_law_table", "_law_pairs", "_law_old"]) (sc := defScope s_law_one_book) (by decide +kernel)) (fun _ _ _ _ _ => (pg_name (i := 4) sc_law_one_book.nd rfl (by first | exact Or.inl rfl | exact Or.inr rfl))) (fun _ _ _ _ _ => pts_nil) (fun _ _ _ _ _ => (pv 4)))) (pe_lst (pa_cons pe_int pa_nil))) pa_nil)) pe_int) pa_nil))))))))))), ?_⟩
    obtain ⟨dx, ob⟩ := Y.ob
    have hlen := Y.ln.2.1 r hrs
    have nd := Y.cn r hrs
    refine ⟨_, rfl, _, rfl, p, _, dx, _, _, rfl, ob, T.cl_Carry, T.na_Carry_codes, ca_codes, cd, _, rfl, dget_s Y.hc (bkK_at Y.bn hrs), _, rfl, ?_⟩
    refine if_false_of rfl ?_
    refine ⟨_, rfl, p, _, dx, _, _, rfl, ob, T.cl_Carry, T.na_Carry_codes, ca_codes, _, rfl, cd, _, rfl, dget_s Y.hc (bkK_at Y.bn hrs), r.2.1, _, rfl, Y.bk r hrs, _, rfl, tb, _, rfl, htb, rfl, _, rfl, ?_⟩
    refine if_false_of (by simp) ?_
    refine ⟨by show 0 ≤ sizeLine; decide, fun pa hpa => ?_⟩
    have s1 := same_new (o := .lst []) hpa
    have htb1 := s1 _ _ htb
    have Y1 := Y.same s1
    have hpa1 : upd H pa (.lst []) pa = some (.lst []) := upd_same
    have k1 : ∀ H', Same (upd H pa (.lst [])) H' → True := fun _ _ => trivial
    have npa : tb ≠ pa := ne_of_none htb hpa
    -- the pairs lie apart; all else stays
    refine ⟨tb, _, htb1, trivial, fun od => ⟨_, rfl, tb, od, rfl, .inl ⟨cK r.2.2, upd_same, for_it (walk_keys (d := tb) (o := od) (kvs := cK r.2.2)) (fun i σ H3 => ∃ (v4 : Option V) (us : List V), σ = [some (.ref p), some (.str r.1), some (.ref tb), some (.ref pa), v4] ∧ H3 tb = some (.frz od (.dK (cK r.2.2))) ∧
      (∀ b o, H b = some o → b ≠ tb → H3 b = some o) ∧ H3 pa = some (.lst us) ∧ Al H3 us (r.2.2.take i))
      ⟨none, [], rfl, upd_same, fun b o e hb => by rw [upd_ne hb]; exact s1 b o e, by rw [upd_ne npa.symm]; exact hpa1, trivial⟩ (fun i σ H3 _ h => by obtain ⟨_, _, _, h, _⟩ := h; exact h) ?_ ?_⟩⟩⟩
    · rintro i v σ H2 H3 hi ⟨v4, us, rfl, hf, kp, hpa3, hus⟩ ⟨rfl, kk, vv, hkv, rfl⟩
      obtain ⟨e, he, rfl, rfl⟩ := cK_ix hkv
      have hm := List.mem_of_getElem? he
      have hi2 : i < r.2.2.length := (List.getElem?_eq_some_iff.mp he).1
      have hl3 := hus.len
      rw [List.length_take] at hl3
      have Y3 : CarryAt A.c_Carry H3 p pd cd m rs bs ms := Y.keep fun b o hb e => kp b o e fun z => hn (by rw [← z]; exact hb)
      have ob3 : H3 p = some (.ins A.c_Carry dx (caF pd cd m)) := kp _ _ ob fun z => hn (.inl z.symm)
      refine ⟨_, rfl, _, rfl, p, _, dx, _, _, rfl, ob3, T.cl_Carry, T.na_Carry_codes, ca_codes, _, rfl, cd, _, rfl, dget_s Y3.hc (bkK_at Y.bn hrs), r.2.1, _, rfl, dget_i (Y3.bk r hrs) (cK_at nd hm), _, rfl, ?_⟩
      refine if_false_of rfl ?_
      refine ⟨_, rfl, p, _, dx, _, _, rfl, ob3, T.cl_Carry, T.na_Carry_codes, ca_codes, _, rfl, cd, _, rfl, dget_s Y3.hc (bkK_at Y.bn hrs), _, rfl, r.2.1, _, rfl, dget_i (Y3.bk r hrs) (cK_at nd hm), _, rfl, _, rfl, tb, _, rfl, dget_iR (.inr ⟨od, hf⟩) (cK_at nd hm), some e.2, rfl, _, rfl, ?_⟩
      refine if_false_of rfl ?_
      refine ⟨_, rfl, p, dx, _, rfl, ob3, ca_no (by decide +kernel) (by decide +kernel) (by decide +kernel), _, rfl, _, rfl, p, pd, cd, m, rs, bs, ms, r.1, e.1, rfl, Y3, .inr ⟨r, hrs, rfl, .inr ⟨e.2, hm, ?_⟩⟩⟩
      refine ⟨_, rfl, _, rfl, tb, _, rfl, dget_iR (.inr ⟨od, hf⟩) (cK_at nd hm), some e.2, rfl, _, rfl, ?_⟩
      refine if_false_of rfl ?_
      refine ⟨_, rfl, .inl ⟨rfl, _, SqL.of hpa3⟩, _, rfl, _, rfl, _, rfl, tb, _, rfl, dget_iR (.inr ⟨od, hf⟩) (cK_at nd hm), by show 2 ≤ sizeLine; decide, fun T1 hT1 => ⟨pa, us, _, rfl, rfl, (same_new hT1) _ _ hpa3, by rw [sizeLine_eq]; omega, ?_⟩⟩
      refine ⟨_, us ++ [.ref T1], rfl, ?_, fun b o' e' hb => ?_, upd_same, ?_⟩
      · rw [upd_ne npa, upd_ne (ne_of_none hf hT1)]
        exact hf
      · rw [upd_ne (ne_of_none e' hpa), upd_ne (ne_of_none (kp b o' e' hb) hT1)]
        exact kp b o' e' hb
      · rw [List.take_add_one, he]
        have nT1 : pa ≠ T1 := ne_of_none hpa3 hT1
        refine Al.snoc (p := e) (by rw [upd_ne nT1.symm, upd_same]; rfl) (hus.keepT fun t ys e => ?_)
        rw [upd_ne (ne_of e hpa3 (fun z => by cases z)), upd_ne (ne_of_none e hT1)]
        exact e
    · rintro σ H2 ⟨v4, us, rfl, hf, kp, hpa3, hus⟩
      rw [show (cK r.2.2).length = r.2.2.length by unfold cK; rw [List.length_map], List.take_length] at hus
      have s2 : Same H (upd H2 tb (.dK (cK r.2.2))) := lock_same htb kp
      have hpa4 : upd H2 tb (.dK (cK r.2.2)) pa = some (.lst us) := by rw [upd_ne npa.symm]; exact hpa3
      have hus4 : Al (upd H2 tb (.dK (cK r.2.2))) us r.2.2 := hus.keepT fun t ys e => by
        rw [upd_ne (ne_of e hf (fun z => by cases z))]
        exact e
      refine ⟨hf, ?_⟩
      generalize upd H2 tb (.dK (cK r.2.2)) = H4 at s2 hpa4 hus4 ⊢
      refine ⟨_, rfl, p, dx, _, rfl, s2 _ _ ob, ca_no (by decide +kernel) (by decide +kernel) (by decide +kernel), _, rfl, p, pd, cd, m, rs, bs, ms, r.1, rfl, Y.same s2, .inr ⟨r, hrs, rfl, fun H5 s5 => ⟨_, rfl, pa, r.2.2, rfl, ⟨us, s5 _ _ hpa4, hus4.same s5⟩, fun H6 s6 => ⟨_, rfl, ?_⟩⟩⟩⟩
      refine if_false_of rfl ?_
      have s6' := s2.trans (s5.trans s6)
      have Y6 := Y.same s6'
      have htb6 := s6' _ _ htb
      -- the greatest code
      refine ⟨_, rfl, _, rfl, tb, _, htb6, trivial, fun od2 => ⟨_, rfl, tb, od2, rfl, .inl ⟨cK r.2.2, upd_same, fun D1 hD1 => lc_it (walk_keys (d := tb) (o := od2) (kvs := cK r.2.2)) (fun i H7 => H7 tb = some (.frz od2 (.dK (cK r.2.2))) ∧ (∀ b o, H6 b = some o → b ≠ tb → H7 b = some o) ∧ H7 D1 = some (.lst (((r.2.2.take i).map (·.1)).map V.int)))
        ⟨?_, ?_, upd_same⟩ (fun i H7 _ h => h.1) ?_ ?_⟩⟩⟩
      · rw [upd_ne (ne_of_none (H := upd H6 _ _) upd_same hD1), upd_same]
      · intro b o e hb
        have e2 : upd H6 tb (.frz od2 (.dK (cK r.2.2))) b = some o := by rw [upd_ne hb]; exact e
        rw [upd_ne (ne_of_none e2 hD1)]
        exact e2
      · rintro i v H7 H8 hi ⟨hf7, kp7, hD7⟩ ⟨rfl, kk, vv, hkv, rfl⟩
        obtain ⟨e, he, rfl, rfl⟩ := cK_ix hkv
        refine ⟨rfl, ?_⟩
        refine iteT (B := True) ?_
        refine iteT ?_
        refine ⟨_, rfl, _, hD7, ?_, ?_, fun b o e' hb => ?_, ?_⟩
        · rw [List.length_map, List.length_map, List.length_take, sizeLine_eq]; omega
        · rw [upd_ne (ne_of hf7 hD7 (fun z => by cases z))]
          exact hf7
        · have e2 : upd H6 tb (.frz od2 (.dK (cK r.2.2))) b = some o := by rw [upd_ne hb]; exact e'
          rw [upd_ne (ne_of_none e2 hD1)]
          exact kp7 b o e' hb
        · rw [upd_same, List.take_add_one, he, List.map_append, List.map_append]
          rfl
      · rintro H7 ⟨hf7, kp7, hD7⟩
        rw [show (cK r.2.2).length = r.2.2.length by unfold cK; rw [List.length_map], List.take_length] at hD7
        have s8 : Same H6 (upd H7 tb (.dK (cK r.2.2))) := lock_same htb6 kp7
        have nD1 : D1 ≠ tb := ne_of hD7 hf7 (fun z => by cases z)
        have hD8 : upd H7 tb (.dK (cK r.2.2)) D1 = some (.lst ((r.2.2.map (·.1)).map V.int)) := by rw [upd_ne nD1]; exact hD7
        refine ⟨hf7, ?_⟩
        generalize upd H7 tb (.dK (cK r.2.2)) = H8 at s8 hD8 ⊢
        refine ⟨by show 1 ≤ sizeLine; decide, fun z0 hz0 => ⟨D1, z0, _, _, rfl, rfl, (same_new hz0) _ _ hD8, upd_same, by rw [List.length_map, List.length_map, List.length_singleton, sizeLine_eq]; omega, fun z1 hz1 => ?_⟩⟩
        have s9 := s8.trans ((same_new (o := .lst [.int 0]) hz0).trans (same_new (o := .lst ((r.2.2.map (·.1)).map V.int ++ [.int 0])) hz1))
        refine ⟨z1, r.2.2.map (·.1) ++ [0], rfl, SqL.of (by rw [upd_same, List.map_append]; rfl), by rw [List.length_append, List.length_singleton]; omega, fun mx hmx hle => ?_⟩
        refine ⟨_, _, rfl, rfl, p, pd, cd, m, rs, bs, ms, r, mx + 1, rfl, Y6.same s9, hrs, fun hz => ?_, fun H9 s10 => k _ (s6'.trans (s9.trans s10))⟩
        have := hle _ (List.mem_append_left _ hz)
        omega
/-! ### all of a carry -/
structure DueAt (H : Hp) (dr dt : Addr) (rl : List Rw) (bl : List Bk) : Prop where
  hr : H dr = some (.dK (rowK rl))
  ht : H dt = some (.dK (bkK bl))
  row : ∀ r ∈ rl, H r.2.1 = some (.lst (r.2.2.map oi))
  bk : ∀ b ∈ bl, H b.2.1 = some (.dK (cK b.2.2))
theorem DueAt.same {H H' : Hp} {dr dt : Addr} {rl : List Rw} {bl : List Bk} (h : DueAt H dr dt rl bl) (s : Same H H') : DueAt H' dr dt rl bl := ⟨s _ _ h.hr, s _ _ h.ht, fun r hr => s _ _ (h.row r hr), fun r hr => s _ _ (h.bk r hr)⟩
def spCarry (C : Addr) : Sp := fun vs H Q _ => ∃ (p pd cd m : Addr) (rs : List Rw) (bs : List Bk) (ms : List Int) (dr dt : Addr) (rl : List Rw) (bl : List Bk), vs = [.ref p, .ref dr, .ref dt] ∧ CarryAt C H p pd cd m rs bs ms ∧ DueAt H dr dt rl bl ∧ rs.map rdat = rl.map rdat ∧ bs.map bdat = bl.map bdat ∧
  ¬ fpC p pd cd m rs bs dr ∧ ¬ fpC p pd cd m rs bs dt ∧ (∀ b ∈ bl, ¬ fpC p pd cd m rs bs b.2.1) ∧ ("zz" : Str) ∉ rs.map (·.1) ∧ ("zz" : Str) ∉ bs.map (·.1) ∧ ∀ H', Same H H' → Q (.bl true) H'
theorem ok_law_carry (T : Tx K mg A D) : FnOk P w K mg base CX0 20 A.f_law_carry D.f_law_carry ["_law_carry_here", "_law_rows", "_law_tables"] (spCarry A.c_Carry) := by
  refine T.F_law_carry.ok sc_law_carry (fun vs H Q E h => ?_) (fun cdv A' outer s H vs Q E hr h => ?_)
  · obtain ⟨p, pd, cd, m, rs, bs, ms, dr, dt, rl, bl, rfl, _⟩ := h
    rfl
  · obtain ⟨p, pd, cd, m, rs, bs, ms, dr, dt, rl, bl, rfl, Y, G, hrl, hbl, n1, n2, n3, z1, z2, k⟩ := h
    have hu := hu_of hr
    refine ⟨_, ((pss_cons (ps_if (PW.pt (pw_or (pt_not (pt_val (pe_callB call_isi (by rfl) T.b_isinstance (by decide +kernel) (pa_cons (pe_fld (pv 0) rfl) (pa_cons (pe_bltn (v := .ty "dict") (by rfl) T.b_dict (by decide +kernel) rfl) pa_nil))))) (pw_or1 (pt_cmpR op_ne (pe_callB call_lenD (by rfl) T.b_len (by decide +kernel) (pa_cons (pe_fld (pv 0) rfl) pa_nil)) (pe_callB call_lenD (by rfl) T.b_len (by decide +kernel) (pa_cons (pv 1) pa_nil)) (nomark _))))) (pss_one (ps_ret pe_bl)) pss_nil)
      (pss_cons (ps_if (PW.pt (pw_or (pt_not (pt_val (pe_callB call_isi (by rfl) T.b_isinstance (by decide +kernel) (pa_cons (pe_fld (pv 0) rfl) (pa_cons (pe_bltn (v := .ty "dict") (by rfl) T.b_dict (by decide +kernel) rfl) pa_nil))))) (pw_or1 (pt_cmpR op_ne (pe_callB call_lenD (by rfl) T.b_len (by decide +kernel) (pa_cons (pe_fld (pv 0) rfl) pa_nil)) (pe_callB call_lenD (by rfl) T.b_len (by decide +kernel) (pa_cons (pv 2) pa_nil)) (nomark _))))) (pss_one (ps_ret pe_bl)) pss_nil)
      (pss_cons (ps_lock (ps_for PassesOwn.never rfl (pi_keys (pv 1)) (pg_name (i := 3) sc_law_carry.nd rfl (by first | exact Or.inl rfl | exact Or.inr rfl)) (pss_one (ps_if (pt_not (pt_val (pe_call (ok_law_one_table T) (hr.mono (by decide)) (by rfl) T.m_law_one_table T.F_law_one_table.kp (b_law_one_table T) .nil pass0 (pa_cons (pv 0) (pa_cons (pv 3) (pa_cons (pe_dget hu (pv 1) (pv 3) (fun _ _ => rfl)) pa_nil)))))) (pss_one (ps_ret pe_bl)) pss_nil))))
      (pss_cons (ps_lock (ps_for PassesOwn.never rfl (pi_keys (pv 2)) (pg_name (i := 3) sc_law_carry.nd rfl (by first | exact Or.inl rfl | exact Or.inr rfl)) (pss_one (ps_if (pt_not (pt_val (pe_call (ok_law_one_book T) (hr.mono (by decide)) (by rfl) T.m_law_one_book T.F_law_one_book.kp (b_law_one_book T) .nil pass0 (pa_cons (pv 0) (pa_cons (pv 3) (pa_cons (pe_dget hu (pv 2) (pv 3) (fun _ _ => rfl)) pa_nil)))))) (pss_one (ps_ret pe_bl)) pss_nil))))
      (pss_one (ps_ret (pe_callB (cr_all rfl) (by rfl) T.b_all (by decide +kernel) (pa_cons (pe_lc (own := [("_law_which", 4)]) (g := (gName 4)) rfl sc_law_carry.nd (pi_range1 (by rfl) T.b_range (pa_cons pe_int pa_nil)) (blkOk_by (own := [("_law_which", 4)]) (N := ["_law_carry_here", "_law_rows", "_law_tables", "_law_name", "_law_which"]) (sc := defScope s_law_carry) (by decide +kernel)) (fun _ _ _ _ _ => (pg_name (i := 4) sc_law_carry.nd rfl (by first | exact Or.inl rfl | exact Or.inr rfl))) (fun _ _ _ _ _ => pts_nil) (fun _ _ _ _ _ => (pe_call (ok_law_refused T) (hr.mono (by decide)) (by rfl) T.m_law_refused T.F_law_refused.kp (b_law_refused T) .nil pass0 (pa_cons (pv 4) (pa_cons (pv 0) (pa_cons pe_str pa_nil)))))) pa_nil))))))))), ?_⟩
    obtain ⟨dx, ob⟩ := Y.ob
    have rl_len : (rowK rs).length = (rowK rl).length := by
      have := congrArg List.length hrl
      unfold rowK
      rw [List.length_map, List.length_map] at this ⊢
      exact this
    have bl_len : (bkK bs).length = (bkK bl).length := by
      have := congrArg List.length hbl
      unfold bkK
      rw [List.length_map, List.length_map] at this ⊢
      exact this
    refine ⟨_, rfl, p, _, dx, _, _, rfl, ob, T.cl_Carry, T.na_Carry_places, ca_places, _, _, _, _, true, rfl, .ty "dict", .base (.dK Y.hp), kit_ty (by decide +kernel), _, rfl, ?_⟩
    refine if_false_of rfl ?_
    refine ⟨_, rfl, p, _, dx, _, _, rfl, ob, T.cl_Carry, T.na_Carry_places, ca_places, pd, _, rfl, Y.hp, _, rfl, dr, _, rfl, G.hr, rfl, _, rfl, ?_⟩
    refine if_false_of (by rw [rl_len]; simp) ?_
    refine ⟨_, rfl, p, _, dx, _, _, rfl, ob, T.cl_Carry, T.na_Carry_codes, ca_codes, _, _, _, _, true, rfl, .ty "dict", .base (.dK Y.hc), kit_ty (by decide +kernel), _, rfl, ?_⟩
    refine if_false_of rfl ?_
    refine ⟨_, rfl, p, _, dx, _, _, rfl, ob, T.cl_Carry, T.na_Carry_codes, ca_codes, cd, _, rfl, Y.hc, _, rfl, dt, _, rfl, G.ht, rfl, _, rfl, ?_⟩
    refine if_false_of (by rw [bl_len]; simp) ?_
    have rnl : (rl.map (·.1)).Nodup := by rw [← names_of hrl]; exact Y.rn
    have bnl : (bl.map (·.1)).Nodup := by rw [← names_ofB hbl]; exact Y.bn
    -- the tables
    refine ⟨dr, _, G.hr, trivial, fun od => ⟨_, rfl, dr, od, rfl, .inl ⟨rowK rl, upd_same, for_it (walk_keys (d := dr) (o := od) (kvs := rowK rl)) (fun i σ H3 => ∃ (v3 v4 : Option V), σ = [some (.ref p), some (.ref dr), some (.ref dt), v3, v4] ∧ H3 dr = some (.frz od (.dK (rowK rl))) ∧ (∀ b o, H b = some o → b ≠ dr → H3 b = some o))
      ⟨none, none, rfl, upd_same, fun b o e hb => by rw [upd_ne hb]; exact e⟩ (fun i σ H3 _ h => by obtain ⟨_, _, _, h, _⟩ := h; exact h) ?_ ?_⟩⟩⟩
    · rintro i v σ H2 H3 hi ⟨v3, v4, rfl, hf, kp⟩ ⟨rfl, kk, vv, hkv, rfl⟩
      obtain ⟨e, he, rfl, rfl⟩ := rowK_ix hkv
      have hm := List.mem_of_getElem? he
      have Y3 : CarryAt A.c_Carry H3 p pd cd m rs bs ms := Y.keep fun b o hb e => kp b o e fun z => n1 (by rw [← z]; exact hb)
      have he3 := kp _ _ (G.row e hm) (ne_of (G.row e hm) G.hr (fun z => by cases z))
      have hd : rdat e ∈ rs.map rdat := hrl ▸ List.mem_map.mpr ⟨e, hm, rfl⟩
      obtain ⟨r, hr1, hr2⟩ := List.mem_map.mp hd
      have hat := rowK_at rnl hm
      obtain ⟨ex, ea, er⟩ := e
      obtain ⟨rx, ra, rr⟩ := r
      cases (show (rx, rr) = (ex, er) from hr2)
      refine ⟨_, rfl, _, rfl, _, rfl, _, rfl, dr, _, rfl, dget_sR (.inr ⟨od, hf⟩) hat, p, pd, cd, m, rs, bs, ms, (ex, ra, er), ea, rfl, Y3, hr1, he3, fun H4 s4 => ⟨_, rfl, ?_⟩⟩
      refine if_false_of rfl ?_
      exact ⟨_, _, rfl, s4 _ _ hf, fun b o e hb => s4 _ _ (kp b o e hb)⟩
    rintro σ H2 ⟨v3, v4, rfl, hf, kp⟩
    have s2 : Same H (upd H2 dr (.dK (rowK rl))) := lock_same G.hr kp
    refine ⟨hf, ?_⟩
    generalize upd H2 dr (.dK (rowK rl)) = H4 at s2 ⊢
    have G4 := G.same s2
    have Y4 := Y.same s2
    -- the books
    refine ⟨dt, _, G4.ht, trivial, fun od2 => ⟨_, rfl, dt, od2, rfl, .inl ⟨bkK bl, upd_same, for_it (walk_keys (d := dt) (o := od2) (kvs := bkK bl)) (fun i σ H3 => ∃ (v3 v4 : Option V), σ = [some (.ref p), some (.ref dr), some (.ref dt), v3, v4] ∧ H3 dt = some (.frz od2 (.dK (bkK bl))) ∧ (∀ b o, H4 b = some o → b ≠ dt → H3 b = some o))
      ⟨_, _, rfl, upd_same, fun b o e hb => by rw [upd_ne hb]; exact e⟩ (fun i σ H3 _ h => by obtain ⟨_, _, _, h, _⟩ := h; exact h) ?_ ?_⟩⟩⟩
    · rintro i v σ H2 H3 hi ⟨v3, v4, rfl, hf3, kp3⟩ ⟨rfl, kk, vv, hkv, rfl⟩
      obtain ⟨e, he, rfl, rfl⟩ := bkK_ix hkv
      have hm := List.mem_of_getElem? he
      have Y3 : CarryAt A.c_Carry H3 p pd cd m rs bs ms := Y4.keep fun b o hb e => kp3 b o e fun z => n2 (by rw [← z]; exact hb)
      have ned : e.2.1 ≠ dt := fun z => by
        have h1 := G4.bk e hm
        rw [z, G4.ht] at h1
        exact bkK_ne hm (by injection h1 with h1; injection h1)
      have he3 := kp3 _ _ (G4.bk e hm) ned
      have hd : bdat e ∈ bs.map bdat := hbl ▸ List.mem_map.mpr ⟨e, hm, rfl⟩
      obtain ⟨r, hr1, hr2⟩ := List.mem_map.mp hd
      have hat := bkK_at bnl hm
      have hn3 := n3 e hm
      obtain ⟨ex, ea, er⟩ := e
      obtain ⟨rx, ra, rr⟩ := r
      cases (show (rx, rr) = (ex, er) from hr2)
      refine ⟨_, rfl, _, rfl, _, rfl, _, rfl, dt, _, rfl, dget_sR (.inr ⟨od2, hf3⟩) hat, p, pd, cd, m, rs, bs, ms, (ex, ra, er), ea, rfl, Y3, hr1, he3, hn3, fun H5 s5 => ⟨_, rfl, ?_⟩⟩
      refine if_false_of rfl ?_
      exact ⟨_, _, rfl, s5 _ _ hf3, fun b o e hb => s5 _ _ (kp3 b o e hb)⟩
    rintro σ H2 ⟨v3, v4, rfl, hf3, kp3⟩
    have s4 : Same H4 (upd H2 dt (.dK (bkK bl))) := lock_same G4.ht kp3
    refine ⟨hf3, ?_⟩
    generalize upd H2 dt (.dK (bkK bl)) = H5 at s4 ⊢
    have Y5 := Y4.same s4
    refine ⟨4, rfl, by decide, by decide, fun D1 hD1 => lc_it (walk_range (lo := 0) (n := 4)) (fun i H6 => Same H5 H6 ∧ H6 D1 = some (.lst ((List.replicate i true).map V.bl))) ⟨same_new hD1, upd_same⟩ (fun _ _ _ _ => trivial) ?_ ?_⟩
    · rintro i v H6 H7 hi ⟨s6, hD6⟩ ⟨rfl, rfl⟩
      refine ⟨rfl, ?_⟩
      refine iteT (B := True) ?_
      refine iteT ?_
      refine ⟨_, rfl, _, rfl, p, pd, cd, m, rs, bs, ms, "zz", 0 + (i : Int), rfl, Y5.same s6, z1, z2, by omega, fun H8 s8 => ⟨_, s8 _ _ hD6, ?_, ?_, ?_⟩⟩
      · rw [List.length_map, List.length_replicate, sizeLine_eq]; omega
      · intro b' o' e
        rw [upd_ne (ne_of_none e hD1)]
        exact s8 _ _ (s6 b' o' e)
      · rw [upd_same, List.replicate_succ', List.map_append]; rfl
    · rintro H6 ⟨s6, hD6⟩
      exact ⟨D1, _, rfl, SqL.of hD6, k _ (s2.trans (s4.trans s6))⟩
end
end L2.Cd

namespace L2.Cd
open PySem PySem.Spec PyProof.Rows L2.Ex
theorem seq_mid {t u : TS} {D : Ends} {σ : St} {H : Hp} (Mid : St → Hp → Prop) (h : ∀ N : St → Hp → Prop, (∀ σ' H', Mid σ' H' → N σ' H') → t { D with nx := N } σ H) (h2 : ∀ σ' H', Mid σ' H' → u D σ' H') : tSeq t u D σ H := h _ h2
theorem g_ok {i : Nat} {v : V} {σ : St} {H : Hp} {N : St → Hp → Prop} (h : N (σ.set i (some v)) H) : gName i v σ H N := h
theorem nx_ok {D : Ends} {σ : St} {H : Hp} (h : D.nx σ H) : tNext D σ H := h
theorem rowK_app {rs : List Rw} {r : Rw} : rowK (rs ++ [r]) = rowK rs ++ [(.inr r.1, .ref r.2.1)] := by unfold rowK; rw [List.map_append]; rfl
theorem rowK_re {rs : List Rw} {r : Rw} {t : Addr} (h : r.1 ∉ rs.map (·.1)) : putK (rowK (rs ++ [r])) (.inr r.1) (.ref t) = rowK (rs ++ [(r.1, t, r.2.2)]) := by
  have nm : ∀ kv ∈ rowK rs, ¬ kv.1 = (Sum.inr r.1 : Key) := fun kv hk e => by
    obtain ⟨q, hq, rfl⟩ := List.mem_map.mp hk
    have e2 : q.1 = r.1 := Sum.inr.inj e
    exact h (e2 ▸ List.mem_map.mpr ⟨q, hq, rfl⟩)
  have a : ((rowK (rs ++ [r])).any fun kv => decide (kv.1 = (Sum.inr r.1 : Key))) = true := by
    rw [rowK_app, List.any_append]
    simp
  unfold putK
  rw [if_pos a, rowK_app, rowK_app, List.map_append]
  congr 1
  · exact (List.map_congr_left fun kv hk => if_neg (nm kv hk)).trans (List.map_id' _)
  · simp
theorem put_len (c : List (Key × V)) (k : Key) (x : V) : (putK c k x).length ≤ c.length + 1 := by
  unfold putK
  split
  · rw [List.length_map]; exact Nat.le_succ _
  · rw [List.length_append]; exact Nat.le_refl _
theorem newT_of {H H2 : Hp} {b : Addr} (s : Same H H2) (h : NewT H2 b) : NewT H b := by
  rcases h with h | ⟨xs, h⟩
  · exact .inl (s.free h)
  · cases q : H b with
    | none => exact .inl q
    | some o =>
      have := s _ _ q
      rw [h] at this
      exact .inr ⟨xs, by rw [q, this]⟩
theorem newT_ne {H : Hp} {b : Addr} {o : HO} (h : NewT H b) (e : H b = some o) (n : ∀ xs, o ≠ .tup xs) : False := by
  rcases h with h | ⟨xs, h⟩
  · rw [h] at e; cases e
  · rw [h] at e; exact n xs (Option.some.inj e).symm
section
variable {P : Program} {w : World} {K : PySem.W.Frag} {mg : Str → Option Value} {base : Heap} {A : Ad} {D : Fd}
structure Szs (rl : List Rw) (bl : List Bk) (ms : List Int) : Prop where
  rn : (rl.map (·.1)).Nodup
  bn : (bl.map (·.1)).Nodup
  cn : ∀ b ∈ bl, (b.2.2.map (·.1)).Nodup
  ln : (∀ r ∈ rl, r.2.2.length < 400) ∧ (∀ b ∈ bl, b.2.2.length < 400) ∧ rl.length < 400 ∧ bl.length < 400 ∧ ms.length < 400
def spMade (C : Addr) : Sp := fun vs H Q _ => ∃ (dr dt mo : Addr) (lists : Bool) (rl : List Rw) (bl : List Bk) (ms : List Int), vs = [.ref dr, .ref dt, .ref mo, .bl lists] ∧ DueAt H dr dt rl bl ∧ H mo = some (.lst (ms.map V.int)) ∧ Szs rl bl ms ∧
  ∀ (p pd cd m : Addr) (rs : List Rw) (bs : List Bk) (H' : Hp), CarryAt C H' p pd cd m rs bs ms → rs.map rdat = rl.map rdat → bs.map bdat = bl.map bdat → Same H H' → (∀ b, fpC p pd cd m rs bs b → NewT H b) → Q (.ref p) H'
theorem ok_law_made (T : Tx K mg A D) : FnOk P w K mg base CX0 8 A.f_law_made D.f_law_made ["_law_rows", "_law_tables", "_law_moments_here", "_law_lists"] (spMade A.c_Carry) := by
  refine T.F_law_made.ok sc_law_made (fun vs H Q E h => ?_) (fun cdv A' outer s H vs Q E hr h => ?_)
  · obtain ⟨dr, dt, mo, lists, rl, bl, ms, rfl, _⟩ := h
    rfl
  · obtain ⟨dr, dt, mo, lists, rl, bl, ms, rfl, G, hmo, Z, k⟩ := h
    have hu := hu_of hr
    refine ⟨_, ((pss_cons (ps_set (i := 4) sc_law_made.nd rfl (by first | exact Or.inl rfl | exact Or.inr rfl) pe_dnewK)
      (pss_cons (ps_lock (ps_for PassesOwn.never rfl (pi_keys (pv 0)) (pg_name (i := 5) sc_law_made.nd rfl (by first | exact Or.inl rfl | exact Or.inr rfl)) (pss_cons (ps_dput hu (pv 4) (pv 5) (pe_callTy call_tuple_of (by rfl) T.b_tuple (by decide +kernel) (pa_cons (pe_dget hu (pv 0) (pv 5) (fun _ _ => rfl)) pa_nil)) rfl)
      (pss_one (ps_if (pt_val (pv 3)) (pss_one (ps_dput hu (pv 4) (pv 5) (pe_callTy call_list_of (by rfl) T.b_list (by decide +kernel) (pa_cons (pe_dget hu (pv 0) (pv 5) (fun _ _ => rfl)) pa_nil)) rfl)) pss_nil)))))
      (pss_cons (ps_set (i := 6) sc_law_made.nd rfl (by first | exact Or.inl rfl | exact Or.inr rfl) pe_dnewK)
      (pss_cons (ps_lock (ps_for PassesOwn.never rfl (pi_keys (pv 1)) (pg_name (i := 5) sc_law_made.nd rfl (by first | exact Or.inl rfl | exact Or.inr rfl)) (pss_one (ps_dput hu (pv 6) (pv 5) (pe_callTy call_dictD (by rfl) T.b_dict (by decide +kernel) (pa_cons (pe_dget hu (pv 1) (pv 5) (fun _ _ => rfl)) pa_nil)) rfl))))
      (pss_cons (ps_set (i := 7) sc_law_made.nd rfl (by first | exact Or.inl rfl | exact Or.inr rfl) (pe_callTy call_list_of (by rfl) T.b_list (by decide +kernel) (pa_cons (pv 2) pa_nil)))
      (pss_cons (ps_set (i := 8) sc_law_made.nd rfl (by first | exact Or.inl rfl | exact Or.inr rfl) (pe_ifExp (pt_val (pv 3)) (pv 7) (pe_callTy call_tuple_of (by rfl) T.b_tuple (by decide +kernel) (pa_cons (pv 7) pa_nil))))
      (pss_cons (ps_set (i := 9) sc_law_made.nd rfl (by first | exact Or.inl rfl | exact Or.inr rfl) (pe_make T.mk_Carry (ok_Carry_init T) (hr.mono (by decide)) (by rfl) T.m_Carry (b_Carry_init T) .nil pass0 (pa_cons (pv 4) (pa_cons (pv 6) (pa_cons (pv 8) pa_nil)))))
      (pss_cons (ps_expr (pe_bm PySem.F.plainAttrs_list PySem.F.slot_list_append PySem.F.type_list_append mt_append (pv 7) (pa_cons pe_int pa_nil)))
      (pss_cons (ps_lock (ps_for PassesOwn.never rfl (pi_keys (pv 0)) (pg_name (i := 5) sc_law_made.nd rfl (by first | exact Or.inl rfl | exact Or.inr rfl)) (pss_one (ps_if (pt_val (pv 3)) (pss_one (ps_expr (pe_bm PySem.F.plainAttrs_list PySem.F.slot_list_append PySem.F.type_list_append mt_append (pe_dget hu (pv 4) (pv 5) (fun _ _ => rfl)) (pa_cons pe_int pa_nil)))) pss_nil))))
      (pss_cons (ps_lock (ps_for PassesOwn.never rfl (pi_keys (pv 1)) (pg_name (i := 5) sc_law_made.nd rfl (by first | exact Or.inl rfl | exact Or.inr rfl)) (pss_one (ps_dput hu (pe_dget hu (pv 6) (pv 5) (fun _ _ => rfl)) pe_int pe_int rfl))))
      (pss_cons (ps_dput hu (pv 4) pe_str (pe_lst (pa_cons pe_int pa_nil)) rfl)
      (pss_cons (ps_dput hu (pv 6) pe_str pe_dnewK rfl)
      (pss_one (ps_ret (pv 9)))))))))))))))), ?_⟩
    intro pl hpl
    have s0 := same_new (o := .dK []) hpl
    have G0 := G.same s0
    have npr : dr ≠ pl := ne_of_none G.hr hpl
    -- rows
    refine ⟨dr, _, G0.hr, trivial, fun od => ⟨_, rfl, dr, od, rfl, .inl ⟨rowK rl, upd_same, for_it (walk_keys (d := dr) (o := od) (kvs := rowK rl)) (fun i σ H3 => ∃ (v5 : Option V), σ = [some (.ref dr), some (.ref dt), some (.ref mo), some (.bl lists), some (.ref pl), v5, none, none, none, none] ∧ H3 dr = some (.frz od (.dK (rowK rl))) ∧ (∀ b o, H b = some o → b ≠ dr → H3 b = some o) ∧
      ∃ rs0, H3 pl = some (.dK (rowK rs0)) ∧ rs0.map rdat = (rl.take i).map rdat ∧ ∀ r ∈ rs0, H r.2.1 = none ∧ (lists = true → H3 r.2.1 = some (.lst (r.2.2.map oi))) ∧ (lists = false → H3 r.2.1 = some (.tup (r.2.2.map oi))))
      ⟨none, rfl, upd_same, fun b o e hb => by rw [upd_ne hb]; exact s0 b o e, [], by rw [upd_ne npr.symm, upd_same]; rfl, rfl, fun r hr => (by cases hr)⟩ (fun i σ H3 _ h => by obtain ⟨_, _, h, _⟩ := h; exact h) ?_ ?_⟩⟩⟩
    · rintro i v σ H2 H3 hi ⟨v5, rfl, hf, kp, rs0, hpl3, hrs, hro⟩ ⟨rfl, kk, vv, hkv, rfl⟩
      obtain ⟨e, he, rfl, rfl⟩ := rowK_ix hkv
      have hm := List.mem_of_getElem? he
      have hi2 : i < rl.length := (List.getElem?_eq_some_iff.mp he).1
      have hll := Z.ln.2.2.1
      have he3 := kp _ _ (G.row e hm) (ne_of (G.row e hm) G.hr (fun z => by cases z))
      have nm : e.1 ∉ rs0.map (·.1) := by
        rw [names_of hrs]
        exact take_new (f := fun r : Rw => r.1) Z.rn he
      have hl' : (rowK rs0).length ≤ i := by
        have := congrArg List.length hrs
        rw [List.length_map, List.length_map, List.length_take] at this
        unfold rowK
        rw [List.length_map]
        omega
      have npl : ∀ {b o}, H b = some o → b ≠ pl := fun h => ne_of_none h hpl
      have fr0 : ∀ b, H3 b = none → H b = none := fun b hb => by
        cases q : H b with
        | none => rfl
        | some o =>
          by_cases z : b = dr
          · rw [z, hf] at hb; cases hb
          · rw [kp b o q z] at hb; cases hb
      refine ⟨_, rfl, _, rfl, dr, _, rfl, dget_sR (.inr ⟨od, hf⟩) (rowK_at Z.rn hm), e.2.1, _, rfl, .inl ⟨SqL.of he3, fun t ht => ?_⟩⟩
      have sT := same_new (o := .tup (e.2.2.map oi)) ht
      have ntp : t ≠ pl := (ne_of_none hpl3 ht).symm
      have ntd : t ≠ dr := (ne_of_none hf ht).symm
      refine ⟨_, rfl, _, rfl, pl, _, rfl, DPut.k (k := Sum.inr e.1) (sT _ _ hpl3) (small1000 (by omega)), ?_⟩
      rw [rowK_snoc (r := (e.1, t, e.2.2)) nm]
      have hrs' : (rs0 ++ [((e.1, t, e.2.2) : Rw)]).map rdat = (rl.take (i + 1)).map rdat := by
        rw [List.take_add_one, he, List.map_append, List.map_append, hrs]
        rfl
      have rest : ∀ b o, H3 b = some o → b ≠ pl → upd (upd H3 t (.tup (e.2.2.map oi))) pl (.dK (rowK (rs0 ++ [(e.1, t, e.2.2)]))) b = some o := fun b o h hb => by rw [upd_ne hb]; exact sT b o h
      refine ⟨_, rfl, _, rfl, ?_⟩
      cases lists with
      | false =>
        refine if_false_of rfl ?_
        refine ⟨_, rfl, rest _ _ hf npr, fun b o h hb => rest _ _ (kp b o h hb) (npl h), _, upd_same, hrs', fun r hr => ?_⟩
        rcases List.mem_append.mp hr with h | h
        · obtain ⟨h1, h2, h3⟩ := hro r h
          refine ⟨h1, fun z => (by cases z), fun _ => rest _ _ (h3 rfl) (ne_of (h3 rfl) hpl3 (fun z => by cases z))⟩
        · rw [List.mem_singleton.mp h]
          exact ⟨fr0 t ht, fun z => (by cases z), fun _ => by rw [upd_ne ntp, upd_same]⟩
      | true =>
        refine if_true_of rfl ?_
        have hf4 := rest _ _ hf npr
        have he4 := rest _ _ he3 (npl (G.row e hm))
        have hpl4 : upd (upd H3 t (.tup (e.2.2.map oi))) pl (.dK (rowK (rs0 ++ [(e.1, t, e.2.2)]))) pl = some (.dK (rowK (rs0 ++ [(e.1, t, e.2.2)]))) := upd_same
        have fr4 : ∀ b, upd (upd H3 t (.tup (e.2.2.map oi))) pl (.dK (rowK (rs0 ++ [(e.1, t, e.2.2)]))) b = none → H3 b = none := fun b hb => by
          cases q : H3 b with
          | none => rfl
          | some o =>
            by_cases z : b = pl
            · rw [z, hpl4] at hb; cases hb
            · rw [rest b o q z] at hb; cases hb
        generalize upd (upd H3 t (.tup (e.2.2.map oi))) pl (.dK (rowK (rs0 ++ [(e.1, t, e.2.2)]))) = H4 at hf4 he4 hpl4 rest fr4 ⊢
        refine ⟨_, rfl, _, rfl, dr, _, rfl, dget_sR (.inr ⟨od, hf4⟩) (rowK_at Z.rn hm), e.2.1, _, rfl, .inl (SqL.of he4), fun t2 ht2 => ?_⟩
        have sT2 := same_new (o := .lst (e.2.2.map oi)) ht2
        have nt2 : t2 ≠ pl := (ne_of_none hpl4 ht2).symm
        refine ⟨_, rfl, _, rfl, pl, _, rfl, DPut.k (k := Sum.inr e.1) (sT2 _ _ hpl4) (small1000 (by rw [rowK_app, List.length_append]; show _ + 1 ≤ 1000; omega)), ?_⟩
        rw [rowK_re (r := (e.1, t, e.2.2)) nm]
        have hrs2 : (rs0 ++ [((e.1, t2, e.2.2) : Rw)]).map rdat = (rl.take (i + 1)).map rdat := by
          rw [List.take_add_one, he, List.map_append, List.map_append, hrs]
          rfl
        have rest2 : ∀ b o, H3 b = some o → b ≠ pl → upd (upd H4 t2 (.lst (e.2.2.map oi))) pl (.dK (rowK (rs0 ++ [(e.1, t2, e.2.2)]))) b = some o := fun b o h hb => by rw [upd_ne hb]; exact sT2 b o (rest b o h hb)
        refine ⟨_, rfl, rest2 _ _ hf npr, fun b o h hb => rest2 _ _ (kp b o h hb) (npl h), _, upd_same, hrs2, fun r hr => ?_⟩
        rcases List.mem_append.mp hr with h | h
        · obtain ⟨h1, h2, h3⟩ := hro r h
          exact ⟨h1, fun _ => rest2 _ _ (h2 rfl) (ne_of (h2 rfl) hpl3 (fun z => by cases z)), fun z => (by cases z)⟩
        · rw [List.mem_singleton.mp h]
          exact ⟨fr0 _ (fr4 _ ht2), fun _ => by rw [upd_ne nt2, upd_same], fun z => (by cases z)⟩
    rintro σ H2 ⟨v5, rfl, hf, kp, rs0, hpl2, hrs, hro⟩
    rw [show (rowK rl).length = rl.length by unfold rowK; rw [List.length_map], List.take_length] at hrs
    have s2 : Same H (upd H2 dr (.dK (rowK rl))) := lock_same G.hr kp
    have hpl4 : upd H2 dr (.dK (rowK rl)) pl = some (.dK (rowK rs0)) := by rw [upd_ne npr.symm]; exact hpl2
    have hro4 : ∀ r ∈ rs0, H r.2.1 = none ∧ (lists = true → upd H2 dr (.dK (rowK rl)) r.2.1 = some (.lst (r.2.2.map oi))) ∧ (lists = false → upd H2 dr (.dK (rowK rl)) r.2.1 = some (.tup (r.2.2.map oi))) := fun r hr => by
      obtain ⟨h1, h2, h3⟩ := hro r hr
      rw [upd_ne (ne_of_none G.hr h1).symm]
      exact ⟨h1, h2, h3⟩
    refine ⟨hf, ?_⟩
    generalize upd H2 dr (.dK (rowK rl)) = H4 at s2 hpl4 hro4 ⊢
    clear hro hpl2 kp hf
    -- books
    intro co hco
    have s4 := same_new (o := .dK []) hco
    have G4 := G.same (s2.trans s4)
    have ntc : dt ≠ co := ne_of_none (s2 _ _ G.ht) hco
    refine ⟨dt, _, G4.ht, trivial, fun od => ⟨_, rfl, dt, od, rfl, .inl ⟨bkK bl, upd_same, for_it (walk_keys (d := dt) (o := od) (kvs := bkK bl)) (fun i σ H3 => ∃ (v5 : Option V), σ = [some (.ref dr), some (.ref dt), some (.ref mo), some (.bl lists), some (.ref pl), v5, some (.ref co), none, none, none] ∧ H3 dt = some (.frz od (.dK (bkK bl))) ∧ (∀ b o, H4 b = some o → b ≠ dt → H3 b = some o) ∧
      ∃ bs0, H3 co = some (.dK (bkK bs0)) ∧ bs0.map bdat = (bl.take i).map bdat ∧ ∀ r ∈ bs0, H4 r.2.1 = none ∧ H3 r.2.1 = some (.dK (cK r.2.2)) ∧ r.2.1 ≠ co)
      ⟨_, rfl, upd_same, fun b o e hb => by rw [upd_ne hb]; exact s4 b o e, [], by rw [upd_ne ntc.symm, upd_same]; rfl, rfl, fun r hr => (by cases hr)⟩ (fun i σ H3 _ h => by obtain ⟨_, _, h, _⟩ := h; exact h) ?_ ?_⟩⟩⟩
    · rintro i v σ H2 H3 hi ⟨v5, rfl, hf, kp, bs0, hco3, hbs, hbo⟩ ⟨rfl, kk, vv, hkv, rfl⟩
      obtain ⟨e, he, rfl, rfl⟩ := bkK_ix hkv
      have hm := List.mem_of_getElem? he
      have hi2 : i < bl.length := (List.getElem?_eq_some_iff.mp he).1
      have hll := Z.ln.2.2.2.1
      have ned : e.2.1 ≠ dt := fun z => by
        have h1 := G.bk e hm
        rw [z, G.ht] at h1
        exact bkK_ne hm (by injection h1 with h1; injection h1)
      have he3 := kp _ _ (s2 _ _ (G.bk e hm)) ned
      have nm : e.1 ∉ bs0.map (·.1) := by
        rw [names_ofB hbs]
        exact take_new (f := fun r : Bk => r.1) Z.bn he
      have hl' : (bkK bs0).length ≤ i := by
        have := congrArg List.length hbs
        rw [List.length_map, List.length_map, List.length_take] at this
        unfold bkK
        rw [List.length_map]
        omega
      have nco : ∀ {b o}, H4 b = some o → b ≠ co := fun h => ne_of_none h hco
      refine ⟨_, rfl, _, rfl, dt, _, rfl, dget_sR (.inr ⟨od, hf⟩) (bkK_at Z.bn hm), e.2.1, cK e.2.2, rfl, .inl he3, fun t ht => ?_⟩
      have sT := same_new (o := .dK (cK e.2.2)) ht
      have ntp : t ≠ co := (ne_of_none hco3 ht).symm
      refine ⟨_, rfl, _, rfl, co, _, rfl, DPut.k (k := Sum.inr e.1) (sT _ _ hco3) (small1000 (by omega)), ?_⟩
      rw [bkK_snoc (r := (e.1, t, e.2.2)) nm]
      have rest : ∀ b o, H3 b = some o → b ≠ co → upd (upd H3 t (.dK (cK e.2.2))) co (.dK (bkK (bs0 ++ [(e.1, t, e.2.2)]))) b = some o := fun b o h hb => by rw [upd_ne hb]; exact sT b o h
      refine ⟨_, rfl, rest _ _ hf ntc, fun b o h hb => rest _ _ (kp b o h hb) (nco h), _, upd_same, ?_, fun r hr => ?_⟩
      · rw [List.take_add_one, he, List.map_append, List.map_append, hbs]
        rfl
      · rcases List.mem_append.mp hr with h | h
        · obtain ⟨h1, h2, h3⟩ := hbo r h
          exact ⟨h1, rest _ _ h2 h3, h3⟩
        · rw [List.mem_singleton.mp h]
          refine ⟨?_, by rw [upd_ne ntp, upd_same], ntp⟩
          cases q : H4 t with
          | none => rfl
          | some o =>
            by_cases z : t = dt
            · rw [z, hf] at ht; cases ht
            · rw [kp t o q z] at ht; cases ht
    rintro σ H2 ⟨v5b, rfl, hf, kp, bs0, hco2, hbs, hbo⟩
    rw [show (bkK bl).length = bl.length by unfold bkK; rw [List.length_map], List.take_length] at hbs
    have s5 : Same H4 (upd H2 dt (.dK (bkK bl))) := lock_same (s2 _ _ G.ht) kp
    have hco5 : upd H2 dt (.dK (bkK bl)) co = some (.dK (bkK bs0)) := by rw [upd_ne ntc.symm]; exact hco2
    have hbo5 : ∀ r ∈ bs0, H4 r.2.1 = none ∧ upd H2 dt (.dK (bkK bl)) r.2.1 = some (.dK (cK r.2.2)) ∧ r.2.1 ≠ co := fun r hr => by
      obtain ⟨h1, h2, h3⟩ := hbo r hr
      rw [upd_ne (ne_of_none (s2 _ _ G.ht) h1).symm]
      exact ⟨h1, h2, h3⟩
    refine ⟨hf, ?_⟩
    generalize upd H2 dt (.dK (bkK bl)) = H5 at s5 hco5 hbo5 ⊢
    clear hbo hco2 kp hf
    have sH := s2.trans s5
    refine ⟨_, rfl, mo, _, rfl, .inl (SqL.of (sH _ _ hmo)), fun kh hkh => ?_⟩
    have s6 := same_new (o := .lst (ms.map V.int)) hkh
    have hkh6 : upd H5 kh (.lst (ms.map V.int)) kh = some (.lst (ms.map V.int)) := upd_same
    have kh0 : H kh = none := sH.free hkh
    generalize upd H5 kh (.lst (ms.map V.int)) = H6 at s6 hkh6 ⊢
    refine g_ok ?_
    dsimp only
    refine seq_mid (fun σ H7 => ∃ hd, σ = [some (.ref dr), some (.ref dt), some (.ref mo), some (.bl lists), some (.ref pl), v5b, some (.ref co), some (.ref kh), some (.ref hd), none] ∧ Same H6 H7 ∧ (H7 hd = some (.lst (ms.map V.int)) ∨ H7 hd = some (.tup (ms.map V.int)))) (fun Nx hN => ?_) ?_
    · refine ⟨_, rfl, _, rfl, ?_⟩
      cases lists with
      | true =>
        refine if_true_of rfl ?_
        exact ⟨_, rfl, hN _ _ ⟨kh, rfl, Same.refl _, .inl hkh6⟩⟩
      | false =>
        refine if_false_of rfl ?_
        exact ⟨_, rfl, kh, _, rfl, .inl ⟨SqL.of hkh6, fun tt htt => hN _ _ ⟨tt, rfl, same_new htt, .inr upd_same⟩⟩⟩
    rintro σ H7 ⟨hd, rfl, s7, hhd⟩
    have s57 := s6.trans s7
    have s07 := sH.trans s57
    have rlen : rs0.length = rl.length := by
      have := congrArg List.length hrs
      rwa [List.length_map, List.length_map] at this
    have blen : bs0.length = bl.length := by
      have := congrArg List.length hbs
      rwa [List.length_map, List.length_map] at this
    have rin : ∀ r ∈ rs0, ∃ r0 ∈ rl, r0.2.2 = r.2.2 := fun r hr => by
      have : rdat r ∈ rl.map rdat := hrs ▸ List.mem_map.mpr ⟨r, hr, rfl⟩
      obtain ⟨r0, h0, e0⟩ := List.mem_map.mp this
      exact ⟨r0, h0, (Prod.mk.inj (show (r0.1, r0.2.2) = (r.1, r.2.2) from e0)).2⟩
    have bin : ∀ r ∈ bs0, ∃ r0 ∈ bl, r0.2.2 = r.2.2 := fun r hr => by
      have : bdat r ∈ bl.map bdat := hbs ▸ List.mem_map.mpr ⟨r, hr, rfl⟩
      obtain ⟨r0, h0, e0⟩ := List.mem_map.mp this
      exact ⟨r0, h0, (Prod.mk.inj (show (r0.1, r0.2.2) = (r.1, r.2.2) from e0)).2⟩
    have rn0 : (rs0.map (·.1)).Nodup := by rw [names_of hrs]; exact Z.rn
    have bn0 : (bs0.map (·.1)).Nodup := by rw [names_ofB hbs]; exact Z.bn
    have rl7 : ∀ r ∈ rs0, r.2.2.length < 400 := fun r hr => by obtain ⟨r0, h0, e0⟩ := rin r hr; rw [← e0]; exact Z.ln.1 r0 h0
    have bl7 : ∀ r ∈ bs0, r.2.2.length < 400 := fun r hr => by obtain ⟨r0, h0, e0⟩ := bin r hr; rw [← e0]; exact Z.ln.2.1 r0 h0
    have zl := Z.ln
    have hpl7 := s57 _ _ (s5 _ _ hpl4)
    have hco7 := s57 _ _ hco5
    have hro7 : ∀ r ∈ rs0, H r.2.1 = none ∧ (lists = true → H7 r.2.1 = some (.lst (r.2.2.map oi))) ∧ (lists = false → H7 r.2.1 = some (.tup (r.2.2.map oi))) := fun r hr =>
      ⟨(hro4 r hr).1, fun z => s57 _ _ (s5 _ _ ((hro4 r hr).2.1 z)), fun z => s57 _ _ (s5 _ _ ((hro4 r hr).2.2 z))⟩
    have hbo7 : ∀ r ∈ bs0, H r.2.1 = none ∧ H7 r.2.1 = some (.dK (cK r.2.2)) := fun r hr => ⟨s2.free (hbo5 r hr).1, s57 _ _ (hbo5 r hr).2.1⟩
    have hkh7 := s7 _ _ hkh6
    -- the carry
    refine ⟨_, rfl, _, rfl, _, rfl, fun p dx hp hdx ne => ?_⟩
    have sM : Same H7 (upd (upd H7 dx (.own p)) p (.ins A.c_Carry dx [])) := fun b o e => by rw [upd_ne (ne_of_none e hp), upd_ne (ne_of_none e hdx)]; exact e
    refine ⟨p, dx, pl, co, hd, rs0, bs0, ms, rfl, upd_same, ⟨sM _ _ hpl7, sM _ _ hco7, hhd.imp (sM _ _) (sM _ _), fun r hr => ?_, fun r hr => sM _ _ (hbo7 r hr).2, rn0, bn0, fun r hr => ?_, ⟨fun r hr => by have := rl7 r hr; omega, fun r hr => by have := bl7 r hr; omega, by omega, by omega, by omega⟩⟩, fun pd cd m rs' bs' H8 Y e1 e2 kp8 fp8 => ⟨rfl, ?_⟩⟩
    · cases lists with
      | true => exact .inl (sM _ _ ((hro7 r hr).2.1 rfl))
      | false => exact .inr (sM _ _ ((hro7 r hr).2.2 rfl))
    · obtain ⟨r0, h0, e0⟩ := bin r hr
      rw [← e0]
      exact Z.cn r0 h0
    have s8 : Same H7 H8 := fun b o e => kp8 b o (sM b o e) (ne_of_none e hp)
    have fp7 : ∀ b, fpC p pd cd m rs' bs' b → NewT H7 b := fun b hb => by
      rcases fp8 b hb with z | z
      · rw [z]; exact .inl hp
      · exact newT_of sM z
    have out : ∀ {b o}, H7 b = some o → (∀ xs, o ≠ .tup xs) → ¬ fpC p pd cd m rs' bs' b := fun e n hb => newT_ne (fp7 _ hb) e n
    have fp0 : ∀ b, fpC p pd cd m rs' bs' b → NewT H b := fun b hb => newT_of s07 (fp7 b hb)
    have s08 := s07.trans s8
    have pl0 : H pl = none := hpl
    have co0 : H co = none := s2.free hco
    have nkp : kh ≠ pl := (ne_of_none (s5 _ _ hpl4) hkh).symm
    have nkc : kh ≠ co := (ne_of_none hco5 hkh).symm
    -- kept_here.append(999)
    have hkh8 := s8 _ _ hkh7
    refine ⟨_, rfl, .inl ⟨rfl, _, SqL.of hkh8⟩, kh, _, _, rfl, rfl, hkh8, by rw [List.length_map, sizeLine_eq]; omega, ?_⟩
    have Y9 := Y.lock (u := .lst (ms.map V.int ++ [.int 999])) (out hkh7 (fun _ z => by cases z))
    have s09 : Same H (upd H8 kh (.lst (ms.map V.int ++ [.int 999]))) := fun b o e => by rw [upd_ne (ne_of_none e kh0)]; exact s08 b o e
    have hpl9 : upd H8 kh (.lst (ms.map V.int ++ [.int 999])) pl = some (.dK (rowK rs0)) := by rw [upd_ne nkp.symm]; exact s8 _ _ hpl7
    have hco9 : upd H8 kh (.lst (ms.map V.int ++ [.int 999])) co = some (.dK (bkK bs0)) := by rw [upd_ne nkc.symm]; exact s8 _ _ hco7
    have hro9 : ∀ r ∈ rs0, lists = true → ∃ xs, upd H8 kh (.lst (ms.map V.int ++ [.int 999])) r.2.1 = some (.lst xs) ∧ xs.length ≤ 500 := fun r hr z => by
      have h := s8 _ _ ((hro7 r hr).2.1 z)
      have hl := rl7 r hr
      by_cases q : r.2.1 = kh
      · rw [q, upd_same]
        exact ⟨_, rfl, by rw [List.length_append, List.length_map]; show _ + 1 ≤ 500; omega⟩
      · rw [upd_ne q]
        exact ⟨_, h, by rw [List.length_map]; omega⟩
    have hbo9 : ∀ r ∈ bs0, ∃ kvs, upd H8 kh (.lst (ms.map V.int ++ [.int 999])) r.2.1 = some (.dK kvs) ∧ kvs.length ≤ 500 := fun r hr => by
      have h := s8 _ _ (hbo7 r hr).2
      have hl := bl7 r hr
      refine ⟨_, by rw [upd_ne (ne_of h hkh8 (fun z => by cases z))]; exact h, ?_⟩
      unfold cK
      rw [List.length_map]
      omega
    generalize upd H8 kh (.lst (ms.map V.int ++ [.int 999])) = H9 at Y9 s09 hpl9 hco9 hro9 hbo9 ⊢
    have ndr : ¬ fpC p pd cd m rs' bs' dr := out (s07 _ _ G.hr) (fun _ z => by cases z)
    have ndt : ¬ fpC p pd cd m rs' bs' dt := out (s07 _ _ G.ht) (fun _ z => by cases z)
    have npl : ¬ fpC p pd cd m rs' bs' pl := out hpl7 (fun _ z => by cases z)
    have nco : ¬ fpC p pd cd m rs' bs' co := out hco7 (fun _ z => by cases z)
    have npc : pl ≠ co := ne_of_none hpl4 hco
    -- lists are appended to
    refine ⟨dr, _, s09 _ _ G.hr, trivial, fun od => ⟨_, rfl, dr, od, rfl, .inl ⟨rowK rl, upd_same, for_it (walk_keys (d := dr) (o := od) (kvs := rowK rl)) (fun i σ H3 => ∃ (v5 : Option V), σ = [some (.ref dr), some (.ref dt), some (.ref mo), some (.bl lists), some (.ref pl), v5, some (.ref co), some (.ref kh), some (.ref hd), some (.ref p)] ∧ H3 dr = some (.frz od (.dK (rowK rl))) ∧ (∀ b o, H b = some o → b ≠ dr → H3 b = some o) ∧
      CarryAt A.c_Carry H3 p pd cd m rs' bs' ms ∧ H3 pl = some (.dK (rowK rs0)) ∧ H3 co = some (.dK (bkK bs0)) ∧ (∀ r ∈ rs0, lists = true → ∃ xs, H3 r.2.1 = some (.lst xs) ∧ xs.length ≤ 500 + i) ∧ ∀ r ∈ bs0, ∃ kvs, H3 r.2.1 = some (.dK kvs) ∧ kvs.length ≤ 500)
      ⟨_, rfl, upd_same, fun b o e hb => by rw [upd_ne hb]; exact s09 b o e, Y9.lock ndr, by rw [upd_ne npr.symm]; exact hpl9, by rw [upd_ne (ne_of_none G.hr co0).symm]; exact hco9, fun r hr z => ?_, fun r hr => ?_⟩ (fun i σ H3 _ h => by obtain ⟨_, _, h, _⟩ := h; exact h) ?_ ?_⟩⟩⟩
    · rw [upd_ne (ne_of_none G.hr (hro7 r hr).1).symm]
      exact hro9 r hr z
    · rw [upd_ne (ne_of_none G.hr (hbo7 r hr).1).symm]
      exact hbo9 r hr
    · rintro i v σ H2 H3 hi ⟨v5, rfl, hf, kp, Y3, hpl3, hco3, hr3, hb3⟩ ⟨rfl, kk, vv, hkv, rfl⟩
      obtain ⟨e, he, rfl, rfl⟩ := rowK_ix hkv
      have hm := List.mem_of_getElem? he
      have hi2 : i < rl.length := (List.getElem?_eq_some_iff.mp he).1
      refine ⟨_, rfl, _, rfl, ?_⟩
      cases lists with
      | false =>
        refine if_false_of rfl ?_
        exact ⟨_, rfl, hf, kp, Y3, hpl3, hco3, fun r hr z => (by cases z), hb3⟩
      | true =>
        refine if_true_of rfl ?_
        have hd : rdat e ∈ rs0.map rdat := hrs ▸ List.mem_map.mpr ⟨e, hm, rfl⟩
        obtain ⟨r, hr1, hr2⟩ := List.mem_map.mp hd
        have hen : r.1 = e.1 := (Prod.mk.inj (show (r.1, r.2.2) = (e.1, e.2.2) from hr2)).1
        obtain ⟨xs, hx, hxl⟩ := hr3 r hr1 rfl
        have hr0 := (hro7 r hr1).1
        have hr7 := (hro7 r hr1).2.1 rfl
        refine ⟨_, rfl, _, rfl, pl, .ref r.2.1, rfl, dget_s hpl3 (by rw [← hen]; exact rowK_at rn0 hr1), .inl ⟨rfl, _, SqL.of hx⟩, r.2.1, _, _, rfl, rfl, hx, by rw [sizeLine_eq]; omega, ?_⟩
        refine ⟨_, rfl, ?_, fun b o h hb => ?_, Y3.lock (out hr7 (fun _ z => by cases z)), ?_, ?_, fun r' hr' z => ?_, fun r' hr' => ?_⟩
        · rw [upd_ne (ne_of hf hx (fun z => by cases z))]
          exact hf
        · rw [upd_ne (ne_of_none h hr0)]
          exact kp b o h hb
        · rw [upd_ne (ne_of hpl3 hx (fun z => by cases z))]
          exact hpl3
        · rw [upd_ne (ne_of hco3 hx (fun z => by cases z))]
          exact hco3
        · by_cases q : r'.2.1 = r.2.1
          · rw [q, upd_same]
            exact ⟨_, rfl, by rw [List.length_append]; show _ + 1 ≤ _; omega⟩
          · rw [upd_ne q]
            obtain ⟨ys, hy, hyl⟩ := hr3 r' hr' rfl
            exact ⟨ys, hy, by omega⟩
        · obtain ⟨kvs, hk, hkl⟩ := hb3 r' hr'
          exact ⟨kvs, by rw [upd_ne (ne_of hk hx (fun z => by cases z))]; exact hk, hkl⟩
    rintro σ H2 ⟨v5, rfl, hf, kp, Y3, hpl3, hco3, hr3, hb3⟩
    have s10 : Same H (upd H2 dr (.dK (rowK rl))) := lock_same G.hr kp
    have Y10 : CarryAt A.c_Carry (upd H2 dr (.dK (rowK rl))) p pd cd m rs' bs' ms := Y3.lock ndr
    have hpl10 : upd H2 dr (.dK (rowK rl)) pl = some (.dK (rowK rs0)) := by rw [upd_ne npr.symm]; exact hpl3
    have hco10 : upd H2 dr (.dK (rowK rl)) co = some (.dK (bkK bs0)) := by rw [upd_ne (ne_of_none G.hr co0).symm]; exact hco3
    have hb10 : ∀ r ∈ bs0, ∃ kvs, upd H2 dr (.dK (rowK rl)) r.2.1 = some (.dK kvs) ∧ kvs.length ≤ 500 := fun r hr => by
      rw [upd_ne (ne_of_none G.hr (hbo7 r hr).1).symm]
      exact hb3 r hr
    refine ⟨hf, ?_⟩
    generalize upd H2 dr (.dK (rowK rl)) = H10 at s10 Y10 hpl10 hco10 hb10 ⊢
    clear hf kp Y3 hpl3 hco3 hr3 hb3
    -- dicts are written
    refine ⟨dt, _, s10 _ _ G.ht, trivial, fun od => ⟨_, rfl, dt, od, rfl, .inl ⟨bkK bl, upd_same, for_it (walk_keys (d := dt) (o := od) (kvs := bkK bl)) (fun i σ H3 => ∃ (v5 : Option V), σ = [some (.ref dr), some (.ref dt), some (.ref mo), some (.bl lists), some (.ref pl), v5, some (.ref co), some (.ref kh), some (.ref hd), some (.ref p)] ∧ H3 dt = some (.frz od (.dK (bkK bl))) ∧ (∀ b o, H b = some o → b ≠ dt → H3 b = some o) ∧
      CarryAt A.c_Carry H3 p pd cd m rs' bs' ms ∧ (∃ kvs, H3 pl = some (.dK kvs) ∧ kvs.length ≤ 500 + i) ∧ H3 co = some (.dK (bkK bs0)) ∧ ∀ r ∈ bs0, ∃ kvs, H3 r.2.1 = some (.dK kvs) ∧ kvs.length ≤ 500 + i)
      ⟨_, rfl, upd_same, fun b o e hb => by rw [upd_ne hb]; exact s10 b o e, Y10.lock ndt, ⟨_, by rw [upd_ne (ne_of_none G.ht pl0).symm]; exact hpl10, by unfold rowK; rw [List.length_map]; omega⟩, by rw [upd_ne (ne_of_none G.ht co0).symm]; exact hco10, fun r hr => ?_⟩ (fun i σ H3 _ h => by obtain ⟨_, _, h, _⟩ := h; exact h) ?_ ?_⟩⟩⟩
    · rw [upd_ne (ne_of_none G.ht (hbo7 r hr).1).symm]
      exact hb10 r hr
    · rintro i v σ H2 H3 hi ⟨v5, rfl, hf, kp, Y3, ⟨kvp, hpl3, hpll⟩, hco3, hb3⟩ ⟨rfl, kk, vv, hkv, rfl⟩
      obtain ⟨e, he, rfl, rfl⟩ := bkK_ix hkv
      have hm := List.mem_of_getElem? he
      have hi2 : i < bl.length := (List.getElem?_eq_some_iff.mp he).1
      have hd : bdat e ∈ bs0.map bdat := hbs ▸ List.mem_map.mpr ⟨e, hm, rfl⟩
      obtain ⟨r, hr1, hr2⟩ := List.mem_map.mp hd
      have hen : r.1 = e.1 := (Prod.mk.inj (show (r.1, r.2.2) = (e.1, e.2.2) from hr2)).1
      obtain ⟨kvs, hk, hkl⟩ := hb3 r hr1
      have hr0 := (hbo7 r hr1).1
      have hr7 := (hbo7 r hr1).2
      refine ⟨_, rfl, _, rfl, co, _, rfl, dget_s hco3 (by rw [← hen]; exact bkK_at bn0 hr1), r.2.1, _, rfl, DPut.k (k := Sum.inl 77) hk (small1000 (by omega)), ?_⟩
      refine ⟨_, rfl, ?_, fun b o h hb => ?_, Y3.lock (out hr7 (fun _ z => by cases z)), ?_, ?_, fun r' hr' => ?_⟩
      · rw [upd_ne (ne_of hf hk (fun z => by cases z))]
        exact hf
      · rw [upd_ne (ne_of_none h hr0)]
        exact kp b o h hb
      · by_cases q : pl = r.2.1
        · rw [q, upd_same]
          exact ⟨_, rfl, by have := put_len kvs (Sum.inl 77 : Key) (.int 0); omega⟩
        · rw [upd_ne q]
          exact ⟨kvp, hpl3, by omega⟩
      · rw [upd_ne (hbo5 r hr1).2.2.symm]
        exact hco3
      · by_cases q : r'.2.1 = r.2.1
        · rw [q, upd_same]
          exact ⟨_, rfl, by have := put_len kvs (Sum.inl 77 : Key) (.int 0); omega⟩
        · rw [upd_ne q]
          obtain ⟨ys, hy, hyl⟩ := hb3 r' hr'
          exact ⟨ys, hy, by omega⟩
    rintro σ H2 ⟨v6, rfl, hf, kp, Y3, ⟨kvp, hpl3, hpll⟩, hco3, hb3⟩
    have s11 : Same H (upd H2 dt (.dK (bkK bl))) := lock_same G.ht kp
    have Y11 : CarryAt A.c_Carry (upd H2 dt (.dK (bkK bl))) p pd cd m rs' bs' ms := Y3.lock ndt
    have hpl11 : upd H2 dt (.dK (bkK bl)) pl = some (.dK kvp) := by rw [upd_ne (ne_of_none G.ht pl0).symm]; exact hpl3
    have hco11 : upd H2 dt (.dK (bkK bl)) co = some (.dK (bkK bs0)) := by rw [upd_ne (ne_of_none G.ht co0).symm]; exact hco3
    refine ⟨hf, ?_⟩
    generalize upd H2 dt (.dK (bkK bl)) = H11 at s11 Y11 hpl11 hco11 ⊢
    have bkl : (bkK bl).length = bl.length := by unfold bkK; rw [List.length_map]
    rw [bkl] at hpll
    -- places_here["x"] = [0]
    refine ⟨by show 1 ≤ sizeLine; decide, fun l1 hl1 => ?_⟩
    have t1 := same_new (o := .lst [.int 0]) hl1
    refine ⟨_, rfl, pl, _, rfl, DPut.k (k := Sum.inr "x") (t1 _ _ hpl11) (small1000 (by omega)), ?_⟩
    intro l2 hl2
    refine ⟨_, rfl, co, _, rfl, DPut.k (k := Sum.inr "x") ((same_new (o := .dK []) hl2) _ _ (by rw [upd_ne npc.symm]; exact t1 _ _ hco11)) (small1000 (by unfold bkK; rw [List.length_map]; omega)), ?_⟩
    refine ⟨_, rfl, k p pd cd m rs' bs' _ (((Y11.same t1).lock npl).same (same_new (o := .dK []) hl2) |>.lock nco) (e1.trans hrs) (e2.trans hbs) (fun b o e => ?_) fp0⟩
    have h1 := t1 _ _ (s11 b o e)
    rw [upd_ne (ne_of_none e co0)]
    refine (same_new (o := .dK []) hl2) _ _ ?_
    rw [upd_ne (ne_of_none e pl0)]
    exact h1
end
end L2.Cd

namespace L2.Cd
open PySem PySem.Spec PyProof.Rows L2.Ex
def through (r1 r2 : List (Option Int)) : List (Option Int) := r1.map fun o => o.bind fun v => r2.getD v.toNat none
def lookC (c : List Pr) (k : Int) : Int := ((c.find? fun e => decide (e.1 = k)).map (·.2)).getD 0
def led (c1 c2 : List Pr) : List Pr := c1.map fun e => (e.1, lookC c2 e.2)
theorem lookC_mem {c : List Pr} {k : Int} (h : k ∈ c.map (·.1)) : (k, lookC c k) ∈ c := by
  obtain ⟨e, he, rfl⟩ := List.mem_map.mp h
  unfold lookC
  cases q : c.find? fun e' => decide (e'.1 = e.1) with
  | none => exact absurd (List.find?_eq_none.mp q e he) (by simp)
  | some e' =>
    have h1 := List.find?_some q
    have h2 := List.mem_of_find?_eq_some q
    have h3 : e'.1 = e.1 := by simpa using h1
    show (e.1, e'.2) ∈ c
    rw [← h3]
    exact h2
theorem led_fst {c1 c2 : List Pr} : (led c1 c2).map (·.1) = c1.map (·.1) := by unfold led; rw [List.map_map]; rfl
section
variable {P : Program} {w : World} {K : PySem.W.Frag} {mg : Str → Option Value} {base : Heap} {A : Ad} {D : Fd}
/-- what the second carry must have for the first -/
structure Fits (rs1 rs2 : List Rw) (bs1 bs2 : List Bk) (R2 : Str → List (Option Int)) (C2 : Str → List Pr) : Prop where
  r : ∀ r1 ∈ rs1, ∃ r2 ∈ rs2, r2.1 = r1.1 ∧ r2.2.2 = R2 r1.1
  b : ∀ b1 ∈ bs1, ∃ b2 ∈ bs2, b2.1 = b1.1 ∧ b2.2.2 = C2 b1.1
  v : ∀ r1 ∈ rs1, ∀ x, some x ∈ r1.2.2 → 0 ≤ x ∧ x < ((R2 r1.1).length : Int)
  c : ∀ b1 ∈ bs1, ∀ e ∈ b1.2.2, e.2 ∈ (C2 b1.1).map (·.1)
def T1 (R2 : Str → List (Option Int)) (r : Rw) : Str × List (Option Int) := (r.1, through r.2.2 (R2 r.1))
def T2 (C2 : Str → List Pr) (r : Bk) : Str × List Pr := (r.1, led r.2.2 (C2 r.1))
def spAdd (C : Addr) : Sp := fun vs H Q _ => ∃ (a pd1 cd1 m1 b pd2 cd2 m2 : Addr) (rs1 rs2 : List Rw) (bs1 bs2 : List Bk) (ms1 ms2 : List Int) (R2 : Str → List (Option Int)) (C2 : Str → List Pr), vs = [.ref a, .ref b] ∧
  CarryAt C H a pd1 cd1 m1 rs1 bs1 ms1 ∧ CarryAt C H b pd2 cd2 m2 rs2 bs2 ms2 ∧ Fits rs1 rs2 bs1 bs2 R2 C2 ∧ pd2 ≠ pd1 ∧ cd2 ≠ cd1 ∧ (∀ b1 ∈ bs1, ∀ b2 ∈ bs2, b2.2.1 ≠ b1.2.1) ∧
  ∀ (p pd cd m : Addr) (rs : List Rw) (bs : List Bk) (H' : Hp), CarryAt C H' p pd cd m rs bs ms2 → rs.map rdat = rs1.map (T1 R2) → bs.map bdat = bs1.map (T2 C2) → Same H H' → (∀ b, fpC p pd cd m rs bs b → NewT H b) → Q (.ref p) H'
theorem ok_Carry_add (T : Tx K mg A D) : FnOk P w K mg base CX0 6 A.f_Carry_add D.f_Carry_add ["self", "other"] (spAdd A.c_Carry) := by
  refine T.F_Carry_add.ok sc_Carry_add (fun vs H Q E h => ?_) (fun cdv A' outer s H vs Q E hr h => ?_)
  · obtain ⟨a, pd1, cd1, m1, b, pd2, cd2, m2, rs1, rs2, bs1, bs2, ms1, ms2, R2, C2, rfl, _⟩ := h
    rfl
  · obtain ⟨a, pd1, cd1, m1, b, pd2, cd2, m2, rs1, rs2, bs1, bs2, ms1, ms2, R2, C2, rfl, Y1, Y2, Fi, np, nc, nb, k⟩ := h
    have hu := hu_of hr
    refine ⟨_, ((pss_cons (ps_lock (ps_setDc (i := 2) (own := [("table", 4)]) (g := (gName 4)) rfl sc_Carry_add.nd rfl rfl (sw_trueD rfl rfl rfl (by decide +kernel)) (pi_keys (pe_fld (pv 0) rfl)) (blkOk_by (own := [("table", 4)]) (N := ["self", "other", "places", "codes", "table", "new", "book", "old"]) (sc := defScope s_Carry_add) (by decide +kernel)) (fun _ _ _ _ _ => (pg_name (i := 4) sc_Carry_add.nd rfl (by first | exact Or.inl rfl | exact Or.inr rfl))) (fun _ _ _ _ _ => pts_nil) (fun _ _ _ _ _ => (pv 4)) (fun _ _ _ _ _ => (pe_lc (own := [("new", 5)]) (g := (gName 5)) rfl sc_Carry_add.nd (piTup (K := K) rfl (pe_dget hu (peFld (K := K) rfl (pv 0) rfl) (pv 4) (fun _ _ => rfl))) (blkOk_by (own := [("new", 5)]) (N := ["self", "other", "places", "codes", "table", "new", "book", "old"]) (by kernel_rfl)) (fun _ _ _ _ _ => (pg_name (i := 5) sc_Carry_add.nd rfl (by first | exact Or.inl rfl | exact Or.inr rfl))) (fun _ _ _ _ _ => pts_nil) (fun _ _ _ _ _ => (pe_ifExp (pt_cmpR op_isN (pv 5) pe_non (nomark _)) pe_non (pe_ix (ixT (K := K) rfl) (pe_dget hu (peFld (K := K) rfl (pv 1) rfl) (pv 4) (fun _ _ => rfl)) (pv 5) (fun _ _ => rfl))))))))
      (pss_cons (ps_lock (ps_setDc (i := 3) (own := [("book", 6)]) (g := (gName 6)) rfl sc_Carry_add.nd rfl rfl (sw_trueD rfl rfl rfl (by decide +kernel)) (pi_keys (pe_fld (pv 0) rfl)) (blkOk_by (own := [("book", 6)]) (N := ["self", "other", "places", "codes", "table", "new", "book", "old"]) (sc := defScope s_Carry_add) (by decide +kernel)) (fun _ _ _ _ _ => (pg_name (i := 6) sc_Carry_add.nd rfl (by first | exact Or.inl rfl | exact Or.inr rfl))) (fun _ _ _ _ _ => pts_nil) (fun _ _ _ _ _ => (pv 6)) (fun _ _ _ _ _ => (pe_lock (pe_dc (own := [("old", 7)]) (g := (gName 7)) rfl sc_Carry_add.nd (pi_keys (pe_dget hu (peFld (K := K) rfl (pv 0) rfl) (pv 6) (fun _ _ => rfl))) (blkOk_by (own := [("old", 7)]) (N := ["self", "other", "places", "codes", "table", "new", "book", "old"]) (by kernel_rfl)) (fun _ _ _ _ _ => (pg_name (i := 7) sc_Carry_add.nd rfl (by first | exact Or.inl rfl | exact Or.inr rfl))) (fun _ _ _ _ _ => pts_nil) (fun _ _ _ _ _ => (pv 7)) (fun _ _ _ _ _ => (pe_dget hu (pe_dget hu (peFld (K := K) rfl (pv 1) rfl) (pv 6) (fun _ _ => rfl)) (pe_dget hu (pe_dget hu (peFld (K := K) rfl (pv 0) rfl) (pv 6) (fun _ _ => rfl)) (pv 7) (fun _ _ => rfl)) (fun _ _ => rfl))))))))
      (pss_one (ps_ret (pe_make T.mk_Carry (ok_Carry_init T) (hr.mono (by decide)) (by rfl) T.m_Carry (b_Carry_init T) .nil pass0 (pa_cons (pv 2) (pa_cons (pv 3) (pa_cons (pe_fld (pv 1) rfl) pa_nil))))))))), ?_⟩
    obtain ⟨dx1, ob1⟩ := Y1.ob
    obtain ⟨dx2, ob2⟩ := Y2.ob
    have hl1 := Y1.ln
    have frz_keep : ∀ {d : Addr} {u : HO} {od : Obj} {D1 : Addr} {o1 : HO}, H d = some u → True := fun _ => trivial
    -- places
    refine ⟨pd1, _, Y1.hp, trivial, fun od => ⟨_, rfl, a, _, dx1, _, _, rfl, by rw [upd_ne (ne_of ob1 Y1.hp (fun z => by cases z))]; exact ob1, T.cl_Carry, T.na_Carry_places, ca_places, pd1, od, rfl, .inl ⟨rowK rs1, upd_same, fun pl hpl => dc_it (walk_keys (d := pd1) (o := od) (kvs := rowK rs1)) (fun i H2 => H2 pd1 = some (.frz od (.dK (rowK rs1))) ∧ (∀ b o, H b = some o → b ≠ pd1 → H2 b = some o) ∧
      ∃ rs', H2 pl = some (.dK (rowK rs')) ∧ rs'.map rdat = (rs1.take i).map (T1 R2) ∧ ∀ r ∈ rs', H2 r.2.1 = some (.lst (r.2.2.map oi)) ∧ H r.2.1 = none)
      ⟨?_, ?_, [], upd_same, rfl, fun r hr => (by cases hr)⟩ (fun i H2 _ h => h.1) ?_ ?_⟩⟩⟩
    · rw [upd_ne (ne_of_none (H := upd H _ _) upd_same hpl), upd_same]
    · intro b o e hb
      have e2 : upd H pd1 (.frz od (.dK (rowK rs1))) b = some o := by rw [upd_ne hb]; exact e
      rw [upd_ne (ne_of_none e2 hpl)]
      exact e2
    · rintro i v H2 H3 hi ⟨hf, kp, rs', hD2, hrs, hro⟩ ⟨rfl, kk, vv, hkv, rfl⟩
      obtain ⟨e, he, rfl, rfl⟩ := rowK_ix hkv
      have hm := List.mem_of_getElem? he
      have hi2 : i < rs1.length := (List.getElem?_eq_some_iff.mp he).1
      have pl_ne : ∀ {b o}, H b = some o → b ≠ pd1 → b ≠ pl := fun {b o} e hb => by
        have e2 : upd H pd1 (.frz od (.dK (rowK rs1))) b = some o := by rw [upd_ne hb]; exact e
        exact ne_of_none e2 hpl
      have npl : pl ≠ pd1 := ne_of hD2 hf (fun z => by cases z)
      have nm : e.1 ∉ rs'.map (·.1) := by
        have : rs'.map (·.1) = (rs1.take i).map (·.1) := by
          have := congrArg (List.map Prod.fst) hrs
          rwa [List.map_map, List.map_map] at this
        rw [this]
        exact take_new (f := fun r : Rw => r.1) Y1.rn he
      have hl' : rs'.length ≤ i := by
        have := congrArg List.length hrs
        rw [List.length_map, List.length_map, List.length_take] at this
        omega
      have ob1' := kp _ _ ob1 (ne_of ob1 Y1.hp (fun z => by cases z))
      have ob2' := kp _ _ ob2 (ne_of ob2 Y1.hp (fun z => by cases z))
      have hrow := kp _ _ (Y1.row e hm) (ne_of (Y1.row e hm) Y1.hp (fun z => by cases z))
      have hp2 := kp _ _ Y2.hp np
      obtain ⟨r2, hr2, hn2, hR2⟩ := Fi.r e hm
      have hat2 := rowK_at Y2.rn hr2
      rw [hn2] at hat2
      have hrow2 := kp _ _ (Y2.row r2 hr2) (ne_of (Y2.row r2 hr2) Y1.hp (fun z => by cases z))
      have fr0 : ∀ b, H3 b = none → H b = none := fun b hb => by
        cases q : H b with
        | none => rfl
        | some o =>
          by_cases z : b = pd1
          · rw [z, hf] at hb; cases hb
          · rw [kp b o q z] at hb; cases hb
      refine ⟨rfl, ?_⟩
      refine iteT (B := True) ?_
      refine iteT ?_
      refine ⟨_, rfl, ?_⟩
      refine ⟨_, rfl, a, _, dx1, _, _, rfl, ob1', T.cl_Carry, T.na_Carry_places, ca_places, _, rfl, pd1, _, rfl, dget_sR (.inr ⟨od, hf⟩) (rowK_at Y1.rn hm), e.2.1, rfl, ⟨_, SqT.of hrow⟩, fun D2 hD2' => lc_it (walk_tup (K := K) (a := e.2.1) (xs := e.2.2.map oi)) (fun j H4 => Same H3 H4 ∧ H4 D2 = some (.lst ((through (e.2.2.take j) (R2 e.1)).map oi))) ⟨same_new hD2', upd_same⟩ (fun j H4 _ h => SqT.of (h.1 _ _ hrow)) ?_ ?_⟩
      · rintro j x H4 H5 hj ⟨s4, hD4⟩ ⟨rfl, hxj⟩
        rw [List.getElem?_map] at hxj
        obtain ⟨o, ho, rfl⟩ : ∃ o, e.2.2[j]? = some o ∧ x = oi o := by
          cases q : e.2.2[j]? with
          | none => rw [q] at hxj; cases hxj
          | some o => rw [q] at hxj; exact ⟨o, rfl, (Option.some.inj hxj).symm⟩
        have le := hl1.1 e hm
        have fin : ∀ o' : Option Int, (o.bind fun v => (R2 e.1).getD v.toNat none) = o' → ∃ acc, H5 D2 = some (.lst acc) ∧ acc.length < sizeLine ∧ (Same H3 (upd H5 D2 (.lst (acc ++ [oi o']))) ∧ upd H5 D2 (.lst (acc ++ [oi o'])) D2 = some (.lst ((through (e.2.2.take (j + 1)) (R2 e.1)).map oi))) := by
          intro o' ho'
          refine ⟨_, hD4, ?_, fun b o e' => ?_, ?_⟩
          · unfold through
            rw [List.length_map, List.length_map, List.length_take, sizeLine_eq]
            omega
          · rw [upd_ne (ne_of_none e' hD2')]
            exact s4 b o e'
          · rw [upd_same, List.take_add_one, ho]
            unfold through
            rw [List.map_append, List.map_append, ← ho']
            rfl
        refine ⟨rfl, ?_⟩
        refine iteT (B := True) ?_
        refine iteT ?_
        refine ⟨_, rfl, rfl, _, rfl, ?_⟩
        cases o with
        | none =>
          refine if_true_of rfl ?_
          exact fin none rfl
        | some v =>
          refine if_false_of rfl ?_
          obtain ⟨v0, v1⟩ := Fi.v e hm v (List.mem_of_getElem? ho)
          obtain ⟨n, rfl⟩ : ∃ n : Nat, v = (n : Int) := ⟨v.toNat, by omega⟩
          have hn : n < r2.2.2.length := by rw [hR2]; omega
          have hat : (r2.2.2.map oi)[n]? = some (oi ((R2 e.1).getD n none)) := by
            rw [List.getElem?_map, ← hR2, List.getD_eq_getElem?_getD, List.getElem?_eq_getElem hn]
            rfl
          refine ⟨_, rfl, b, _, dx2, _, _, rfl, s4 _ _ ob2', T.cl_Carry, T.na_Carry_places, ca_places, _, rfl, pd2, _, rfl, dget_s (s4 _ _ hp2) hat2, _, rfl, r2.2.1, _, _, _, rfl, rfl, SqT.of (s4 _ _ hrow2), atI_nat hat, ?_⟩
          exact fin _ rfl
      · rintro H4 ⟨s4, hD4⟩
        rw [List.length_map, List.take_length] at hD4
        have hpl4 := s4 _ _ hD2
        have D20 : H D2 = none := fr0 _ hD2'
        have nD2 : D2 ≠ pl := (ne_of_none hD2 hD2').symm
        refine ⟨rowK rs', .inr e.1, rfl, hpl4, ?_, ?_, fun b o e' hb => ?_, rs' ++ [(e.1, D2, through e.2.2 (R2 e.1))], ?_, ?_, fun r hr => ?_⟩
        · unfold rowK
          rw [List.length_map, sizeLine_eq]
          omega
        · rw [upd_ne npl.symm]
          exact s4 _ _ hf
        · rw [upd_ne (pl_ne e' hb)]
          exact s4 _ _ (kp b o e' hb)
        · rw [upd_same, rowK_snoc (r := (e.1, D2, through e.2.2 (R2 e.1))) nm]
        · rw [List.take_add_one, he, List.map_append, List.map_append, hrs]
          rfl
        · rcases List.mem_append.mp hr with h | h
          · obtain ⟨h1, h2⟩ := hro r h
            have h1' := s4 _ _ h1
            exact ⟨by rw [upd_ne (ne_of h1' hpl4 (fun z => by cases z))]; exact h1', h2⟩
          · rw [List.mem_singleton.mp h, upd_ne nD2]
            exact ⟨hD4, D20⟩
    rintro H2 ⟨hf, kp, rs', hD2, hrs, hro⟩
    rw [show (rowK rs1).length = rs1.length by unfold rowK; rw [List.length_map], List.take_length] at hrs
    have s2 : Same H (upd H2 pd1 (.dK (rowK rs1))) := lock_same Y1.hp kp
    have npl : pl ≠ pd1 := ne_of hD2 hf (fun z => by cases z)
    have hpl2 : upd H2 pd1 (.dK (rowK rs1)) pl = some (.dK (rowK rs')) := by rw [upd_ne npl]; exact hD2
    have hro2 : ∀ r ∈ rs', upd H2 pd1 (.dK (rowK rs1)) r.2.1 = some (.lst (r.2.2.map oi)) := fun r hr => by
      rw [upd_ne (ne_of_none Y1.hp (hro r hr).2).symm]
      exact (hro r hr).1
    refine ⟨hf, ?_⟩
    generalize upd H2 pd1 (.dK (rowK rs1)) = H4 at s2 hpl2 hro2 ⊢
    have Y14 := Y1.same s2
    have Y24 := Y2.same s2
    have ob14 := s2 _ _ ob1
    have ob24 := s2 _ _ ob2
    -- codes
    refine ⟨cd1, _, Y14.hc, trivial, fun od => ⟨_, rfl, a, _, dx1, _, _, rfl, by rw [upd_ne (ne_of ob14 Y14.hc (fun z => by cases z))]; exact ob14, T.cl_Carry, T.na_Carry_codes, ca_codes, cd1, od, rfl, .inl ⟨bkK bs1, upd_same, fun co hco => dc_it (walk_keys (d := cd1) (o := od) (kvs := bkK bs1)) (fun i H2 => H2 cd1 = some (.frz od (.dK (bkK bs1))) ∧ (∀ b o, H4 b = some o → b ≠ cd1 → H2 b = some o) ∧
      ∃ bs', H2 co = some (.dK (bkK bs')) ∧ bs'.map bdat = (bs1.take i).map (T2 C2) ∧ ∀ r ∈ bs', H2 r.2.1 = some (.dK (cK r.2.2)) ∧ r.2.1 ≠ co ∧ H4 r.2.1 = none)
      ⟨?_, ?_, [], upd_same, rfl, fun r hr => (by cases hr)⟩ (fun i H2 _ h => h.1) ?_ ?_⟩⟩⟩
    · rw [upd_ne (ne_of_none (H := upd H4 _ _) upd_same hco), upd_same]
    · intro b o e hb
      have e2 : upd H4 cd1 (.frz od (.dK (bkK bs1))) b = some o := by rw [upd_ne hb]; exact e
      rw [upd_ne (ne_of_none e2 hco)]
      exact e2
    · rintro i v H5 H6 hi ⟨hf5, kp5, bs', hD5, hbs, hbo⟩ ⟨rfl, kk, vv, hkv, rfl⟩
      obtain ⟨e, he, rfl, rfl⟩ := bkK_ix hkv
      have hm := List.mem_of_getElem? he
      have hi2 : i < bs1.length := (List.getElem?_eq_some_iff.mp he).1
      have co_ne : ∀ {b o}, H4 b = some o → b ≠ cd1 → b ≠ co := fun {b o} e hb => by
        have e2 : upd H4 cd1 (.frz od (.dK (bkK bs1))) b = some o := by rw [upd_ne hb]; exact e
        exact ne_of_none e2 hco
      have ncc : co ≠ cd1 := ne_of hD5 hf5 (fun z => by cases z)
      have nm : e.1 ∉ bs'.map (·.1) := by
        have : bs'.map (·.1) = (bs1.take i).map (·.1) := by
          have := congrArg (List.map Prod.fst) hbs
          rwa [List.map_map, List.map_map] at this
        rw [this]
        exact take_new (f := fun r : Bk => r.1) Y1.bn he
      have hl' : bs'.length ≤ i := by
        have := congrArg List.length hbs
        rw [List.length_map, List.length_map, List.length_take] at this
        omega
      have bkne : ∀ {x : Addr} {c : List Pr}, H4 x = some (.dK (cK c)) → x ≠ cd1 := fun {x c} h z => by
        rw [z, Y14.hc] at h
        exact bkK_ne hm (by injection h with h; injection h)
      obtain ⟨b2, hb2, hn2, hC2⟩ := Fi.b e hm
      have hat2 := bkK_at Y2.bn hb2
      rw [hn2] at hat2
      have hd4 := Y14.bk e hm
      have ned := bkne hd4
      have hd5 := kp5 _ _ hd4 ned
      have hd24 := Y24.bk b2 hb2
      have hd25 := kp5 _ _ hd24 (bkne hd24)
      have hc25 := kp5 _ _ Y24.hc nc
      have ncd : cd2 ≠ e.2.1 := fun z => by
        have h := Y24.hc
        rw [z, hd4] at h
        exact bkK_ne hb2 (c := e.2.2) (by injection h with h; injection h with h; exact h.symm)
      have nbb := nb e hm b2 hb2
      have ob15 := kp5 _ _ ob14 (ne_of ob14 Y14.hc (fun z => by cases z))
      have ob25 := kp5 _ _ ob24 (ne_of ob24 Y14.hc (fun z => by cases z))
      have noe : ∀ {x C dx f}, H6 x = some (.ins C dx f) → x ≠ e.2.1 := fun h => ne_of h hd5 (fun z => by cases z)
      have cn := Y1.cn e hm
      have cl := hl1.2.1 e hm
      refine ⟨rfl, ?_⟩
      refine iteT (B := True) ?_
      refine iteT ?_
      refine ⟨_, rfl, ?_⟩
      refine ⟨e.2.1, _, hd5, trivial, fun od2 => ⟨_, rfl, a, _, dx1, _, _, rfl, by rw [upd_ne (noe ob15)]; exact ob15, T.cl_Carry, T.na_Carry_codes, ca_codes, _, rfl, cd1, _, rfl, dget_sR (.inr ⟨od, by rw [upd_ne (Ne.symm ned)]; exact hf5⟩) (bkK_at Y1.bn hm), e.2.1, od2, rfl, .inl ⟨cK e.2.2, upd_same, fun D2 hD2 => dc_it (walk_keys (d := e.2.1) (o := od2) (kvs := cK e.2.2)) (fun j H7 => H7 e.2.1 = some (.frz od2 (.dK (cK e.2.2))) ∧ (∀ b o, H6 b = some o → b ≠ e.2.1 → H7 b = some o) ∧ H7 D2 = some (.dK (cK (led (e.2.2.take j) (C2 e.1)))))
        ⟨?_, ?_, upd_same⟩ (fun i H2 _ h => h.1) ?_ ?_⟩⟩⟩
      · rw [upd_ne (ne_of_none (H := upd H6 _ _) upd_same hD2), upd_same]
      · intro b o e' hb
        have e2 : upd H6 e.2.1 (.frz od2 (.dK (cK e.2.2))) b = some o := by rw [upd_ne hb]; exact e'
        rw [upd_ne (ne_of_none e2 hD2)]
        exact e2
      · rintro j v H7 H8 hj ⟨hf7, kp7, hD7⟩ ⟨rfl, kk, vv, hkv, rfl⟩
        obtain ⟨c, hc, rfl, rfl⟩ := cK_ix hkv
        have hmc := List.mem_of_getElem? hc
        have D2_ne : ∀ {b o}, H6 b = some o → b ≠ e.2.1 → b ≠ D2 := fun {b o} e' hb => by
          have e2 : upd H6 e.2.1 (.frz od2 (.dK (cK e.2.2))) b = some o := by rw [upd_ne hb]; exact e'
          exact ne_of_none e2 hD2
        have hin := lookC_mem (Fi.c e hm c hmc)
        rw [← hC2] at hin
        have nm2 : c.1 ∉ (led (e.2.2.take j) (C2 e.1)).map (·.1) := by rw [led_fst]; exact take_new (f := fun r : Pr => r.1) cn hc
        refine ⟨rfl, ?_⟩
        refine iteT (B := True) ?_
        refine iteT ?_
        refine ⟨_, rfl, _, rfl, b, _, dx2, _, _, rfl, kp7 _ _ ob25 (noe ob25), T.cl_Carry, T.na_Carry_codes, ca_codes, _, rfl, cd2, _, rfl, dget_s (kp7 _ _ hc25 ncd) hat2, _, rfl, a, _, dx1, _, _, rfl, kp7 _ _ ob15 (noe ob15), T.cl_Carry, T.na_Carry_codes, ca_codes, _, rfl, cd1, _, rfl, dget_sR (.inr ⟨od, kp7 _ _ hf5 (Ne.symm ned)⟩) (bkK_at Y1.bn hm), _, rfl, e.2.1, _, rfl, dget_iR (.inr ⟨od2, hf7⟩) (cK_at cn hmc), b2.2.1, _, rfl, dget_i (kp7 _ _ hd25 nbb) (cK_at (Y2.cn b2 hb2) hin), _, .inl c.1, rfl, hD7, ?_, ?_, ?_, ?_⟩
        · unfold cK led
          rw [List.length_map, List.length_map, List.length_take, sizeLine_eq]
          omega
        · rw [upd_ne (ne_of hf7 hD7 (fun z => by cases z))]
          exact hf7
        · intro b o e' hb
          rw [upd_ne (D2_ne e' hb)]
          exact kp7 b o e' hb
        · rw [upd_same, hC2, cK_snoc (e := (c.1, lookC (C2 e.1) c.2)) nm2, List.take_add_one, hc]
          unfold led
          rw [List.map_append]
          rfl
      · rintro H7 ⟨hf7, kp7, hD7⟩
        rw [show (cK e.2.2).length = e.2.2.length by unfold cK; rw [List.length_map], List.take_length] at hD7
        have s7 : Same H6 (upd H7 e.2.1 (.dK (cK e.2.2))) := lock_same hd5 kp7
        have nD2 : D2 ≠ e.2.1 := ne_of hD7 hf7 (fun z => by cases z)
        have hD8 : upd H7 e.2.1 (.dK (cK e.2.2)) D2 = some (.dK (cK (led e.2.2 (C2 e.1)))) := by rw [upd_ne nD2]; exact hD7
        have D20 : H6 D2 = none := by rw [upd_ne nD2] at hD2; exact hD2
        refine ⟨hf7, ?_⟩
        generalize upd H7 e.2.1 (.dK (cK e.2.2)) = H8 at s7 hD8 ⊢
        have hco8 := s7 _ _ hD5
        have nDco : D2 ≠ co := (ne_of_none hD5 D20).symm
        have nDcd : D2 ≠ cd1 := (ne_of_none hf5 D20).symm
        refine ⟨bkK bs', .inr e.1, rfl, hco8, ?_, ?_, fun b o e' hb => ?_, bs' ++ [(e.1, D2, led e.2.2 (C2 e.1))], ?_, ?_, fun r hr => ?_⟩
        · unfold bkK
          rw [List.length_map, sizeLine_eq]
          omega
        · rw [upd_ne ncc.symm]
          exact s7 _ _ hf5
        · rw [upd_ne (co_ne e' hb)]
          exact s7 _ _ (kp5 b o e' hb)
        · rw [upd_same, bkK_snoc (r := (e.1, D2, led e.2.2 (C2 e.1))) nm]
        · rw [List.take_add_one, he, List.map_append, List.map_append, hbs]
          rfl
        · rcases List.mem_append.mp hr with h | h
          · obtain ⟨h1, h2, h3⟩ := hbo r h
            exact ⟨by rw [upd_ne h2]; exact s7 _ _ h1, h2, h3⟩
          · rw [List.mem_singleton.mp h, upd_ne nDco]
            refine ⟨hD8, nDco, ?_⟩
            cases q : H4 D2 with
            | none => rfl
            | some o => rw [kp5 _ _ q nDcd] at D20; cases D20
    rintro H5 ⟨hf5, kp5, bs', hD5, hbs, hbo⟩
    rw [show (bkK bs1).length = bs1.length by unfold bkK; rw [List.length_map], List.take_length] at hbs
    have s5 : Same H4 (upd H5 cd1 (.dK (bkK bs1))) := lock_same Y14.hc kp5
    have nco : co ≠ cd1 := ne_of hD5 hf5 (fun z => by cases z)
    have hco5 : upd H5 cd1 (.dK (bkK bs1)) co = some (.dK (bkK bs')) := by rw [upd_ne nco]; exact hD5
    have hbo5 : ∀ r ∈ bs', upd H5 cd1 (.dK (bkK bs1)) r.2.1 = some (.dK (cK r.2.2)) := fun r hr => by
      rw [upd_ne (ne_of_none Y14.hc (hbo r hr).2.2).symm]
      exact (hbo r hr).1
    refine ⟨hf5, ?_⟩
    generalize upd H5 cd1 (.dK (bkK bs1)) = H6 at s5 hco5 hbo5 ⊢
    have sH := s2.trans s5
    have rlen : rs'.length = rs1.length := by
      have := congrArg List.length hrs
      rwa [List.length_map, List.length_map] at this
    have blen : bs'.length = bs1.length := by
      have := congrArg List.length hbs
      rwa [List.length_map, List.length_map] at this
    have rin : ∀ r ∈ rs', ∃ r0 ∈ rs1, r.2.2 = through r0.2.2 (R2 r0.1) := fun r hr => by
      have : rdat r ∈ rs1.map (T1 R2) := hrs ▸ List.mem_map.mpr ⟨r, hr, rfl⟩
      obtain ⟨r0, h0, e0⟩ := List.mem_map.mp this
      exact ⟨r0, h0, (congrArg Prod.snd e0).symm⟩
    have bin : ∀ r ∈ bs', ∃ r0 ∈ bs1, r.2.2 = led r0.2.2 (C2 r0.1) := fun r hr => by
      have : bdat r ∈ bs1.map (T2 C2) := hbs ▸ List.mem_map.mpr ⟨r, hr, rfl⟩
      obtain ⟨r0, h0, e0⟩ := List.mem_map.mp this
      exact ⟨r0, h0, (congrArg Prod.snd e0).symm⟩
    have rn0 : (rs'.map (·.1)).Nodup := by
      have : rs'.map (·.1) = rs1.map (·.1) := by
        have := congrArg (List.map Prod.fst) hrs
        rwa [List.map_map, List.map_map] at this
      rw [this]; exact Y1.rn
    have bn0 : (bs'.map (·.1)).Nodup := by
      have : bs'.map (·.1) = bs1.map (·.1) := by
        have := congrArg (List.map Prod.fst) hbs
        rwa [List.map_map, List.map_map] at this
      rw [this]; exact Y1.bn
    have z2 := Y2.ln
    refine ⟨_, rfl, _, rfl, _, rfl, b, _, dx2, _, _, rfl, sH _ _ ob2, T.cl_Carry, T.na_Carry_moments, ca_moments, fun p dx hp hdx ne => ?_⟩
    have sM : Same H6 (upd (upd H6 dx (.own p)) p (.ins A.c_Carry dx [])) := fun b o e => by rw [upd_ne (ne_of_none e hp), upd_ne (ne_of_none e hdx)]; exact e
    refine ⟨p, dx, pl, co, m2, rs', bs', ms2, rfl, upd_same, ⟨sM _ _ (s5 _ _ hpl2), sM _ _ hco5, .inr (sM _ _ (sH _ _ Y2.hm)), fun r hr => .inl (sM _ _ (s5 _ _ (hro2 r hr))), fun r hr => sM _ _ (hbo5 r hr), rn0, bn0, fun r hr => ?_, ⟨fun r hr => ?_, fun r hr => ?_, by omega, by omega, by omega⟩⟩, fun pd cd m rs bs H8 Y e1 e2 kp8 fp8 => ⟨rfl, ?_⟩⟩
    · obtain ⟨r0, h0, e0⟩ := bin r hr
      rw [e0, led_fst]
      exact Y1.cn r0 h0
    · obtain ⟨r0, h0, e0⟩ := rin r hr
      rw [e0]
      unfold through
      rw [List.length_map]
      exact hl1.1 r0 h0
    · obtain ⟨r0, h0, e0⟩ := bin r hr
      rw [e0]
      unfold led
      rw [List.length_map]
      exact hl1.2.1 r0 h0
    have s8 : Same H6 H8 := fun b o e => kp8 b o (sM b o e) (ne_of_none e hp)
    refine k p pd cd m rs bs H8 Y (e1.trans hrs) (e2.trans hbs) (sH.trans s8) fun x hx => newT_of sH ?_
    rcases fp8 x hx with z | z
    · rw [z]; exact .inl hp
    · exact newT_of sM z
end
end L2.Cd

namespace L2.Cd
open PySem PySem.Spec PyProof.Rows L2.Ex
theorem cut_ints (ns : List Int) (a b : Option Int) : ∃ ms : List Int, cutV (ns.map V.int) a b = ms.map V.int ∧ ms.length ≤ ns.length := by
  refine ⟨(ns.drop (HT.sIx ns.length 0 a)).take (HT.sIx ns.length ns.length b - HT.sIx ns.length 0 a), ?_, ?_⟩
  · unfold cutV
    rw [List.map_take, List.map_drop, List.length_map]
  · rw [List.length_take, List.length_drop]
    omega
theorem erase_map : ∀ (l : List Int) (j : Nat), (l.map V.int).eraseIdx j = (l.eraseIdx j).map V.int
  | [], _ => rfl
  | x :: r, 0 => rfl
  | x :: r, j + 1 => by
    rw [List.map_cons, List.eraseIdx_cons_succ, List.eraseIdx_cons_succ, List.map_cons, erase_map r j]
theorem first_ix : ∀ {l : List Int} {y : Int}, y ∈ l → ∃ j : Nat, l[j]? = some y ∧ ∀ m z, m < j → l[m]? = some z → z ≠ y
  | [], _, h => by cases h
  | x :: r, y, h => by
    by_cases e : x = y
    · exact ⟨0, by rw [e]; rfl, fun m z hm => absurd hm (Nat.not_lt_zero _)⟩
    · obtain ⟨j, h1, h2⟩ := first_ix ((List.mem_cons.mp h).resolve_left (Ne.symm e))
      refine ⟨j + 1, h1, fun m z hm hz => ?_⟩
      cases m with
      | zero => cases hz; exact e
      | succ m => exact h2 m z (by omega) hz
theorem Kp.trans' {P0 : Addr} {H H1 H2 : Hp} (a : Kp (isP P0) H H1) (s : Same H1 H2) : Kp (isP P0) H H2 := fun b o e n => s b o (a b o e n)
theorem Kp.put {P0 d : Addr} {H H1 : Hp} {u : HO} (a : Kp (isP P0) H H1) (h : H d = none) : Kp (isP P0) H (upd H1 d u) := fun b o e n => by rw [upd_ne (ne_of_none e h)]; exact a b o e n
section
variable {P : Program} {w : World} {K : PySem.W.Frag} {mg : Str → Option Value} {base : Heap} {A : Ad} {D : Fd}
def spDigits (K : PySem.W.Frag) : Sp := fun vs H Q _ => ∃ (a : Addr) (ns : List Int), vs = [.ref a] ∧ SqL K H a (ns.map V.int) ∧ ns.length ≤ 63 ∧ ∀ P0 H', PoolP H' P0 → Q (.ref P0) H'
theorem ok_law_digits (T : Tx K mg A D) : FnOk P w K mg base CX0 2 A.f_law_digits D.f_law_digits ["_law_script"] (spDigits K) := by
  refine T.F_law_digits.ok sc_law_digits (fun vs H Q E h => ?_) (fun cdv A' outer s H vs Q E hr h => ?_)
  · obtain ⟨a, ns, rfl, _⟩ := h
    rfl
  · obtain ⟨a, ns0, rfl, hS, hN, k⟩ := h
    refine ⟨_, ((pss_one (ps_ret (pe_lc (own := [("_law_cell", 1)]) (g := (gName 1)) rfl sc_law_digits.nd (pi_list (pe_slice sl_list (pv 0) po_none (po_some pe_int))) (blkOk_by (own := [("_law_cell", 1)]) (N := ["_law_script", "_law_cell"]) (sc := defScope s_law_digits) (by decide +kernel)) (fun _ _ _ _ _ => (pg_name (i := 1) sc_law_digits.nd rfl (by first | exact Or.inl rfl | exact Or.inr rfl))) (fun _ _ _ _ _ => pts_nil) (fun _ _ _ _ _ => (pe_op op_mod (pe_callB call_abs (by rfl) T.b_abs (by decide +kernel) (pa_cons (pv 1) pa_nil)) (pe_op op_pow pe_int pe_int))))))), ?_⟩
    refine ⟨_, rfl, 63, rfl, a, _, rfl, hS, fun t ht => ⟨t, rfl, ⟨_, SqL.of upd_same⟩, fun q hq => ?_⟩⟩
    obtain ⟨ms, hms, hml⟩ := cut_ints ns0 none (some 63)
    rw [hms] at hq ⊢
    have ntq : t ≠ q := ne_of_none upd_same hq
    refine lc_list (K := K) (a := t) (xs := ms.map V.int) (fun i H2 => ∃ zs : List Int, zs.length = i ∧ H2 q = some (.lst (zs.map V.int)) ∧ H2 t = some (.lst (ms.map V.int))) ⟨[], rfl, upd_same, by rw [upd_ne ntq, upd_same]⟩ (fun i H2 _ h => ?_) ?_ ?_
    · obtain ⟨zs, _, _, h⟩ := h
      exact SqL.of h
    · rintro i x H2 hx ⟨zs, hz, h1, h2⟩
      have hi : i < ms.length := by
        have := (List.getElem?_eq_some_iff.mp hx).1
        rw [List.length_map] at this
        exact this
      obtain ⟨z, rfl⟩ : ∃ z, x = V.int z := by
        obtain ⟨z, _, e⟩ := List.mem_map.mp (List.mem_of_getElem? hx)
        exact ⟨z, e.symm⟩
      refine ⟨rfl, ?_⟩
      refine iteT (B := True) ?_
      refine iteT ?_
      refine ⟨_, rfl, z, rfl, _, _, rfl, rfl, ⟨by decide, by decide, by decide⟩, _, _, rfl, rfl, (by show (0 : Int) < 10 ^ (60 : Int).toNat; decide), _, h1, ?_, zs ++ [(if z < 0 then -z else z) % (10 ^ (60 : Int).toNat)], ?_, ?_, ?_⟩
      · rw [List.length_map, hz, sizeLine_eq]; omega
      · rw [List.length_append, hz]; rfl
      · rw [upd_same, List.map_append]; rfl
      · rw [upd_ne ntq]
        exact h2
    · rintro H2 ⟨zs, hz, h1, h2⟩
      exact k q H2 ⟨zs, h1, by rw [hz, List.length_map]; omega⟩
/-! ### rows of places -/
def RowOk (row : List (Option Int)) (n : Nat) : Prop := ∀ v, some v ∈ row → 0 ≤ v ∧ v < (n : Int)
def spPlaces : Sp := fun vs H Q _ => ∃ (P0 : Addr) (n : Nat), vs = [.ref P0, .int n] ∧ PoolP H P0 ∧ n ≤ 30 ∧
  ∀ (a : Addr) (row : List (Option Int)) (H' : Hp), H a = none → H' a = some (.lst (row.map oi)) → row.length = n → RowOk row n → PoolP H' P0 → Kp (isP P0) H H' → Q (.ref a) H'
theorem ok_law_places (T : Tx K mg A D) : FnOk P w K mg base CX0 4 A.f_law_places D.f_law_places ["_law_pool", "_law_many"] spPlaces := by
  refine T.F_law_places.ok sc_law_places (fun vs H Q E h => ?_) (fun cdv A' outer s H vs Q E hr h => ?_)
  · obtain ⟨P0, n, rfl, _⟩ := h
    rfl
  · obtain ⟨P0, n, rfl, hp, hn, k⟩ := h
    refine ⟨_, ((pss_cons (ps_setLc (i := 2) (own := [("_law_k", 3)]) (g := (gName 3)) rfl sc_law_places.nd rfl rfl (sw_true rfl rfl rfl (by decide +kernel)) (pi_range1 (by rfl) T.b_range (pa_cons (pv 1) pa_nil)) (blkOk_by (own := [("_law_k", 3)]) (N := ["_law_pool", "_law_many", "_law_left", "_law_k", "_law_mode", "_law_row_here", "_law_at"]) (sc := defScope s_law_places) (by decide +kernel)) (fun _ _ _ _ _ => (pg_name (i := 3) sc_law_places.nd rfl (by first | exact Or.inl rfl | exact Or.inr rfl))) (fun _ _ _ _ _ => pts_nil) (fun _ _ _ _ _ => (pv 3)))
      (pss_cons (ps_set (i := 4) sc_law_places.nd rfl (by first | exact Or.inl rfl | exact Or.inr rfl) (pe_call (ok_law_draw T) (hr.mono (by decide)) (by rfl) T.m_law_draw T.F_law_draw.kp (b_law_draw T) .nil pass0 (pa_cons (pv 0) (pa_cons pe_int pa_nil))))
      (pss_cons (ps_set (i := 5) sc_law_places.nd rfl (by first | exact Or.inl rfl | exact Or.inr rfl) (pe_lst pa_nil))
      (pss_cons (ps_for PassesOwn.never rfl (pi_range1 (by rfl) T.b_range (pa_cons (pv 1) pa_nil)) (pg_name (i := 3) sc_law_places.nd rfl (by first | exact Or.inl rfl | exact Or.inr rfl)) (pss_cons (ps_set (i := 6) sc_law_places.nd rfl (by first | exact Or.inl rfl | exact Or.inr rfl) pe_int)
      (pss_cons (ps_if (pt_cmpR op_eq (pv 4) pe_int (nomark _)) (pss_one (ps_set (i := 6) sc_law_places.nd rfl (by first | exact Or.inl rfl | exact Or.inr rfl) (pe_op op_sub (pe_callB call_len_seq (by rfl) T.b_len (by decide +kernel) (pa_cons (pv 2) pa_nil)) pe_int))) pss_nil)
      (pss_cons (ps_if (PW.pt (pw_or (pt_cmpR op_eq (pv 4) pe_int (nomark _)) (pw_or1 (pt_cmpR op_eq (pv 4) pe_int (nomark _))))) (pss_one (ps_set (i := 6) sc_law_places.nd rfl (by first | exact Or.inl rfl | exact Or.inr rfl) (pe_call (ok_law_draw T) (hr.mono (by decide)) (by rfl) T.m_law_draw T.F_law_draw.kp (b_law_draw T) .nil pass0 (pa_cons (pv 0) (pa_cons (pe_callB call_len_seq (by rfl) T.b_len (by decide +kernel) (pa_cons (pv 2) pa_nil)) pa_nil))))) pss_nil)
      (pss_one (ps_if (PW.pt (pw_and (pt_cmpR op_ge (pv 4) pe_int (nomark _)) (pw_and1 (pt_cmpR op_eq (pe_call (ok_law_draw T) (hr.mono (by decide)) (by rfl) T.m_law_draw T.F_law_draw.kp (b_law_draw T) .nil pass0 (pa_cons (pv 0) (pa_cons pe_int pa_nil))) pe_int (nomark _))))) (pss_one (ps_expr (pe_bm PySem.F.plainAttrs_list PySem.F.slot_list_append PySem.F.type_list_append mt_append (pv 5) (pa_cons pe_non pa_nil)))) (pss_one (ps_expr (pe_bm PySem.F.plainAttrs_list PySem.F.slot_list_append PySem.F.type_list_append mt_append (pv 5) (pa_cons (pe_bm PySem.F.plainAttrs_list PySem.F.slot_list_pop PySem.F.type_list_pop mt_popAt (pv 2) (pa_cons (pv 6) pa_nil)) pa_nil))))))))))
      (pss_one (ps_ret (pv 5)))))))), ?_⟩
    refine ⟨_, rfl, (n : Int), rfl, by omega, by omega, fun la hla => lc_it (walk_range (lo := 0) (n := _)) (fun i H2 => Same H H2 ∧ H2 la = some (.lst (((List.range i).map fun j : Nat => (j : Int)).map V.int))) ⟨same_new hla, upd_same⟩ (fun _ _ _ _ => trivial) ?_ ?_⟩
    · rintro i v H2 H3 hi ⟨s2, hD2⟩ ⟨rfl, rfl⟩
      have hi : i < n := by simpa using hi
      refine ⟨rfl, ?_⟩
      refine iteT (B := True) ?_
      refine iteT ?_
      refine ⟨_, rfl, _, hD2, ?_, fun b o e => ?_, ?_⟩
      · rw [List.length_map, List.length_map, List.length_range, sizeLine_eq]; omega
      · rw [upd_ne (ne_of_none e hla)]
        exact s2 b o e
      · rw [upd_same, List.range_succ, List.map_append, List.map_append]
        show some (HO.lst (_ ++ [V.int (0 + (i : Int))])) = _
        rw [Int.zero_add]
        rfl
    rintro H1 ⟨s1, hla1⟩
    rw [show ((n : Int)).toNat = n by simp] at hla1
    -- mode
    refine ⟨_, rfl, P0, 5, rfl, hp.same s1, by decide, by decide, fun mode H2 m0 m1 hp2 kp2 => ?_⟩
    have nlP : la ≠ P0 := fun z => by
      obtain ⟨ns, e, _⟩ := hp
      rw [← z, hla] at e
      cases e
    have hla2 := kp2 _ _ hla1 nlP
    refine ⟨by show 0 ≤ sizeLine; decide, fun ra hra => ?_⟩
    have nrP : ra ≠ P0 := fun z => by
      obtain ⟨ns, e, _⟩ := hp2
      rw [← z, hra] at e
      cases e
    have nrl : ra ≠ la := (ne_of_none hla2 hra).symm
    have kp1 : Kp (isP P0) H H2 := (Kp.same s1).of kp2
    have ra0 : H ra = none := by
      cases q : H ra with
      | none => rfl
      | some o => rw [kp1 _ _ q nrP] at hra; cases hra
    refine ⟨_, rfl, (n : Int), rfl, by omega, by omega, for_range (lo := 0) (n := _) (fun i σ H3 => ∃ (v3 v6 : Option V) (ls : List Int) (row : List (Option Int)), σ = [some (.ref P0), some (.int n), some (.ref la), v3, some (.int mode), some (.ref ra), v6] ∧ PoolP H3 P0 ∧ Kp (isP P0) H H3 ∧ H3 la = some (.lst (ls.map V.int)) ∧ n ≤ ls.length + i ∧ ls.length ≤ n ∧ (∀ v ∈ ls, 0 ≤ v ∧ v < (n : Int)) ∧
      H3 ra = some (.lst (row.map oi)) ∧ row.length = i ∧ RowOk row n)
      ⟨_, none, (List.range n).map fun j : Nat => (j : Int), [], rfl, hp2.same (same_new hra), kp1.put ra0, by rw [upd_ne nrl.symm]; exact hla2, by simp, by simp, fun v hv => ?_, upd_same, rfl, fun v hv => (by cases hv)⟩ ?_ ?_⟩
    · obtain ⟨j, hj, rfl⟩ := List.mem_map.mp hv
      have := List.mem_range.mp hj
      omega
    · rintro i σ H3 hi ⟨v3, v6, ls, row, rfl, hp3, kp3, hl3, hn1, hn2, hls, hr3, hrl, hrow⟩
      have hi : i < n := by simpa using hi
      refine g_ok ?_
      dsimp only
      -- at
      refine seq_mid (fun σ H4 => ∃ at_ : Int, σ = [some (.ref P0), some (.int n), some (.ref la), some (.int (0 + (i : Int))), some (.int mode), some (.ref ra), some (.int at_)] ∧ (0 ≤ at_ ∧ at_ < (ls.length : Int)) ∧ H4 = H3) (fun Nx hN => hN _ _ ⟨0, rfl, ⟨by omega, by omega⟩, rfl⟩) ?_
      rintro σ H4 ⟨at0, rfl, hat0, rfl⟩
      refine seq_mid (fun σ H5 => ∃ at_ : Int, σ = [some (.ref P0), some (.int n), some (.ref la), some (.int (0 + (i : Int))), some (.int mode), some (.ref ra), some (.int at_)] ∧ (0 ≤ at_ ∧ at_ < (ls.length : Int)) ∧ H5 = H4) (fun Nx hN => ?_) ?_
      · refine ⟨_, rfl, rfl, _, rfl, ?_⟩
        by_cases h0 : mode = 0
        · refine if_true_of (by rw [dI]; exact decide_eq_true h0) ?_
          refine ⟨_, rfl, la, _, rfl, .inl (SqL.of hl3), _, _, rfl, rfl, ?_⟩
          exact hN _ _ ⟨_, rfl, ⟨by rw [List.length_map]; omega, by rw [List.length_map]; omega⟩, rfl⟩
        · refine if_false_of (by rw [dI]; exact decide_eq_false h0) ?_
          exact hN _ _ ⟨at0, rfl, hat0, rfl⟩
      rintro σ H5 ⟨at1, rfl, hat1, rfl⟩
      refine seq_mid (fun σ H6 => ∃ at_ : Int, σ = [some (.ref P0), some (.int n), some (.ref la), some (.int (0 + (i : Int))), some (.int mode), some (.ref ra), some (.int at_)] ∧ (0 ≤ at_ ∧ at_ < (ls.length : Int)) ∧ PoolP H6 P0 ∧ Kp (isP P0) H5 H6) (fun Nx hN => ?_) ?_
      · have dr : ∀ tt : TS, tt = tAsg (tCall spDraw [] E0 (tCons (tVar 0) (tCons (tCB (fun xs H Q => ∃ p ys, xs = [.ref p] ∧ (SqL K H p ys ∨ SqT K H p ys) ∧ Q (.int ys.length) H) (tCons (tVar 2) tNil)) tNil))) (gName 6) → tt { nx := Nx, rt := Q } [some (.ref P0), some (.int n), some (.ref la), some (.int (0 + (i : Int))), some (.int mode), some (.ref ra), some (.int at1)] H5 → True := fun _ _ _ => trivial
        refine ⟨_, rfl, rfl, _, rfl, ?_⟩
        by_cases h2 : mode = 2
        · refine if_true_of (by rw [dI]; exact decide_eq_true h2) ?_
          refine iteT (B := True) ?_
          refine ⟨_, rfl, _, rfl, la, _, rfl, .inl (SqL.of hl3), P0, _, rfl, hp3, by rw [List.length_map]; omega, by rw [List.length_map]; omega, fun d H6 d0 d1 hp6 kp6 => ?_⟩
          rw [List.length_map] at d1
          exact hN _ _ ⟨d, rfl, ⟨d0, d1⟩, hp6, kp6⟩
        · refine if_false_of (by rw [dI]; exact decide_eq_false h2) ?_
          refine ⟨_, rfl, rfl, _, rfl, ?_⟩
          by_cases h4 : mode = 4
          · refine if_true_of (by rw [dI]; exact decide_eq_true h4) ?_
            refine ⟨_, rfl, _, rfl, la, _, rfl, .inl (SqL.of hl3), P0, _, rfl, hp3, by rw [List.length_map]; omega, by rw [List.length_map]; omega, fun d H6 d0 d1 hp6 kp6 => ?_⟩
            rw [List.length_map] at d1
            exact hN _ _ ⟨d, rfl, ⟨d0, d1⟩, hp6, kp6⟩
          · refine if_false_of (by rw [dI]; exact decide_eq_false h4) ?_
            exact hN _ _ ⟨at1, rfl, hat1, hp3, fun b o e _ => e⟩
      rintro σ H6 ⟨at2, rfl, ⟨a0, a1⟩, hp6, kp6⟩
      have hl6 := kp6 _ _ hl3 nlP
      have hr6 := kp6 _ _ hr3 nrP
      have kpA := kp3.of kp6
      -- append(left.pop(at))
      have pop : ∀ (H7 : Hp), PoolP H7 P0 → Kp (isP P0) H H7 → H7 la = some (.lst (ls.map V.int)) → H7 ra = some (.lst (row.map oi)) → ∀ (tt : TE), tt = tBM K "list" rAppend (tVar 5) (tCons (tBM K "list" rPopAt (tVar 2) (tCons (tVar 6) tNil)) tNil) → ∀ N : V → Hp → Prop,
          (∀ H8, (∃ (v3 v6 : Option V) (ls : List Int) (row : List (Option Int)), [some (.ref P0), some (.int n), some (.ref la), some (.int (0 + (i : Int))), some (.int mode), some (.ref ra), some (.int at2)] = [some (.ref P0), some (.int n), some (.ref la), v3, some (.int mode), some (.ref ra), v6] ∧ PoolP H8 P0 ∧ Kp (isP P0) H H8 ∧ H8 la = some (.lst (ls.map V.int)) ∧ n ≤ ls.length + (i + 1) ∧ ls.length ≤ n ∧ (∀ v ∈ ls, 0 ≤ v ∧ v < (n : Int)) ∧
            H8 ra = some (.lst (row.map oi)) ∧ row.length = i + 1 ∧ RowOk row n) → N .non H8) → tt [some (.ref P0), some (.int n), some (.ref la), some (.int (0 + (i : Int))), some (.int mode), some (.ref ra), some (.int at2)] H7 N := by
        rintro H7 hp7 kp7 hl7 hr7 tt rfl N hN
        obtain ⟨j, hj⟩ : ∃ j : Nat, at2 = (j : Int) := ⟨at2.toNat, by omega⟩
        subst hj
        have hjl : j < ls.length := by omega
        refine ⟨_, rfl, .inl ⟨rfl, _, SqL.of hr7⟩, _, rfl, .inl ⟨rfl, _, SqL.of hl7⟩, _, rfl, la, _, _, j, .int ls[j], rfl, rfl, hl7, by omega, by omega, by rw [seqIndex_of (by omega) (by rw [List.length_map]; omega)]; simp, by rw [List.getElem?_map, List.getElem?_eq_getElem hjl]; rfl, ?_⟩
        refine ⟨ra, _, _, rfl, rfl, by rw [upd_ne nrl]; exact hr7, by rw [List.length_map, sizeLine_eq]; omega, hN _ ⟨_, _, ls.eraseIdx j, row ++ [some ls[j]], rfl, ?_, ?_, ?_, ?_, ?_, fun v hv => hls v (List.mem_of_mem_eraseIdx hv), ?_, ?_, ?_⟩⟩
        · obtain ⟨ns, e, l⟩ := hp7
          exact ⟨ns, by rw [upd_ne nrP.symm, upd_ne nlP.symm]; exact e, l⟩
        · exact (kp7.put hla).put ra0
        · rw [upd_ne nrl.symm, upd_same, erase_map]
        · rw [List.length_eraseIdx_of_lt hjl]; omega
        · rw [List.length_eraseIdx_of_lt hjl]; omega
        · rw [upd_same, List.map_append]; rfl
        · rw [List.length_append, hrl]; rfl
        · intro v hv
          rcases List.mem_append.mp hv with h | h
          · exact hrow v h
          · have := List.mem_singleton.mp h
            cases this
            exact hls _ (List.getElem_mem hjl)
      refine ⟨_, rfl, _, _, rfl, rfl, _, rfl, ?_⟩
      by_cases h3 : mode ≥ 3
      · refine if_true_of (decide_eq_true h3) ?_
        refine ⟨_, rfl, P0, 3, rfl, hp6, by decide, by decide, fun d H7 d0 d1 hp7 kp7 => ⟨rfl, _, rfl, ?_⟩⟩
        have hl7 := kp7 _ _ hl6 nlP
        have hr7 := kp7 _ _ hr6 nrP
        have kpB := kpA.of kp7
        by_cases e : d = 1
        · refine if_true_of (by rw [dI]; exact decide_eq_true e) ?_
          refine ⟨_, rfl, .inl ⟨rfl, _, SqL.of hr7⟩, ra, _, _, rfl, rfl, hr7, by rw [List.length_map, sizeLine_eq]; omega, ?_⟩
          refine ⟨_, _, ls, row ++ [none], rfl, ?_, kpB.put ra0, by rw [upd_ne nrl.symm]; exact hl7, by omega, hn2, hls, by rw [upd_same, List.map_append]; rfl, by rw [List.length_append, hrl]; rfl, fun v hv => ?_⟩
          · obtain ⟨ns, e, l⟩ := hp7
            exact ⟨ns, by rw [upd_ne nrP.symm]; exact e, l⟩
          · rcases List.mem_append.mp hv with h | h
            · exact hrow v h
            · cases List.mem_singleton.mp h
        · refine if_false_of (by rw [dI]; exact decide_eq_false e) ?_
          exact pop H7 hp7 kpB hl7 hr7 _ rfl _ fun H8 h => h
      · refine if_false_of (decide_eq_false h3) ?_
        refine if_false_of rfl ?_
        exact pop H6 hp6 kpA hl6 hr6 _ rfl _ fun H8 h => h
    · rintro σ H3 ⟨v3, v6, ls, row, rfl, hp3, kp3, hl3, hn1, hn2, hls, hr3, hrl, hrow⟩
      exact ⟨_, rfl, k ra row H3 ra0 hr3 (by rw [hrl]; simp) hrow hp3 kp3⟩
end
end L2.Cd

namespace L2.Cd
open PySem PySem.Spec PyProof.Rows L2.Ex
theorem cut_drop (xs : List V) {n : Nat} (h : n ≤ xs.length) : cutV xs (some (n : Int)) none = xs.drop n := by
  unfold cutV HT.sIx
  simp [Nat.min_eq_left h, show ¬ ((n : Int) < 0) by omega]
  exact List.take_of_length_le (by simp)
theorem cut_take (xs : List V) {n : Nat} (h : n ≤ xs.length) : cutV xs none (some (n : Int)) = xs.take n := by
  unfold cutV HT.sIx
  simp [Nat.min_eq_left h, show ¬ ((n : Int) < 0) by omega]
theorem peBm {X : Cx} {K : PySem.W.Frag} {o e : Expr} {es : List Expr} {to : TE} {t : TA} {name : Str} {apos cpos : Pos} {T id : String} {r : V → List V → Hp → VK → Prop} (h : X.K = K) (pa : PlainAttrs T) (slot : Slot T name id) (hty : typeOf (.builtin id) = pure (.type "method_descriptor")) (hm : MtR X id r) (ho : PE X o to) (ha : PA X (e :: es) t)
    (hbase : attributeBase o name X.env (eval o X.env) = eval o X.env := by rfl)
    (hfew : ((backTo cpos (starEach (e :: es) X.env)).all (fun x => !x.1) && (backToKw cpos (keywordEach [] X.env)).all (fun x => x.1.isSome) && decide ((e :: es).length + ([] : List Keyword).length + (if ([] : List Keyword).isEmpty then 0 else 1) < 30)) = true := by rfl)
    (hline : (apos.endLine == cpos.line) = true := by rfl) (hs : starEach (e :: es) X.env = (false, eval e X.env) :: starEach es X.env := by rfl) (hplain : (backTo cpos (starEach es X.env)).any (·.1) = false := by rfl) :
    PE X (.Call (.Attribute o name apos) (e :: es) [] cpos) (tBM K T r to t) := h ▸ pe_bm pa slot hty hm ho ha hbase hfew hline hs hplain
theorem atI_last {l : List Int} {x : Int} : atI ((l ++ [x]).map V.int) (-1) = some (.int x) := by
  unfold atI ixN
  simp
  rw [if_pos (by omega), show (-1 + ((l.length : Int) + 1)).toNat = l.length by omega]
  simp
section
variable {P : Program} {w : World} {K : PySem.W.Frag} {mg : Str → Option Value} {base : Heap} {A : Ad} {D : Fd}
def spThrough : Sp := fun vs H Q _ => ∃ (a b : Addr) (r1 r2 : List (Option Int)), vs = [.ref a, .ref b] ∧ H a = some (.lst (r1.map oi)) ∧ H b = some (.lst (r2.map oi)) ∧ RowOk r1 r2.length ∧ r1.length < 400 ∧
  ∀ (q : Addr) (H' : Hp), H q = none → H' q = some (.lst ((through r1 r2).map oi)) → Same H H' → Q (.ref q) H'
theorem ok_law_through (T : Tx K mg A D) : FnOk P w K mg base CX0 2 A.f_law_through D.f_law_through ["_law_first", "_law_second"] spThrough := by
  refine T.F_law_through.ok sc_law_through (fun vs H Q E h => ?_) (fun cdv A' outer s H vs Q E hr h => ?_)
  · obtain ⟨a, b, r1, r2, rfl, _⟩ := h
    rfl
  · obtain ⟨a, b, r1, r2, rfl, ha, hb, hok, hl, k⟩ := h
    refine ⟨_, ((pss_cons (ps_set (i := 2) sc_law_through.nd rfl (by first | exact Or.inl rfl | exact Or.inr rfl) (pe_lst pa_nil))
      (pss_cons (ps_for PassesOwn.never rfl (pi_list (pv 0)) (pg_name (i := 3) sc_law_through.nd rfl (by first | exact Or.inl rfl | exact Or.inr rfl)) (pss_one (ps_expr (pe_bm PySem.F.plainAttrs_list PySem.F.slot_list_append PySem.F.type_list_append mt_append (pv 2) (pa_cons (pe_ifExp (pt_cmpR op_isN (pv 3) pe_non (nomark _)) pe_non (pe_ix ix_list (pv 1) (pv 3) (fun _ _ => rfl))) pa_nil)))))
      (pss_one (ps_ret (pv 2)))))), ?_⟩
    refine ⟨by show 0 ≤ sizeLine; decide, fun q hq => ?_⟩
    have s1 := same_new (o := .lst []) hq
    refine ⟨_, rfl, a, rfl, ⟨_, SqL.of (s1 _ _ ha)⟩, for_list (K := K) (a := a) (xs := r1.map oi) (fun i σ H2 => ∃ v3, σ = [some (.ref a), some (.ref b), some (.ref q), v3] ∧ Same H H2 ∧ H2 q = some (.lst ((through (r1.take i) r2).map oi))) ⟨none, rfl, s1, upd_same⟩ (fun i σ H2 _ h => by obtain ⟨_, _, h, _⟩ := h; exact SqL.of (h _ _ ha)) ?_ ?_⟩
    · rintro i x σ H2 hx ⟨v3, rfl, s2, hq2⟩
      rw [List.getElem?_map] at hx
      obtain ⟨o, ho, rfl⟩ : ∃ o, r1[i]? = some o ∧ x = oi o := by
        cases q : r1[i]? with
        | none => rw [q] at hx; cases hx
        | some o => rw [q] at hx; exact ⟨o, rfl, (Option.some.inj hx).symm⟩
      have sz : ((through (r1.take i) r2).map oi).length < sizeLine := by
        unfold through
        rw [List.length_map, List.length_map, List.length_take, sizeLine_eq]
        omega
      have fin : ∀ o', (o.bind fun v => r2.getD v.toNat none) = o' → ∃ v3, [some (V.ref a), some (.ref b), some (.ref q), some (oi o)] = [some (V.ref a), some (.ref b), some (.ref q), v3] ∧ Same H (upd H2 q (.lst ((through (r1.take i) r2).map oi ++ [oi o']))) ∧ upd H2 q (.lst ((through (r1.take i) r2).map oi ++ [oi o'])) q = some (.lst ((through (r1.take (i + 1)) r2).map oi)) := by
        intro o' ho'
        refine ⟨_, rfl, fun b' o2 e => ?_, ?_⟩
        · rw [upd_ne (ne_of_none e hq)]
          exact s2 b' o2 e
        · rw [upd_same, List.take_add_one, ho]
          unfold through
          rw [List.map_append, List.map_append, ← ho']
          rfl
      refine ⟨_, rfl, .inl ⟨rfl, _, SqL.of hq2⟩, _, rfl, rfl, _, rfl, ?_⟩
      cases o with
      | none =>
        refine if_true_of rfl ?_
        exact ⟨q, _, _, rfl, rfl, hq2, sz, fin none rfl⟩
      | some v =>
        refine if_false_of rfl ?_
        obtain ⟨v0, v1⟩ := hok v (List.mem_of_getElem? ho)
        obtain ⟨n, rfl⟩ : ∃ n : Nat, v = (n : Int) := ⟨v.toNat, by omega⟩
        have hn : n < r2.length := by omega
        have hat : (r2.map oi)[n]? = some (oi (r2.getD n none)) := by
          rw [List.getElem?_map, List.getD_eq_getElem?_getD, List.getElem?_eq_getElem hn]
          rfl
        exact ⟨_, rfl, _, rfl, b, _, _, _, rfl, rfl, SqL.of (s2 _ _ hb), atI_nat hat, q, _, _, rfl, rfl, hq2, sz, fin _ rfl⟩
    · rintro σ H2 ⟨v3, rfl, s2, hq2⟩
      rw [List.length_map, List.take_length] at hq2
      exact ⟨_, rfl, k q H2 hq hq2 s2⟩
def spLed : Sp := fun vs H Q _ => ∃ (a b : Addr) (c1 c2 : List Pr), vs = [.ref a, .ref b] ∧ H a = some (.dK (cK c1)) ∧ H b = some (.dK (cK c2)) ∧ a ≠ b ∧ (c1.map (·.1)).Nodup ∧ (c2.map (·.1)).Nodup ∧ (∀ e ∈ c1, e.2 ∈ c2.map (·.1)) ∧ c1.length < 400 ∧
  ∀ (q : Addr) (H' : Hp), H q = none → H' q = some (.dK (cK (led c1 c2))) → Same H H' → Q (.ref q) H'
theorem ok_law_led (T : Tx K mg A D) : FnOk P w K mg base CX0 2 A.f_law_led D.f_law_led ["_law_first", "_law_second"] spLed := by
  refine T.F_law_led.ok sc_law_led (fun vs H Q E h => ?_) (fun cdv A' outer s H vs Q E hr h => ?_)
  · obtain ⟨a, b, c1, c2, rfl, _⟩ := h
    rfl
  · obtain ⟨a, b, c1, c2, rfl, ha, hb, nab, n1, n2, hin, hl, k⟩ := h
    have hu := hu_of hr
    refine ⟨_, ((pss_cons (ps_set (i := 2) sc_law_led.nd rfl (by first | exact Or.inl rfl | exact Or.inr rfl) pe_dnewK)
      (pss_cons (ps_lock (ps_for PassesOwn.never rfl (pi_keys (pv 0)) (pg_name (i := 3) sc_law_led.nd rfl (by first | exact Or.inl rfl | exact Or.inr rfl)) (pss_one (ps_dput hu (pv 2) (pv 3) (pe_dget hu (pv 1) (pe_dget hu (pv 0) (pv 3) (fun _ _ => rfl)) (fun _ _ => rfl)) rfl))))
      (pss_one (ps_ret (pv 2)))))), ?_⟩
    intro q hq
    have s1 := same_new (o := .dK []) hq
    have nqa : a ≠ q := ne_of_none ha hq
    refine ⟨a, _, s1 _ _ ha, trivial, fun od => ⟨_, rfl, a, od, rfl, .inl ⟨cK c1, upd_same, for_it (walk_keys (d := a) (o := od) (kvs := cK c1)) (fun i σ H2 => ∃ v3, σ = [some (.ref a), some (.ref b), some (.ref q), v3] ∧ H2 a = some (.frz od (.dK (cK c1))) ∧ (∀ b o, H b = some o → b ≠ a → H2 b = some o) ∧ H2 q = some (.dK (cK (led (c1.take i) c2))))
      ⟨none, rfl, upd_same, fun b o e hb => by rw [upd_ne hb]; exact s1 b o e, by rw [upd_ne nqa.symm]; exact upd_same⟩ (fun i σ H2 _ h => by obtain ⟨_, _, h, _⟩ := h; exact h) ?_ ?_⟩⟩⟩
    · rintro i v σ H2 H3 hi ⟨v3, rfl, hf, kp, hq2⟩ ⟨rfl, kk, vv, hkv, rfl⟩
      obtain ⟨e, he, rfl, rfl⟩ := cK_ix hkv
      have hm := List.mem_of_getElem? he
      have hat := lookC_mem (hin e hm)
      have nm : e.1 ∉ (led (c1.take i) c2).map (·.1) := by rw [led_fst]; exact take_new (f := fun r : Pr => r.1) n1 he
      refine ⟨_, rfl, _, rfl, _, rfl, a, _, rfl, dget_iR (.inr ⟨od, hf⟩) (cK_at n1 hm), b, _, rfl, dget_i (kp _ _ hb nab.symm) (cK_at n2 hat), _, rfl, _, rfl, q, _, rfl, DPut.k (k := Sum.inl e.1) hq2 (small1000 (by unfold cK led; rw [List.length_map, List.length_map, List.length_take]; omega)), ?_⟩
      rw [cK_snoc (e := (e.1, lookC c2 e.2)) nm]
      refine ⟨_, rfl, by rw [upd_ne nqa]; exact hf, fun b' o e' hb' => by rw [upd_ne (ne_of_none e' hq)]; exact kp b' o e' hb', ?_⟩
      rw [upd_same, List.take_add_one, he]
      unfold led
      rw [List.map_append]
      rfl
    · rintro σ H2 ⟨v3, rfl, hf, kp, hq2⟩
      rw [show (cK c1).length = c1.length by unfold cK; rw [List.length_map], List.take_length] at hq2
      exact ⟨hf, _, rfl, k q _ hq (by rw [upd_ne nqa.symm]; exact hq2) (lock_same ha kp)⟩
theorem name_ix {k : Int} (h0 : 0 ≤ k) (h1 : k ≤ 4) : ∃ (j : Nat) (z : V), (names5.map V.str)[j]? = some z ∧ eqV z (.str (nameN k)) = true ∧ (∀ (m : Nat) (z' : V), m < j → (names5.map V.str)[m]? = some z' → eqV z' (.str (nameN k)) = false) ∧ (j : Int) = k := by
  have c : k = 0 ∨ k = 1 ∨ k = 2 ∨ k = 3 ∨ k = 4 := by omega
  have go : ∀ (j : Nat), j < 5 → (j : Int) = k → ∃ (j : Nat) (z : V), (names5.map V.str)[j]? = some z ∧ eqV z (.str (nameN k)) = true ∧ (∀ (m : Nat) (z' : V), m < j → (names5.map V.str)[m]? = some z' → eqV z' (.str (nameN k)) = false) ∧ (j : Int) = k := by
    intro j hj e
    subst e
    refine ⟨j, (names5.map V.str).getD j .non, ?_, ?_, fun m z' hm hz => ?_, rfl⟩
    · match j, hj with
      | 0, _ | 1, _ | 2, _ | 3, _ | 4, _ => rfl
    · match j, hj with
      | 0, _ | 1, _ | 2, _ | 3, _ | 4, _ => decide +kernel
    · match j, hj, m, hm with
      | 1, _, 0, _ | 2, _, 0, _ | 2, _, 1, _ | 3, _, 0, _ | 3, _, 1, _ | 3, _, 2, _ | 4, _, 0, _ | 4, _, 1, _ | 4, _, 2, _ | 4, _, 3, _ => cases hz; decide +kernel
  exact go k.toNat (by omega) (by omega)
def spLeast : Sp := fun vs H Q _ => ∃ (a : Addr) (k0 k1 k2 : Int), vs = [.ref a] ∧ H a = some (.lst [.str (nameN k0), .str (nameN k1), .str (nameN k2)]) ∧ (0 ≤ k0 ∧ k0 ≤ 4) ∧ (0 ≤ k1 ∧ k1 ≤ 4) ∧ (0 ≤ k2 ∧ k2 ≤ 4) ∧ min k0 k1 ≤ k2 ∧ ∀ H', Same H H' → Q (.bl true) H'
theorem ok_law_least (T : Tx K mg A D) : FnOk P w K mg base CX0 2 A.f_law_least D.f_law_least ["_law_told"] spLeast := by
  refine T.F_law_least.ok sc_law_least (fun vs H Q E h => ?_) (fun cdv A' outer s H vs Q E hr h => ?_)
  · obtain ⟨a, k0, k1, k2, rfl, _⟩ := h
    rfl
  · obtain ⟨a, k0, k1, k2, rfl, ha, b0, b1, b2, hmin, k⟩ := h
    refine ⟨_, ((pss_cons (ps_set (i := 1) sc_law_least.nd rfl (by first | exact Or.inl rfl | exact Or.inr rfl) (pe_lst (pa_cons pe_str (pa_cons pe_str (pa_cons pe_str (pa_cons pe_str (pa_cons pe_str pa_nil)))))))
      (pss_cons (ps_setLc (i := 2) (own := [("_law_one", 3)]) (g := (gName 3)) rfl sc_law_least.nd rfl rfl (sw_true rfl rfl rfl (by decide +kernel)) (pi_list (pv 0)) (blkOk_by (own := [("_law_one", 3)]) (N := ["_law_told", "_law_names", "_law_ranks", "_law_one"]) (sc := defScope s_law_least) (by decide +kernel)) (fun _ _ _ _ _ => (pg_name (i := 3) sc_law_least.nd rfl (by first | exact Or.inl rfl | exact Or.inr rfl))) (fun _ _ _ _ _ => pts_nil) (fun _ _ _ _ _ => (peBm (K := K) rfl PySem.F.plainAttrs_list PySem.F.slot_list_index PySem.F.type_list_index (mtIndex (K := K) rfl) (pv 1) (pa_cons (pv 3) pa_nil))))
      (pss_one (ps_ret (pe_cmpR op_ge (pe_ix ix_list (pv 2) pe_int (fun _ _ => rfl)) (pe_callB (call_min2 rfl) (by rfl) T.b_min (by decide +kernel) (pa_cons (pe_ix ix_list (pv 2) pe_int (fun _ _ => rfl)) (pa_cons (pe_ix ix_list (pv 2) pe_int (fun _ _ => rfl)) pa_nil))) (nomark _))))))), ?_⟩
    refine ⟨by show 5 ≤ sizeLine; decide, fun t ht => ?_⟩
    have s1 := same_new (o := .lst (names5.map V.str)) ht
    have ht1 : upd H t (.lst (names5.map V.str)) t = some (.lst (names5.map V.str)) := upd_same
    refine ⟨_, rfl, a, rfl, ⟨_, SqL.of (s1 _ _ ha)⟩, fun D1 hD1 => lc_it (walk_list (K := K) (a := a) (xs := [.str (nameN k0), .str (nameN k1), .str (nameN k2)])) (fun i H2 => Same (upd H t (.lst (names5.map V.str))) H2 ∧ H2 D1 = some (.lst (([k0, k1, k2].take i).map V.int))) ⟨same_new hD1, upd_same⟩ (fun i H2 _ h => SqL.of (h.1 _ _ (s1 _ _ ha))) ?_ ?_⟩
    · rintro i x H2 H3 hi ⟨s2, hD2⟩ ⟨rfl, hx⟩
      obtain ⟨kk, hk, rfl, hb⟩ : ∃ kk, [k0, k1, k2][i]? = some kk ∧ x = .str (nameN kk) ∧ 0 ≤ kk ∧ kk ≤ 4 := by
        match i, hx with
        | 0, hx => exact ⟨k0, rfl, (Option.some.inj hx).symm, b0⟩
        | 1, hx => exact ⟨k1, rfl, (Option.some.inj hx).symm, b1⟩
        | 2, hx => exact ⟨k2, rfl, (Option.some.inj hx).symm, b2⟩
      obtain ⟨j, z, h1, h2, h3, h4⟩ := name_ix hb.1 hb.2
      refine ⟨rfl, ?_⟩
      refine iteT (B := True) ?_
      refine iteT ?_
      refine ⟨_, rfl, .inl ⟨rfl, _, SqL.of (s2 _ _ ht1)⟩, _, rfl, t, names5.map V.str, _, j, z, rfl, rfl, SqL.of (s2 _ _ ht1), rfl, rfl, h1, h2, h3, _, hD2, ?_, fun b o e => ?_, ?_⟩
      · rw [List.length_map, List.length_take, sizeLine_eq]
        have : [k0, k1, k2].length = 3 := rfl
        omega
      · rw [upd_ne (ne_of_none e hD1)]
        exact s2 b o e
      · rw [upd_same, List.take_add_one, hk, List.map_append, h4]
        rfl
    · rintro H2 ⟨s2, hD2⟩
      refine ⟨_, rfl, D1, _, _, .int k2, rfl, rfl, SqL.of hD2, rfl, _, rfl, D1, _, _, .int k0, rfl, rfl, SqL.of hD2, rfl, _, rfl, D1, _, _, .int k1, rfl, rfl, SqL.of hD2, rfl, _, _, rfl, _, _, rfl, rfl, ?_⟩
      show Q (.bl (decide ((if k1 < k0 then k1 else k0) ≤ k2))) H2
      rw [decide_eq_true (show (if k1 < k0 then k1 else k0) ≤ k2 by split <;> omega)]
      exact k _ (s1.trans s2)
def spMoments : Sp := fun vs H Q _ => ∃ (P0 : Addr), vs = [.ref P0] ∧ PoolP H P0 ∧ ∀ (a : Addr) (ms : List Int) (H' : Hp), H a = none → H' a = some (.lst (ms.map V.int)) → ms.length ≤ 10 → PoolP H' P0 → Kp (isP P0) H H' → Q (.ref a) H'
theorem ok_law_moments (T : Tx K mg A D) : FnOk P w K mg base CX0 4 A.f_law_moments D.f_law_moments ["_law_pool"] spMoments := by
  refine T.F_law_moments.ok sc_law_moments (fun vs H Q E h => ?_) (fun cdv A' outer s H vs Q E hr h => ?_)
  · obtain ⟨P0, rfl, _⟩ := h
    rfl
  · obtain ⟨P0, rfl, hp, k⟩ := h
    refine ⟨_, ((pss_cons (ps_set (i := 1) sc_law_moments.nd rfl (by first | exact Or.inl rfl | exact Or.inr rfl) (pe_lst (pa_cons (pe_call (ok_law_draw T) (hr.mono (by decide)) (by rfl) T.m_law_draw T.F_law_draw.kp (b_law_draw T) .nil pass0 (pa_cons (pv 0) (pa_cons pe_int pa_nil))) pa_nil)))
      (pss_cons (ps_for PassesOwn.never rfl (pi_range1 (by rfl) T.b_range (pa_cons (pe_call (ok_law_draw T) (hr.mono (by decide)) (by rfl) T.m_law_draw T.F_law_draw.kp (b_law_draw T) .nil pass0 (pa_cons (pv 0) (pa_cons pe_int pa_nil))) pa_nil)) (pg_name (i := 2) sc_law_moments.nd rfl (by first | exact Or.inl rfl | exact Or.inr rfl)) (pss_one (ps_expr (pe_bm PySem.F.plainAttrs_list PySem.F.slot_list_append PySem.F.type_list_append mt_append (pv 1) (pa_cons (pe_op op_add (pe_op op_add (pe_ix ix_list (pv 1) (pe_un un_neg pe_int) (fun _ _ => rfl)) pe_int) (pe_call (ok_law_draw T) (hr.mono (by decide)) (by rfl) T.m_law_draw T.F_law_draw.kp (b_law_draw T) .nil pass0 (pa_cons (pv 0) (pa_cons pe_int pa_nil)))) pa_nil)))))
      (pss_one (ps_ret (pv 1)))))), ?_⟩
    refine ⟨_, rfl, P0, 2, rfl, hp, by decide, by decide, fun d H1 d0 d1 hp1 kp1 => ⟨by show 1 ≤ sizeLine; decide, fun a ha => ?_⟩⟩
    have naP : a ≠ P0 := fun z => by
      obtain ⟨ns, e, _⟩ := hp1
      rw [← z, ha] at e
      cases e
    have a0 : H a = none := by
      cases q : H a with
      | none => rfl
      | some o => rw [kp1 _ _ q naP] at ha; cases ha
    refine ⟨_, rfl, P0, 4, rfl, hp1.same (same_new ha), by decide, by decide, fun n H2 n0 n1 hp2 kp2 => ?_⟩
    have ha2 := kp2 _ _ (upd_same (H := H1) (a := a) (o := .lst [.int d])) naP
    refine ⟨n, rfl, by omega, by omega, for_range (lo := 0) (n := _) (fun i σ H3 => ∃ (v2 : Option V) (ms : List Int) (x : Int), σ = [some (.ref P0), some (.ref a), v2] ∧ PoolP H3 P0 ∧ Kp (isP P0) H H3 ∧ H3 a = some (.lst ((ms ++ [x]).map V.int)) ∧ ms.length = i) ⟨none, [], d, rfl, hp2, (kp1.put a0).of kp2, ha2, rfl⟩ ?_ ?_⟩
    · rintro i σ H3 hi ⟨v2, ms, x, rfl, hp3, kp3, ha3, hl⟩
      refine ⟨_, rfl, .inl ⟨rfl, _, SqL.of ha3⟩, _, rfl, 1, rfl, a, _, _, .int x, rfl, rfl, SqL.of ha3, atI_last, _, _, rfl, rfl, _, rfl, P0, 3, rfl, hp3, by decide, by decide, fun d H4 d0 d1 hp4 kp4 => ⟨_, _, rfl, rfl, ?_⟩⟩
      have ha4 := kp4 _ _ ha3 naP
      refine ⟨a, _, _, rfl, rfl, ha4, by rw [List.length_map, List.length_append, sizeLine_eq]; have : [x].length = 1 := rfl; omega, ?_⟩
      refine ⟨_, ms ++ [x], x + 1 + d, rfl, ?_, (kp3.of kp4).put a0, by rw [upd_same, List.map_append (l₁ := ms ++ [x])]; rfl, by rw [List.length_append, hl]; rfl⟩
      obtain ⟨ns, e, l⟩ := hp4
      exact ⟨ns, by rw [upd_ne naP.symm]; exact e, l⟩
    · rintro σ H3 ⟨v2, ms, x, rfl, hp3, kp3, ha3, hl⟩
      exact ⟨_, rfl, k a _ H3 a0 ha3 (by rw [List.length_append, hl]; show _ + 1 ≤ 10; omega) hp3 kp3⟩
def spTwoRows : Sp := fun vs H Q _ => ∃ (P0 : Addr) (n : Nat), vs = [.ref P0, .int n] ∧ PoolP H P0 ∧ n ≤ 20 ∧
  ∀ (q a1 a2 a3 : Addr) (r1 r2 : List (Option Int)) (H' : Hp), H' q = some (.tup [.ref a1, .ref a2, .ref a3]) → H' a1 = some (.lst (r1.map oi)) → H' a2 = some (.lst (r2.map oi)) → H' a3 = some (.lst ((through r1 r2).map oi)) → H a1 = none → H a2 = none → H a3 = none →
    RowOk r1 r2.length → r1.length ≤ 30 → r2.length ≤ 30 → PoolP H' P0 → Kp (isP P0) H H' → Q (.ref q) H'
theorem ok_law_two_rows (T : Tx K mg A D) : FnOk P w K mg base CX0 8 A.f_law_two_rows D.f_law_two_rows ["_law_pool", "_law_many"] spTwoRows := by
  refine T.F_law_two_rows.ok sc_law_two_rows (fun vs H Q E h => ?_) (fun cdv A' outer s H vs Q E hr h => ?_)
  · obtain ⟨P0, n, rfl, _⟩ := h
    rfl
  · obtain ⟨P0, n, rfl, hp, hn, k⟩ := h
    refine ⟨_, ((pss_cons (ps_set (i := 2) sc_law_two_rows.nd rfl (by first | exact Or.inl rfl | exact Or.inr rfl) (pe_call (ok_law_places T) (hr.mono (by decide)) (by rfl) T.m_law_places T.F_law_places.kp (b_law_places T) .nil pass0 (pa_cons (pv 0) (pa_cons (pv 1) pa_nil))))
      (pss_cons (ps_set (i := 3) sc_law_two_rows.nd rfl (by first | exact Or.inl rfl | exact Or.inr rfl) (pe_call (ok_law_places T) (hr.mono (by decide)) (by rfl) T.m_law_places T.F_law_places.kp (b_law_places T) .nil pass0 (pa_cons (pv 0) (pa_cons (pe_op op_add (pv 1) (pe_call (ok_law_draw T) (hr.mono (by decide)) (by rfl) T.m_law_draw T.F_law_draw.kp (b_law_draw T) .nil pass0 (pa_cons (pv 0) (pa_cons pe_int pa_nil)))) pa_nil))))
      (pss_one (ps_ret (pe_tup (pa_cons (pv 2) (pa_cons (pv 3) (pa_cons (pe_call (ok_law_through T) (hr.mono (by decide)) (by rfl) T.m_law_through T.F_law_through.kp (b_law_through T) .nil pass0 (pa_cons (pv 2) (pa_cons (pv 3) pa_nil))) pa_nil))))))))), ?_⟩
    refine ⟨_, rfl, _, rfl, P0, n, rfl, hp, by omega, fun a1 r1 H1 f1 g1 l1 v1 hp1 kp1 => ?_⟩
    have nP : ∀ {b : Addr} {G : Hp}, PoolP G P0 → G b = none → b ≠ P0 := fun h e z => by
      obtain ⟨ns, e', _⟩ := h
      rw [← z, e] at e'
      cases e'
    have fr : ∀ {b : Addr} {G : Hp}, Kp (isP P0) H G → PoolP G P0 → G b = none → H b = none := fun {b G} kp hpG e => by
      cases q : H b with
      | none => rfl
      | some o => rw [kp _ _ q (nP hpG e)] at e; cases e
    refine ⟨_, rfl, _, rfl, _, rfl, P0, 3, rfl, hp1, by decide, by decide, fun d H2 d0 d1 hp2 kp2 => ?_⟩
    obtain ⟨d, rfl⟩ : ∃ m : Nat, d = (m : Int) := ⟨d.toNat, by omega⟩
    refine ⟨_, _, rfl, rfl, P0, n + d, rfl, hp2, by omega, fun a2 r2 H3 f2 g2 l2 v2 hp3 kp3 => ?_⟩
    have kpA := kp1.of kp2
    have kpB := kpA.of kp3
    have n1P : a1 ≠ P0 := nP hp f1
    have g13 := kp3 _ _ (kp2 _ _ g1 n1P) n1P
    have rok : RowOk r1 r2.length := fun v hv => by
      have := v1 v hv
      rw [l2]
      omega
    refine ⟨_, rfl, _, rfl, _, rfl, _, rfl, a1, a2, r1, r2, rfl, g13, g2, rok, by omega, fun a3 H4 f3 g3 s4 => ⟨by show 3 ≤ sizeLine; decide, fun q hq => ?_⟩⟩
    have sq := s4.trans (same_new (o := .tup [.ref a1, .ref a2, .ref a3]) hq)
    exact k q a1 a2 a3 r1 r2 _ upd_same (sq _ _ g13) (sq _ _ g2) ((same_new hq) _ _ g3) f1 (fr kpA hp2 f2) (fr kpB hp3 f3) rok (by omega) (by omega) (hp3.same sq) (kpB.trans' sq)
end
end L2.Cd

namespace L2.Cd
open PySem PySem.Spec PyProof.Rows L2.Ex
section
variable {P : Program} {w : World} {K : PySem.W.Frag} {mg : Str → Option Value} {base : Heap} {A : Ad} {D : Fd}
theorem pool_ne {P0 b : Addr} {G : Hp} (h : PoolP G P0) (e : G b = none) : b ≠ P0 := fun z => by
  obtain ⟨ns, e', _⟩ := h
  rw [← z, e] at e'
  cases e'
theorem pool_fr {P0 b : Addr} {H G : Hp} (kp : Kp (isP P0) H G) (hp : PoolP G P0) (e : G b = none) : H b = none := by
  cases q : H b with
  | none => rfl
  | some o => rw [kp _ _ q (pool_ne hp e)] at e; cases e
def spOlds : Sp := fun vs H Q _ => ∃ (P0 : Addr) (n : Nat) (low : Int), vs = [.ref P0, .int n, .int low] ∧ PoolP H P0 ∧ n ≤ 30 ∧
  ∀ (a : Addr) (olds : List Int) (H' : Hp), H a = none → H' a = some (.lst (olds.map V.int)) → olds.Nodup → olds.length = n → (∀ v ∈ olds, low < v) → PoolP H' P0 → Kp (isP P0) H H' → Q (.ref a) H'
theorem ok_law_olds (T : Tx K mg A D) : FnOk P w K mg base CX0 4 A.f_law_olds D.f_law_olds ["_law_pool", "_law_many", "_law_low"] spOlds := by
  refine T.F_law_olds.ok sc_law_olds (fun vs H Q E h => ?_) (fun cdv A' outer s H vs Q E hr h => ?_)
  · obtain ⟨P0, n, low, rfl, _⟩ := h
    rfl
  · obtain ⟨P0, n, low, rfl, hp, hn, k⟩ := h
    refine ⟨_, ((pss_cons (ps_set (i := 3) sc_law_olds.nd rfl (by first | exact Or.inl rfl | exact Or.inr rfl) (pe_lst pa_nil))
      (pss_cons (ps_for PassesOwn.never rfl (pi_range1 (by rfl) T.b_range (pa_cons (pv 1) pa_nil)) (pg_name (i := 4) sc_law_olds.nd rfl (by first | exact Or.inl rfl | exact Or.inr rfl)) (pss_cons (ps_set (i := 2) sc_law_olds.nd rfl (by first | exact Or.inl rfl | exact Or.inr rfl) (pe_op op_add (pe_op op_add (pv 2) pe_int) (pe_call (ok_law_draw T) (hr.mono (by decide)) (by rfl) T.m_law_draw T.F_law_draw.kp (b_law_draw T) .nil pass0 (pa_cons (pv 0) (pa_cons pe_int pa_nil)))))
      (pss_one (ps_expr (pe_bm PySem.F.plainAttrs_list PySem.F.slot_list_append PySem.F.type_list_append mt_append (pv 3) (pa_cons (pv 2) pa_nil))))))
      (pss_cons (ps_set (i := 5) sc_law_olds.nd rfl (by first | exact Or.inl rfl | exact Or.inr rfl) (pe_call (ok_law_draw T) (hr.mono (by decide)) (by rfl) T.m_law_draw T.F_law_draw.kp (b_law_draw T) .nil pass0 (pa_cons (pv 0) (pa_cons (pe_op op_add (pe_callB call_len_seq (by rfl) T.b_len (by decide +kernel) (pa_cons (pv 3) pa_nil)) pe_int) pa_nil))))
      (pss_one (ps_ret (pe_op op_cat (pe_slice sl_list (pv 3) (po_some (pv 5)) po_none) (pe_slice sl_list (pv 3) po_none (po_some (pv 5)))))))))), ?_⟩
    refine ⟨by show 0 ≤ sizeLine; decide, fun a ha => ?_⟩
    have naP := pool_ne hp ha
    refine ⟨_, rfl, n, rfl, by omega, by omega, for_range (lo := 0) (n := _) (fun i σ H3 => ∃ (lo : Int) (v4 v5 : Option V) (ls : List Int), σ = [some (.ref P0), some (.int n), some (.int lo), some (.ref a), v4, v5] ∧ PoolP H3 P0 ∧ Kp (isP P0) H H3 ∧ H3 a = some (.lst (ls.map V.int)) ∧ ls.length = i ∧ ls.Nodup ∧ (∀ v ∈ ls, low < v ∧ v ≤ lo) ∧ low ≤ lo)
      ⟨low, none, none, [], rfl, hp.same (same_new ha), Kp.same (same_new ha), upd_same, rfl, List.nodup_nil, fun v hv => (by cases hv), Int.le_refl _⟩ ?_ ?_⟩
    · rintro i σ H3 hi ⟨lo, v4, v5, ls, rfl, hp3, kp3, ha3, hl, nd, hls, hlo⟩
      have hi : i < n := by simpa using hi
      refine ⟨_, rfl, _, _, rfl, rfl, _, rfl, P0, 4, rfl, hp3, by decide, by decide, fun d H4 d0 d1 hp4 kp4 => ⟨_, _, rfl, rfl, ?_⟩⟩
      have ha4 := kp4 _ _ ha3 naP
      refine ⟨_, rfl, .inl ⟨rfl, _, SqL.of ha4⟩, _, rfl, a, _, _, rfl, rfl, ha4, by rw [List.length_map, sizeLine_eq]; omega, ?_⟩
      refine ⟨lo + 1 + d, _, _, ls ++ [lo + 1 + d], rfl, ?_, (kp3.of kp4).put ha, by rw [upd_same, List.map_append]; rfl, by rw [List.length_append, hl]; rfl, ?_, fun v hv => ?_, by omega⟩
      · obtain ⟨ns, e, l⟩ := hp4
        exact ⟨ns, by rw [upd_ne naP.symm]; exact e, l⟩
      · refine List.nodup_append.mpr ⟨nd, List.nodup_cons.mpr ⟨by simp, List.nodup_nil⟩, fun x hx y hy e => ?_⟩
        rw [List.mem_singleton.mp hy] at e
        have := (hls x hx).2
        omega
      · rcases List.mem_append.mp hv with h | h
        · have := hls v h
          omega
        · rw [List.mem_singleton.mp h]
          omega
    · rintro σ H3 ⟨lo, v4, v5, ls, rfl, hp3, kp3, ha3, hl, nd, hls, hlo⟩
      have hl : ls.length = n := by rw [hl]; simp
      refine ⟨_, rfl, _, rfl, a, _, rfl, .inl (SqL.of ha3), _, _, rfl, rfl, P0, _, rfl, hp3, by rw [List.length_map]; omega, by rw [List.length_map]; omega, fun d H4 d0 d1 hp4 kp4 => ?_⟩
      rw [List.length_map] at d1
      obtain ⟨d, rfl⟩ : ∃ m : Nat, d = (m : Int) := ⟨d.toNat, by omega⟩
      have hd : d ≤ (ls.map V.int).length := by rw [List.length_map]; omega
      have ha4 := kp4 _ _ ha3 naP
      refine ⟨_, rfl, _, rfl, d, rfl, a, _, rfl, SqL.of ha4, fun t1 ht1 => ?_⟩
      rw [cut_drop _ hd]
      have s1 := same_new (o := .lst ((ls.map V.int).drop d)) ht1
      refine ⟨_, rfl, _, rfl, d, rfl, a, _, rfl, SqL.of (s1 _ _ ha4), fun t2 ht2 => ?_⟩
      rw [cut_take _ hd]
      have s2 := same_new (o := .lst ((ls.map V.int).take d)) ht2
      refine ⟨t1, t2, _, _, rfl, rfl, s2 _ _ upd_same, upd_same, by rw [List.length_drop, List.length_take, List.length_map, sizeLine_eq]; omega, fun t3 ht3 => ?_⟩
      have s3 := s1.trans (s2.trans (same_new (o := .lst ((ls.map V.int).drop d ++ (ls.map V.int).take d)) ht3))
      have pm : (ls.drop d ++ ls.take d).Perm ls := List.perm_append_comm.trans (by rw [List.take_append_drop])
      refine k t3 (ls.drop d ++ ls.take d) _ (pool_fr (kp3.of kp4) hp4 (s1.free (s2.free ht3))) ?_ (pm.nodup_iff.mpr nd) (by rw [pm.length_eq]; exact hl) (fun v hv => (hls v (pm.mem_iff.mp hv)).1) (hp4.same s3) ((kp3.of kp4).trans' s3)
      rw [upd_same, List.map_append, List.map_drop, List.map_take]
def valC (m s o : Int) (j : Nat) : Int := if m = 0 then o else if m = 1 then o + s else if m = 2 then 3 * (j : Int) + s else (7 * (j : Int) + s) % 11
theorem valC_inj {m s o o' : Int} {j j' : Nat} (h : valC m s o j = valC m s o' j') (hj : j < 11) (hj' : j' < 11) (ho : j = j' → o = o') : o = o' := by
  unfold valC at h
  split at h
  · exact h
  split at h
  · omega
  split at h
  · exact ho (by omega)
  · exact ho (by omega)
def spCodes : Sp := fun vs H Q _ => ∃ (P0 oa : Addr) (olds : List Int), vs = [.ref P0, .ref oa] ∧ PoolP H P0 ∧ H oa = some (.lst (olds.map V.int)) ∧ oa ≠ P0 ∧ olds.Nodup ∧ olds.length ≤ 11 ∧
  ∀ (t : Addr) (c : List Pr) (H' : Hp), H t = none → H' t = some (.dK (cK c)) → c.map (·.1) = olds → (c.map (·.2)).Nodup → PoolP H' P0 → Kp (isP P0) H H' → Q (.ref t) H'
theorem ok_law_codes (T : Tx K mg A D) : FnOk P w K mg base CX0 4 A.f_law_codes D.f_law_codes ["_law_pool", "_law_olds_here"] spCodes := by
  refine T.F_law_codes.ok sc_law_codes (fun vs H Q E h => ?_) (fun cdv A' outer s H vs Q E hr h => ?_)
  · obtain ⟨P0, oa, olds, rfl, _⟩ := h
    rfl
  · obtain ⟨P0, oa, olds, rfl, hp, hoa, noP, nd, hn, k⟩ := h
    have hu := hu_of hr
    refine ⟨_, ((pss_cons (ps_set (i := 2) sc_law_codes.nd rfl (by first | exact Or.inl rfl | exact Or.inr rfl) (pe_callB cr_sorted (by rfl) T.b_sorted (by decide +kernel) (pa_cons (pv 1) pa_nil)))
      (pss_cons (ps_set (i := 3) sc_law_codes.nd rfl (by first | exact Or.inl rfl | exact Or.inr rfl) (pe_op op_mod (pe_callTy call_int1 (by rfl) T.b_int (by decide +kernel) (pa_cons (pe_op op_add (pe_call (ok_law_draw T) (hr.mono (by decide)) (by rfl) T.m_law_draw T.F_law_draw.kp (b_law_draw T) .nil pass0 (pa_cons (pv 0) (pa_cons pe_int pa_nil))) pe_int) pa_nil)) pe_int))
      (pss_cons (ps_set (i := 4) sc_law_codes.nd rfl (by first | exact Or.inl rfl | exact Or.inr rfl) (pe_op op_mod (pe_callTy call_int1 (by rfl) T.b_int (by decide +kernel) (pa_cons (pe_op op_add (pe_call (ok_law_draw T) (hr.mono (by decide)) (by rfl) T.m_law_draw T.F_law_draw.kp (b_law_draw T) .nil pass0 (pa_cons (pv 0) (pa_cons pe_int pa_nil))) pe_int) pa_nil)) pe_int))
      (pss_cons (ps_set (i := 5) sc_law_codes.nd rfl (by first | exact Or.inl rfl | exact Or.inr rfl) pe_dnewK)
      (pss_cons (ps_for PassesOwn.never rfl (pi_list (pv 1)) (pg_name (i := 6) sc_law_codes.nd rfl (by first | exact Or.inl rfl | exact Or.inr rfl)) (pss_cons (ps_set (i := 7) sc_law_codes.nd rfl (by first | exact Or.inl rfl | exact Or.inr rfl) (pe_bm PySem.F.plainAttrs_list PySem.F.slot_list_index PySem.F.type_list_index mt_index (pv 2) (pa_cons (pv 6) pa_nil)))
      (pss_cons (ps_set (i := 8) sc_law_codes.nd rfl (by first | exact Or.inl rfl | exact Or.inr rfl) (pe_lst (pa_cons (pv 6) (pa_cons (pe_op op_add (pv 6) (pv 4)) (pa_cons (pe_op op_add (pe_op op_mul pe_int (pv 7)) (pv 4)) pa_nil)))))
      (pss_cons (ps_expr (pe_bm PySem.F.plainAttrs_list PySem.F.slot_list_append PySem.F.type_list_append mt_append (pv 8) (pa_cons (pe_op op_mod (pe_callTy call_int1 (by rfl) T.b_int (by decide +kernel) (pa_cons (pe_op op_add (pe_op op_mul pe_int (pv 7)) (pv 4)) pa_nil)) pe_int) pa_nil)))
      (pss_one (ps_dput hu (pv 5) (pv 6) (pe_ix ix_list (pv 8) (pv 3) (fun _ _ => rfl)) rfl))))))
      (pss_one (ps_ret (pv 5))))))))), ?_⟩
    refine ⟨_, rfl, oa, olds, rfl, SqL.of hoa, by omega, fun rk ra hperm _ hra => ?_⟩
    have nrP := pool_ne hp hra
    have s1 := same_new (o := .lst (rk.map V.int)) hra
    refine ⟨_, rfl, P0, 4, rfl, hp.same s1, by decide, by decide, fun d1 H1 a0 a1 hp1 kp1 => ⟨_, _, rfl, rfl, .inl ⟨_, rfl, _, _, rfl, rfl, (by show (0 : Int) < 4; decide), ?_⟩⟩⟩
    refine ⟨_, rfl, P0, 20, rfl, hp1, by decide, by decide, fun d2 H2 b0 b1 hp2 kp2 => ⟨_, _, rfl, rfl, .inl ⟨_, rfl, _, _, rfl, rfl, (by show (0 : Int) < 20; decide), ?_⟩⟩⟩
    have kpA : Kp (isP P0) H H2 := ((Kp.same s1).of kp1).of kp2
    have hra2 := kp2 _ _ (kp1 _ _ (upd_same (H := H) (a := ra) (o := .lst (rk.map V.int))) nrP) nrP
    have hoa2 := kpA _ _ hoa noP
    have mm0 : 0 ≤ (d1 + 1) % 4 := Int.emod_nonneg _ (by decide)
    have mm1 : (d1 + 1) % 4 < 4 := Int.emod_lt_of_pos _ (by decide)
    intro t ht
    have ntP := pool_ne hp2 ht
    have t0 := pool_fr kpA hp2 ht
    have s2 := same_new (o := .dK []) ht
    refine ⟨_, rfl, oa, rfl, ⟨_, SqL.of (s2 _ _ hoa2)⟩, for_list (K := K) (a := oa) (xs := olds.map V.int) (fun i σ H3 => ∃ (v6 v7 v8 : Option V) (c : List Pr), σ = [some (.ref P0), some (.ref oa), some (.ref ra), some (.int ((d1 + 1) % 4)), some (.int ((d2 + 1) % 20)), some (.ref t), v6, v7, v8] ∧ (∀ b o, H2 b = some o → H3 b = some o) ∧ H3 t = some (.dK (cK c)) ∧ c.map (·.1) = olds.take i ∧ (∀ e ∈ c, ∃ j : Nat, rk[j]? = some e.1 ∧ e.2 = valC ((d1 + 1) % 4) ((d2 + 1) % 20) e.1 j) ∧ (c.map (·.2)).Nodup)
      ⟨none, none, none, [], rfl, s2, upd_same, rfl, fun e he => (by cases he), List.nodup_nil⟩ (fun i σ H3 _ h => by obtain ⟨_, _, _, _, _, h, _⟩ := h; exact SqL.of (h _ _ hoa2)) ?_ ?_⟩
    · rintro i x σ H3 hx ⟨v6, v7, v8, c, rfl, s3, ht3, hc, hval, hnd⟩
      rw [List.getElem?_map] at hx
      obtain ⟨o, ho, rfl⟩ : ∃ o, olds[i]? = some o ∧ x = .int o := by
        cases q : olds[i]? with
        | none => rw [q] at hx; cases hx
        | some o => rw [q] at hx; exact ⟨o, rfl, (Option.some.inj hx).symm⟩
      have hm : o ∈ rk := hperm.mem_iff.mpr (List.mem_of_getElem? ho)
      obtain ⟨j, hj1, hj2⟩ := first_ix hm
      have hra3 := s3 _ _ hra2
      have hcl : c.length ≤ i := by
        have := congrArg List.length hc
        rw [List.length_map, List.length_take] at this
        omega
      have nm : o ∉ c.map (·.1) := by
        rw [hc]
        have := take_new (f := fun x : Int => x) (by simpa using nd) ho
        simpa using this
      refine ⟨_, rfl, .inl ⟨rfl, _, SqL.of hra3⟩, _, rfl, ra, rk.map V.int, _, j, .int o, rfl, rfl, SqL.of hra3, rfl, ?_, by rw [List.getElem?_map, hj1]; rfl, ?_, fun m z' hm' hz => ?_, ?_⟩
      · rw [List.all_map]
        exact List.all_eq_true.mpr fun _ _ => rfl
      · show eqV (.int o) (.int o) = true
        simp [eqV]
      · rw [List.getElem?_map] at hz
        cases q : rk[m]? with
        | none => rw [q] at hz; cases hz
        | some y =>
          rw [q] at hz
          cases hz
          have := hj2 m y hm' q
          show eqV (.int y) (.int o) = false
          simp [eqV, this]
      -- news
      refine ⟨_, rfl, _, rfl, _, rfl, _, _, rfl, rfl, _, rfl, _, _, rfl, rfl, .inl ⟨by decide, by decide⟩, _, rfl, _, _, rfl, rfl, by show 3 ≤ sizeLine; decide, fun na hna => ?_⟩
      have s4 := same_new (o := .lst [.int o, .int (o + (d2 + 1) % 20), .int (3 * (j : Int) + (d2 + 1) % 20)]) hna
      refine ⟨_, rfl, .inl ⟨rfl, _, SqL.of upd_same⟩, _, rfl, _, _, rfl, rfl, .inl ⟨by decide, by decide⟩, _, rfl, _, _, rfl, rfl, .inl ⟨_, rfl, _, _, rfl, rfl, (by show (0 : Int) < 11; decide), na, _, _, rfl, rfl, upd_same, by show 3 < sizeLine; rw [sizeLine_eq]; decide, ?_⟩⟩
      have nt : t ≠ na := ne_of_none ht3 hna
      obtain ⟨mj, hmj, hmjl⟩ : ∃ m : Nat, (d1 + 1) % 4 = (m : Int) ∧ m < 4 := ⟨((d1 + 1) % 4).toNat, by omega, by omega⟩
      obtain ⟨v, hv, hvv⟩ : ∃ v : Int, ([V.int o, .int (o + (d2 + 1) % 20), .int (3 * (j : Int) + (d2 + 1) % 20)] ++ [V.int ((7 * (j : Int) + (d2 + 1) % 20) % 11)])[mj]? = some (.int v) ∧ v = valC (mj : Int) ((d2 + 1) % 20) o j := by
        match mj, hmjl with
        | 0, _ => exact ⟨_, rfl, rfl⟩
        | 1, _ => exact ⟨_, rfl, rfl⟩
        | 2, _ => exact ⟨_, rfl, rfl⟩
        | 3, _ => exact ⟨_, rfl, rfl⟩
      refine ⟨_, rfl, _, rfl, na, _, _, .int v, rfl, rfl, SqL.of upd_same, by rw [hmj]; exact atI_nat hv, _, rfl, _, rfl, t, _, rfl, DPut.k (k := Sum.inl o) (by rw [upd_ne nt, upd_ne nt]; exact ht3) (small1000 (by unfold cK; rw [List.length_map]; have := (List.getElem?_eq_some_iff.mp ho).1; omega)), ?_⟩
      rw [cK_snoc (e := (o, v)) nm]
      have rkl : rk.length = olds.length := hperm.length_eq
      have jl : j < 11 := by have := (List.getElem?_eq_some_iff.mp hj1).1; omega
      refine ⟨_, _, _, c ++ [(o, v)], rfl, fun b o' e => ?_, upd_same, ?_, fun e he => ?_, ?_⟩
      · have h1 := s3 b o' e
        rw [upd_ne (ne_of_none e ht), upd_ne (ne_of_none h1 hna), upd_ne (ne_of_none h1 hna)]
        exact h1
      · rw [List.map_append, hc, List.take_add_one, ho]
        rfl
      · rcases List.mem_append.mp he with h | h
        · exact hval e h
        · rw [List.mem_singleton.mp h]
          exact ⟨j, hj1, by rw [hmj]; exact hvv⟩
      · rw [List.map_append]
        refine List.nodup_append.mpr ⟨hnd, List.nodup_cons.mpr ⟨by simp, List.nodup_nil⟩, fun x hx y hy e => ?_⟩
        obtain ⟨e0, he0, rfl⟩ := List.mem_map.mp hx
        have hy : y = v := List.mem_singleton.mp hy
        obtain ⟨j0, hj0, hv0⟩ := hval e0 he0
        have j0l : j0 < 11 := by have := (List.getElem?_eq_some_iff.mp hj0).1; omega
        have : e0.1 = o := valC_inj (by rw [← hv0, e, hy, hvv, hmj]) j0l jl (fun z => by rw [z, hj1] at hj0; exact (Option.some.inj hj0).symm)
        exact nm (this ▸ List.mem_map.mpr ⟨e0, he0, rfl⟩)
    · rintro σ H3 ⟨v6, v7, v8, c, rfl, s3, ht3, hc, hval, hnd⟩
      rw [List.length_map, List.take_length] at hc
      exact ⟨_, rfl, k t c H3 t0 ht3 hc hnd (hp2.same s3) (kpA.trans' s3)⟩
def spTwoBooks : Sp := fun vs H Q _ => ∃ (P0 : Addr) (n : Nat), vs = [.ref P0, .int n] ∧ PoolP H P0 ∧ n ≤ 8 ∧
  ∀ (q t1 t2 t3 : Addr) (c1 c2 : List Pr) (H' : Hp), H' q = some (.tup [.ref t1, .ref t2, .ref t3]) → H' t1 = some (.dK (cK c1)) → H' t2 = some (.dK (cK c2)) → H' t3 = some (.dK (cK (led c1 c2))) → H t1 = none → H t2 = none → H t3 = none →
    (c1.map (·.1)).Nodup → (c2.map (·.1)).Nodup → (∀ e ∈ c1, e.2 ∈ c2.map (·.1)) → c1.length ≤ 30 → c2.length ≤ 30 → PoolP H' P0 → Kp (isP P0) H H' → Q (.ref q) H'
theorem ok_law_two_books (T : Tx K mg A D) : FnOk P w K mg base CX0 8 A.f_law_two_books D.f_law_two_books ["_law_pool", "_law_many"] spTwoBooks := by
  refine T.F_law_two_books.ok sc_law_two_books (fun vs H Q E h => ?_) (fun cdv A' outer s H vs Q E hr h => ?_)
  · obtain ⟨P0, n, rfl, _⟩ := h
    rfl
  · obtain ⟨P0, n, rfl, hp, hn, k⟩ := h
    have hu := hu_of hr
    refine ⟨_, ((pss_cons (ps_set (i := 2) sc_law_two_books.nd rfl (by first | exact Or.inl rfl | exact Or.inr rfl) (pe_call (ok_law_olds T) (hr.mono (by decide)) (by rfl) T.m_law_olds T.F_law_olds.kp (b_law_olds T) .nil pass0 (pa_cons (pv 0) (pa_cons (pv 1) (pa_cons (pe_un un_neg pe_int) pa_nil)))))
      (pss_cons (ps_set (i := 3) sc_law_two_books.nd rfl (by first | exact Or.inl rfl | exact Or.inr rfl) (pe_call (ok_law_codes T) (hr.mono (by decide)) (by rfl) T.m_law_codes T.F_law_codes.kp (b_law_codes T) .nil pass0 (pa_cons (pv 0) (pa_cons (pv 2) pa_nil))))
      (pss_cons (ps_setLc (i := 4) (own := [("_law_old", 7)]) (g := (gName 7)) rfl sc_law_two_books.nd rfl rfl (sw_true rfl rfl rfl (by decide +kernel)) (pi_list (pv 2)) (blkOk_by (own := [("_law_old", 7)]) (N := ["_law_pool", "_law_many", "_law_olds_here", "_law_first", "_law_news", "_law_more", "_law_second", "_law_old"]) (sc := defScope s_law_two_books) (by decide +kernel)) (fun _ _ _ _ _ => (pg_name (i := 7) sc_law_two_books.nd rfl (by first | exact Or.inl rfl | exact Or.inr rfl))) (fun _ _ _ _ _ => pts_nil) (fun _ _ _ _ _ => (pe_dget hu (pv 3) (pv 7) (fun _ _ => rfl))))
      (pss_cons (ps_set (i := 5) sc_law_two_books.nd rfl (by first | exact Or.inl rfl | exact Or.inr rfl) (pe_call (ok_law_olds T) (hr.mono (by decide)) (by rfl) T.m_law_olds T.F_law_olds.kp (b_law_olds T) .nil pass0 (pa_cons (pv 0) (pa_cons (pe_call (ok_law_draw T) (hr.mono (by decide)) (by rfl) T.m_law_draw T.F_law_draw.kp (b_law_draw T) .nil pass0 (pa_cons (pv 0) (pa_cons pe_int pa_nil))) (pa_cons (pe_callB (cr_max rfl) (by rfl) T.b_max (by decide +kernel) (pa_cons (pe_op op_cat (pv 4) (pe_lst (pa_cons pe_int pa_nil))) pa_nil)) pa_nil)))))
      (pss_cons (ps_set (i := 6) sc_law_two_books.nd rfl (by first | exact Or.inl rfl | exact Or.inr rfl) (pe_call (ok_law_codes T) (hr.mono (by decide)) (by rfl) T.m_law_codes T.F_law_codes.kp (b_law_codes T) .nil pass0 (pa_cons (pv 0) (pa_cons (pe_op op_cat (pv 4) (pv 5)) pa_nil))))
      (pss_one (ps_ret (pe_tup (pa_cons (pv 3) (pa_cons (pv 6) (pa_cons (pe_call (ok_law_led T) (hr.mono (by decide)) (by rfl) T.m_law_led T.F_law_led.kp (b_law_led T) .nil pass0 (pa_cons (pv 3) (pa_cons (pv 6) pa_nil))) pa_nil)))))))))))), ?_⟩
    refine ⟨_, rfl, _, rfl, 1, rfl, P0, n, -1, rfl, hp, by omega, fun oa olds H1 f1 g1 nd1 l1 _ hp1 kp1 => ?_⟩
    have noP := pool_ne hp f1
    refine ⟨_, rfl, _, rfl, P0, oa, olds, rfl, hp1, g1, noP, nd1, by omega, fun t1 c1 H2 f2 g2 hc1 hnd1 hp2 kp2 => ?_⟩
    have ntP := pool_ne hp1 f2
    have kpA := kp1.of kp2
    have t10 := pool_fr kp1 hp1 f2
    have goa2 := kp2 _ _ g1 noP
    have c1l : c1.length = olds.length := by have := congrArg List.length hc1; rwa [List.length_map] at this
    have nd1' : (c1.map (·.1)).Nodup := by rw [hc1]; exact nd1
    -- news
    refine ⟨_, rfl, oa, rfl, ⟨_, SqL.of goa2⟩, fun na hna => lc_it (walk_list (K := K) (a := oa) (xs := olds.map V.int)) (fun i H3 => Same H2 H3 ∧ H3 na = some (.lst (((c1.take i).map (·.2)).map V.int))) ⟨same_new hna, upd_same⟩ (fun i H3 _ h => SqL.of (h.1 _ _ goa2)) ?_ ?_⟩
    · rintro i x H3 H4 hi ⟨s3, hD3⟩ ⟨rfl, hx⟩
      rw [List.length_map] at hi
      have hi2 : i < c1.length := by omega
      have he : c1[i]? = some c1[i] := List.getElem?_eq_getElem hi2
      have ho : olds[i]? = some c1[i].1 := by rw [← hc1, List.getElem?_map, he]; rfl
      rw [List.getElem?_map, ho] at hx
      cases hx
      refine ⟨rfl, ?_⟩
      refine iteT (B := True) ?_
      refine iteT ?_
      refine ⟨_, rfl, _, rfl, t1, _, rfl, dget_i (s3 _ _ g2) (cK_at nd1' (List.mem_of_getElem? he)), _, hD3, ?_, fun b o e => ?_, ?_⟩
      · rw [List.length_map, List.length_map, List.length_take, sizeLine_eq]; omega
      · rw [upd_ne (ne_of_none e hna)]
        exact s3 b o e
      · rw [upd_same, List.take_add_one, he, List.map_append, List.map_append]
        rfl
    rintro H3 ⟨s3, hna3⟩
    rw [List.length_map, ← c1l, List.take_length] at hna3
    have nnP := pool_ne hp2 hna
    have hp3 := hp2.same s3
    have kpB := kpA.trans' s3
    have na0 := pool_fr kpA hp2 hna
    -- more
    refine ⟨_, rfl, _, rfl, P0, 3, rfl, hp3, by decide, by decide, fun d H4 d0 d1 hp4 kp4 => ?_⟩
    obtain ⟨d, rfl⟩ : ∃ m : Nat, d = (m : Int) := ⟨d.toNat, by omega⟩
    have hna4 := kp4 _ _ hna3 nnP
    refine ⟨_, rfl, by show 1 ≤ sizeLine; decide, fun z0 hz0 => ⟨na, z0, _, _, rfl, rfl, (same_new hz0) _ _ hna4, upd_same, by rw [List.length_map, List.length_map, List.length_singleton, sizeLine_eq]; omega, fun z1 hz1 => ?_⟩⟩
    have s5 := (same_new (o := .lst [.int 0]) hz0).trans (same_new (o := .lst ((c1.map (·.2)).map V.int ++ [.int 0])) hz1)
    refine ⟨z1, c1.map (·.2) ++ [0], rfl, SqL.of (by rw [upd_same, List.map_append]; rfl), by rw [List.length_append, List.length_singleton]; omega, fun mx hmx hle => ?_⟩
    have hp5 := hp4.same s5
    refine ⟨P0, d, mx, rfl, hp5, by omega, fun ma olds2 H6 f6 g6 nd6 l6 gt6 hp6 kp6 => ?_⟩
    have nmP := pool_ne hp5 f6
    have kpC : Kp (isP P0) H _ := ((kpB.of kp4).trans' s5).of kp6
    have ma0 := pool_fr ((kpB.of kp4).trans' s5) hp5 f6
    have hna6 := kp6 _ _ (s5 _ _ hna4) nnP
    have ht16 := kp6 _ _ (s5 _ _ (kp4 _ _ (s3 _ _ g2) ntP)) ntP
    -- second
    refine ⟨_, rfl, _, rfl, _, rfl, na, ma, _, _, rfl, rfl, hna6, g6, by rw [List.length_map, List.length_map, List.length_map, sizeLine_eq]; omega, fun z2 hz2 => ?_⟩
    have s7 := same_new (o := .lst ((c1.map (·.2)).map V.int ++ olds2.map V.int)) hz2
    have nd7 : (c1.map (·.2) ++ olds2).Nodup := List.nodup_append.mpr ⟨hnd1, nd6, fun x hx y hy e => by
      have := hle x (List.mem_append_left _ hx)
      have := gt6 y hy
      omega⟩
    refine ⟨P0, z2, c1.map (·.2) ++ olds2, rfl, hp6.same s7, by rw [upd_same, List.map_append], pool_ne hp6 hz2, nd7, by rw [List.length_append, List.length_map]; omega, fun t2 c2 H8 f8 g8 hc2 _ hp8 kp8 => ?_⟩
    have ht18 := kp8 _ _ (s7 _ _ ht16) ntP
    have n12 : t1 ≠ t2 := fun z => by
      have := s7 _ _ ht16
      rw [z, f8] at this
      cases this
    have t20 := pool_fr (kpC.trans' s7) (hp6.same s7) f8
    have hin : ∀ e ∈ c1, e.2 ∈ c2.map (·.1) := fun e he => by
      rw [hc2]
      exact List.mem_append_left _ (List.mem_map.mpr ⟨e, he, rfl⟩)
    have kpD := (kpC.trans' s7).of kp8
    have nd8 : (c2.map (·.1)).Nodup := by rw [hc2]; exact nd7
    have c2l : c2.length ≤ 30 := by
      have := congrArg List.length hc2
      rw [List.length_map, List.length_append, List.length_map] at this
      omega
    refine ⟨_, rfl, _, rfl, _, rfl, _, rfl, t1, t2, c1, c2, rfl, ht18, g8, n12, nd1', nd8, hin, by omega, fun t3 H9 f9 g9 s9 => ⟨by show 3 ≤ sizeLine; decide, fun q hq => ?_⟩⟩
    have sq := s9.trans (same_new (o := .tup [.ref t1, .ref t2, .ref t3]) hq)
    exact k q t1 t2 t3 c1 c2 _ upd_same (sq _ _ ht18) (sq _ _ g8) ((same_new hq) _ _ g9) t10 t20 (pool_fr kpD hp8 f9) nd1' nd8 hin (by omega) c2l (hp8.same sq) (kpD.trans' sq)
end
end L2.Cd

namespace L2.Cd
open PySem PySem.Spec PyProof.Rows L2.Ex
/-! ## what the law draws -/
abbrev TR := Str × (Addr × Addr × Addr) × (List (Option Int) × List (Option Int))
abbrev BR := Str × (Addr × Addr × Addr) × (List Pr × List Pr)
def rO (j : Nat) (t : TR) : Rw := if j = 0 then (t.1, t.2.1.1, t.2.2.1) else if j = 1 then (t.1, t.2.1.2.1, t.2.2.2) else (t.1, t.2.1.2.2, through t.2.2.1 t.2.2.2)
def bO (j : Nat) (t : BR) : Bk := if j = 0 then (t.1, t.2.1.1, t.2.2.1) else if j = 1 then (t.1, t.2.1.2.1, t.2.2.2) else (t.1, t.2.1.2.2, led t.2.2.1 t.2.2.2)
structure TOk (t : TR) : Prop where
  ok : RowOk t.2.2.1 t.2.2.2.length
  l1 : t.2.2.1.length ≤ 30
  l2 : t.2.2.2.length ≤ 30
structure BOk (t : BR) : Prop where
  n1 : (t.2.2.1.map (·.1)).Nodup
  n2 : (t.2.2.2.map (·.1)).Nodup
  ok : ∀ e ∈ t.2.2.1, e.2 ∈ t.2.2.2.map (·.1)
  l1 : t.2.2.1.length ≤ 30
  l2 : t.2.2.2.length ≤ 30
theorem rO_fst {j : Nat} {t : TR} : (rO j t).1 = t.1 := by unfold rO; split <;> (try split) <;> rfl
theorem bO_fst {j : Nat} {t : BR} : (bO j t).1 = t.1 := by unfold bO; split <;> (try split) <;> rfl
theorem rO_len {j : Nat} {t : TR} (h : TOk t) : (rO j t).2.2.length ≤ 30 := by
  unfold rO
  split
  · exact h.l1
  split
  · exact h.l2
  · show (through t.2.2.1 t.2.2.2).length ≤ 30
    unfold through
    rw [List.length_map]
    exact h.l1
theorem bO_len {j : Nat} {t : BR} (h : BOk t) : (bO j t).2.2.length ≤ 30 := by
  unfold bO
  split
  · exact h.l1
  split
  · exact h.l2
  · show (led t.2.2.1 t.2.2.2).length ≤ 30
    unfold led
    rw [List.length_map]
    exact h.l1
theorem bO_nd {j : Nat} {t : BR} (h : BOk t) : ((bO j t).2.2.map (·.1)).Nodup := by
  unfold bO
  split
  · exact h.n1
  split
  · exact h.n2
  · show ((led t.2.2.1 t.2.2.2).map (·.1)).Nodup
    rw [led_fst]
    exact h.n1
theorem rO_names {j : Nat} {tr : List TR} : (tr.map (rO j)).map (·.1) = tr.map (·.1) := by
  rw [List.map_map]
  exact List.map_congr_left fun t _ => rO_fst
theorem bO_names {j : Nat} {tr : List BR} : (tr.map (bO j)).map (·.1) = tr.map (·.1) := by
  rw [List.map_map]
  exact List.map_congr_left fun t _ => bO_fst
/-- the three dicts of rows at d 0, d 1, d 2 -/
structure RSt (H : Hp) (d : Nat → Addr) (tr : List TR) : Prop where
  dk : ∀ j, j < 3 → H (d j) = some (.dK (rowK (tr.map (rO j))))
  ro : ∀ j, j < 3 → ∀ t ∈ tr, H (rO j t).2.1 = some (.lst ((rO j t).2.2.map oi))
  ok : ∀ t ∈ tr, TOk t
structure BSt (H : Hp) (d : Nat → Addr) (tr : List BR) : Prop where
  dk : ∀ j, j < 3 → H (d j) = some (.dK (bkK (tr.map (bO j))))
  ro : ∀ j, j < 3 → ∀ t ∈ tr, H (bO j t).2.1 = some (.dK (cK (bO j t).2.2))
  ok : ∀ t ∈ tr, BOk t
theorem RSt.same {H H' : Hp} {d : Nat → Addr} {tr : List TR} (h : RSt H d tr) (s : Same H H') : RSt H' d tr := ⟨fun j hj => s _ _ (h.dk j hj), fun j hj t ht => s _ _ (h.ro j hj t ht), h.ok⟩
theorem BSt.same {H H' : Hp} {d : Nat → Addr} {tr : List BR} (h : BSt H d tr) (s : Same H H') : BSt H' d tr := ⟨fun j hj => s _ _ (h.dk j hj), fun j hj t ht => s _ _ (h.ro j hj t ht), h.ok⟩
theorem RSt.kp {H H' : Hp} {P0 : Addr} {d : Nat → Addr} {tr : List TR} {ns : List Int} (h : RSt H d tr) (hp : H P0 = some (.lst (ns.map V.int))) (s : Kp (isP P0) H H') (n : ∀ j, j < 3 → ∀ t ∈ tr, (rO j t).2.1 ≠ P0) : RSt H' d tr :=
  ⟨fun j hj => s _ _ (h.dk j hj) (ne_of (h.dk j hj) hp (fun z => by cases z)), fun j hj t ht => s _ _ (h.ro j hj t ht) (n j hj t ht), h.ok⟩
theorem BSt.kp {H H' : Hp} {P0 : Addr} {d : Nat → Addr} {tr : List BR} {ns : List Int} (h : BSt H d tr) (hp : H P0 = some (.lst (ns.map V.int))) (s : Kp (isP P0) H H') : BSt H' d tr :=
  ⟨fun j hj => s _ _ (h.dk j hj) (ne_of (h.dk j hj) hp (fun z => by cases z)), fun j hj t ht => s _ _ (h.ro j hj t ht) (ne_of (h.ro j hj t ht) hp (fun z => by cases z)), h.ok⟩
theorem DueAt.of {H : Hp} {d e : Nat → Addr} {tr : List TR} {br : List BR} (h : RSt H d tr) (g : BSt H e br) {j : Nat} (hj : j < 3) : DueAt H (d j) (e j) (tr.map (rO j)) (br.map (bO j)) := by
  refine ⟨h.dk j hj, g.dk j hj, fun r hr => ?_, fun r hr => ?_⟩
  · obtain ⟨t, ht, rfl⟩ := List.mem_map.mp hr
    exact h.ro j hj t ht
  · obtain ⟨t, ht, rfl⟩ := List.mem_map.mp hr
    exact g.ro j hj t ht
theorem Szs.of {tr : List TR} {br : List BR} {ms : List Int} {j : Nat} (n1 : (tr.map (·.1)).Nodup) (n2 : (br.map (·.1)).Nodup) (o1 : ∀ t ∈ tr, TOk t) (o2 : ∀ t ∈ br, BOk t) (l1 : tr.length ≤ 2) (l2 : br.length ≤ 2) (l3 : ms.length ≤ 10) : Szs (tr.map (rO j)) (br.map (bO j)) ms := by
  refine ⟨by rw [rO_names]; exact n1, by rw [bO_names]; exact n2, fun b hb => ?_, ⟨fun r hr => ?_, fun r hr => ?_, by rw [List.length_map]; omega, by rw [List.length_map]; omega, by omega⟩⟩
  · obtain ⟨t, ht, rfl⟩ := List.mem_map.mp hb
    exact bO_nd (o2 t ht)
  · obtain ⟨t, ht, rfl⟩ := List.mem_map.mp hr
    have := rO_len (j := j) (o1 t ht)
    omega
  · obtain ⟨t, ht, rfl⟩ := List.mem_map.mp hr
    have := bO_len (j := j) (o2 t ht)
    omega
/-! ### a carry, in one record -/
structure CRec where
  (p pd cd m : Addr) (rs : List Rw) (bs : List Bk) (ms : List Int)
structure CRec.Ok (c : CRec) (C : Addr) (H : Hp) (tr : List TR) (br : List BR) (j : Nat) : Prop where
  at_ : CarryAt C H c.p c.pd c.cd c.m c.rs c.bs c.ms
  r : c.rs.map rdat = (tr.map (rO j)).map rdat
  b : c.bs.map bdat = (br.map (bO j)).map bdat
def CRec.fp (c : CRec) : Addr → Prop := fpC c.p c.pd c.cd c.m c.rs c.bs
theorem CRec.Ok.same {c : CRec} {C : Addr} {H H' : Hp} {tr : List TR} {br : List BR} {j : Nat} (h : c.Ok C H tr br j) (s : Same H H') : c.Ok C H' tr br j := ⟨h.at_.same s, h.r, h.b⟩
theorem rdat_mem {rs : List Rw} {tr : List TR} {j : Nat} (h : rs.map rdat = (tr.map (rO j)).map rdat) {t : TR} (ht : t ∈ tr) : ∃ r ∈ rs, r.1 = t.1 ∧ r.2.2 = (rO j t).2.2 := by
  have : rdat (rO j t) ∈ rs.map rdat := h ▸ List.mem_map.mpr ⟨_, List.mem_map.mpr ⟨t, ht, rfl⟩, rfl⟩
  obtain ⟨r, hr, e⟩ := List.mem_map.mp this
  exact ⟨r, hr, (congrArg Prod.fst e).trans rO_fst, (Prod.mk.inj (show (r.1, r.2.2) = ((rO j t).1, (rO j t).2.2) from e)).2⟩
theorem rdat_in {rs : List Rw} {tr : List TR} {j : Nat} (h : rs.map rdat = (tr.map (rO j)).map rdat) {r : Rw} (hr : r ∈ rs) : ∃ t ∈ tr, r.1 = t.1 ∧ r.2.2 = (rO j t).2.2 := by
  have : rdat r ∈ (tr.map (rO j)).map rdat := h ▸ List.mem_map.mpr ⟨r, hr, rfl⟩
  obtain ⟨r0, h0, e⟩ := List.mem_map.mp this
  obtain ⟨t, ht, rfl⟩ := List.mem_map.mp h0
  exact ⟨t, ht, (congrArg Prod.fst e).symm.trans rO_fst, (Prod.mk.inj (show ((rO j t).1, (rO j t).2.2) = (r.1, r.2.2) from e)).2.symm⟩
theorem bdat_mem {rs : List Bk} {tr : List BR} {j : Nat} (h : rs.map bdat = (tr.map (bO j)).map bdat) {t : BR} (ht : t ∈ tr) : ∃ r ∈ rs, r.1 = t.1 ∧ r.2.2 = (bO j t).2.2 := by
  have : bdat (bO j t) ∈ rs.map bdat := h ▸ List.mem_map.mpr ⟨_, List.mem_map.mpr ⟨t, ht, rfl⟩, rfl⟩
  obtain ⟨r, hr, e⟩ := List.mem_map.mp this
  exact ⟨r, hr, (congrArg Prod.fst e).trans bO_fst, (Prod.mk.inj (show (r.1, r.2.2) = ((bO j t).1, (bO j t).2.2) from e)).2⟩
theorem bdat_in {rs : List Bk} {tr : List BR} {j : Nat} (h : rs.map bdat = (tr.map (bO j)).map bdat) {r : Bk} (hr : r ∈ rs) : ∃ t ∈ tr, r.1 = t.1 ∧ r.2.2 = (bO j t).2.2 := by
  have : bdat r ∈ (tr.map (bO j)).map bdat := h ▸ List.mem_map.mpr ⟨r, hr, rfl⟩
  obtain ⟨r0, h0, e⟩ := List.mem_map.mp this
  obtain ⟨t, ht, rfl⟩ := List.mem_map.mp h0
  exact ⟨t, ht, (congrArg Prod.fst e).symm.trans bO_fst, (Prod.mk.inj (show ((bO j t).1, (bO j t).2.2) = (r.1, r.2.2) from e)).2.symm⟩
/-! ### what the sum keeps -/
theorem mem_pairs {row : List (Option Int)} {p : Pr} : p ∈ pairsOf row ↔ ∃ j : Nat, p.1 = j ∧ row[j]? = some (some p.2) := by
  unfold pairsOf pairsTo
  rw [List.mem_filterMap]
  constructor
  · rintro ⟨j, hj, e⟩
    have hj := List.mem_range.mp hj
    have h : row[j]? = some row[j] := List.getElem?_eq_getElem hj
    rw [List.getD_eq_getElem?_getD, h] at e
    cases q : row[j] with
    | none => rw [q] at e; cases e
    | some v =>
      rw [q] at e
      cases e
      exact ⟨j, rfl, by rw [h, q]⟩
  · rintro ⟨j, e, h⟩
    have hj := (List.getElem?_eq_some_iff.mp h).1
    refine ⟨j, List.mem_range.mpr hj, ?_⟩
    rw [List.getD_eq_getElem?_getD, h]
    show some ((j : Int), p.2) = some p
    rw [← e]
theorem least_rows {r1 r2 : List (Option Int)} (h : RowOk r1 r2.length) : min (keptN (pairsOf r1)) (keptN (pairsOf r2)) ≤ keptN (pairsOf (through r1 r2)) := by
  refine least_of fun r hr => ?_
  obtain ⟨j, e, hj⟩ := mem_pairs.mp hr
  unfold through at hj
  rw [List.getElem?_map] at hj
  cases q : r1[j]? with
  | none => rw [q] at hj; cases hj
  | some o =>
    rw [q] at hj
    cases o with
    | none => cases hj
    | some v =>
      have hj : r2.getD v.toNat none = some r.2 := Option.some.inj hj
      obtain ⟨v0, v1⟩ := h v (List.mem_of_getElem? q)
      have hl : v.toNat < r2.length := by omega
      rw [List.getD_eq_getElem?_getD, List.getElem?_eq_getElem hl] at hj
      refine ⟨((j : Int), v), mem_pairs.mpr ⟨j, rfl, q⟩, (v, r.2), mem_pairs.mpr ⟨v.toNat, by show v = _; omega, ?_⟩, e.symm, rfl, rfl⟩
      rw [List.getElem?_eq_getElem hl]
      exact congrArg some hj
theorem least_codes {c1 c2 : List Pr} (h : ∀ e ∈ c1, e.2 ∈ c2.map (·.1)) : min (keptN c1) (keptN c2) ≤ keptN (led c1 c2) := by
  refine least_of fun r hr => ?_
  unfold led at hr
  obtain ⟨e, he, rfl⟩ := List.mem_map.mp hr
  exact ⟨e, he, _, lookC_mem (h e he), rfl, rfl, rfl⟩
end L2.Cd

namespace L2.Cd
open PySem PySem.Spec PyProof.Rows L2.Ex
section
variable {P : Program} {w : World} {K : PySem.W.Frag} {mg : Str → Option Value} {base : Heap} {A : Ad} {D : Fd}
def sp_law (K : PySem.W.Frag) : Sp := fun vs H Q _ => ∃ (a : Addr) (ns : List Int), vs = [.ref a] ∧ SqL K H a (ns.map V.int) ∧ ns.length ≤ 63 ∧ ∀ H', Q (.bl true) H'
def three (a b c : Addr) (j : Nat) : Addr := if j = 0 then a else if j = 1 then b else c
theorem three_ix {H : Hp} {R a b c : Addr} {j : Nat} (h : H R = some (.lst [.ref a, .ref b, .ref c])) (hj : j < 3) : [V.ref a, V.ref b, V.ref c][j]? = some (.ref (three a b c j)) := by
  match j, hj with
  | 0, _ => rfl
  | 1, _ => rfl
  | 2, _ => rfl
theorem three_at {a b c : Addr} {j : Nat} (hj : j < 3) : [V.ref a, V.ref b, V.ref c][j]? = some (.ref (three a b c j)) := by
  match j, hj with
  | 0, _ => rfl
  | 1, _ => rfl
  | 2, _ => rfl
theorem rO_ad {j : Nat} {x : Str} {a b c : Addr} {r : List (Option Int) × List (Option Int)} (hj : j < 3) : (rO j (x, (a, b, c), r)).2.1 = three a b c j := by
  match j, hj with
  | 0, _ => rfl
  | 1, _ => rfl
  | 2, _ => rfl
theorem bO_ad {j : Nat} {x : Str} {a b c : Addr} {r : List Pr × List Pr} (hj : j < 3) : (bO j (x, (a, b, c), r)).2.1 = three a b c j := by
  match j, hj with
  | 0, _ => rfl
  | 1, _ => rfl
  | 2, _ => rfl
/-- the law's own state -/
structure LS (H : Hp) (P0 na ba R Tb : Addr) (d e : Nat → Addr) (ns bs : List Str) (tr : List TR) (br : List BR) : Prop where
  po : PoolP H P0
  hna : H na = some (.lst (ns.map V.str))
  hba : H ba = some (.lst (bs.map V.str))
  hR : H R = some (.lst [.ref (d 0), .ref (d 1), .ref (d 2)])
  hT : H Tb = some (.lst [.ref (e 0), .ref (e 1), .ref (e 2)])
  rs : RSt H d tr
  bs : BSt H e br
/-- what stands still -/
structure LN (P0 na ba R Tb : Addr) (d e : Nat → Addr) : Prop where
  (p1 : na ≠ P0) (p2 : ba ≠ P0) (p3 : R ≠ P0) (p4 : Tb ≠ P0)
  dd : ∀ i j, i < 3 → j < 3 → i ≠ j → d i ≠ d j
  ee : ∀ i j, i < 3 → j < 3 → i ≠ j → e i ≠ e j
  de : ∀ i j, i < 3 → j < 3 → d i ≠ e j
theorem LS.same {H H' : Hp} {P0 na ba R Tb : Addr} {d e : Nat → Addr} {ns bs : List Str} {tr : List TR} {br : List BR} (h : LS H P0 na ba R Tb d e ns bs tr br) (s : Same H H') : LS H' P0 na ba R Tb d e ns bs tr br :=
  ⟨h.po.same s, s _ _ h.hna, s _ _ h.hba, s _ _ h.hR, s _ _ h.hT, h.rs.same s, h.bs.same s⟩
theorem LS.kp {H H' : Hp} {P0 na ba R Tb : Addr} {d e : Nat → Addr} {ns bs : List Str} {tr : List TR} {br : List BR} (h : LS H P0 na ba R Tb d e ns bs tr br) (n : LN P0 na ba R Tb d e) (m : ∀ j, j < 3 → ∀ t ∈ tr, (rO j t).2.1 ≠ P0) (hp : PoolP H' P0) (s : Kp (isP P0) H H') : LS H' P0 na ba R Tb d e ns bs tr br := by
  obtain ⟨zs, hz, _⟩ := h.po
  exact ⟨hp, s _ _ h.hna n.p1, s _ _ h.hba n.p2, s _ _ h.hR n.p3, s _ _ h.hT n.p4, h.rs.kp hz s m, h.bs.kp hz s⟩
theorem CarryAt.kind {C : Addr} {H : Hp} {p pd cd m : Addr} {rs : List Rw} {bs : List Bk} {ms : List Int} (h : CarryAt C H p pd cd m rs bs ms) {x : Addr} {xs : List V} (e : H x = some (.lst xs)) : ¬ fpC p pd cd m rs bs x := by
  obtain ⟨dx, ob⟩ := h.ob
  rintro (z | z | z | z | ⟨r, hr, z⟩ | ⟨r, hr, z⟩)
  · rw [z, ob] at e; cases e
  · rw [z, h.hp] at e; cases e
  · rw [z, h.hc] at e; cases e
  · rw [z, h.hm] at e; cases e
  · rw [z, h.row r hr] at e; cases e
  · rw [z, h.bk r hr] at e; cases e
theorem CRec.Ok.kp {c : CRec} {C P0 : Addr} {H H' : Hp} {tr : List TR} {br : List BR} {j : Nat} (h : c.Ok C H tr br j) (hp : PoolP H P0) (s : Kp (isP P0) H H') : c.Ok C H' tr br j := by
  obtain ⟨zs, hz, _⟩ := hp
  exact ⟨h.at_.keep fun b o hb e => s b o e fun z => h.at_.kind hz (by rw [← (z : b = P0)]; exact hb), h.r, h.b⟩
theorem CRec.Ok.put {c : CRec} {C Ma : Addr} {H : Hp} {tr : List TR} {br : List BR} {j : Nat} {xs : List V} {u : HO} (h : c.Ok C H tr br j) (hM : H Ma = some (.lst xs)) : c.Ok C (upd H Ma u) tr br j := ⟨h.at_.lock (h.at_.kind hM), h.r, h.b⟩
/-- a carry's places are none of the law's dicts -/
structure Apt (c : CRec) (d e : Nat → Addr) (br : List BR) : Prop where
  d : ∀ j, j < 3 → ¬ c.fp (d j)
  e : ∀ j, j < 3 → ¬ c.fp (e j)
  b : ∀ j, j < 3 → ∀ t ∈ br, ¬ c.fp (bO j t).2.1
theorem Apt.of {c : CRec} {H : Hp} {d e : Nat → Addr} {tr : List TR} {br : List BR} (r : RSt H d tr) (b : BSt H e br) (h : ∀ x, c.fp x → NewT H x) : Apt c d e br :=
  ⟨fun j hj z => newT_ne (h _ z) (r.dk j hj) (fun _ z => by cases z), fun j hj z => newT_ne (h _ z) (b.dk j hj) (fun _ z => by cases z), fun j hj t ht z => newT_ne (h _ z) (b.ro j hj t ht) (fun _ z => by cases z)⟩
theorem find_nd {α : Type} {β : Type} (f : α → Str) (g : α → β) (z : β) : ∀ {l : List α}, (l.map f).Nodup → ∀ t ∈ l, ((l.find? fun u => decide (f u = f t)).map g).getD z = g t
  | [], _, t, h => by cases h
  | u :: r, nd, t, h => by
    rw [List.map_cons] at nd
    obtain ⟨h1, h2⟩ := List.nodup_cons.mp nd
    by_cases q : f u = f t
    · rw [List.find?_cons_of_pos (by simpa using q)]
      rcases List.mem_cons.mp h with rfl | h
      · rfl
      · exact absurd (q ▸ List.mem_map.mpr ⟨t, h, rfl⟩) h1
    · rw [List.find?_cons_of_neg (by simpa using q)]
      rcases List.mem_cons.mp h with rfl | h
      · exact absurd rfl q
      · exact find_nd f g z h2 t h
def fR (tr : List TR) (x : Str) : List (Option Int) := ((tr.find? fun u => decide (u.1 = x)).map fun t => t.2.2.2).getD []
def fC (br : List BR) (x : Str) : List Pr := ((br.find? fun u => decide (u.1 = x)).map fun t => t.2.2.2).getD []
theorem kit_self {K : PySem.W.Frag} {C : Addr} : PySem.W.kitOne K (.ref C) (.ref C) = some true := by
  unfold PySem.W.kitOne
  rw [if_pos (by simp)]
/-- two names, none of them "zz" -/
structure Nm2 (n1 n2 : Str) : Prop where
  ne : n1 ≠ n2
  z1 : n1 ≠ "zz"
  z2 : n2 ≠ "zz"
theorem ok_law (T : Tx K mg A D) : GnOk P w K mg base CX0 (59 + 1) A.f_law D.f_law ["_law_script"] (sp_law K) := by
  refine gn_ok T.F_law sc_law (fun vs H Q E h => ?_) (fun cdv A' outer s H vs Q E gd hr h => ?_)
  · obtain ⟨a, ns, rfl, _⟩ := h
    rfl
  · obtain ⟨a, ns0, rfl, hS, hN, kQ⟩ := h
    have hu := hu_of hr
    refine ⟨_, ((pss_cons (ps_set (i := 1) sc_law.nd rfl (by first | exact Or.inl rfl | exact Or.inr rfl) (pe_call (ok_law_digits T) (hr.mono (by decide)) (by rfl) T.m_law_digits T.F_law_digits.kp (b_law_digits T) .nil pass0 (pa_cons (pv 0) pa_nil)))
      (pss_cons (ps_set (i := 2) sc_law.nd rfl (by first | exact Or.inl rfl | exact Or.inr rfl) (pe_ix ix_list (pe_lst (pa_cons (pe_lst (pa_cons pe_str (pa_cons pe_str pa_nil))) (pa_cons (pe_lst (pa_cons pe_str (pa_cons pe_str pa_nil))) pa_nil))) (pe_call (ok_law_draw T) (hr.mono (by decide)) (by rfl) T.m_law_draw T.F_law_draw.kp (b_law_draw T) .nil pass0 (pa_cons (pv 1) (pa_cons pe_int pa_nil))) (fun _ _ => rfl)))
      (pss_cons (ps_set (i := 3) sc_law.nd rfl (by first | exact Or.inl rfl | exact Or.inr rfl) (pe_ix ix_list (pe_lst (pa_cons (pe_lst (pa_cons pe_str (pa_cons pe_str pa_nil))) (pa_cons (pe_lst (pa_cons pe_str (pa_cons pe_str pa_nil))) pa_nil))) (pe_call (ok_law_draw T) (hr.mono (by decide)) (by rfl) T.m_law_draw T.F_law_draw.kp (b_law_draw T) .nil pass0 (pa_cons (pv 1) (pa_cons pe_int pa_nil))) (fun _ _ => rfl)))
      (pss_cons (ps_set (i := 4) sc_law.nd rfl (by first | exact Or.inl rfl | exact Or.inr rfl) (pe_lst (pa_cons pe_dnewK (pa_cons pe_dnewK (pa_cons pe_dnewK pa_nil)))))
      (pss_cons (ps_set (i := 5) sc_law.nd rfl (by first | exact Or.inl rfl | exact Or.inr rfl) (pe_lst (pa_cons pe_dnewK (pa_cons pe_dnewK (pa_cons pe_dnewK pa_nil)))))
      (pss_cons (ps_for PassesOwn.never rfl (pi_list (pv 2)) (pg_name (i := 6) sc_law.nd rfl (by first | exact Or.inl rfl | exact Or.inr rfl)) (pss_cons (ps_set (i := 7) sc_law.nd rfl (by first | exact Or.inl rfl | exact Or.inr rfl) (pe_call (ok_law_two_rows T) (hr.mono (by decide)) (by rfl) T.m_law_two_rows T.F_law_two_rows.kp (b_law_two_rows T) .nil pass0 (pa_cons (pv 1) (pa_cons (pe_op op_mod (pe_callTy call_int1 (by rfl) T.b_int (by decide +kernel) (pa_cons (pe_op op_add (pe_call (ok_law_draw T) (hr.mono (by decide)) (by rfl) T.m_law_draw T.F_law_draw.kp (b_law_draw T) .nil pass0 (pa_cons (pv 1) (pa_cons pe_int pa_nil))) pe_int) pa_nil)) pe_int) pa_nil))))
      (pss_one (ps_for PassesOwn.never rfl (pi_range1 (by rfl) T.b_range (pa_cons pe_int pa_nil)) (pg_name (i := 8) sc_law.nd rfl (by first | exact Or.inl rfl | exact Or.inr rfl)) (pss_one (ps_dput hu (pe_ix ix_list (pv 4) (pv 8) (fun _ _ => rfl)) (pv 6) (pe_ix ix_tup (pv 7) (pv 8) (fun _ _ => rfl)) rfl))))))
      (pss_cons (ps_for PassesOwn.never rfl (pi_list (pv 3)) (pg_name (i := 6) sc_law.nd rfl (by first | exact Or.inl rfl | exact Or.inr rfl)) (pss_cons (ps_set (i := 7) sc_law.nd rfl (by first | exact Or.inl rfl | exact Or.inr rfl) (pe_call (ok_law_two_books T) (hr.mono (by decide)) (by rfl) T.m_law_two_books T.F_law_two_books.kp (b_law_two_books T) .nil pass0 (pa_cons (pv 1) (pa_cons (pe_op op_mod (pe_callTy call_int1 (by rfl) T.b_int (by decide +kernel) (pa_cons (pe_op op_add (pe_call (ok_law_draw T) (hr.mono (by decide)) (by rfl) T.m_law_draw T.F_law_draw.kp (b_law_draw T) .nil pass0 (pa_cons (pv 1) (pa_cons pe_int pa_nil))) pe_int) pa_nil)) pe_int) pa_nil))))
      (pss_one (ps_for PassesOwn.never rfl (pi_range1 (by rfl) T.b_range (pa_cons pe_int pa_nil)) (pg_name (i := 8) sc_law.nd rfl (by first | exact Or.inl rfl | exact Or.inr rfl)) (pss_one (ps_dput hu (pe_ix ix_list (pv 5) (pv 8) (fun _ _ => rfl)) (pv 6) (pe_ix ix_tup (pv 7) (pv 8) (fun _ _ => rfl)) rfl))))))
      (pss_cons (ps_set (i := 9) sc_law.nd rfl (by first | exact Or.inl rfl | exact Or.inr rfl) (pe_cmpR op_eq (pe_call (ok_law_draw T) (hr.mono (by decide)) (by rfl) T.m_law_draw T.F_law_draw.kp (b_law_draw T) .nil pass0 (pa_cons (pv 1) (pa_cons pe_int pa_nil))) pe_int (nomark _)))
      (pss_cons (ps_set (i := 10) sc_law.nd rfl (by first | exact Or.inl rfl | exact Or.inr rfl) (pe_lst pa_nil))
      (pss_cons (ps_for PassesOwn.never rfl (pi_range1 (by rfl) T.b_range (pa_cons pe_int pa_nil)) (pg_name (i := 8) sc_law.nd rfl (by first | exact Or.inl rfl | exact Or.inr rfl)) (pss_cons (ps_set (i := 11) sc_law.nd rfl (by first | exact Or.inl rfl | exact Or.inr rfl) (pe_call (ok_law_moments T) (hr.mono (by decide)) (by rfl) T.m_law_moments T.F_law_moments.kp (b_law_moments T) .nil pass0 (pa_cons (pv 1) pa_nil)))
      (pss_cons (ps_expr (pe_bm PySem.F.plainAttrs_list PySem.F.slot_list_append PySem.F.type_list_append mt_append (pv 10) (pa_cons (pe_call (ok_law_made T) (hr.mono (by decide)) (by rfl) T.m_law_made T.F_law_made.kp (b_law_made T) .nil pass0 (pa_cons (pe_ix ix_list (pv 4) (pv 8) (fun _ _ => rfl)) (pa_cons (pe_ix ix_list (pv 5) (pv 8) (fun _ _ => rfl)) (pa_cons (pv 11) (pa_cons (pv 9) pa_nil))))) pa_nil)))
      (pss_one (ps_if (pt_not (pt_val (pe_call (ok_law_row T) (hr.mono (by decide)) (by rfl) T.m_law_row T.F_law_row.kp (b_law_row T) .nil pass0 (pa_cons (pe_fld (pe_ix ix_list (pv 10) (pv 8) (fun _ _ => rfl)) rfl) (pa_cons (pv 11) pa_nil))))) (pss_one (ps_ret pe_bl)) pss_nil)))))
      (pss_cons (ps_expr (pe_bm PySem.F.plainAttrs_list PySem.F.slot_list_append PySem.F.type_list_append mt_append (pv 10) (pa_cons (pe_op (op_addO T.cl_Carry T.ad_Carry (ok_Carry_add T) (hr.mono (by decide)) (b_Carry_add T) pass0) (pe_ix ix_list (pv 10) pe_int (fun _ _ => rfl)) (pe_ix ix_list (pv 10) pe_int (fun _ _ => rfl))) pa_nil)))
      (pss_cons (ps_if (PW.pt (pw_or (pt_not (pt_val (pe_callB call_isi (by rfl) T.b_isinstance (by decide +kernel) (pa_cons (pe_ix ix_list (pv 10) pe_int (fun _ _ => rfl)) (pa_cons (pe_glob (v := .ref _) (by rfl) T.m_Carry rfl) pa_nil))))) (pw_or1 (pt_not (pt_val (pe_call (ok_law_row T) (hr.mono (by decide)) (by rfl) T.m_law_row T.F_law_row.kp (b_law_row T) .nil pass0 (pa_cons (pe_fld (pe_ix ix_list (pv 10) pe_int (fun _ _ => rfl)) rfl) (pa_cons (pv 11) pa_nil)))))))) (pss_one (ps_ret pe_bl)) pss_nil)
      (pss_cons (ps_for PassesOwn.never rfl (pi_range1 (by rfl) T.b_range (pa_cons pe_int pa_nil)) (pg_name (i := 8) sc_law.nd rfl (by first | exact Or.inl rfl | exact Or.inr rfl)) (pss_one (ps_if (pt_not (pt_val (pe_call (ok_law_carry T) (hr.mono (by decide)) (by rfl) T.m_law_carry T.F_law_carry.kp (b_law_carry T) .nil pass0 (pa_cons (pe_ix ix_list (pv 10) (pv 8) (fun _ _ => rfl)) (pa_cons (pe_ix ix_list (pv 4) (pv 8) (fun _ _ => rfl)) (pa_cons (pe_ix ix_list (pv 5) (pv 8) (fun _ _ => rfl)) pa_nil)))))) (pss_one (ps_ret pe_bl)) pss_nil)))
      (pss_cons (ps_for PassesOwn.never rfl (pi_list (pv 2)) (pg_name (i := 6) sc_law.nd rfl (by first | exact Or.inl rfl | exact Or.inr rfl)) (pss_one (ps_if (pt_not (pt_val (pe_call (ok_law_least T) (hr.mono (by decide)) (by rfl) T.m_law_least T.F_law_least.kp (b_law_least T) .nil pass0 (pa_cons (pe_lc (own := [("_law_carry_here", 12)]) (g := (gName 12)) rfl sc_law.nd (pi_list (pv 10)) (blkOk_by (own := [("_law_carry_here", 12)]) (N := ["_law_script", "_law_pool", "_law_names", "_law_books", "_law_rows", "_law_tables", "_law_name", "_law_drawn", "_law_k", "_law_lists", "_law_made_here", "_law_moments_here", "_law_carry_here"]) (sc := defScope s_law) (by decide +kernel)) (fun _ _ _ _ _ => (pg_name (i := 12) sc_law.nd rfl (by first | exact Or.inl rfl | exact Or.inr rfl))) (fun _ _ _ _ _ => pts_nil) (fun _ _ _ _ _ => (pe_meth (pv 12) T.cl_Carry T.me_Carry_keeps_places (ok_Carry_keeps_places T) (hr.mono (by decide)) (b_Carry_keeps_places T) .nil passL (pa_cons (pv 6) pa_nil)))) pa_nil)))) (pss_one (ps_ret pe_bl)) pss_nil)))
      (pss_cons (ps_for PassesOwn.never rfl (pi_list (pv 3)) (pg_name (i := 6) sc_law.nd rfl (by first | exact Or.inl rfl | exact Or.inr rfl)) (pss_one (ps_if (pt_not (pt_val (pe_call (ok_law_least T) (hr.mono (by decide)) (by rfl) T.m_law_least T.F_law_least.kp (b_law_least T) .nil pass0 (pa_cons (pe_lc (own := [("_law_carry_here", 12)]) (g := (gName 12)) rfl sc_law.nd (pi_list (pv 10)) (blkOk_by (own := [("_law_carry_here", 12)]) (N := ["_law_script", "_law_pool", "_law_names", "_law_books", "_law_rows", "_law_tables", "_law_name", "_law_drawn", "_law_k", "_law_lists", "_law_made_here", "_law_moments_here", "_law_carry_here"]) (sc := defScope s_law) (by decide +kernel)) (fun _ _ _ _ _ => (pg_name (i := 12) sc_law.nd rfl (by first | exact Or.inl rfl | exact Or.inr rfl))) (fun _ _ _ _ _ => pts_nil) (fun _ _ _ _ _ => (pe_meth (pv 12) T.cl_Carry T.me_Carry_keeps_codes (ok_Carry_keeps_codes T) (hr.mono (by decide)) (b_Carry_keeps_codes T) .nil passL (pa_cons (pv 6) pa_nil)))) pa_nil)))) (pss_one (ps_ret pe_bl)) pss_nil)))
      (pss_one (ps_ret pe_bl)))))))))))))))))), ?_⟩
    refine ⟨_, rfl, a, ns0, rfl, hS, hN, fun P0 H1 hp1 => ?_⟩
    refine g_ok ?_
    dsimp only
    -- the names
    refine seq_mid (fun σ H2 => ∃ na n1 n2, σ = [some (.ref a), some (.ref P0), some (.ref na), none, none, none, none, none, none, none, none, none, none] ∧ PoolP H2 P0 ∧ H2 na = some (.lst [.str n1, .str n2]) ∧ Nm2 n1 n2 ∧ na ≠ P0) (fun Nx hNx => ?_) ?_
    · refine ⟨by show 2 ≤ sizeLine; decide, fun l1 h1 => ⟨by show 2 ≤ sizeLine; decide, fun l2 h2 => ⟨by show 2 ≤ sizeLine; decide, fun l3 h3 => ?_⟩⟩⟩
      have s1 := same_new (o := .lst [.str "t", .str "u"]) h1
      have s2 := same_new (o := .lst [.str "oslo", .str "rome"]) h2
      have s3 := same_new (o := .lst [.ref l1, .ref l2]) h3
      have hl1 := s3 _ _ (s2 _ _ (upd_same (H := H1) (a := l1) (o := .lst [.str "t", .str "u"])))
      have hl2 := s3 _ _ (upd_same (H := upd H1 l1 (.lst [.str "t", .str "u"])) (a := l2) (o := .lst [.str "oslo", .str "rome"]))
      have n1 := pool_ne hp1 h1
      have n2 := pool_ne (hp1.same s1) h2
      have n3 := pool_ne (hp1.same (s1.trans s2)) h3
      refine ⟨_, rfl, P0, 2, rfl, hp1.same (s1.trans (s2.trans s3)), by decide, by decide, fun d H3 d0 d1 hp3 kp3 => ?_⟩
      have c : d = 0 ∨ d = 1 := by omega
      rcases c with rfl | rfl
      · exact ⟨l3, _, _, .ref l1, rfl, rfl, SqL.of (kp3 _ _ upd_same n3), rfl, hNx _ _ ⟨l1, _, _, rfl, hp3, kp3 _ _ hl1 n1, ⟨by decide +kernel, by decide +kernel, by decide +kernel⟩, n1⟩⟩
      · exact ⟨l3, _, _, .ref l2, rfl, rfl, SqL.of (kp3 _ _ upd_same n3), rfl, hNx _ _ ⟨l2, _, _, rfl, hp3, kp3 _ _ hl2 n2, ⟨by decide +kernel, by decide +kernel, by decide +kernel⟩, n2⟩⟩
    rintro σ H2 ⟨na, n1, n2, rfl, hp2, hna, hnm, nnP⟩
    refine seq_mid (fun σ H3 => ∃ ba b1 b2, σ = [some (.ref a), some (.ref P0), some (.ref na), some (.ref ba), none, none, none, none, none, none, none, none, none] ∧ PoolP H3 P0 ∧ H3 na = some (.lst [.str n1, .str n2]) ∧ H3 ba = some (.lst [.str b1, .str b2]) ∧ Nm2 b1 b2 ∧ ba ≠ P0) (fun Nx hNx => ?_) ?_
    · refine ⟨by show 2 ≤ sizeLine; decide, fun l1 h1 => ⟨by show 2 ≤ sizeLine; decide, fun l2 h2 => ⟨by show 2 ≤ sizeLine; decide, fun l3 h3 => ?_⟩⟩⟩
      have s1 := same_new (o := .lst [.str "p", .str "q"]) h1
      have s2 := same_new (o := .lst [.str "rome", .str "t"]) h2
      have s3 := same_new (o := .lst [.ref l1, .ref l2]) h3
      have hl1 := s3 _ _ (s2 _ _ (upd_same (H := H2) (a := l1) (o := .lst [.str "p", .str "q"])))
      have hl2 := s3 _ _ (upd_same (H := upd H2 l1 (.lst [.str "p", .str "q"])) (a := l2) (o := .lst [.str "rome", .str "t"]))
      have q1 := pool_ne hp2 h1
      have q2 := pool_ne (hp2.same s1) h2
      have q3 := pool_ne (hp2.same (s1.trans s2)) h3
      have hna4 := s3 _ _ (s2 _ _ (s1 _ _ hna))
      refine ⟨_, rfl, P0, 2, rfl, hp2.same (s1.trans (s2.trans s3)), by decide, by decide, fun d H3 d0 d1 hp3 kp3 => ?_⟩
      have c : d = 0 ∨ d = 1 := by omega
      rcases c with rfl | rfl
      · exact ⟨l3, _, _, .ref l1, rfl, rfl, SqL.of (kp3 _ _ upd_same q3), rfl, hNx _ _ ⟨l1, _, _, rfl, hp3, kp3 _ _ hna4 nnP, kp3 _ _ hl1 q1, ⟨by decide +kernel, by decide +kernel, by decide +kernel⟩, q1⟩⟩
      · exact ⟨l3, _, _, .ref l2, rfl, rfl, SqL.of (kp3 _ _ upd_same q3), rfl, hNx _ _ ⟨l2, _, _, rfl, hp3, kp3 _ _ hna4 nnP, kp3 _ _ hl2 q2, ⟨by decide +kernel, by decide +kernel, by decide +kernel⟩, q2⟩⟩
    rintro σ H3 ⟨ba, b1, b2, rfl, hp3, hna3, hba3, hbm, nbP⟩
    -- rows, tables
    have hnm_nd : [n1, n2].Nodup := List.nodup_cons.mpr ⟨by simpa using hnm.ne, List.nodup_cons.mpr ⟨by simp, List.nodup_nil⟩⟩
    have hbm_nd : [b1, b2].Nodup := List.nodup_cons.mpr ⟨by simpa using hbm.ne, List.nodup_cons.mpr ⟨by simp, List.nodup_nil⟩⟩
    intro d0 hd0 d1 hd1 d2 hd2
    have sd0 := same_new (o := .dK []) hd0
    have sd1 := same_new (o := .dK []) hd1
    have sd2 := same_new (o := .dK []) hd2
    have gd0 := sd2 _ _ (sd1 _ _ (upd_same (H := H3) (a := d0) (o := .dK [])))
    have gd1 := sd2 _ _ (upd_same (H := upd H3 d0 (.dK [])) (a := d1) (o := .dK []))
    have gd2 : upd (upd (upd H3 d0 (.dK [])) d1 (.dK [])) d2 (.dK []) d2 = some (.dK []) := upd_same
    have n01 : d0 ≠ d1 := ne_of_none (upd_same (H := H3)) hd1
    have n02 : d0 ≠ d2 := ne_of_none (sd1 _ _ (upd_same (H := H3) (a := d0) (o := .dK []))) hd2
    have n12 : d1 ≠ d2 := ne_of_none (upd_same (H := upd H3 d0 (.dK []))) hd2
    have sD := sd0.trans (sd1.trans sd2)
    generalize upd (upd (upd H3 d0 (.dK [])) d1 (.dK [])) d2 (.dK []) = H4 at sD gd0 gd1 gd2 ⊢
    refine ⟨by show 3 ≤ sizeLine; decide, fun R hR => ?_⟩
    have sR := same_new (o := .lst [.ref d0, .ref d1, .ref d2]) hR
    have gR : upd H4 R (.lst [.ref d0, .ref d1, .ref d2]) R = some (.lst [.ref d0, .ref d1, .ref d2]) := upd_same
    have nRP := pool_ne (hp3.same sD) hR
    have sDR := sD.trans sR
    have hd0' := sR _ _ gd0
    have hd1' := sR _ _ gd1
    have hd2' := sR _ _ gd2
    generalize upd H4 R (.lst [.ref d0, .ref d1, .ref d2]) = H5 at sDR gR hd0' hd1' hd2' ⊢
    intro e0 he0 e1 he1 e2 he2
    have se0 := same_new (o := .dK []) he0
    have se1 := same_new (o := .dK []) he1
    have se2 := same_new (o := .dK []) he2
    have ge0 := se2 _ _ (se1 _ _ (upd_same (H := H5) (a := e0) (o := .dK [])))
    have ge1 := se2 _ _ (upd_same (H := upd H5 e0 (.dK [])) (a := e1) (o := .dK []))
    have ge2 : upd (upd (upd H5 e0 (.dK [])) e1 (.dK [])) e2 (.dK []) e2 = some (.dK []) := upd_same
    have m01 : e0 ≠ e1 := ne_of_none (upd_same (H := H5)) he1
    have m02 : e0 ≠ e2 := ne_of_none (se1 _ _ (upd_same (H := H5) (a := e0) (o := .dK []))) he2
    have m12 : e1 ≠ e2 := ne_of_none (upd_same (H := upd H5 e0 (.dK []))) he2
    have f0 : ∀ {b o}, H5 b = some o → b ≠ e0 := fun h => ne_of_none h he0
    have f1 : ∀ {b o}, H5 b = some o → b ≠ e1 := fun h => ne_of_none (se0 _ _ h) he1
    have f2 : ∀ {b o}, H5 b = some o → b ≠ e2 := fun h => ne_of_none (se1 _ _ (se0 _ _ h)) he2
    have sE := se0.trans (se1.trans se2)
    generalize upd (upd (upd H5 e0 (.dK [])) e1 (.dK [])) e2 (.dK []) = H6 at sE ge0 ge1 ge2 ⊢
    refine ⟨by show 3 ≤ sizeLine; decide, fun Tb hTb => ?_⟩
    have sT := same_new (o := .lst [.ref e0, .ref e1, .ref e2]) hTb
    have gT : upd H6 Tb (.lst [.ref e0, .ref e1, .ref e2]) Tb = some (.lst [.ref e0, .ref e1, .ref e2]) := upd_same
    have nTP := pool_ne ((hp3.same sDR).same sE) hTb
    have N : LN P0 na ba R Tb (three d0 d1 d2) (three e0 e1 e2) := by
      refine ⟨nnP, nbP, nRP, nTP, fun i j hi hj hne => ?_, fun i j hi hj hne => ?_, fun i j hi hj => ?_⟩
      · match i, hi, j, hj with
        | 0, _, 0, _ | 1, _, 1, _ | 2, _, 2, _ => exact absurd rfl hne
        | 0, _, 1, _ => exact n01
        | 0, _, 2, _ => exact n02
        | 1, _, 0, _ => exact n01.symm
        | 1, _, 2, _ => exact n12
        | 2, _, 0, _ => exact n02.symm
        | 2, _, 1, _ => exact n12.symm
      · match i, hi, j, hj with
        | 0, _, 0, _ | 1, _, 1, _ | 2, _, 2, _ => exact absurd rfl hne
        | 0, _, 1, _ => exact m01
        | 0, _, 2, _ => exact m02
        | 1, _, 0, _ => exact m01.symm
        | 1, _, 2, _ => exact m12
        | 2, _, 0, _ => exact m02.symm
        | 2, _, 1, _ => exact m12.symm
      · match i, hi, j, hj with
        | 0, _, 0, _ => exact f0 hd0'
        | 0, _, 1, _ => exact f1 hd0'
        | 0, _, 2, _ => exact f2 hd0'
        | 1, _, 0, _ => exact f0 hd1'
        | 1, _, 1, _ => exact f1 hd1'
        | 1, _, 2, _ => exact f2 hd1'
        | 2, _, 0, _ => exact f0 hd2'
        | 2, _, 1, _ => exact f1 hd2'
        | 2, _, 2, _ => exact f2 hd2'
    have sET := sE.trans sT
    have L0 : LS (upd H6 Tb (.lst [.ref e0, .ref e1, .ref e2])) P0 na ba R Tb (three d0 d1 d2) (three e0 e1 e2) [n1, n2] [b1, b2] [] [] := by
      refine ⟨(hp3.same sDR).same sET, sET _ _ (sDR _ _ hna3), sET _ _ (sDR _ _ hba3), sET _ _ gR, gT, ⟨fun j hj => ?_, fun j hj t ht => (by cases ht), fun t ht => (by cases ht)⟩, ⟨fun j hj => ?_, fun j hj t ht => (by cases ht), fun t ht => (by cases ht)⟩⟩
      · match j, hj with
        | 0, _ => exact sET _ _ hd0'
        | 1, _ => exact sET _ _ hd1'
        | 2, _ => exact sET _ _ hd2'
      · match j, hj with
        | 0, _ => exact sT _ _ ge0
        | 1, _ => exact sT _ _ ge1
        | 2, _ => exact sT _ _ ge2
    generalize upd H6 Tb (.lst [.ref e0, .ref e1, .ref e2]) = H7 at L0 ⊢
    generalize hdd : three d0 d1 d2 = d at N L0
    generalize hee : three e0 e1 e2 = e at N L0
    clear sd0 sd1 sd2 gd0 gd1 gd2 sD sR gR sDR hd0' hd1' hd2' se0 se1 se2 ge0 ge1 ge2 sE sT gT sET
    -- rows
    refine ⟨_, rfl, na, rfl, ⟨_, SqL.of L0.hna⟩, for_list (K := K) (a := na) (xs := [n1, n2].map V.str) (fun i σ H8 => ∃ (v6 v7 v8 : Option V) (tr : List TR), σ = [some (.ref a), some (.ref P0), some (.ref na), some (.ref ba), some (.ref R), some (.ref Tb), v6, v7, v8, none, none, none, none] ∧ LS H8 P0 na ba R Tb d e [n1, n2] [b1, b2] tr [] ∧ tr.map (·.1) = [n1, n2].take i ∧ (∀ j, j < 3 → ∀ t ∈ tr, (rO j t).2.1 ≠ P0))
      ⟨none, none, none, [], rfl, L0, rfl, fun j hj t ht => (by cases ht)⟩ (fun i σ H8 _ h => by obtain ⟨_, _, _, _, _, h, _⟩ := h; exact SqL.of h.hna) ?_ ?_⟩
    · rintro i x σ H8 hx ⟨v6, v7, v8, tr, rfl, L, htr, hnP⟩
      rw [List.getElem?_map] at hx
      obtain ⟨nm, hnm, rfl⟩ : ∃ nm, [n1, n2][i]? = some nm ∧ x = .str nm := by
        cases q : [n1, n2][i]? with
        | none => rw [q] at hx; cases hx
        | some o => rw [q] at hx; exact ⟨o, rfl, (Option.some.inj hx).symm⟩
      have hi2 : i < 2 := (List.getElem?_eq_some_iff.mp hnm).1
      have trl : tr.length ≤ 2 := by
        have := congrArg List.length htr
        rw [List.length_map, List.length_take] at this
        have z : [n1, n2].length = 2 := rfl
        omega
      have nnm : nm ∉ tr.map (·.1) := by
        rw [htr]
        have := take_new (f := fun x : Str => x) (l := [n1, n2]) (by simpa using hnm_nd) hnm
        simpa using this
      refine ⟨_, rfl, _, rfl, P0, 9, rfl, L.po, by decide, by decide, fun dv H9 e0 e1 hp9 kp9 => ⟨_, _, rfl, rfl, .inl ⟨_, rfl, _, _, rfl, rfl, (by show (0 : Int) < 9; decide), ?_⟩⟩⟩
      have L9 := L.kp N hnP hp9 kp9
      obtain ⟨mm, hmm, hmml⟩ : ∃ m : Nat, (dv + 5) % 9 = (m : Int) ∧ m < 9 := ⟨((dv + 5) % 9).toNat, by omega, by omega⟩
      refine ⟨P0, mm, congrArg (fun z => [V.ref P0, V.int z]) hmm, hp9, by omega, fun q a1 a2 a3 r1 r2 H10 gq g1 g2 g3 z1 z2 z3 rok rl1 rl2 hp10 kp10 => ?_⟩
      have L10 := L9.kp N hnP hp10 kp10
      have np : ∀ j, j < 3 → three a1 a2 a3 j ≠ P0 := fun j hj => by
        match j, hj with
        | 0, _ => exact pool_ne hp9 z1
        | 1, _ => exact pool_ne hp9 z2
        | 2, _ => exact pool_ne hp9 z3
      have tadd : ∀ j, j < 3 → putK (rowK (tr.map (rO j))) (.inr nm) (.ref (three a1 a2 a3 j)) = rowK ((tr ++ [((nm, (a1, a2, a3), (r1, r2)) : TR)]).map (rO j)) := fun j hj => by
        have h := rowK_snoc (rs := tr.map (rO j)) (r := rO j (nm, (a1, a2, a3), (r1, r2))) (by rw [rO_names, rO_fst]; exact nnm)
        rw [rO_fst, rO_ad hj] at h
        rw [h, List.map_append]
        rfl
      refine ⟨3, rfl, by decide, by decide, for_range (lo := 0) (n := 3) (fun m σ H11 => ∃ v8, σ = [some (.ref a), some (.ref P0), some (.ref na), some (.ref ba), some (.ref R), some (.ref Tb), some (.str nm), some (.ref q), v8, none, none, none, none] ∧ (∀ j, j < 3 → H11 (d j) = some (.dK (rowK (if j < m then (tr ++ [((nm, (a1, a2, a3), (r1, r2)) : TR)]).map (rO j) else tr.map (rO j))))) ∧ (∀ b o, H10 b = some o → (∀ j, j < 3 → b ≠ d j) → H11 b = some o))
        ⟨_, rfl, fun j hj => by rw [if_neg (Nat.not_lt_zero j)]; exact L10.rs.dk j hj, fun b o h _ => h⟩ ?_ ?_⟩
      · rintro m σ H11 hm ⟨v8, rfl, hd, kp⟩
        have nk : ∀ {b o}, H10 b = some o → (∀ kvs, o ≠ .dK kvs) → ∀ j, j < 3 → b ≠ d j := fun h n j hj => ne_of h (L10.rs.dk j hj) (n _)
        have gq11 := kp _ _ gq (nk gq (fun _ z => by cases z))
        have gR11 := kp _ _ L10.hR (nk L10.hR (fun _ z => by cases z))
        have hdm := hd m hm
        rw [if_neg (Nat.lt_irrefl m)] at hdm
        have hRm : [V.ref (d 0), V.ref (d 1), V.ref (d 2)][m]? = some (.ref (d m)) := by
          match m, hm with
          | 0, _ => rfl
          | 1, _ => rfl
          | 2, _ => rfl
        refine ⟨_, rfl, _, rfl, q, _, _, .ref (three a1 a2 a3 m), rfl, rfl, SqT.of gq11, (by rw [Int.zero_add]; exact atI_nat (three_at hm)), _, rfl, _, rfl, R, _, _, .ref (d m), rfl, rfl, SqL.of gR11, (by rw [Int.zero_add]; exact atI_nat hRm), _, rfl, d m, _, rfl, DPut.k (k := Sum.inr nm) hdm (small1000 (by unfold rowK; rw [List.length_map, List.length_map]; omega)), ?_⟩
        rw [tadd m hm]
        refine ⟨_, rfl, fun j hj => ?_, fun b o h hb => by rw [upd_ne (hb m hm)]; exact kp b o h hb⟩
        by_cases z : j = m
        · rw [z, upd_same, if_pos (Nat.lt_succ_self m)]
        · rw [upd_ne (N.dd j m hj hm z), hd j hj]
          by_cases z2 : j < m
          · rw [if_pos z2, if_pos (Nat.lt_succ_of_lt z2)]
          · rw [if_neg z2, if_neg (by omega)]
      · rintro σ H11 ⟨v8, rfl, hd, kp⟩
        have nk : ∀ {b o}, H10 b = some o → (∀ kvs, o ≠ .dK kvs) → ∀ j, j < 3 → b ≠ d j := fun h n j hj => ne_of h (L10.rs.dk j hj) (n _)
        have kl : ∀ {b xs}, H10 b = some (.lst xs) → H11 b = some (.lst xs) := fun h => kp _ _ h (nk h (fun _ z => by cases z))
        obtain ⟨zs, hz, hzl⟩ := L10.po
        refine ⟨_, _, _, tr ++ [(nm, (a1, a2, a3), (r1, r2))], rfl, ⟨⟨zs, kl hz, hzl⟩, kl L10.hna, kl L10.hba, kl L10.hR, kl L10.hT, ⟨fun j hj => ?_, fun j hj t ht => ?_, fun t ht => ?_⟩, ⟨fun j hj => kp _ _ (L10.bs.dk j hj) fun j' hj' z => N.de j' j hj' hj z.symm, fun j hj t ht => (by cases ht), fun t ht => (by cases ht)⟩⟩, ?_, fun j hj t ht => ?_⟩
        · have := hd j hj
          rw [if_pos hj] at this
          exact this
        · rcases List.mem_append.mp ht with h | h
          · exact kl (L10.rs.ro j hj t h)
          · rw [List.mem_singleton.mp h]
            match j, hj with
            | 0, _ => exact kl g1
            | 1, _ => exact kl g2
            | 2, _ => exact kl g3
        · rcases List.mem_append.mp ht with h | h
          · exact L10.rs.ok t h
          · rw [List.mem_singleton.mp h]
            exact ⟨rok, rl1, rl2⟩
        · rw [List.map_append, htr, List.take_add_one, hnm]
          rfl
        · rcases List.mem_append.mp ht with h | h
          · exact hnP j hj t h
          · rw [List.mem_singleton.mp h, rO_ad hj]
            exact np j hj
    rintro σ H8 ⟨v6, v7, v8, tr, rfl, L8, htr, hnP⟩
    have htr : tr.map (·.1) = [n1, n2] := htr
    -- tables
    refine ⟨_, rfl, ba, rfl, ⟨_, SqL.of L8.hba⟩, for_list (K := K) (a := ba) (xs := [b1, b2].map V.str) (fun i σ H8 => ∃ (v6 v7 v8 : Option V) (br : List BR), σ = [some (.ref a), some (.ref P0), some (.ref na), some (.ref ba), some (.ref R), some (.ref Tb), v6, v7, v8, none, none, none, none] ∧ LS H8 P0 na ba R Tb d e [n1, n2] [b1, b2] tr br ∧ br.map (·.1) = [b1, b2].take i)
      ⟨_, _, _, [], rfl, L8, rfl⟩ (fun i σ H8 _ h => by obtain ⟨_, _, _, _, _, h, _⟩ := h; exact SqL.of h.hba) ?_ ?_⟩
    · rintro i x σ H8 hx ⟨v6, v7, v8, br, rfl, L, hbr⟩
      rw [List.getElem?_map] at hx
      obtain ⟨nm, hnm, rfl⟩ : ∃ nm, [b1, b2][i]? = some nm ∧ x = .str nm := by
        cases q : [b1, b2][i]? with
        | none => rw [q] at hx; cases hx
        | some o => rw [q] at hx; exact ⟨o, rfl, (Option.some.inj hx).symm⟩
      have brl : br.length ≤ 2 := by
        have := congrArg List.length hbr
        rw [List.length_map, List.length_take] at this
        have z : [b1, b2].length = 2 := rfl
        omega
      have nnm : nm ∉ br.map (·.1) := by
        rw [hbr]
        have := take_new (f := fun x : Str => x) (l := [b1, b2]) (by simpa using hbm_nd) hnm
        simpa using this
      refine ⟨_, rfl, _, rfl, P0, 7, rfl, L.po, by decide, by decide, fun dv H9 e0 e1 hp9 kp9 => ⟨_, _, rfl, rfl, .inl ⟨_, rfl, _, _, rfl, rfl, (by show (0 : Int) < 7; decide), ?_⟩⟩⟩
      have L9 := L.kp N hnP hp9 kp9
      obtain ⟨mm, hmm, hmml⟩ : ∃ m : Nat, (dv + 3) % 7 = (m : Int) ∧ m < 7 := ⟨((dv + 3) % 7).toNat, by omega, by omega⟩
      refine ⟨P0, mm, congrArg (fun z => [V.ref P0, V.int z]) hmm, hp9, by omega, fun q a1 a2 a3 c1 c2 H10 gq g1 g2 g3 z1 z2 z3 nd1 nd2 rok rl1 rl2 hp10 kp10 => ?_⟩
      have L10 := L9.kp N hnP hp10 kp10
      have fresh : ∀ j j', j < 3 → j' < 3 → three a1 a2 a3 j ≠ e j' := fun j j' hj hj' => by
        have h := L9.bs.dk j' hj'
        match j, hj with
        | 0, _ => exact (ne_of_none h z1).symm
        | 1, _ => exact (ne_of_none h z2).symm
        | 2, _ => exact (ne_of_none h z3).symm
      have tadd : ∀ j, j < 3 → putK (bkK (br.map (bO j))) (.inr nm) (.ref (three a1 a2 a3 j)) = bkK ((br ++ [((nm, (a1, a2, a3), (c1, c2)) : BR)]).map (bO j)) := fun j hj => by
        have h := bkK_snoc (rs := br.map (bO j)) (r := bO j (nm, (a1, a2, a3), (c1, c2))) (by rw [bO_names, bO_fst]; exact nnm)
        rw [bO_fst, bO_ad hj] at h
        rw [h, List.map_append]
        rfl
      have ine : ∀ j j', j < 3 → j' < 3 → ∀ t ∈ br, (bO j t).2.1 ≠ e j' := fun j j' hj hj' t ht z => by
        have h1 := L10.bs.ro j hj t ht
        rw [z, L10.bs.dk j' hj'] at h1
        exact bkK_ne (bs := br.map (bO j')) (e := bO j' t) (List.mem_map.mpr ⟨t, ht, rfl⟩) (by injection h1 with h1; injection h1)
      refine ⟨3, rfl, by decide, by decide, for_range (lo := 0) (n := 3) (fun m σ H11 => ∃ v8, σ = [some (.ref a), some (.ref P0), some (.ref na), some (.ref ba), some (.ref R), some (.ref Tb), some (.str nm), some (.ref q), v8, none, none, none, none] ∧ (∀ j, j < 3 → H11 (e j) = some (.dK (bkK (if j < m then (br ++ [((nm, (a1, a2, a3), (c1, c2)) : BR)]).map (bO j) else br.map (bO j))))) ∧ (∀ b o, H10 b = some o → (∀ j, j < 3 → b ≠ e j) → H11 b = some o))
        ⟨_, rfl, fun j hj => by rw [if_neg (Nat.not_lt_zero j)]; exact L10.bs.dk j hj, fun b o h _ => h⟩ ?_ ?_⟩
      · rintro m σ H11 hm ⟨v8, rfl, hd, kp⟩
        have nk : ∀ {b o}, H10 b = some o → (∀ kvs, o ≠ .dK kvs) → ∀ j, j < 3 → b ≠ e j := fun h n j hj => ne_of h (L10.bs.dk j hj) (n _)
        have gq11 := kp _ _ gq (nk gq (fun _ z => by cases z))
        have gR11 := kp _ _ L10.hT (nk L10.hT (fun _ z => by cases z))
        have hdm := hd m hm
        rw [if_neg (Nat.lt_irrefl m)] at hdm
        have hRm : [V.ref (e 0), V.ref (e 1), V.ref (e 2)][m]? = some (.ref (e m)) := by
          match m, hm with
          | 0, _ => rfl
          | 1, _ => rfl
          | 2, _ => rfl
        refine ⟨_, rfl, _, rfl, q, _, _, .ref (three a1 a2 a3 m), rfl, rfl, SqT.of gq11, (by rw [Int.zero_add]; exact atI_nat (three_at hm)), _, rfl, _, rfl, Tb, _, _, .ref (e m), rfl, rfl, SqL.of gR11, (by rw [Int.zero_add]; exact atI_nat hRm), _, rfl, e m, _, rfl, DPut.k (k := Sum.inr nm) hdm (small1000 (by unfold bkK; rw [List.length_map, List.length_map]; omega)), ?_⟩
        rw [tadd m hm]
        refine ⟨_, rfl, fun j hj => ?_, fun b o h hb => by rw [upd_ne (hb m hm)]; exact kp b o h hb⟩
        by_cases z : j = m
        · rw [z, upd_same, if_pos (Nat.lt_succ_self m)]
        · rw [upd_ne (N.ee j m hj hm z), hd j hj]
          by_cases z2 : j < m
          · rw [if_pos z2, if_pos (Nat.lt_succ_of_lt z2)]
          · rw [if_neg z2, if_neg (by omega)]
      · rintro σ H11 ⟨v8, rfl, hd, kp⟩
        have nk : ∀ {b o}, H10 b = some o → (∀ kvs, o ≠ .dK kvs) → ∀ j, j < 3 → b ≠ e j := fun h n j hj => ne_of h (L10.bs.dk j hj) (n _)
        have kl : ∀ {b xs}, H10 b = some (.lst xs) → H11 b = some (.lst xs) := fun h => kp _ _ h (nk h (fun _ z => by cases z))
        obtain ⟨zs, hz, hzl⟩ := L10.po
        refine ⟨_, _, _, br ++ [(nm, (a1, a2, a3), (c1, c2))], rfl, ⟨⟨zs, kl hz, hzl⟩, kl L10.hna, kl L10.hba, kl L10.hR, kl L10.hT, ⟨fun j hj => kp _ _ (L10.rs.dk j hj) fun j' hj' => N.de j j' hj hj', fun j hj t ht => kl (L10.rs.ro j hj t ht), L10.rs.ok⟩, ⟨fun j hj => ?_, fun j hj t ht => ?_, fun t ht => ?_⟩⟩, ?_⟩
        · have := hd j hj
          rw [if_pos hj] at this
          exact this
        · rcases List.mem_append.mp ht with h | h
          · exact kp _ _ (L10.bs.ro j hj t h) fun j' hj' => ine j j' hj hj' t h
          · rw [List.mem_singleton.mp h]
            match j, hj with
            | 0, _ => exact kp _ _ g1 fun j' hj' => fresh 0 j' (by decide) hj'
            | 1, _ => exact kp _ _ g2 fun j' hj' => fresh 1 j' (by decide) hj'
            | 2, _ => exact kp _ _ g3 fun j' hj' => fresh 2 j' (by decide) hj'
        · rcases List.mem_append.mp ht with h | h
          · exact L10.bs.ok t h
          · rw [List.mem_singleton.mp h]
            exact ⟨nd1, nd2, rok, rl1, rl2⟩
        · rw [List.map_append, hbr, List.take_add_one, hnm]
          rfl
    rintro σ H9 ⟨v6b, v7b, v8b, br, rfl, L9, hbr⟩
    have hbr : br.map (·.1) = [b1, b2] := hbr
    have trn : (tr.map (·.1)).Nodup := by rw [htr]; exact hnm_nd
    have brn : (br.map (·.1)).Nodup := by rw [hbr]; exact hbm_nd
    have trl : tr.length ≤ 2 := by have := congrArg List.length htr; rw [List.length_map] at this; exact Nat.le_of_eq this
    have brl : br.length ≤ 2 := by have := congrArg List.length hbr; rw [List.length_map] at this; exact Nat.le_of_eq this
    -- lists
    refine ⟨_, rfl, P0, 2, rfl, L9.po, by decide, by decide, fun dv H10 x0 x1 hp10 kp10 => ⟨rfl, ?_⟩⟩
    have L10 := L9.kp N hnP hp10 kp10
    generalize decide (V.int dv = V.int 0) = lists
    refine ⟨by show 0 ≤ sizeLine; decide, fun Ma hMa => ?_⟩
    have kpM : Kp (isP P0) H10 (upd H10 Ma (.lst [])) := Kp.same (same_new hMa)
    have nMP := pool_ne hp10 hMa
    refine ⟨2, rfl, by decide, by decide, for_range (lo := 0) (n := 2) (fun i σ H => ∃ (v8 v11 : Option V) (cs : List CRec), σ = [some (.ref a), some (.ref P0), some (.ref na), some (.ref ba), some (.ref R), some (.ref Tb), v6b, v7b, v8, some (.bl lists), some (.ref Ma), v11, none] ∧ PoolP H P0 ∧ Kp (isP P0) H10 H ∧ H Ma = some (.lst (cs.map fun c => V.ref c.p)) ∧ cs.length = i ∧
      (∀ j c, cs[j]? = some c → c.Ok A.c_Carry H tr br j ∧ Apt c d e br) ∧ (∀ c, cs[i - 1]? = some c → 0 < i → ∃ mo, v11 = some (.ref mo) ∧ H mo = some (.lst (c.ms.map V.int)) ∧ c.ms.length ≤ 10) ∧
      (∀ c0 c1, cs[0]? = some c0 → cs[1]? = some c1 → c1.pd ≠ c0.pd ∧ c1.cd ≠ c0.cd ∧ ∀ x ∈ c0.bs, ∀ y ∈ c1.bs, y.2.1 ≠ x.2.1))
      ⟨_, none, [], rfl, hp10.same (same_new hMa), kpM, upd_same, rfl, fun j c h => (by cases h), fun c h => (by cases h), fun c0 c1 h => (by cases h)⟩ ?_ ?_⟩
    · rintro i σ H hi ⟨v8, v11, cs, rfl, hp, kp, hM, hl, hcs, _, hx⟩
      have L := L10.kp N hnP hp kp
      refine ⟨_, rfl, P0, rfl, hp, fun mo ms H1 f1 g1 l1 hp1 kp1 => ?_⟩
      have L1 := L10.kp N hnP hp1 (kp.of kp1)
      have hM1 := kp1 _ _ hM nMP
      have hRm : [V.ref (d 0), V.ref (d 1), V.ref (d 2)][i]? = some (.ref (d i)) := by
        match i, hi with
        | 0, _ => rfl
        | 1, _ => rfl
      have hTm : [V.ref (e 0), V.ref (e 1), V.ref (e 2)][i]? = some (.ref (e i)) := by
        match i, hi with
        | 0, _ => rfl
        | 1, _ => rfl
      refine ⟨_, rfl, .inl ⟨rfl, _, SqL.of hM1⟩, _, rfl, _, rfl, R, _, _, .ref (d i), rfl, rfl, SqL.of L1.hR, (by rw [Int.zero_add]; exact atI_nat hRm), _, rfl, _, rfl, Tb, _, _, .ref (e i), rfl, rfl, SqL.of L1.hT, (by rw [Int.zero_add]; exact atI_nat hTm), _, rfl, _, rfl, d i, e i, mo, lists, tr.map (rO i), br.map (bO i), ms, rfl, DueAt.of L1.rs L1.bs (by omega), g1, Szs.of trn brn L1.rs.ok L1.bs.ok trl brl l1, fun p pd cd m rs bs H2 Y q1 q2 s2 fp2 => ?_⟩
      have hM2 := s2 _ _ hM1
      refine ⟨Ma, _, _, rfl, rfl, hM2, by rw [List.length_map, sizeLine_eq]; omega, ?_⟩
      have Y3 : CarryAt A.c_Carry (upd H2 Ma (.lst (cs.map (fun c => V.ref c.p) ++ [.ref p]))) p pd cd m rs bs ms := Y.lock (Y.kind hM2)
      have nmM : mo ≠ Ma := (ne_of_none hM f1).symm
      have g13 : upd H2 Ma (.lst (cs.map (fun c => V.ref c.p) ++ [.ref p])) mo = some (.lst (ms.map V.int)) := by rw [upd_ne nmM]; exact s2 _ _ g1
      have hM3 : upd H2 Ma (.lst (cs.map (fun c => V.ref c.p) ++ [.ref p])) Ma = some (.lst ((cs ++ [(⟨p, pd, cd, m, rs, bs, ms⟩ : CRec)]).map fun c : CRec => V.ref c.p)) := by rw [upd_same, List.map_append]; rfl
      have kp3 : Kp (isP P0) H10 (upd H2 Ma (.lst (cs.map (fun c => V.ref c.p) ++ [.ref p]))) := (((kp.of kp1).trans' s2)).put hMa
      have hp3 : PoolP (upd H2 Ma (.lst (cs.map (fun c => V.ref c.p) ++ [.ref p]))) P0 := by
        obtain ⟨zs, hz, hzl⟩ := hp1.same s2
        exact ⟨zs, by rw [upd_ne nMP.symm]; exact hz, hzl⟩
      have old : ∀ j c, cs[j]? = some c → c.Ok A.c_Carry (upd H2 Ma (.lst (cs.map (fun c => V.ref c.p) ++ [.ref p]))) tr br j ∧ Apt c d e br := fun j c h => ⟨(((hcs j c h).1.kp hp kp1).same s2).put hM2, (hcs j c h).2⟩
      have apt : Apt ⟨p, pd, cd, m, rs, bs, ms⟩ d e br := Apt.of L1.rs L1.bs fp2
      have new1 : ∀ c, c ∈ cs → c.Ok A.c_Carry H1 tr br 0 ∨ True := fun _ _ => .inr trivial
      have cross : ∀ c0, cs[0]? = some c0 → pd ≠ c0.pd ∧ cd ≠ c0.cd ∧ ∀ x ∈ c0.bs, ∀ y ∈ bs, y.2.1 ≠ x.2.1 := fun c0 h => by
        have O := (hcs 0 c0 h).1.kp hp kp1
        refine ⟨fun z => ?_, fun z => ?_, fun x hx y hy z => ?_⟩
        · exact newT_ne (fp2 pd (.inr (.inl rfl))) (by rw [z]; exact O.at_.hp) (fun _ z => by cases z)
        · exact newT_ne (fp2 cd (.inr (.inr (.inl rfl)))) (by rw [z]; exact O.at_.hc) (fun _ z => by cases z)
        · exact newT_ne (fp2 y.2.1 (.inr (.inr (.inr (.inr (.inr ⟨y, hy, rfl⟩)))))) (by rw [z]; exact O.at_.bk x hx) (fun _ z => by cases z)
      generalize upd H2 Ma (.lst (cs.map (fun c => V.ref c.p) ++ [.ref p])) = H3 at Y3 g13 hM3 kp3 hp3 old ⊢
      obtain ⟨dx, ob⟩ := Y3.ob
      have hat : ((cs ++ [(⟨p, pd, cd, m, rs, bs, ms⟩ : CRec)]).map fun c => V.ref c.p)[i]? = some (.ref p) := by
        rw [List.map_append, List.getElem?_append_right (by rw [List.length_map]; omega), List.length_map, hl, Nat.sub_self]
        rfl
      have e1 : (ms.map some).map oi = ms.map V.int := by rw [List.map_map]; rfl
      refine ⟨_, rfl, _, rfl, Ma, _, _, .ref p, rfl, rfl, SqL.of hM3, (by rw [Int.zero_add]; exact atI_nat hat), p, _, dx, _, _, rfl, ob, T.cl_Carry, T.na_Carry_moments, ca_moments, _, rfl, m, mo, ms.map some, rfl, by rw [e1]; exact Y3.hm, by rw [e1]; exact g13, by rw [List.length_map]; omega, fun H4 s4 => ⟨_, rfl, ?_⟩⟩
      refine if_false_of rfl ?_
      refine ⟨_, _, cs ++ [(⟨p, pd, cd, m, rs, bs, ms⟩ : CRec)], rfl, hp3.same s4, kp3.trans' s4, s4 _ _ hM3, by rw [List.length_append, hl]; rfl, fun j c h => ?_, fun c h _ => ?_, fun c0 c1 h0 h1 => ?_⟩
      · by_cases hj : j < cs.length
        · rw [List.getElem?_append_left hj] at h
          exact ⟨(old j c h).1.same s4, (old j c h).2⟩
        · have hj2 : j = cs.length := by
            have := (List.getElem?_eq_some_iff.mp h).1
            rw [List.length_append] at this
            have z : [(⟨p, pd, cd, m, rs, bs, ms⟩ : CRec)].length = 1 := rfl
            omega
          rw [hj2, List.getElem?_append_right (Nat.le_refl _), Nat.sub_self] at h
          cases h
          rw [hj2, hl]
          exact ⟨⟨Y3.same s4, q1, q2⟩, apt⟩
      · rw [show i + 1 - 1 = cs.length by omega, List.getElem?_append_right (Nat.le_refl _), Nat.sub_self] at h
        cases h
        exact ⟨mo, rfl, s4 _ _ g13, l1⟩
      · by_cases hj : 1 < cs.length
        · rw [List.getElem?_append_left (by omega)] at h0
          rw [List.getElem?_append_left hj] at h1
          exact hx c0 c1 h0 h1
        · by_cases hj1 : 1 = cs.length
          · rw [List.getElem?_append_left (by omega)] at h0
            rw [List.getElem?_append_right (by omega), ← hj1] at h1
            cases h1
            exact cross c0 h0
          · rw [List.getElem?_append_right (by omega), show 1 - cs.length = 1 by omega] at h1
            cases h1
    rintro σ H ⟨v8c, v11, cs, rfl, hp, kp, hM, hl, hcs, hmoI, hx⟩
    obtain ⟨c0, c1, rfl⟩ : ∃ c0 c1, cs = [c0, c1] := by
      match cs, hl with
      | [x, y], _ => exact ⟨x, y, rfl⟩
    obtain ⟨O0, A0⟩ := hcs 0 c0 rfl
    obtain ⟨O1, A1⟩ := hcs 1 c1 rfl
    obtain ⟨mo, rfl, hmo, hmol⟩ := hmoI c1 rfl (by decide)
    obtain ⟨x1, x2, x3⟩ := hx c0 c1 rfl rfl
    have L := L10.kp N hnP hp kp
    obtain ⟨dx0, ob0⟩ := O0.at_.ob
    obtain ⟨dx1, ob1⟩ := O1.at_.ob
    have eR : ∀ t ∈ tr, fR tr t.1 = t.2.2.2 := fun t ht => find_nd (fun t : TR => t.1) (fun t => t.2.2.2) [] trn t ht
    have eC : ∀ t ∈ br, fC br t.1 = t.2.2.2 := fun t ht => find_nd (fun t : BR => t.1) (fun t => t.2.2.2) [] brn t ht
    have Fi : Fits c0.rs c1.rs c0.bs c1.bs (fR tr) (fC br) := by
      refine ⟨fun r hr => ?_, fun r hr => ?_, fun r hr x hx => ?_, fun r hr x hx => ?_⟩
      · obtain ⟨t, ht, h1, h2⟩ := rdat_in O0.r hr
        obtain ⟨r2, hr2, h3, h4⟩ := rdat_mem O1.r ht
        exact ⟨r2, hr2, h3.trans h1.symm, by rw [h4, h1, eR t ht]; rfl⟩
      · obtain ⟨t, ht, h1, h2⟩ := bdat_in O0.b hr
        obtain ⟨r2, hr2, h3, h4⟩ := bdat_mem O1.b ht
        exact ⟨r2, hr2, h3.trans h1.symm, by rw [h4, h1, eC t ht]; rfl⟩
      · obtain ⟨t, ht, h1, h2⟩ := rdat_in O0.r hr
        rw [h1, eR t ht]
        rw [h2] at hx
        exact (L.rs.ok t ht).ok x hx
      · obtain ⟨t, ht, h1, h2⟩ := bdat_in O0.b hr
        rw [h1, eC t ht]
        rw [h2] at hx
        exact (L.bs.ok t ht).ok x hx
    -- the sum
    refine ⟨_, rfl, .inl ⟨rfl, _, SqL.of hM⟩, _, rfl, Ma, _, _, .ref c0.p, rfl, rfl, SqL.of hM, rfl, _, rfl, Ma, _, _, .ref c1.p, rfl, rfl, SqL.of hM, rfl, c0.p, c1.p, dx0, dx1, _, _, rfl, rfl, ob0, ob1, c0.p, c0.pd, c0.cd, c0.m, c1.p, c1.pd, c1.cd, c1.m, c0.rs, c1.rs, c0.bs, c1.bs, c0.ms, c1.ms, fR tr, fC br, rfl, O0.at_, O1.at_, Fi, x1, x2, x3, fun p pd cd m rs bs H2 Y q1 q2 s2 fp2 => ⟨⟨p, rfl⟩, ?_⟩⟩
    have hM2 := s2 _ _ hM
    have Q1 : rs.map rdat = (tr.map (rO 2)).map rdat := by
      rw [q1]
      have : c0.rs.map (T1 (fR tr)) = (c0.rs.map rdat).map fun z => (z.1, through z.2 (fR tr z.1)) := by rw [List.map_map]; rfl
      rw [this, O0.r, List.map_map, List.map_map, List.map_map]
      refine List.map_congr_left fun t ht => ?_
      show (t.1, through t.2.2.1 (fR tr t.1)) = (t.1, through t.2.2.1 t.2.2.2)
      rw [eR t ht]
    have Q2 : bs.map bdat = (br.map (bO 2)).map bdat := by
      rw [q2]
      have : c0.bs.map (T2 (fC br)) = (c0.bs.map bdat).map fun z => (z.1, led z.2 (fC br z.1)) := by rw [List.map_map]; rfl
      rw [this, O0.b, List.map_map, List.map_map, List.map_map]
      refine List.map_congr_left fun t ht => ?_
      show (t.1, led t.2.2.1 (fC br t.1)) = (t.1, led t.2.2.1 t.2.2.2)
      rw [eC t ht]
    refine ⟨Ma, _, _, rfl, rfl, hM2, by show 2 < sizeLine; rw [sizeLine_eq]; decide, ?_⟩
    have nmM : mo ≠ Ma := fun z => by
      rw [z, hM] at hmo
      have := Option.some.inj hmo
      injection this with this
      cases hms : c1.ms with
      | nil => rw [hms] at this; cases this
      | cons _ _ => rw [hms] at this; injection this with this; cases this
    have O0' := (O0.same s2).put (u := .lst (List.map (fun c : CRec => V.ref c.p) [c0, c1] ++ [V.ref p])) hM2
    have O1' := (O1.same s2).put (u := .lst (List.map (fun c : CRec => V.ref c.p) [c0, c1] ++ [V.ref p])) hM2
    have O2' : (⟨p, pd, cd, m, rs, bs, c1.ms⟩ : CRec).Ok A.c_Carry (upd H2 Ma (.lst (List.map (fun c : CRec => V.ref c.p) [c0, c1] ++ [V.ref p]))) tr br 2 := ⟨Y.lock (Y.kind hM2), Q1, Q2⟩
    have A2 : Apt ⟨p, pd, cd, m, rs, bs, c1.ms⟩ d e br := Apt.of L.rs L.bs fp2
    have hmo3 : upd H2 Ma (.lst (List.map (fun c : CRec => V.ref c.p) [c0, c1] ++ [V.ref p])) mo = some (.lst (c1.ms.map V.int)) := by rw [upd_ne nmM]; exact s2 _ _ hmo
    have hM3 : upd H2 Ma (.lst (List.map (fun c : CRec => V.ref c.p) [c0, c1] ++ [V.ref p])) Ma = some (.lst [.ref c0.p, .ref c1.p, .ref p]) := upd_same
    have kp3 : Kp (isP P0) H10 (upd H2 Ma (.lst (List.map (fun c : CRec => V.ref c.p) [c0, c1] ++ [V.ref p]))) := (kp.trans' s2).put hMa
    have hp3' : PoolP (upd H2 Ma (.lst (List.map (fun c : CRec => V.ref c.p) [c0, c1] ++ [V.ref p]))) P0 := by
      obtain ⟨zs, hz, hzl⟩ := hp.same s2
      exact ⟨zs, by rw [upd_ne nMP.symm]; exact hz, hzl⟩
    have L3 := L10.kp N hnP hp3' kp3
    obtain ⟨dx2, ob2⟩ := O2'.at_.ob
    generalize upd H2 Ma (.lst (List.map (fun c : CRec => V.ref c.p) [c0, c1] ++ [V.ref p])) = H4 at O0' O1' O2' hmo3 hM3 L3 ob2 ⊢
    refine ⟨_, rfl, Ma, _, _, .ref p, rfl, rfl, SqL.of hM3, rfl, _, _, _, _, true, rfl, .own _, .base (.ins ob2 T.cl_Carry T.iy_Carry T.gx_get T.gx_tak T.im_Carry), kit_self, _, rfl, ?_⟩
    refine if_false_of rfl ?_
    have e1 : (c1.ms.map some).map oi = c1.ms.map V.int := by rw [List.map_map]; rfl
    refine ⟨_, rfl, Ma, _, _, .ref p, rfl, rfl, SqL.of hM3, rfl, p, _, dx2, _, _, rfl, ob2, T.cl_Carry, T.na_Carry_moments, ca_moments, _, rfl, m, mo, c1.ms.map some, rfl, by rw [e1]; exact O2'.at_.hm, by rw [e1]; exact hmo3, by rw [List.length_map]; omega, fun H5 s5 => ⟨_, rfl, ?_⟩⟩
    refine if_false_of rfl ?_
    have L5 := L3.same s5
    have P0' := O0'.same s5
    have P1' := O1'.same s5
    have P2' := O2'.same s5
    have hM5 := s5 _ _ hM3
    clear O0' O1' O2' L3 hM3 hmo3 ob2
    -- every carry
    have zt : ("zz" : Str) ∉ tr.map (·.1) := by
      rw [htr]
      intro z
      rcases List.mem_cons.mp z with z | z
      · exact hnm.z1 z.symm
      · exact hnm.z2 (List.mem_singleton.mp z).symm
    have zb : ("zz" : Str) ∉ br.map (·.1) := by
      rw [hbr]
      intro z
      rcases List.mem_cons.mp z with z | z
      · exact hbm.z1 z.symm
      · exact hbm.z2 (List.mem_singleton.mp z).symm
    have crs : ∀ (c : CRec) (j : Nat) (Hx : Hp), j < 3 → c.Ok A.c_Carry Hx tr br j → Apt c d e br → ∀ Q : Prop, (("zz" : Str) ∉ c.rs.map (·.1) → ("zz" : Str) ∉ c.bs.map (·.1) → (∀ b ∈ br.map (bO j), ¬ c.fp b.2.1) → Q) → Q := fun c j Hx hj O Ap Q k => by
      refine k ?_ ?_ ?_
      · have := congrArg (fun l => l.map (·.1)) O.r
        rw [List.map_map, List.map_map] at this
        have e : c.rs.map (·.1) = (tr.map (rO j)).map (·.1) := this
        rw [e, rO_names]
        exact zt
      · have := congrArg (fun l => l.map (·.1)) O.b
        rw [List.map_map, List.map_map] at this
        have e : c.bs.map (·.1) = (br.map (bO j)).map (·.1) := this
        rw [e, bO_names]
        exact zb
      · intro b hb
        obtain ⟨t, ht, rfl⟩ := List.mem_map.mp hb
        exact Ap.b j hj t ht
    generalize hc2 : (⟨p, pd, cd, m, rs, bs, c1.ms⟩ : CRec) = c2 at P2' A2
    have ep : p = c2.p := by rw [← hc2]
    rw [ep] at hM5
    have all3 : ∀ j c, [c0, c1, c2][j]? = some c → c.Ok A.c_Carry H5 tr br j ∧ Apt c d e br := fun j c h => by
      match j, h with
      | 0, h => cases h; exact ⟨P0', A0⟩
      | 1, h => cases h; exact ⟨P1', A1⟩
      | 2, h => cases h; exact ⟨P2', A2⟩
    clear P0' P1' P2'
    refine ⟨3, rfl, by decide, by decide, for_range (lo := 0) (n := 3) (fun i σ H => ∃ (v8 : Option V), σ = [some (.ref a), some (.ref P0), some (.ref na), some (.ref ba), some (.ref R), some (.ref Tb), v6b, v7b, v8, some (.bl lists), some (.ref Ma), some (.ref mo), none] ∧ Same H5 H) ⟨_, rfl, fun _ _ h => h⟩ ?_ ?_⟩
    · rintro i σ H hi ⟨v8, rfl, s⟩
      have L := L5.same s
      have hRm : [V.ref (d 0), V.ref (d 1), V.ref (d 2)][i]? = some (.ref (d i)) := by
        match i, hi with
        | 0, _ => rfl
        | 1, _ => rfl
        | 2, _ => rfl
      have hTm : [V.ref (e 0), V.ref (e 1), V.ref (e 2)][i]? = some (.ref (e i)) := by
        match i, hi with
        | 0, _ => rfl
        | 1, _ => rfl
        | 2, _ => rfl
      obtain ⟨c, hc, hcm⟩ : ∃ c, [c0, c1, c2][i]? = some c ∧ [V.ref c0.p, V.ref c1.p, V.ref c2.p][i]? = some (.ref c.p) := by
        match i, hi with
        | 0, _ => exact ⟨c0, rfl, rfl⟩
        | 1, _ => exact ⟨c1, rfl, rfl⟩
        | 2, _ => exact ⟨c2, rfl, rfl⟩
      obtain ⟨O, Ap⟩ := all3 i c hc
      refine crs c i H5 hi O Ap _ fun z1 z2 nb => ?_
      refine ⟨_, rfl, _, rfl, Ma, _, _, .ref c.p, rfl, rfl, SqL.of (s _ _ hM5), (by rw [Int.zero_add]; exact atI_nat hcm), _, rfl, _, rfl, R, _, _, .ref (d i), rfl, rfl, SqL.of L.hR, (by rw [Int.zero_add]; exact atI_nat hRm), _, rfl, _, rfl, Tb, _, _, .ref (e i), rfl, rfl, SqL.of L.hT, (by rw [Int.zero_add]; exact atI_nat hTm), c.p, c.pd, c.cd, c.m, c.rs, c.bs, c.ms, d i, e i, tr.map (rO i), br.map (bO i), rfl, (O.same s).at_, DueAt.of L.rs L.bs hi, O.r, O.b, Ap.d i hi, Ap.e i hi, nb, z1, z2, fun H6 s6 => ⟨_, rfl, ?_⟩⟩
      refine if_false_of rfl ?_
      exact ⟨_, rfl, s.trans s6⟩
    rintro σ H6 ⟨v8d, rfl, (s6 : Same H5 H6)⟩
    have L6 := L5.same s6
    have hM6 := s6 _ _ hM5
    have all6 : ∀ (j : Nat) (c : CRec), [c0, c1, c2][j]? = some c → CRec.Ok c A.c_Carry H6 tr br j := fun j c h => CRec.Ok.same (all3 j c h).1 s6
    refine ⟨_, rfl, na, rfl, ⟨_, SqL.of L6.hna⟩, for_list (K := K) (a := na) (xs := [n1, n2].map V.str) (fun i σ H => ∃ (v6 : Option V), σ = [some (.ref a), some (.ref P0), some (.ref na), some (.ref ba), some (.ref R), some (.ref Tb), v6, v7b, v8d, some (.bl lists), some (.ref Ma), some (.ref mo), none] ∧ Same H6 H) ⟨_, rfl, fun _ _ h => h⟩ (fun i σ H _ h => by obtain ⟨_, _, s⟩ := h; exact SqL.of (s _ _ L6.hna)) ?_ ?_⟩
    · rintro i x σ H hx ⟨v6, rfl, s⟩
      rw [List.getElem?_map] at hx
      obtain ⟨nm, hnm2, rfl⟩ : ∃ nm, [n1, n2][i]? = some nm ∧ x = .str nm := by
        cases q : [n1, n2][i]? with
        | none => rw [q] at hx; cases hx
        | some o => rw [q] at hx; exact ⟨o, rfl, (Option.some.inj hx).symm⟩
      obtain ⟨t, ht, rfl⟩ : ∃ t ∈ tr, t.1 = nm := by
        have : nm ∈ tr.map (·.1) := by rw [htr]; exact List.mem_of_getElem? hnm2
        exact List.mem_map.mp this
      refine ⟨_, rfl, Ma, rfl, ⟨_, SqL.of (s _ _ hM6)⟩, fun la hla => lc_it (walk_list (K := K) (a := Ma) (xs := [.ref c0.p, .ref c1.p, .ref c2.p])) (fun j H2 => Same H H2 ∧ H2 la = some (.lst (([0, 1, 2].take j).map fun q => V.str (nameN (keptN (pairsOf (rO q t).2.2)))))) ⟨same_new hla, upd_same⟩ (fun j H2 _ h => SqL.of (h.1 _ _ (s _ _ hM6))) ?_ ?_⟩
      · rintro j x H2 H3 hj ⟨s2, hla2⟩ ⟨rfl, hx⟩
        obtain ⟨c, hc, rfl, hq⟩ : ∃ c, [c0, c1, c2][j]? = some c ∧ x = .ref c.p ∧ ([0, 1, 2] : List Nat)[j]? = some j := by
          match j, hx with
          | 0, hx => exact ⟨c0, rfl, (Option.some.inj hx).symm, rfl⟩
          | 1, hx => exact ⟨c1, rfl, (Option.some.inj hx).symm, rfl⟩
          | 2, hx => exact ⟨c2, rfl, (Option.some.inj hx).symm, rfl⟩
        have O := CRec.Ok.same (all6 j c hc) (s.trans s2)
        obtain ⟨r, hr, h1, h2⟩ := rdat_mem O.r ht
        obtain ⟨dx, ob⟩ := O.at_.ob
        refine ⟨rfl, ?_⟩
        refine iteT (B := True) ?_
        refine iteT ?_
        refine ⟨_, rfl, c.p, dx, _, rfl, ob, ca_no (by decide +kernel) (by decide +kernel) (by decide +kernel), _, rfl, c.p, c.pd, c.cd, c.m, c.rs, c.bs, c.ms, _, rfl, O.at_, .inr ⟨r, hr, h1, fun H5 s5 => ⟨_, s5 _ _ hla2, ?_, fun b o e => ?_, ?_⟩⟩⟩
        · rw [List.length_map, List.length_take, sizeLine_eq]
          have : ([0, 1, 2] : List Nat).length = 3 := rfl
          omega
        · rw [upd_ne (ne_of_none e hla)]
          exact s5 _ _ (s2 b o e)
        · rw [upd_same, List.take_add_one, hq, List.map_append, h2]
          rfl
      · rintro H2 ⟨s2, hla2⟩
        refine ⟨la, keptN (pairsOf (rO 0 t).2.2), keptN (pairsOf (rO 1 t).2.2), keptN (pairsOf (rO 2 t).2.2), rfl, hla2, keptN_rng _, keptN_rng _, keptN_rng _, least_rows (L6.rs.ok t ht).ok, fun H3 s3 => ⟨_, rfl, ?_⟩⟩
        refine if_false_of rfl ?_
        exact ⟨_, rfl, s.trans (s2.trans s3)⟩
    rintro σ H7 ⟨v6e, rfl, s7⟩
    have s7 : Same H6 H7 := s7
    refine ⟨_, rfl, ba, rfl, ⟨_, SqL.of (s7 _ _ L6.hba)⟩, for_list (K := K) (a := ba) (xs := [b1, b2].map V.str) (fun i σ H => ∃ (v6 : Option V), σ = [some (.ref a), some (.ref P0), some (.ref na), some (.ref ba), some (.ref R), some (.ref Tb), v6, v7b, v8d, some (.bl lists), some (.ref Ma), some (.ref mo), none] ∧ Same H6 H) ⟨_, rfl, s7⟩ (fun i σ H _ h => by obtain ⟨_, _, s⟩ := h; exact SqL.of (s _ _ L6.hba)) ?_ ?_⟩
    · rintro i x σ H hx ⟨v6, rfl, s⟩
      rw [List.getElem?_map] at hx
      obtain ⟨nm, hnm2, rfl⟩ : ∃ nm, [b1, b2][i]? = some nm ∧ x = .str nm := by
        cases q : [b1, b2][i]? with
        | none => rw [q] at hx; cases hx
        | some o => rw [q] at hx; exact ⟨o, rfl, (Option.some.inj hx).symm⟩
      obtain ⟨t, ht, rfl⟩ : ∃ t ∈ br, t.1 = nm := by
        have : nm ∈ br.map (·.1) := by rw [hbr]; exact List.mem_of_getElem? hnm2
        exact List.mem_map.mp this
      refine ⟨_, rfl, Ma, rfl, ⟨_, SqL.of (s _ _ hM6)⟩, fun la hla => lc_it (walk_list (K := K) (a := Ma) (xs := [.ref c0.p, .ref c1.p, .ref c2.p])) (fun j H2 => Same H H2 ∧ H2 la = some (.lst (([0, 1, 2].take j).map fun q => V.str (nameN (keptN ((bO q t).2.2)))))) ⟨same_new hla, upd_same⟩ (fun j H2 _ h => SqL.of (h.1 _ _ (s _ _ hM6))) ?_ ?_⟩
      · rintro j x H2 H3 hj ⟨s2, hla2⟩ ⟨rfl, hx⟩
        obtain ⟨c, hc, rfl, hq⟩ : ∃ c, [c0, c1, c2][j]? = some c ∧ x = .ref c.p ∧ ([0, 1, 2] : List Nat)[j]? = some j := by
          match j, hx with
          | 0, hx => exact ⟨c0, rfl, (Option.some.inj hx).symm, rfl⟩
          | 1, hx => exact ⟨c1, rfl, (Option.some.inj hx).symm, rfl⟩
          | 2, hx => exact ⟨c2, rfl, (Option.some.inj hx).symm, rfl⟩
        have O := CRec.Ok.same (all6 j c hc) (s.trans s2)
        obtain ⟨r, hr, h1, h2⟩ := bdat_mem O.b ht
        obtain ⟨dx, ob⟩ := O.at_.ob
        refine ⟨rfl, ?_⟩
        refine iteT (B := True) ?_
        refine iteT ?_
        refine ⟨_, rfl, c.p, dx, _, rfl, ob, ca_no (by decide +kernel) (by decide +kernel) (by decide +kernel), _, rfl, c.p, c.pd, c.cd, c.m, c.rs, c.bs, c.ms, _, rfl, O.at_, .inr ⟨r, hr, h1, fun H5 s5 => ⟨_, s5 _ _ hla2, ?_, fun b o e => ?_, ?_⟩⟩⟩
        · rw [List.length_map, List.length_take, sizeLine_eq]
          have : ([0, 1, 2] : List Nat).length = 3 := rfl
          omega
        · rw [upd_ne (ne_of_none e hla)]
          exact s5 _ _ (s2 b o e)
        · rw [upd_same, List.take_add_one, hq, List.map_append, h2]
          rfl
      · rintro H2 ⟨s2, hla2⟩
        refine ⟨la, keptN ((bO 0 t).2.2), keptN ((bO 1 t).2.2), keptN ((bO 2 t).2.2), rfl, hla2, keptN_rng _, keptN_rng _, keptN_rng _, least_codes (L6.bs.ok t ht).ok, fun H3 s3 => ⟨_, rfl, ?_⟩⟩
        refine if_false_of rfl ?_
        exact ⟨_, rfl, s.trans (s2.trans s3)⟩
    rintro σ H8 ⟨v6f, rfl, s8⟩
    exact kQ _
end
end L2.Cd

namespace L2.Cd
open PySem PySem.Spec PyProof.Rows L2.Ex
theorem all_mk {P : Program} {w : World} {K : PySem.W.Frag} {h : Heap} {mg : Str → Option Value} {fa : Addr} (X : K.In h) (G : h.Ns mainGlobals mg) (hfa : mg "law" = some (.ref fa))
    {c_ColonnadeError c_NoCode c_NoTable c_NoBook c_Carry f_NoCode_init f_NoTable_init f_NoBook_init f_in_order f_told_by_first f_kept_by f_Carry_init f_Carry_new_place f_Carry_new_code f_Carry_keeps_places f_Carry_keeps_codes f_Carry_add f_law_digits f_law_draw f_law_apart f_law_keeps f_law_kept f_law_places f_law_codes f_law_olds f_law_int f_law_row f_law_relation f_law_refused f_law_missing f_law_one_table f_law_one_book f_law_carry f_law_made f_law_through f_law_led f_law_least f_law_moments f_law_two_rows f_law_two_books f_law : Addr}
    {oc_NoCode_init kV_NoCode_init dc_NoCode_init pm_NoCode_init cd_NoCode_init ct_NoCode_init oc_NoTable_init kV_NoTable_init dc_NoTable_init pm_NoTable_init cd_NoTable_init ct_NoTable_init oc_NoBook_init kV_NoBook_init dc_NoBook_init pm_NoBook_init cd_NoBook_init ct_NoBook_init oc_in_order kV_in_order dc_in_order pm_in_order cd_in_order ct_in_order oc_told_by_first kV_told_by_first dc_told_by_first pm_told_by_first cd_told_by_first ct_told_by_first oc_kept_by kV_kept_by dc_kept_by pm_kept_by cd_kept_by ct_kept_by oc_Carry_init kV_Carry_init dc_Carry_init pm_Carry_init cd_Carry_init ct_Carry_init oc_Carry_new_place kV_Carry_new_place dc_Carry_new_place pm_Carry_new_place cd_Carry_new_place ct_Carry_new_place oc_Carry_new_code kV_Carry_new_code dc_Carry_new_code pm_Carry_new_code cd_Carry_new_code ct_Carry_new_code oc_Carry_keeps_places kV_Carry_keeps_places dc_Carry_keeps_places pm_Carry_keeps_places cd_Carry_keeps_places ct_Carry_keeps_places oc_Carry_keeps_codes kV_Carry_keeps_codes dc_Carry_keeps_codes pm_Carry_keeps_codes cd_Carry_keeps_codes ct_Carry_keeps_codes oc_Carry_add kV_Carry_add dc_Carry_add pm_Carry_add cd_Carry_add ct_Carry_add oc_law_digits kV_law_digits dc_law_digits pm_law_digits cd_law_digits ct_law_digits oc_law_draw kV_law_draw dc_law_draw pm_law_draw cd_law_draw ct_law_draw oc_law_apart kV_law_apart dc_law_apart pm_law_apart cd_law_apart ct_law_apart oc_law_keeps kV_law_keeps dc_law_keeps pm_law_keeps cd_law_keeps ct_law_keeps oc_law_kept kV_law_kept dc_law_kept pm_law_kept cd_law_kept ct_law_kept oc_law_places kV_law_places dc_law_places pm_law_places cd_law_places ct_law_places oc_law_codes kV_law_codes dc_law_codes pm_law_codes cd_law_codes ct_law_codes oc_law_olds kV_law_olds dc_law_olds pm_law_olds cd_law_olds ct_law_olds oc_law_int kV_law_int dc_law_int pm_law_int cd_law_int ct_law_int oc_law_row kV_law_row dc_law_row pm_law_row cd_law_row ct_law_row oc_law_relation kV_law_relation dc_law_relation pm_law_relation cd_law_relation ct_law_relation oc_law_refused kV_law_refused dc_law_refused pm_law_refused cd_law_refused ct_law_refused oc_law_missing kV_law_missing dc_law_missing pm_law_missing cd_law_missing ct_law_missing oc_law_one_table kV_law_one_table dc_law_one_table pm_law_one_table cd_law_one_table ct_law_one_table oc_law_one_book kV_law_one_book dc_law_one_book pm_law_one_book cd_law_one_book ct_law_one_book oc_law_carry kV_law_carry dc_law_carry pm_law_carry cd_law_carry ct_law_carry oc_law_made kV_law_made dc_law_made pm_law_made cd_law_made ct_law_made oc_law_through kV_law_through dc_law_through pm_law_through cd_law_through ct_law_through oc_law_led kV_law_led dc_law_led pm_law_led cd_law_led ct_law_led oc_law_least kV_law_least dc_law_least pm_law_least cd_law_least ct_law_least oc_law_moments kV_law_moments dc_law_moments pm_law_moments cd_law_moments ct_law_moments oc_law_two_rows kV_law_two_rows dc_law_two_rows pm_law_two_rows cd_law_two_rows ct_law_two_rows oc_law_two_books kV_law_two_books dc_law_two_books pm_law_two_books cd_law_two_books ct_law_two_books oc_law kV_law dc_law pm_law cd_law ct_law : Value}
    {od_NoCode_init an_NoCode_init od_NoTable_init an_NoTable_init od_NoBook_init an_NoBook_init od_in_order an_in_order od_told_by_first an_told_by_first od_kept_by an_kept_by od_Carry_init an_Carry_init od_Carry_new_place an_Carry_new_place od_Carry_new_code an_Carry_new_code od_Carry_keeps_places an_Carry_keeps_places od_Carry_keeps_codes an_Carry_keeps_codes od_Carry_add an_Carry_add od_law_digits an_law_digits od_law_draw an_law_draw od_law_apart an_law_apart od_law_keeps an_law_keeps od_law_kept an_law_kept od_law_places an_law_places od_law_codes an_law_codes od_law_olds an_law_olds od_law_int an_law_int od_law_row an_law_row od_law_relation an_law_relation od_law_refused an_law_refused od_law_missing an_law_missing od_law_one_table an_law_one_table od_law_one_book an_law_one_book od_law_carry an_law_carry od_law_made an_law_made od_law_through an_law_through od_law_led an_law_led od_law_least an_law_least od_law_moments an_law_moments od_law_two_rows an_law_two_rows od_law_two_books an_law_two_books od_law an_law xd_NoCode xd_NoTable xd_NoBook : Option Addr}
    {sl_NoCode_init sl_NoTable_init sl_NoBook_init sl_in_order sl_told_by_first sl_kept_by sl_Carry_init sl_Carry_new_place sl_Carry_new_code sl_Carry_keeps_places sl_Carry_keeps_codes sl_Carry_add sl_law_digits sl_law_draw sl_law_apart sl_law_keeps sl_law_kept sl_law_places sl_law_codes sl_law_olds sl_law_int sl_law_row sl_law_relation sl_law_refused sl_law_missing sl_law_one_table sl_law_one_book sl_law_carry sl_law_made sl_law_through sl_law_led sl_law_least sl_law_moments sl_law_two_rows sl_law_two_books sl_law : Array (Option Value)}
    {xn_NoCode xq_NoCode xn_NoTable xq_NoTable xn_NoBook xq_NoBook : Str}
    {xN_NoCode xN_NoTable xN_NoBook : Addr}
    {xb_NoCode xu_NoCode xb_NoTable xu_NoTable xb_NoBook xu_NoBook : List Value}
    {xs_NoCode xs_NoTable xs_NoBook : List Str}
    {xa_NoCode xa_NoTable xa_NoBook : Bool}
    {xo_NoCode xo_NoTable xo_NoBook : Option Bool}
    {x0_NoCode x1_NoCode x2_NoCode x3_NoCode x5_NoCode x0_NoTable x1_NoTable x2_NoTable x3_NoTable x5_NoTable x0_NoBook x1_NoBook x2_NoBook x3_NoBook x5_NoBook : Option Value}
    (hb_isinstance : PySem.W.nsIn K mainGlobals "isinstance" = some none)
    (hb_int : PySem.W.nsIn K mainGlobals "int" = some none)
    (hb_bool : PySem.W.nsIn K mainGlobals "bool" = some none)
    (hb_list : PySem.W.nsIn K mainGlobals "list" = some none)
    (hb_len : PySem.W.nsIn K mainGlobals "len" = some none)
    (hb_min : PySem.W.nsIn K mainGlobals "min" = some none)
    (hb_max : PySem.W.nsIn K mainGlobals "max" = some none)
    (hb_sorted : PySem.W.nsIn K mainGlobals "sorted" = some none)
    (hb_range : PySem.W.nsIn K mainGlobals "range" = some none)
    (hb_dict : PySem.W.nsIn K mainGlobals "dict" = some none)
    (hb_abs : PySem.W.nsIn K mainGlobals "abs" = some none)
    (hb_all : PySem.W.nsIn K mainGlobals "all" = some none)
    (hb_zip : PySem.W.nsIn K mainGlobals "zip" = some none)
    (hb_enumerate : PySem.W.nsIn K mainGlobals "enumerate" = some none)
    (hb_tuple : PySem.W.nsIn K mainGlobals "tuple" = some none)
    (hb_str : PySem.W.nsIn K mainGlobals "str" = some none)
    (hc_ColonnadeError : PySem.W.nsIn K mainGlobals "ColonnadeError" = some (some (.ref c_ColonnadeError)))
    (hc_NoCode : PySem.W.nsIn K mainGlobals "NoCode" = some (some (.ref c_NoCode)))
    (hc_NoTable : PySem.W.nsIn K mainGlobals "NoTable" = some (some (.ref c_NoTable)))
    (hc_NoBook : PySem.W.nsIn K mainGlobals "NoBook" = some (some (.ref c_NoBook)))
    (hc_Carry : PySem.W.nsIn K mainGlobals "Carry" = some (some (.ref c_Carry)))
    (ha_NoCode_init : PySem.W.findIn K (.ref c_NoCode) "__init__" = some (some (.ref f_NoCode_init)))
    (hl_NoCode_init : K.lookup f_NoCode_init = some ⟨oc_NoCode_init, od_NoCode_init, .func (PySem.W.fnOf "__init__" "NoCode.__init__" (defArgs s_NoCode_init) (defBody s_NoCode_init) (defScope s_NoCode_init) .none kV_NoCode_init dc_NoCode_init pm_NoCode_init an_NoCode_init cd_NoCode_init ct_NoCode_init), sl_NoCode_init⟩)
    (hd_NoCode_init : PySem.W.codeIn K cd_NoCode_init "NoCode.__init__" = true)
    (hk_NoCode_init : PySem.W.keepIn K (.ref f_NoCode_init) = true)
    (ha_NoTable_init : PySem.W.findIn K (.ref c_NoTable) "__init__" = some (some (.ref f_NoTable_init)))
    (hl_NoTable_init : K.lookup f_NoTable_init = some ⟨oc_NoTable_init, od_NoTable_init, .func (PySem.W.fnOf "__init__" "NoTable.__init__" (defArgs s_NoTable_init) (defBody s_NoTable_init) (defScope s_NoTable_init) .none kV_NoTable_init dc_NoTable_init pm_NoTable_init an_NoTable_init cd_NoTable_init ct_NoTable_init), sl_NoTable_init⟩)
    (hd_NoTable_init : PySem.W.codeIn K cd_NoTable_init "NoTable.__init__" = true)
    (hk_NoTable_init : PySem.W.keepIn K (.ref f_NoTable_init) = true)
    (ha_NoBook_init : PySem.W.findIn K (.ref c_NoBook) "__init__" = some (some (.ref f_NoBook_init)))
    (hl_NoBook_init : K.lookup f_NoBook_init = some ⟨oc_NoBook_init, od_NoBook_init, .func (PySem.W.fnOf "__init__" "NoBook.__init__" (defArgs s_NoBook_init) (defBody s_NoBook_init) (defScope s_NoBook_init) .none kV_NoBook_init dc_NoBook_init pm_NoBook_init an_NoBook_init cd_NoBook_init ct_NoBook_init), sl_NoBook_init⟩)
    (hd_NoBook_init : PySem.W.codeIn K cd_NoBook_init "NoBook.__init__" = true)
    (hk_NoBook_init : PySem.W.keepIn K (.ref f_NoBook_init) = true)
    (ha_in_order : PySem.W.nsIn K mainGlobals "in_order" = some (some (.ref f_in_order)))
    (hl_in_order : K.lookup f_in_order = some ⟨oc_in_order, od_in_order, .func (PySem.W.fnOf "in_order" "in_order" (defArgs s_in_order) (defBody s_in_order) (defScope s_in_order) .none kV_in_order dc_in_order pm_in_order an_in_order cd_in_order ct_in_order), sl_in_order⟩)
    (hd_in_order : PySem.W.codeIn K cd_in_order "in_order" = true)
    (hk_in_order : PySem.W.keepIn K (.ref f_in_order) = true)
    (ha_told_by_first : PySem.W.nsIn K mainGlobals "told_by_first" = some (some (.ref f_told_by_first)))
    (hl_told_by_first : K.lookup f_told_by_first = some ⟨oc_told_by_first, od_told_by_first, .func (PySem.W.fnOf "told_by_first" "told_by_first" (defArgs s_told_by_first) (defBody s_told_by_first) (defScope s_told_by_first) .none kV_told_by_first dc_told_by_first pm_told_by_first an_told_by_first cd_told_by_first ct_told_by_first), sl_told_by_first⟩)
    (hd_told_by_first : PySem.W.codeIn K cd_told_by_first "told_by_first" = true)
    (hk_told_by_first : PySem.W.keepIn K (.ref f_told_by_first) = true)
    (ha_kept_by : PySem.W.nsIn K mainGlobals "kept_by" = some (some (.ref f_kept_by)))
    (hl_kept_by : K.lookup f_kept_by = some ⟨oc_kept_by, od_kept_by, .func (PySem.W.fnOf "kept_by" "kept_by" (defArgs s_kept_by) (defBody s_kept_by) (defScope s_kept_by) .none kV_kept_by dc_kept_by pm_kept_by an_kept_by cd_kept_by ct_kept_by), sl_kept_by⟩)
    (hd_kept_by : PySem.W.codeIn K cd_kept_by "kept_by" = true)
    (hk_kept_by : PySem.W.keepIn K (.ref f_kept_by) = true)
    (ha_Carry_init : PySem.W.findIn K (.ref c_Carry) "__init__" = some (some (.ref f_Carry_init)))
    (hi_Carry_init : PySem.W.isFn K (.ref f_Carry_init) = true)
    (hl_Carry_init : K.lookup f_Carry_init = some ⟨oc_Carry_init, od_Carry_init, .func (PySem.W.fnOf "__init__" "Carry.__init__" (defArgs s_Carry_init) (defBody s_Carry_init) (defScope s_Carry_init) .none kV_Carry_init dc_Carry_init pm_Carry_init an_Carry_init cd_Carry_init ct_Carry_init), sl_Carry_init⟩)
    (hd_Carry_init : PySem.W.codeIn K cd_Carry_init "Carry.__init__" = true)
    (hk_Carry_init : PySem.W.keepIn K (.ref f_Carry_init) = true)
    (ha_Carry_new_place : PySem.W.findIn K (.ref c_Carry) "new_place" = some (some (.ref f_Carry_new_place)))
    (hi_Carry_new_place : PySem.W.isFn K (.ref f_Carry_new_place) = true)
    (hl_Carry_new_place : K.lookup f_Carry_new_place = some ⟨oc_Carry_new_place, od_Carry_new_place, .func (PySem.W.fnOf "new_place" "Carry.new_place" (defArgs s_Carry_new_place) (defBody s_Carry_new_place) (defScope s_Carry_new_place) .none kV_Carry_new_place dc_Carry_new_place pm_Carry_new_place an_Carry_new_place cd_Carry_new_place ct_Carry_new_place), sl_Carry_new_place⟩)
    (hd_Carry_new_place : PySem.W.codeIn K cd_Carry_new_place "Carry.new_place" = true)
    (hk_Carry_new_place : PySem.W.keepIn K (.ref f_Carry_new_place) = true)
    (ha_Carry_new_code : PySem.W.findIn K (.ref c_Carry) "new_code" = some (some (.ref f_Carry_new_code)))
    (hi_Carry_new_code : PySem.W.isFn K (.ref f_Carry_new_code) = true)
    (hl_Carry_new_code : K.lookup f_Carry_new_code = some ⟨oc_Carry_new_code, od_Carry_new_code, .func (PySem.W.fnOf "new_code" "Carry.new_code" (defArgs s_Carry_new_code) (defBody s_Carry_new_code) (defScope s_Carry_new_code) .none kV_Carry_new_code dc_Carry_new_code pm_Carry_new_code an_Carry_new_code cd_Carry_new_code ct_Carry_new_code), sl_Carry_new_code⟩)
    (hd_Carry_new_code : PySem.W.codeIn K cd_Carry_new_code "Carry.new_code" = true)
    (hk_Carry_new_code : PySem.W.keepIn K (.ref f_Carry_new_code) = true)
    (ha_Carry_keeps_places : PySem.W.findIn K (.ref c_Carry) "keeps_places" = some (some (.ref f_Carry_keeps_places)))
    (hi_Carry_keeps_places : PySem.W.isFn K (.ref f_Carry_keeps_places) = true)
    (hl_Carry_keeps_places : K.lookup f_Carry_keeps_places = some ⟨oc_Carry_keeps_places, od_Carry_keeps_places, .func (PySem.W.fnOf "keeps_places" "Carry.keeps_places" (defArgs s_Carry_keeps_places) (defBody s_Carry_keeps_places) (defScope s_Carry_keeps_places) .none kV_Carry_keeps_places dc_Carry_keeps_places pm_Carry_keeps_places an_Carry_keeps_places cd_Carry_keeps_places ct_Carry_keeps_places), sl_Carry_keeps_places⟩)
    (hd_Carry_keeps_places : PySem.W.codeIn K cd_Carry_keeps_places "Carry.keeps_places" = true)
    (hk_Carry_keeps_places : PySem.W.keepIn K (.ref f_Carry_keeps_places) = true)
    (ha_Carry_keeps_codes : PySem.W.findIn K (.ref c_Carry) "keeps_codes" = some (some (.ref f_Carry_keeps_codes)))
    (hi_Carry_keeps_codes : PySem.W.isFn K (.ref f_Carry_keeps_codes) = true)
    (hl_Carry_keeps_codes : K.lookup f_Carry_keeps_codes = some ⟨oc_Carry_keeps_codes, od_Carry_keeps_codes, .func (PySem.W.fnOf "keeps_codes" "Carry.keeps_codes" (defArgs s_Carry_keeps_codes) (defBody s_Carry_keeps_codes) (defScope s_Carry_keeps_codes) .none kV_Carry_keeps_codes dc_Carry_keeps_codes pm_Carry_keeps_codes an_Carry_keeps_codes cd_Carry_keeps_codes ct_Carry_keeps_codes), sl_Carry_keeps_codes⟩)
    (hd_Carry_keeps_codes : PySem.W.codeIn K cd_Carry_keeps_codes "Carry.keeps_codes" = true)
    (hk_Carry_keeps_codes : PySem.W.keepIn K (.ref f_Carry_keeps_codes) = true)
    (ha_Carry_add : PySem.W.findIn K (.ref c_Carry) "__add__" = some (some (.ref f_Carry_add)))
    (hi_Carry_add : PySem.W.isFn K (.ref f_Carry_add) = true)
    (hl_Carry_add : K.lookup f_Carry_add = some ⟨oc_Carry_add, od_Carry_add, .func (PySem.W.fnOf "__add__" "Carry.__add__" (defArgs s_Carry_add) (defBody s_Carry_add) (defScope s_Carry_add) .none kV_Carry_add dc_Carry_add pm_Carry_add an_Carry_add cd_Carry_add ct_Carry_add), sl_Carry_add⟩)
    (hd_Carry_add : PySem.W.codeIn K cd_Carry_add "Carry.__add__" = true)
    (hk_Carry_add : PySem.W.keepIn K (.ref f_Carry_add) = true)
    (ha_law_digits : PySem.W.nsIn K mainGlobals "_law_digits" = some (some (.ref f_law_digits)))
    (hl_law_digits : K.lookup f_law_digits = some ⟨oc_law_digits, od_law_digits, .func (PySem.W.fnOf "_law_digits" "_law_digits" (defArgs s_law_digits) (defBody s_law_digits) (defScope s_law_digits) .none kV_law_digits dc_law_digits pm_law_digits an_law_digits cd_law_digits ct_law_digits), sl_law_digits⟩)
    (hd_law_digits : PySem.W.codeIn K cd_law_digits "_law_digits" = true)
    (hk_law_digits : PySem.W.keepIn K (.ref f_law_digits) = true)
    (ha_law_draw : PySem.W.nsIn K mainGlobals "_law_draw" = some (some (.ref f_law_draw)))
    (hl_law_draw : K.lookup f_law_draw = some ⟨oc_law_draw, od_law_draw, .func (PySem.W.fnOf "_law_draw" "_law_draw" (defArgs s_law_draw) (defBody s_law_draw) (defScope s_law_draw) .none kV_law_draw dc_law_draw pm_law_draw an_law_draw cd_law_draw ct_law_draw), sl_law_draw⟩)
    (hd_law_draw : PySem.W.codeIn K cd_law_draw "_law_draw" = true)
    (hk_law_draw : PySem.W.keepIn K (.ref f_law_draw) = true)
    (ha_law_apart : PySem.W.nsIn K mainGlobals "_law_apart" = some (some (.ref f_law_apart)))
    (hl_law_apart : K.lookup f_law_apart = some ⟨oc_law_apart, od_law_apart, .func (PySem.W.fnOf "_law_apart" "_law_apart" (defArgs s_law_apart) (defBody s_law_apart) (defScope s_law_apart) .none kV_law_apart dc_law_apart pm_law_apart an_law_apart cd_law_apart ct_law_apart), sl_law_apart⟩)
    (hd_law_apart : PySem.W.codeIn K cd_law_apart "_law_apart" = true)
    (hk_law_apart : PySem.W.keepIn K (.ref f_law_apart) = true)
    (ha_law_keeps : PySem.W.nsIn K mainGlobals "_law_keeps" = some (some (.ref f_law_keeps)))
    (hl_law_keeps : K.lookup f_law_keeps = some ⟨oc_law_keeps, od_law_keeps, .func (PySem.W.fnOf "_law_keeps" "_law_keeps" (defArgs s_law_keeps) (defBody s_law_keeps) (defScope s_law_keeps) .none kV_law_keeps dc_law_keeps pm_law_keeps an_law_keeps cd_law_keeps ct_law_keeps), sl_law_keeps⟩)
    (hd_law_keeps : PySem.W.codeIn K cd_law_keeps "_law_keeps" = true)
    (hk_law_keeps : PySem.W.keepIn K (.ref f_law_keeps) = true)
    (ha_law_kept : PySem.W.nsIn K mainGlobals "_law_kept" = some (some (.ref f_law_kept)))
    (hl_law_kept : K.lookup f_law_kept = some ⟨oc_law_kept, od_law_kept, .func (PySem.W.fnOf "_law_kept" "_law_kept" (defArgs s_law_kept) (defBody s_law_kept) (defScope s_law_kept) .none kV_law_kept dc_law_kept pm_law_kept an_law_kept cd_law_kept ct_law_kept), sl_law_kept⟩)
    (hd_law_kept : PySem.W.codeIn K cd_law_kept "_law_kept" = true)
    (hk_law_kept : PySem.W.keepIn K (.ref f_law_kept) = true)
    (ha_law_places : PySem.W.nsIn K mainGlobals "_law_places" = some (some (.ref f_law_places)))
    (hl_law_places : K.lookup f_law_places = some ⟨oc_law_places, od_law_places, .func (PySem.W.fnOf "_law_places" "_law_places" (defArgs s_law_places) (defBody s_law_places) (defScope s_law_places) .none kV_law_places dc_law_places pm_law_places an_law_places cd_law_places ct_law_places), sl_law_places⟩)
    (hd_law_places : PySem.W.codeIn K cd_law_places "_law_places" = true)
    (hk_law_places : PySem.W.keepIn K (.ref f_law_places) = true)
    (ha_law_codes : PySem.W.nsIn K mainGlobals "_law_codes" = some (some (.ref f_law_codes)))
    (hl_law_codes : K.lookup f_law_codes = some ⟨oc_law_codes, od_law_codes, .func (PySem.W.fnOf "_law_codes" "_law_codes" (defArgs s_law_codes) (defBody s_law_codes) (defScope s_law_codes) .none kV_law_codes dc_law_codes pm_law_codes an_law_codes cd_law_codes ct_law_codes), sl_law_codes⟩)
    (hd_law_codes : PySem.W.codeIn K cd_law_codes "_law_codes" = true)
    (hk_law_codes : PySem.W.keepIn K (.ref f_law_codes) = true)
    (ha_law_olds : PySem.W.nsIn K mainGlobals "_law_olds" = some (some (.ref f_law_olds)))
    (hl_law_olds : K.lookup f_law_olds = some ⟨oc_law_olds, od_law_olds, .func (PySem.W.fnOf "_law_olds" "_law_olds" (defArgs s_law_olds) (defBody s_law_olds) (defScope s_law_olds) .none kV_law_olds dc_law_olds pm_law_olds an_law_olds cd_law_olds ct_law_olds), sl_law_olds⟩)
    (hd_law_olds : PySem.W.codeIn K cd_law_olds "_law_olds" = true)
    (hk_law_olds : PySem.W.keepIn K (.ref f_law_olds) = true)
    (ha_law_int : PySem.W.nsIn K mainGlobals "_law_int" = some (some (.ref f_law_int)))
    (hl_law_int : K.lookup f_law_int = some ⟨oc_law_int, od_law_int, .func (PySem.W.fnOf "_law_int" "_law_int" (defArgs s_law_int) (defBody s_law_int) (defScope s_law_int) .none kV_law_int dc_law_int pm_law_int an_law_int cd_law_int ct_law_int), sl_law_int⟩)
    (hd_law_int : PySem.W.codeIn K cd_law_int "_law_int" = true)
    (hk_law_int : PySem.W.keepIn K (.ref f_law_int) = true)
    (ha_law_row : PySem.W.nsIn K mainGlobals "_law_row" = some (some (.ref f_law_row)))
    (hl_law_row : K.lookup f_law_row = some ⟨oc_law_row, od_law_row, .func (PySem.W.fnOf "_law_row" "_law_row" (defArgs s_law_row) (defBody s_law_row) (defScope s_law_row) .none kV_law_row dc_law_row pm_law_row an_law_row cd_law_row ct_law_row), sl_law_row⟩)
    (hd_law_row : PySem.W.codeIn K cd_law_row "_law_row" = true)
    (hk_law_row : PySem.W.keepIn K (.ref f_law_row) = true)
    (ha_law_relation : PySem.W.nsIn K mainGlobals "_law_relation" = some (some (.ref f_law_relation)))
    (hl_law_relation : K.lookup f_law_relation = some ⟨oc_law_relation, od_law_relation, .func (PySem.W.fnOf "_law_relation" "_law_relation" (defArgs s_law_relation) (defBody s_law_relation) (defScope s_law_relation) .none kV_law_relation dc_law_relation pm_law_relation an_law_relation cd_law_relation ct_law_relation), sl_law_relation⟩)
    (hd_law_relation : PySem.W.codeIn K cd_law_relation "_law_relation" = true)
    (hk_law_relation : PySem.W.keepIn K (.ref f_law_relation) = true)
    (ha_law_refused : PySem.W.nsIn K mainGlobals "_law_refused" = some (some (.ref f_law_refused)))
    (hl_law_refused : K.lookup f_law_refused = some ⟨oc_law_refused, od_law_refused, .func (PySem.W.fnOf "_law_refused" "_law_refused" (defArgs s_law_refused) (defBody s_law_refused) (defScope s_law_refused) .none kV_law_refused dc_law_refused pm_law_refused an_law_refused cd_law_refused ct_law_refused), sl_law_refused⟩)
    (hd_law_refused : PySem.W.codeIn K cd_law_refused "_law_refused" = true)
    (hk_law_refused : PySem.W.keepIn K (.ref f_law_refused) = true)
    (ha_law_missing : PySem.W.nsIn K mainGlobals "_law_missing" = some (some (.ref f_law_missing)))
    (hl_law_missing : K.lookup f_law_missing = some ⟨oc_law_missing, od_law_missing, .func (PySem.W.fnOf "_law_missing" "_law_missing" (defArgs s_law_missing) (defBody s_law_missing) (defScope s_law_missing) .none kV_law_missing dc_law_missing pm_law_missing an_law_missing cd_law_missing ct_law_missing), sl_law_missing⟩)
    (hd_law_missing : PySem.W.codeIn K cd_law_missing "_law_missing" = true)
    (hk_law_missing : PySem.W.keepIn K (.ref f_law_missing) = true)
    (ha_law_one_table : PySem.W.nsIn K mainGlobals "_law_one_table" = some (some (.ref f_law_one_table)))
    (hl_law_one_table : K.lookup f_law_one_table = some ⟨oc_law_one_table, od_law_one_table, .func (PySem.W.fnOf "_law_one_table" "_law_one_table" (defArgs s_law_one_table) (defBody s_law_one_table) (defScope s_law_one_table) .none kV_law_one_table dc_law_one_table pm_law_one_table an_law_one_table cd_law_one_table ct_law_one_table), sl_law_one_table⟩)
    (hd_law_one_table : PySem.W.codeIn K cd_law_one_table "_law_one_table" = true)
    (hk_law_one_table : PySem.W.keepIn K (.ref f_law_one_table) = true)
    (ha_law_one_book : PySem.W.nsIn K mainGlobals "_law_one_book" = some (some (.ref f_law_one_book)))
    (hl_law_one_book : K.lookup f_law_one_book = some ⟨oc_law_one_book, od_law_one_book, .func (PySem.W.fnOf "_law_one_book" "_law_one_book" (defArgs s_law_one_book) (defBody s_law_one_book) (defScope s_law_one_book) .none kV_law_one_book dc_law_one_book pm_law_one_book an_law_one_book cd_law_one_book ct_law_one_book), sl_law_one_book⟩)
    (hd_law_one_book : PySem.W.codeIn K cd_law_one_book "_law_one_book" = true)
    (hk_law_one_book : PySem.W.keepIn K (.ref f_law_one_book) = true)
    (ha_law_carry : PySem.W.nsIn K mainGlobals "_law_carry" = some (some (.ref f_law_carry)))
    (hl_law_carry : K.lookup f_law_carry = some ⟨oc_law_carry, od_law_carry, .func (PySem.W.fnOf "_law_carry" "_law_carry" (defArgs s_law_carry) (defBody s_law_carry) (defScope s_law_carry) .none kV_law_carry dc_law_carry pm_law_carry an_law_carry cd_law_carry ct_law_carry), sl_law_carry⟩)
    (hd_law_carry : PySem.W.codeIn K cd_law_carry "_law_carry" = true)
    (hk_law_carry : PySem.W.keepIn K (.ref f_law_carry) = true)
    (ha_law_made : PySem.W.nsIn K mainGlobals "_law_made" = some (some (.ref f_law_made)))
    (hl_law_made : K.lookup f_law_made = some ⟨oc_law_made, od_law_made, .func (PySem.W.fnOf "_law_made" "_law_made" (defArgs s_law_made) (defBody s_law_made) (defScope s_law_made) .none kV_law_made dc_law_made pm_law_made an_law_made cd_law_made ct_law_made), sl_law_made⟩)
    (hd_law_made : PySem.W.codeIn K cd_law_made "_law_made" = true)
    (hk_law_made : PySem.W.keepIn K (.ref f_law_made) = true)
    (ha_law_through : PySem.W.nsIn K mainGlobals "_law_through" = some (some (.ref f_law_through)))
    (hl_law_through : K.lookup f_law_through = some ⟨oc_law_through, od_law_through, .func (PySem.W.fnOf "_law_through" "_law_through" (defArgs s_law_through) (defBody s_law_through) (defScope s_law_through) .none kV_law_through dc_law_through pm_law_through an_law_through cd_law_through ct_law_through), sl_law_through⟩)
    (hd_law_through : PySem.W.codeIn K cd_law_through "_law_through" = true)
    (hk_law_through : PySem.W.keepIn K (.ref f_law_through) = true)
    (ha_law_led : PySem.W.nsIn K mainGlobals "_law_led" = some (some (.ref f_law_led)))
    (hl_law_led : K.lookup f_law_led = some ⟨oc_law_led, od_law_led, .func (PySem.W.fnOf "_law_led" "_law_led" (defArgs s_law_led) (defBody s_law_led) (defScope s_law_led) .none kV_law_led dc_law_led pm_law_led an_law_led cd_law_led ct_law_led), sl_law_led⟩)
    (hd_law_led : PySem.W.codeIn K cd_law_led "_law_led" = true)
    (hk_law_led : PySem.W.keepIn K (.ref f_law_led) = true)
    (ha_law_least : PySem.W.nsIn K mainGlobals "_law_least" = some (some (.ref f_law_least)))
    (hl_law_least : K.lookup f_law_least = some ⟨oc_law_least, od_law_least, .func (PySem.W.fnOf "_law_least" "_law_least" (defArgs s_law_least) (defBody s_law_least) (defScope s_law_least) .none kV_law_least dc_law_least pm_law_least an_law_least cd_law_least ct_law_least), sl_law_least⟩)
    (hd_law_least : PySem.W.codeIn K cd_law_least "_law_least" = true)
    (hk_law_least : PySem.W.keepIn K (.ref f_law_least) = true)
    (ha_law_moments : PySem.W.nsIn K mainGlobals "_law_moments" = some (some (.ref f_law_moments)))
    (hl_law_moments : K.lookup f_law_moments = some ⟨oc_law_moments, od_law_moments, .func (PySem.W.fnOf "_law_moments" "_law_moments" (defArgs s_law_moments) (defBody s_law_moments) (defScope s_law_moments) .none kV_law_moments dc_law_moments pm_law_moments an_law_moments cd_law_moments ct_law_moments), sl_law_moments⟩)
    (hd_law_moments : PySem.W.codeIn K cd_law_moments "_law_moments" = true)
    (hk_law_moments : PySem.W.keepIn K (.ref f_law_moments) = true)
    (ha_law_two_rows : PySem.W.nsIn K mainGlobals "_law_two_rows" = some (some (.ref f_law_two_rows)))
    (hl_law_two_rows : K.lookup f_law_two_rows = some ⟨oc_law_two_rows, od_law_two_rows, .func (PySem.W.fnOf "_law_two_rows" "_law_two_rows" (defArgs s_law_two_rows) (defBody s_law_two_rows) (defScope s_law_two_rows) .none kV_law_two_rows dc_law_two_rows pm_law_two_rows an_law_two_rows cd_law_two_rows ct_law_two_rows), sl_law_two_rows⟩)
    (hd_law_two_rows : PySem.W.codeIn K cd_law_two_rows "_law_two_rows" = true)
    (hk_law_two_rows : PySem.W.keepIn K (.ref f_law_two_rows) = true)
    (ha_law_two_books : PySem.W.nsIn K mainGlobals "_law_two_books" = some (some (.ref f_law_two_books)))
    (hl_law_two_books : K.lookup f_law_two_books = some ⟨oc_law_two_books, od_law_two_books, .func (PySem.W.fnOf "_law_two_books" "_law_two_books" (defArgs s_law_two_books) (defBody s_law_two_books) (defScope s_law_two_books) .none kV_law_two_books dc_law_two_books pm_law_two_books an_law_two_books cd_law_two_books ct_law_two_books), sl_law_two_books⟩)
    (hd_law_two_books : PySem.W.codeIn K cd_law_two_books "_law_two_books" = true)
    (hk_law_two_books : PySem.W.keepIn K (.ref f_law_two_books) = true)
    (ha_law : PySem.W.nsIn K mainGlobals "law" = some (some (.ref f_law)))
    (hl_law : K.lookup f_law = some ⟨oc_law, od_law, .func (PySem.W.fnOf "law" "law" (defArgs s_law) (defBody s_law) (defScope s_law) .none kV_law dc_law pm_law an_law cd_law ct_law), sl_law⟩)
    (hd_law : PySem.W.codeIn K cd_law "law" = true)
    (hk_law : PySem.W.keepIn K (.ref f_law) = true)
    (hpg_Carry : PySem.W.plainGet K c_Carry Str.empty = true)
    (hhd_Carry : PySem.W.hasDictIn K c_Carry = true)
    (hpo_Carry : PySem.W.plainOver K c_Carry = true)
    (hsa_Carry : PySem.W.findIn K (.ref c_Carry) "__setattr__" = some (some (.builtin "object.__setattr__")))
    (hmk_Carry : PySem.W.makesIn K c_Carry = true)
    (hkc_Carry : PySem.W.keepIn K (.ref c_Carry) = true)
    (hsf_Carry : PySem.W.selfFirst K c_Carry = true)
    (hn_Carry_places : PySem.W.findIn K (.ref c_Carry) "places" = some none)
    (hn_Carry_codes : PySem.W.findIn K (.ref c_Carry) "codes" = some none)
    (hn_Carry_moments : PySem.W.findIn K (.ref c_Carry) "moments" = some none)
    (hxL_NoCode : K.lookup c_NoCode = some (excClassObj xn_NoCode xq_NoCode c_NoCode xN_NoCode xb_NoCode [.ref c_ColonnadeError, .type "ValueError", .type "Exception", .type "BaseException", .type "object"] true xs_NoCode xu_NoCode xa_NoCode xo_NoCode xd_NoCode x0_NoCode x1_NoCode x2_NoCode x3_NoCode x5_NoCode "ValueError.__new__"))
    (hxs_NoCode : PySem.W.findIn K (.ref c_NoCode) "__setattr__" = some (some (.builtin "object.__setattr__")))
    (hxe_NoCode : PySem.W.subIn K (.ref c_NoCode) (.type "BaseException") = some true)
    (hxt_NoCode : PySem.W.typeIn K (.ref c_NoCode) = some (.type "type"))
    (hxk_NoCode : PySem.W.keepIn K (.ref c_NoCode) = true)
    (hxg_NoCode : PySem.W.findIn K (.ref c_NoCode) "__getattribute__" = some (some (.builtin "BaseException.__getattribute__")))
    (hxh_NoCode : PySem.W.findIn K (.ref c_NoCode) "__getattr__" = some none)
    (hxd_NoCode : PySem.W.hasDictIn K c_NoCode = true)
    (hxc_NoCode : PySem.W.isClsIn K c_NoCode = true)
    (hxy_NoCode : PySem.W.findIn K (.ref c_NoCode) "__class__" = some (some (.builtin "object.__class__")))
    (hxm_NoCode : PySem.W.mroIn K c_NoCode (.type "object") = some true)
    (hxi_NoCode : PySem.W.typeIn K (.ref f_NoCode_init) = some (.type "function"))
    (hxn_NoCode_code : PySem.W.findIn K (.ref c_NoCode) "code" = some none)
    (hxL_NoTable : K.lookup c_NoTable = some (excClassObj xn_NoTable xq_NoTable c_NoTable xN_NoTable xb_NoTable [.ref c_ColonnadeError, .type "ValueError", .type "Exception", .type "BaseException", .type "object"] true xs_NoTable xu_NoTable xa_NoTable xo_NoTable xd_NoTable x0_NoTable x1_NoTable x2_NoTable x3_NoTable x5_NoTable "ValueError.__new__"))
    (hxs_NoTable : PySem.W.findIn K (.ref c_NoTable) "__setattr__" = some (some (.builtin "object.__setattr__")))
    (hxe_NoTable : PySem.W.subIn K (.ref c_NoTable) (.type "BaseException") = some true)
    (hxt_NoTable : PySem.W.typeIn K (.ref c_NoTable) = some (.type "type"))
    (hxk_NoTable : PySem.W.keepIn K (.ref c_NoTable) = true)
    (hxg_NoTable : PySem.W.findIn K (.ref c_NoTable) "__getattribute__" = some (some (.builtin "BaseException.__getattribute__")))
    (hxh_NoTable : PySem.W.findIn K (.ref c_NoTable) "__getattr__" = some none)
    (hxd_NoTable : PySem.W.hasDictIn K c_NoTable = true)
    (hxc_NoTable : PySem.W.isClsIn K c_NoTable = true)
    (hxy_NoTable : PySem.W.findIn K (.ref c_NoTable) "__class__" = some (some (.builtin "object.__class__")))
    (hxm_NoTable : PySem.W.mroIn K c_NoTable (.type "object") = some true)
    (hxi_NoTable : PySem.W.typeIn K (.ref f_NoTable_init) = some (.type "function"))
    (hxn_NoTable_name : PySem.W.findIn K (.ref c_NoTable) "name" = some none)
    (hxL_NoBook : K.lookup c_NoBook = some (excClassObj xn_NoBook xq_NoBook c_NoBook xN_NoBook xb_NoBook [.ref c_ColonnadeError, .type "ValueError", .type "Exception", .type "BaseException", .type "object"] true xs_NoBook xu_NoBook xa_NoBook xo_NoBook xd_NoBook x0_NoBook x1_NoBook x2_NoBook x3_NoBook x5_NoBook "ValueError.__new__"))
    (hxs_NoBook : PySem.W.findIn K (.ref c_NoBook) "__setattr__" = some (some (.builtin "object.__setattr__")))
    (hxe_NoBook : PySem.W.subIn K (.ref c_NoBook) (.type "BaseException") = some true)
    (hxt_NoBook : PySem.W.typeIn K (.ref c_NoBook) = some (.type "type"))
    (hxk_NoBook : PySem.W.keepIn K (.ref c_NoBook) = true)
    (hxg_NoBook : PySem.W.findIn K (.ref c_NoBook) "__getattribute__" = some (some (.builtin "BaseException.__getattribute__")))
    (hxh_NoBook : PySem.W.findIn K (.ref c_NoBook) "__getattr__" = some none)
    (hxd_NoBook : PySem.W.hasDictIn K c_NoBook = true)
    (hxc_NoBook : PySem.W.isClsIn K c_NoBook = true)
    (hxy_NoBook : PySem.W.findIn K (.ref c_NoBook) "__class__" = some (some (.builtin "object.__class__")))
    (hxm_NoBook : PySem.W.mroIn K c_NoBook (.type "object") = some true)
    (hxi_NoBook : PySem.W.typeIn K (.ref f_NoBook_init) = some (.type "function"))
    (hxn_NoBook_name : PySem.W.findIn K (.ref c_NoBook) "name" = some none)
    (hx_get : PySem.W.specialIn K (.builtin "object.__class__") "__get__" = some (some (.builtin "getset_descriptor.__get__")))
    (hx_tak : PySem.W.takesIn K (.builtin "object.__class__") = some true)
    (hiy_Carry : PySem.W.findIn K (.ref c_Carry) "__class__" = some (some (.builtin "object.__class__")))
    (him_Carry : PySem.W.mroIn K c_Carry (.type "object") = some true)
    (hsub_NoTable_NoTable : PySem.W.subIn K (.ref c_NoTable) (.ref c_NoTable) = some true)
    (hsub_NoBook_NoTable : PySem.W.subIn K (.ref c_NoBook) (.ref c_NoTable) = some false)
    (hsub_NoBook_NoBook : PySem.W.subIn K (.ref c_NoBook) (.ref c_NoBook) = some true)
    (hsub_NoCode_NoCode : PySem.W.subIn K (.ref c_NoCode) (.ref c_NoCode) = some true)
    (hxt_ColonnadeError : PySem.W.typeIn K (.ref c_ColonnadeError) = some (.type "type"))
    (hxc_ColonnadeError : PySem.W.isClsIn K c_ColonnadeError = true)
    (hsub_NoCode_ColonnadeError : PySem.W.subIn K (.ref c_NoCode) (.ref c_ColonnadeError) = some true)
    (hsub_NoTable_ColonnadeError : PySem.W.subIn K (.ref c_NoTable) (.ref c_ColonnadeError) = some true)
    (hsub_NoBook_ColonnadeError : PySem.W.subIn K (.ref c_NoBook) (.ref c_ColonnadeError) = some true)
    : ∃ fd : FuncData, (∀ (s : Shared) (v : Value), BindsTo s fd ⟨[v], []⟩ [("_law_script", v)]) ∧ ∀ base : Heap, K.In base → base.Ns mainGlobals mg → GnOk P w K mg base CX0 60 fa fd ["_law_script"] (sp_law K) := by
  have e := hfa.symm.trans (PySem.W.mg_of X G ha_law)
  cases e
  have T : Tx K mg ⟨c_ColonnadeError, c_NoCode, c_NoTable, c_NoBook, c_Carry, f_NoCode_init, f_NoTable_init, f_NoBook_init, f_in_order, f_told_by_first, f_kept_by, f_Carry_init, f_Carry_new_place, f_Carry_new_code, f_Carry_keeps_places, f_Carry_keeps_codes, f_Carry_add, f_law_digits, f_law_draw, f_law_apart, f_law_keeps, f_law_kept, f_law_places, f_law_codes, f_law_olds, f_law_int, f_law_row, f_law_relation, f_law_refused, f_law_missing, f_law_one_table, f_law_one_book, f_law_carry, f_law_made, f_law_through, f_law_led, f_law_least, f_law_moments, f_law_two_rows, f_law_two_books, fa⟩ ⟨PySem.W.fnOf "__init__" "NoCode.__init__" (defArgs s_NoCode_init) (defBody s_NoCode_init) (defScope s_NoCode_init) .none kV_NoCode_init dc_NoCode_init pm_NoCode_init an_NoCode_init cd_NoCode_init ct_NoCode_init, PySem.W.fnOf "__init__" "NoTable.__init__" (defArgs s_NoTable_init) (defBody s_NoTable_init) (defScope s_NoTable_init) .none kV_NoTable_init dc_NoTable_init pm_NoTable_init an_NoTable_init cd_NoTable_init ct_NoTable_init, PySem.W.fnOf "__init__" "NoBook.__init__" (defArgs s_NoBook_init) (defBody s_NoBook_init) (defScope s_NoBook_init) .none kV_NoBook_init dc_NoBook_init pm_NoBook_init an_NoBook_init cd_NoBook_init ct_NoBook_init, PySem.W.fnOf "in_order" "in_order" (defArgs s_in_order) (defBody s_in_order) (defScope s_in_order) .none kV_in_order dc_in_order pm_in_order an_in_order cd_in_order ct_in_order, PySem.W.fnOf "told_by_first" "told_by_first" (defArgs s_told_by_first) (defBody s_told_by_first) (defScope s_told_by_first) .none kV_told_by_first dc_told_by_first pm_told_by_first an_told_by_first cd_told_by_first ct_told_by_first, PySem.W.fnOf "kept_by" "kept_by" (defArgs s_kept_by) (defBody s_kept_by) (defScope s_kept_by) .none kV_kept_by dc_kept_by pm_kept_by an_kept_by cd_kept_by ct_kept_by, PySem.W.fnOf "__init__" "Carry.__init__" (defArgs s_Carry_init) (defBody s_Carry_init) (defScope s_Carry_init) .none kV_Carry_init dc_Carry_init pm_Carry_init an_Carry_init cd_Carry_init ct_Carry_init, PySem.W.fnOf "new_place" "Carry.new_place" (defArgs s_Carry_new_place) (defBody s_Carry_new_place) (defScope s_Carry_new_place) .none kV_Carry_new_place dc_Carry_new_place pm_Carry_new_place an_Carry_new_place cd_Carry_new_place ct_Carry_new_place, PySem.W.fnOf "new_code" "Carry.new_code" (defArgs s_Carry_new_code) (defBody s_Carry_new_code) (defScope s_Carry_new_code) .none kV_Carry_new_code dc_Carry_new_code pm_Carry_new_code an_Carry_new_code cd_Carry_new_code ct_Carry_new_code, PySem.W.fnOf "keeps_places" "Carry.keeps_places" (defArgs s_Carry_keeps_places) (defBody s_Carry_keeps_places) (defScope s_Carry_keeps_places) .none kV_Carry_keeps_places dc_Carry_keeps_places pm_Carry_keeps_places an_Carry_keeps_places cd_Carry_keeps_places ct_Carry_keeps_places, PySem.W.fnOf "keeps_codes" "Carry.keeps_codes" (defArgs s_Carry_keeps_codes) (defBody s_Carry_keeps_codes) (defScope s_Carry_keeps_codes) .none kV_Carry_keeps_codes dc_Carry_keeps_codes pm_Carry_keeps_codes an_Carry_keeps_codes cd_Carry_keeps_codes ct_Carry_keeps_codes, PySem.W.fnOf "__add__" "Carry.__add__" (defArgs s_Carry_add) (defBody s_Carry_add) (defScope s_Carry_add) .none kV_Carry_add dc_Carry_add pm_Carry_add an_Carry_add cd_Carry_add ct_Carry_add, PySem.W.fnOf "_law_digits" "_law_digits" (defArgs s_law_digits) (defBody s_law_digits) (defScope s_law_digits) .none kV_law_digits dc_law_digits pm_law_digits an_law_digits cd_law_digits ct_law_digits, PySem.W.fnOf "_law_draw" "_law_draw" (defArgs s_law_draw) (defBody s_law_draw) (defScope s_law_draw) .none kV_law_draw dc_law_draw pm_law_draw an_law_draw cd_law_draw ct_law_draw, PySem.W.fnOf "_law_apart" "_law_apart" (defArgs s_law_apart) (defBody s_law_apart) (defScope s_law_apart) .none kV_law_apart dc_law_apart pm_law_apart an_law_apart cd_law_apart ct_law_apart, PySem.W.fnOf "_law_keeps" "_law_keeps" (defArgs s_law_keeps) (defBody s_law_keeps) (defScope s_law_keeps) .none kV_law_keeps dc_law_keeps pm_law_keeps an_law_keeps cd_law_keeps ct_law_keeps, PySem.W.fnOf "_law_kept" "_law_kept" (defArgs s_law_kept) (defBody s_law_kept) (defScope s_law_kept) .none kV_law_kept dc_law_kept pm_law_kept an_law_kept cd_law_kept ct_law_kept, PySem.W.fnOf "_law_places" "_law_places" (defArgs s_law_places) (defBody s_law_places) (defScope s_law_places) .none kV_law_places dc_law_places pm_law_places an_law_places cd_law_places ct_law_places, PySem.W.fnOf "_law_codes" "_law_codes" (defArgs s_law_codes) (defBody s_law_codes) (defScope s_law_codes) .none kV_law_codes dc_law_codes pm_law_codes an_law_codes cd_law_codes ct_law_codes, PySem.W.fnOf "_law_olds" "_law_olds" (defArgs s_law_olds) (defBody s_law_olds) (defScope s_law_olds) .none kV_law_olds dc_law_olds pm_law_olds an_law_olds cd_law_olds ct_law_olds, PySem.W.fnOf "_law_int" "_law_int" (defArgs s_law_int) (defBody s_law_int) (defScope s_law_int) .none kV_law_int dc_law_int pm_law_int an_law_int cd_law_int ct_law_int, PySem.W.fnOf "_law_row" "_law_row" (defArgs s_law_row) (defBody s_law_row) (defScope s_law_row) .none kV_law_row dc_law_row pm_law_row an_law_row cd_law_row ct_law_row, PySem.W.fnOf "_law_relation" "_law_relation" (defArgs s_law_relation) (defBody s_law_relation) (defScope s_law_relation) .none kV_law_relation dc_law_relation pm_law_relation an_law_relation cd_law_relation ct_law_relation, PySem.W.fnOf "_law_refused" "_law_refused" (defArgs s_law_refused) (defBody s_law_refused) (defScope s_law_refused) .none kV_law_refused dc_law_refused pm_law_refused an_law_refused cd_law_refused ct_law_refused, PySem.W.fnOf "_law_missing" "_law_missing" (defArgs s_law_missing) (defBody s_law_missing) (defScope s_law_missing) .none kV_law_missing dc_law_missing pm_law_missing an_law_missing cd_law_missing ct_law_missing, PySem.W.fnOf "_law_one_table" "_law_one_table" (defArgs s_law_one_table) (defBody s_law_one_table) (defScope s_law_one_table) .none kV_law_one_table dc_law_one_table pm_law_one_table an_law_one_table cd_law_one_table ct_law_one_table, PySem.W.fnOf "_law_one_book" "_law_one_book" (defArgs s_law_one_book) (defBody s_law_one_book) (defScope s_law_one_book) .none kV_law_one_book dc_law_one_book pm_law_one_book an_law_one_book cd_law_one_book ct_law_one_book, PySem.W.fnOf "_law_carry" "_law_carry" (defArgs s_law_carry) (defBody s_law_carry) (defScope s_law_carry) .none kV_law_carry dc_law_carry pm_law_carry an_law_carry cd_law_carry ct_law_carry, PySem.W.fnOf "_law_made" "_law_made" (defArgs s_law_made) (defBody s_law_made) (defScope s_law_made) .none kV_law_made dc_law_made pm_law_made an_law_made cd_law_made ct_law_made, PySem.W.fnOf "_law_through" "_law_through" (defArgs s_law_through) (defBody s_law_through) (defScope s_law_through) .none kV_law_through dc_law_through pm_law_through an_law_through cd_law_through ct_law_through, PySem.W.fnOf "_law_led" "_law_led" (defArgs s_law_led) (defBody s_law_led) (defScope s_law_led) .none kV_law_led dc_law_led pm_law_led an_law_led cd_law_led ct_law_led, PySem.W.fnOf "_law_least" "_law_least" (defArgs s_law_least) (defBody s_law_least) (defScope s_law_least) .none kV_law_least dc_law_least pm_law_least an_law_least cd_law_least ct_law_least, PySem.W.fnOf "_law_moments" "_law_moments" (defArgs s_law_moments) (defBody s_law_moments) (defScope s_law_moments) .none kV_law_moments dc_law_moments pm_law_moments an_law_moments cd_law_moments ct_law_moments, PySem.W.fnOf "_law_two_rows" "_law_two_rows" (defArgs s_law_two_rows) (defBody s_law_two_rows) (defScope s_law_two_rows) .none kV_law_two_rows dc_law_two_rows pm_law_two_rows an_law_two_rows cd_law_two_rows ct_law_two_rows, PySem.W.fnOf "_law_two_books" "_law_two_books" (defArgs s_law_two_books) (defBody s_law_two_books) (defScope s_law_two_books) .none kV_law_two_books dc_law_two_books pm_law_two_books an_law_two_books cd_law_two_books ct_law_two_books, PySem.W.fnOf "law" "law" (defArgs s_law) (defBody s_law) (defScope s_law) .none kV_law dc_law pm_law an_law cd_law ct_law⟩ := by
    constructor
    · exact PySem.W.mg_none_of X G hb_isinstance
    · exact PySem.W.mg_none_of X G hb_int
    · exact PySem.W.mg_none_of X G hb_bool
    · exact PySem.W.mg_none_of X G hb_list
    · exact PySem.W.mg_none_of X G hb_len
    · exact PySem.W.mg_none_of X G hb_min
    · exact PySem.W.mg_none_of X G hb_max
    · exact PySem.W.mg_none_of X G hb_sorted
    · exact PySem.W.mg_none_of X G hb_range
    · exact PySem.W.mg_none_of X G hb_dict
    · exact PySem.W.mg_none_of X G hb_abs
    · exact PySem.W.mg_none_of X G hb_all
    · exact PySem.W.mg_none_of X G hb_zip
    · exact PySem.W.mg_none_of X G hb_enumerate
    · exact PySem.W.mg_none_of X G hb_tuple
    · exact PySem.W.mg_none_of X G hb_str
    · exact PySem.W.mg_of X G hc_ColonnadeError
    · exact PySem.W.mg_of X G hc_NoCode
    · exact PySem.W.mg_of X G hc_NoTable
    · exact PySem.W.mg_of X G hc_NoBook
    · exact PySem.W.mg_of X G hc_Carry
    · exact fun_mk (st := s_NoCode_init) hl_NoCode_init hd_NoCode_init hk_NoCode_init
    · exact fun_mk (st := s_NoTable_init) hl_NoTable_init hd_NoTable_init hk_NoTable_init
    · exact fun_mk (st := s_NoBook_init) hl_NoBook_init hd_NoBook_init hk_NoBook_init
    · exact PySem.W.mg_of X G ha_in_order
    · exact fun_mk (st := s_in_order) hl_in_order hd_in_order hk_in_order
    · exact PySem.W.mg_of X G ha_told_by_first
    · exact fun_mk (st := s_told_by_first) hl_told_by_first hd_told_by_first hk_told_by_first
    · exact PySem.W.mg_of X G ha_kept_by
    · exact fun_mk (st := s_kept_by) hl_kept_by hd_kept_by hk_kept_by
    · exact fun_mk (st := s_Carry_init) hl_Carry_init hd_Carry_init hk_Carry_init
    · exact fun_mk (st := s_Carry_new_place) hl_Carry_new_place hd_Carry_new_place hk_Carry_new_place
    · exact ⟨ha_Carry_new_place, hi_Carry_new_place, hk_Carry_new_place⟩
    · exact fun_mk (st := s_Carry_new_code) hl_Carry_new_code hd_Carry_new_code hk_Carry_new_code
    · exact ⟨ha_Carry_new_code, hi_Carry_new_code, hk_Carry_new_code⟩
    · exact fun_mk (st := s_Carry_keeps_places) hl_Carry_keeps_places hd_Carry_keeps_places hk_Carry_keeps_places
    · exact ⟨ha_Carry_keeps_places, hi_Carry_keeps_places, hk_Carry_keeps_places⟩
    · exact fun_mk (st := s_Carry_keeps_codes) hl_Carry_keeps_codes hd_Carry_keeps_codes hk_Carry_keeps_codes
    · exact ⟨ha_Carry_keeps_codes, hi_Carry_keeps_codes, hk_Carry_keeps_codes⟩
    · exact fun_mk (st := s_Carry_add) hl_Carry_add hd_Carry_add hk_Carry_add
    · exact ⟨ha_Carry_add, hi_Carry_add, hk_Carry_add⟩
    · exact PySem.W.mg_of X G ha_law_digits
    · exact fun_mk (st := s_law_digits) hl_law_digits hd_law_digits hk_law_digits
    · exact PySem.W.mg_of X G ha_law_draw
    · exact fun_mk (st := s_law_draw) hl_law_draw hd_law_draw hk_law_draw
    · exact PySem.W.mg_of X G ha_law_apart
    · exact fun_mk (st := s_law_apart) hl_law_apart hd_law_apart hk_law_apart
    · exact PySem.W.mg_of X G ha_law_keeps
    · exact fun_mk (st := s_law_keeps) hl_law_keeps hd_law_keeps hk_law_keeps
    · exact PySem.W.mg_of X G ha_law_kept
    · exact fun_mk (st := s_law_kept) hl_law_kept hd_law_kept hk_law_kept
    · exact PySem.W.mg_of X G ha_law_places
    · exact fun_mk (st := s_law_places) hl_law_places hd_law_places hk_law_places
    · exact PySem.W.mg_of X G ha_law_codes
    · exact fun_mk (st := s_law_codes) hl_law_codes hd_law_codes hk_law_codes
    · exact PySem.W.mg_of X G ha_law_olds
    · exact fun_mk (st := s_law_olds) hl_law_olds hd_law_olds hk_law_olds
    · exact PySem.W.mg_of X G ha_law_int
    · exact fun_mk (st := s_law_int) hl_law_int hd_law_int hk_law_int
    · exact PySem.W.mg_of X G ha_law_row
    · exact fun_mk (st := s_law_row) hl_law_row hd_law_row hk_law_row
    · exact PySem.W.mg_of X G ha_law_relation
    · exact fun_mk (st := s_law_relation) hl_law_relation hd_law_relation hk_law_relation
    · exact PySem.W.mg_of X G ha_law_refused
    · exact fun_mk (st := s_law_refused) hl_law_refused hd_law_refused hk_law_refused
    · exact PySem.W.mg_of X G ha_law_missing
    · exact fun_mk (st := s_law_missing) hl_law_missing hd_law_missing hk_law_missing
    · exact PySem.W.mg_of X G ha_law_one_table
    · exact fun_mk (st := s_law_one_table) hl_law_one_table hd_law_one_table hk_law_one_table
    · exact PySem.W.mg_of X G ha_law_one_book
    · exact fun_mk (st := s_law_one_book) hl_law_one_book hd_law_one_book hk_law_one_book
    · exact PySem.W.mg_of X G ha_law_carry
    · exact fun_mk (st := s_law_carry) hl_law_carry hd_law_carry hk_law_carry
    · exact PySem.W.mg_of X G ha_law_made
    · exact fun_mk (st := s_law_made) hl_law_made hd_law_made hk_law_made
    · exact PySem.W.mg_of X G ha_law_through
    · exact fun_mk (st := s_law_through) hl_law_through hd_law_through hk_law_through
    · exact PySem.W.mg_of X G ha_law_led
    · exact fun_mk (st := s_law_led) hl_law_led hd_law_led hk_law_led
    · exact PySem.W.mg_of X G ha_law_least
    · exact fun_mk (st := s_law_least) hl_law_least hd_law_least hk_law_least
    · exact PySem.W.mg_of X G ha_law_moments
    · exact fun_mk (st := s_law_moments) hl_law_moments hd_law_moments hk_law_moments
    · exact PySem.W.mg_of X G ha_law_two_rows
    · exact fun_mk (st := s_law_two_rows) hl_law_two_rows hd_law_two_rows hk_law_two_rows
    · exact PySem.W.mg_of X G ha_law_two_books
    · exact fun_mk (st := s_law_two_books) hl_law_two_books hd_law_two_books hk_law_two_books
    · exact PySem.W.mg_of X G ha_law
    · exact fun_mk (st := s_law) hl_law hd_law hk_law
    · exact ⟨hpg_Carry, hhd_Carry, hpo_Carry, hsa_Carry⟩
    · exact ⟨hmk_Carry, ha_Carry_init, hi_Carry_init, hkc_Carry⟩
    · exact ⟨hsf_Carry, ha_Carry_add, hi_Carry_add⟩
    · exact hn_Carry_places
    · exact hn_Carry_codes
    · exact hn_Carry_moments
    · exact ⟨⟨xn_NoCode, xq_NoCode, xN_NoCode, xb_NoCode, _, xs_NoCode, xu_NoCode, xa_NoCode, xo_NoCode, xd_NoCode, x0_NoCode, x1_NoCode, x2_NoCode, x3_NoCode, x5_NoCode, hxL_NoCode, rfl⟩, hxs_NoCode, hxe_NoCode, hxt_NoCode, hxk_NoCode⟩
    · exact ha_NoCode_init
    · exact hxi_NoCode
    · exact ⟨hxg_NoCode, hxh_NoCode, hxe_NoCode, hxd_NoCode⟩
    · exact ⟨hxc_NoCode, hxg_NoCode, hxh_NoCode, hxe_NoCode, hxy_NoCode, hx_get, hx_tak, hxm_NoCode⟩
    · exact hxn_NoCode_code
    · exact ⟨⟨xn_NoTable, xq_NoTable, xN_NoTable, xb_NoTable, _, xs_NoTable, xu_NoTable, xa_NoTable, xo_NoTable, xd_NoTable, x0_NoTable, x1_NoTable, x2_NoTable, x3_NoTable, x5_NoTable, hxL_NoTable, rfl⟩, hxs_NoTable, hxe_NoTable, hxt_NoTable, hxk_NoTable⟩
    · exact ha_NoTable_init
    · exact hxi_NoTable
    · exact ⟨hxg_NoTable, hxh_NoTable, hxe_NoTable, hxd_NoTable⟩
    · exact ⟨hxc_NoTable, hxg_NoTable, hxh_NoTable, hxe_NoTable, hxy_NoTable, hx_get, hx_tak, hxm_NoTable⟩
    · exact hxn_NoTable_name
    · exact ⟨⟨xn_NoBook, xq_NoBook, xN_NoBook, xb_NoBook, _, xs_NoBook, xu_NoBook, xa_NoBook, xo_NoBook, xd_NoBook, x0_NoBook, x1_NoBook, x2_NoBook, x3_NoBook, x5_NoBook, hxL_NoBook, rfl⟩, hxs_NoBook, hxe_NoBook, hxt_NoBook, hxk_NoBook⟩
    · exact ha_NoBook_init
    · exact hxi_NoBook
    · exact ⟨hxg_NoBook, hxh_NoBook, hxe_NoBook, hxd_NoBook⟩
    · exact ⟨hxc_NoBook, hxg_NoBook, hxh_NoBook, hxe_NoBook, hxy_NoBook, hx_get, hx_tak, hxm_NoBook⟩
    · exact hxn_NoBook_name
    · exact hiy_Carry
    · exact him_Carry
    · exact hx_get
    · exact hx_tak
    · exact PySem.W.exm_ref hxe_NoTable hxd_NoTable hxt_NoTable hsub_NoTable_NoTable
    · exact PySem.W.exm_ref hxe_NoTable hxd_NoTable hxt_NoTable hsub_NoBook_NoTable
    · exact PySem.W.exm_ref hxe_NoBook hxd_NoBook hxt_NoBook hsub_NoBook_NoBook
    · exact PySem.W.exm_ref hxe_NoCode hxd_NoCode hxt_NoCode hsub_NoCode_NoCode
    · exact kit_yes hxc_ColonnadeError hxt_ColonnadeError hsub_NoCode_ColonnadeError
    · exact kit_yes hxc_ColonnadeError hxt_ColonnadeError hsub_NoTable_ColonnadeError
    · exact kit_yes hxc_ColonnadeError hxt_ColonnadeError hsub_NoBook_ColonnadeError
  exact ⟨_, fun s v => .of_eq rfl, fun base _ _ => ok_law T⟩
end L2.Cd
open PySem PySem.W PyProof.Rows
set_option maxRecDepth 100000 in
set_option maxHeartbeats 0 in
theorem PySem.Challenge.cw_colonnade_k70_carries_added_holds : PySem.Challenge.rw_colonnade_k70_carries_added.Holds := by
  w_on; o_law; k_head; (case hw => w_witness2)
  k_fill
  refine L2.Ex.walk_g (l := PySem.Challenge.rw_colonnade_k70_carries_added) (n := 63) (k := 60) (x := "_law_script") (CX := fun _ => L2.CX0) (sp := fun w => L2.Cd.sp_law _) rfl (by decide) rfl ⟨rfl, by decide, by decide⟩ (fun w h Y => PySem.W.kIn_of Y) ?F (fun _ _ a ns hl _ hS => ⟨a, ns, rfl, hS, hl, fun _ => rfl⟩) fun _ _ _ _ _ z => z
  case F =>
    intro w mg fa h KX G hmg
    refine' L2.Cd.all_mk KX G hmg ?hb_isinstance ?hb_int ?hb_bool ?hb_list ?hb_len ?hb_min ?hb_max ?hb_sorted ?hb_range ?hb_dict ?hb_abs ?hb_all ?hb_zip ?hb_enumerate ?hb_tuple ?hb_str ?hc_ColonnadeError ?hc_NoCode ?hc_NoTable ?hc_NoBook ?hc_Carry ?ha_NoCode_init ?hl_NoCode_init ?hd_NoCode_init ?hk_NoCode_init ?ha_NoTable_init ?hl_NoTable_init ?hd_NoTable_init ?hk_NoTable_init ?ha_NoBook_init ?hl_NoBook_init ?hd_NoBook_init ?hk_NoBook_init ?ha_in_order ?hl_in_order ?hd_in_order ?hk_in_order ?ha_told_by_first ?hl_told_by_first ?hd_told_by_first ?hk_told_by_first ?ha_kept_by ?hl_kept_by ?hd_kept_by ?hk_kept_by ?ha_Carry_init ?hi_Carry_init ?hl_Carry_init ?hd_Carry_init ?hk_Carry_init ?ha_Carry_new_place ?hi_Carry_new_place ?hl_Carry_new_place ?hd_Carry_new_place ?hk_Carry_new_place ?ha_Carry_new_code ?hi_Carry_new_code ?hl_Carry_new_code ?hd_Carry_new_code ?hk_Carry_new_code ?ha_Carry_keeps_places ?hi_Carry_keeps_places ?hl_Carry_keeps_places ?hd_Carry_keeps_places ?hk_Carry_keeps_places ?ha_Carry_keeps_codes ?hi_Carry_keeps_codes ?hl_Carry_keeps_codes ?hd_Carry_keeps_codes ?hk_Carry_keeps_codes ?ha_Carry_add ?hi_Carry_add ?hl_Carry_add ?hd_Carry_add ?hk_Carry_add ?ha_law_digits ?hl_law_digits ?hd_law_digits ?hk_law_digits ?ha_law_draw ?hl_law_draw ?hd_law_draw ?hk_law_draw ?ha_law_apart ?hl_law_apart ?hd_law_apart ?hk_law_apart ?ha_law_keeps ?hl_law_keeps ?hd_law_keeps ?hk_law_keeps ?ha_law_kept ?hl_law_kept ?hd_law_kept ?hk_law_kept ?ha_law_places ?hl_law_places ?hd_law_places ?hk_law_places ?ha_law_codes ?hl_law_codes ?hd_law_codes ?hk_law_codes ?ha_law_olds ?hl_law_olds ?hd_law_olds ?hk_law_olds ?ha_law_int ?hl_law_int ?hd_law_int ?hk_law_int ?ha_law_row ?hl_law_row ?hd_law_row ?hk_law_row ?ha_law_relation ?hl_law_relation ?hd_law_relation ?hk_law_relation ?ha_law_refused ?hl_law_refused ?hd_law_refused ?hk_law_refused ?ha_law_missing ?hl_law_missing ?hd_law_missing ?hk_law_missing ?ha_law_one_table ?hl_law_one_table ?hd_law_one_table ?hk_law_one_table ?ha_law_one_book ?hl_law_one_book ?hd_law_one_book ?hk_law_one_book ?ha_law_carry ?hl_law_carry ?hd_law_carry ?hk_law_carry ?ha_law_made ?hl_law_made ?hd_law_made ?hk_law_made ?ha_law_through ?hl_law_through ?hd_law_through ?hk_law_through ?ha_law_led ?hl_law_led ?hd_law_led ?hk_law_led ?ha_law_least ?hl_law_least ?hd_law_least ?hk_law_least ?ha_law_moments ?hl_law_moments ?hd_law_moments ?hk_law_moments ?ha_law_two_rows ?hl_law_two_rows ?hd_law_two_rows ?hk_law_two_rows ?ha_law_two_books ?hl_law_two_books ?hd_law_two_books ?hk_law_two_books ?ha_law ?hl_law ?hd_law ?hk_law ?hpg_Carry ?hhd_Carry ?hpo_Carry ?hsa_Carry ?hmk_Carry ?hkc_Carry ?hsf_Carry ?hn_Carry_places ?hn_Carry_codes ?hn_Carry_moments ?hxL_NoCode ?hxs_NoCode ?hxe_NoCode ?hxt_NoCode ?hxk_NoCode ?hxg_NoCode ?hxh_NoCode ?hxd_NoCode ?hxc_NoCode ?hxy_NoCode ?hxm_NoCode ?hxi_NoCode ?hxn_NoCode_code ?hxL_NoTable ?hxs_NoTable ?hxe_NoTable ?hxt_NoTable ?hxk_NoTable ?hxg_NoTable ?hxh_NoTable ?hxd_NoTable ?hxc_NoTable ?hxy_NoTable ?hxm_NoTable ?hxi_NoTable ?hxn_NoTable_name ?hxL_NoBook ?hxs_NoBook ?hxe_NoBook ?hxt_NoBook ?hxk_NoBook ?hxg_NoBook ?hxh_NoBook ?hxd_NoBook ?hxc_NoBook ?hxy_NoBook ?hxm_NoBook ?hxi_NoBook ?hxn_NoBook_name ?hx_get ?hx_tak ?hiy_Carry ?him_Carry ?hsub_NoTable_NoTable ?hsub_NoBook_NoTable ?hsub_NoBook_NoBook ?hsub_NoCode_NoCode ?hxt_ColonnadeError ?hxc_ColonnadeError ?hsub_NoCode_ColonnadeError ?hsub_NoTable_ColonnadeError ?hsub_NoBook_ColonnadeError
    (case hb_isinstance => k_is)
    (case hb_int => k_is)
    (case hb_bool => k_is)
    (case hb_list => k_is)
    (case hb_len => k_is)
    (case hb_min => k_is)
    (case hb_max => k_is)
    (case hb_sorted => k_is)
    (case hb_range => k_is)
    (case hb_dict => k_is)
    (case hb_abs => k_is)
    (case hb_all => k_is)
    (case hb_zip => k_is)
    (case hb_enumerate => k_is)
    (case hb_tuple => k_is)
    (case hb_str => k_is)
    (case hc_ColonnadeError => k_is)
    (case hc_NoCode => k_is)
    (case hc_NoTable => k_is)
    (case hc_NoBook => k_is)
    (case hc_Carry => k_is)
    (case ha_NoCode_init => k_is)
    (case hl_NoCode_init => k_is)
    (case hd_NoCode_init => k_is)
    (case hk_NoCode_init => k_is)
    (case ha_NoTable_init => k_is)
    (case hl_NoTable_init => k_is)
    (case hd_NoTable_init => k_is)
    (case hk_NoTable_init => k_is)
    (case ha_NoBook_init => k_is)
    (case hl_NoBook_init => k_is)
    (case hd_NoBook_init => k_is)
    (case hk_NoBook_init => k_is)
    (case ha_in_order => k_is)
    (case hl_in_order => k_is)
    (case hd_in_order => k_is)
    (case hk_in_order => k_is)
    (case ha_told_by_first => k_is)
    (case hl_told_by_first => k_is)
    (case hd_told_by_first => k_is)
    (case hk_told_by_first => k_is)
    (case ha_kept_by => k_is)
    (case hl_kept_by => k_is)
    (case hd_kept_by => k_is)
    (case hk_kept_by => k_is)
    (case ha_Carry_init => k_is)
    (case hi_Carry_init => k_is)
    (case hl_Carry_init => k_is)
    (case hd_Carry_init => k_is)
    (case hk_Carry_init => k_is)
    (case ha_Carry_new_place => k_is)
    (case hi_Carry_new_place => k_is)
    (case hl_Carry_new_place => k_is)
    (case hd_Carry_new_place => k_is)
    (case hk_Carry_new_place => k_is)
    (case ha_Carry_new_code => k_is)
    (case hi_Carry_new_code => k_is)
    (case hl_Carry_new_code => k_is)
    (case hd_Carry_new_code => k_is)
    (case hk_Carry_new_code => k_is)
    (case ha_Carry_keeps_places => k_is)
    (case hi_Carry_keeps_places => k_is)
    (case hl_Carry_keeps_places => k_is)
    (case hd_Carry_keeps_places => k_is)
    (case hk_Carry_keeps_places => k_is)
    (case ha_Carry_keeps_codes => k_is)
    (case hi_Carry_keeps_codes => k_is)
    (case hl_Carry_keeps_codes => k_is)
    (case hd_Carry_keeps_codes => k_is)
    (case hk_Carry_keeps_codes => k_is)
    (case ha_Carry_add => k_is)
    (case hi_Carry_add => k_is)
    (case hl_Carry_add => k_is)
    (case hd_Carry_add => k_is)
    (case hk_Carry_add => k_is)
    (case ha_law_digits => k_is)
    (case hl_law_digits => k_is)
    (case hd_law_digits => k_is)
    (case hk_law_digits => k_is)
    (case ha_law_draw => k_is)
    (case hl_law_draw => k_is)
    (case hd_law_draw => k_is)
    (case hk_law_draw => k_is)
    (case ha_law_apart => k_is)
    (case hl_law_apart => k_is)
    (case hd_law_apart => k_is)
    (case hk_law_apart => k_is)
    (case ha_law_keeps => k_is)
    (case hl_law_keeps => k_is)
    (case hd_law_keeps => k_is)
    (case hk_law_keeps => k_is)
    (case ha_law_kept => k_is)
    (case hl_law_kept => k_is)
    (case hd_law_kept => k_is)
    (case hk_law_kept => k_is)
    (case ha_law_places => k_is)
    (case hl_law_places => k_is)
    (case hd_law_places => k_is)
    (case hk_law_places => k_is)
    (case ha_law_codes => k_is)
    (case hl_law_codes => k_is)
    (case hd_law_codes => k_is)
    (case hk_law_codes => k_is)
    (case ha_law_olds => k_is)
    (case hl_law_olds => k_is)
    (case hd_law_olds => k_is)
    (case hk_law_olds => k_is)
    (case ha_law_int => k_is)
    (case hl_law_int => k_is)
    (case hd_law_int => k_is)
    (case hk_law_int => k_is)
    (case ha_law_row => k_is)
    (case hl_law_row => k_is)
    (case hd_law_row => k_is)
    (case hk_law_row => k_is)
    (case ha_law_relation => k_is)
    (case hl_law_relation => k_is)
    (case hd_law_relation => k_is)
    (case hk_law_relation => k_is)
    (case ha_law_refused => k_is)
    (case hl_law_refused => k_is)
    (case hd_law_refused => k_is)
    (case hk_law_refused => k_is)
    (case ha_law_missing => k_is)
    (case hl_law_missing => k_is)
    (case hd_law_missing => k_is)
    (case hk_law_missing => k_is)
    (case ha_law_one_table => k_is)
    (case hl_law_one_table => k_is)
    (case hd_law_one_table => k_is)
    (case hk_law_one_table => k_is)
    (case ha_law_one_book => k_is)
    (case hl_law_one_book => k_is)
    (case hd_law_one_book => k_is)
    (case hk_law_one_book => k_is)
    (case ha_law_carry => k_is)
    (case hl_law_carry => k_is)
    (case hd_law_carry => k_is)
    (case hk_law_carry => k_is)
    (case ha_law_made => k_is)
    (case hl_law_made => k_is)
    (case hd_law_made => k_is)
    (case hk_law_made => k_is)
    (case ha_law_through => k_is)
    (case hl_law_through => k_is)
    (case hd_law_through => k_is)
    (case hk_law_through => k_is)
    (case ha_law_led => k_is)
    (case hl_law_led => k_is)
    (case hd_law_led => k_is)
    (case hk_law_led => k_is)
    (case ha_law_least => k_is)
    (case hl_law_least => k_is)
    (case hd_law_least => k_is)
    (case hk_law_least => k_is)
    (case ha_law_moments => k_is)
    (case hl_law_moments => k_is)
    (case hd_law_moments => k_is)
    (case hk_law_moments => k_is)
    (case ha_law_two_rows => k_is)
    (case hl_law_two_rows => k_is)
    (case hd_law_two_rows => k_is)
    (case hk_law_two_rows => k_is)
    (case ha_law_two_books => k_is)
    (case hl_law_two_books => k_is)
    (case hd_law_two_books => k_is)
    (case hk_law_two_books => k_is)
    (case ha_law => k_is)
    (case hl_law => k_is)
    (case hd_law => k_is)
    (case hk_law => k_is)
    (case hpg_Carry => k_is)
    (case hhd_Carry => k_is)
    (case hpo_Carry => k_is)
    (case hsa_Carry => k_is)
    (case hmk_Carry => k_is)
    (case hkc_Carry => k_is)
    (case hsf_Carry => k_is)
    (case hn_Carry_places => k_is)
    (case hn_Carry_codes => k_is)
    (case hn_Carry_moments => k_is)
    (case hxL_NoCode => k_is)
    (case hxs_NoCode => k_is)
    (case hxe_NoCode => k_is)
    (case hxt_NoCode => k_is)
    (case hxk_NoCode => k_is)
    (case hxg_NoCode => k_is)
    (case hxh_NoCode => k_is)
    (case hxd_NoCode => k_is)
    (case hxc_NoCode => k_is)
    (case hxy_NoCode => k_is)
    (case hxm_NoCode => k_is)
    (case hxi_NoCode => k_is)
    (case hxn_NoCode_code => k_is)
    (case hxL_NoTable => k_is)
    (case hxs_NoTable => k_is)
    (case hxe_NoTable => k_is)
    (case hxt_NoTable => k_is)
    (case hxk_NoTable => k_is)
    (case hxg_NoTable => k_is)
    (case hxh_NoTable => k_is)
    (case hxd_NoTable => k_is)
    (case hxc_NoTable => k_is)
    (case hxy_NoTable => k_is)
    (case hxm_NoTable => k_is)
    (case hxi_NoTable => k_is)
    (case hxn_NoTable_name => k_is)
    (case hxL_NoBook => k_is)
    (case hxs_NoBook => k_is)
    (case hxe_NoBook => k_is)
    (case hxt_NoBook => k_is)
    (case hxk_NoBook => k_is)
    (case hxg_NoBook => k_is)
    (case hxh_NoBook => k_is)
    (case hxd_NoBook => k_is)
    (case hxc_NoBook => k_is)
    (case hxy_NoBook => k_is)
    (case hxm_NoBook => k_is)
    (case hxi_NoBook => k_is)
    (case hxn_NoBook_name => k_is)
    (case hx_get => k_is)
    (case hx_tak => k_is)
    (case hiy_Carry => k_is)
    (case him_Carry => k_is)
    (case hsub_NoTable_NoTable => k_is)
    (case hsub_NoBook_NoTable => k_is)
    (case hsub_NoBook_NoBook => k_is)
    (case hsub_NoCode_NoCode => k_is)
    (case hxt_ColonnadeError => k_is)
    (case hxc_ColonnadeError => k_is)
    (case hsub_NoCode_ColonnadeError => k_is)
    (case hsub_NoTable_ColonnadeError => k_is)
    (case hsub_NoBook_ColonnadeError => k_is)
