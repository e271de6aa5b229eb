import PyProof.Rows.All
import Wide.All
import OpenK.AllK
import Wide.FinOn
import KE.KExcIs
import HandS.ForMost
import HandS.Exc
import HandS.ExcOwn
import HandS.ExcField
import HandS.IsInst
import HandS.ExcInit
import HandS.Property
import HandS.Wide
import HandS.More
import HandS.SetKeys
import HandS.DictComp
import HandS.ExcIs
import HandS.WordsExc
import PySem.Challenge.RW_colonnade_k76_disks
set_option Elab.async false
set_option linter.all false
set_option maxRecDepth 100000
set_option maxHeartbeats 4000000
namespace L2.Ex
open PySem PySem.Spec PyProof.Rows

/-! ## o[i] of a list, read for an augmented store -/
section
variable {X : Cx}
theorem get_list : PGet X (rIxL X.K) := by
  intro pins s σ H o i ov iv Q I ro ri h
  obtain ⟨p, xs, z, v, rfl, rfl, hq, he, q⟩ := h
  cases ro
  obtain ⟨t, rfl⟩ := ri
  obtain ⟨its, r, pl, hz⟩ := I.list hq
  obtain ⟨j, h1, h2, h3, h4, h5⟩ := atI_get he
  obtain ⟨w, ew, rw'⟩ := r.get h2
  have fin : EP X pins σ Q w s := ⟨v, H, I, rw', q⟩
  have hl := r.length
  have hn := line63
  by_cases h0 : 0 ≤ z
  · have hj : z.toNat = j := Option.some.inj ((seqIndex_of h0 h5).symm.trans h1)
    exact wpAny_getItem_list pl.isList h0 (by omega) (by rw [hj]; simpa using ew) fin
  · have hj : (z + (its.toArray.size : Int)).toNat = j := by
      have e := (seqIndex_neg (by omega) h4).symm.trans h1
      rw [List.size_toArray, ← hl]
      exact Option.some.inj e
    exact wpAny_getItem_list_neg pl.isList (by omega) (by rw [List.size_toArray] <;> omega) (by omega) (by rw [hj]; simpa using ew) fin
end

/-! ## a property of an own class, stored -/
/-- the class has the name as a property at p whose setter is the def at g -/
structure SetOf (K : PySem.W.Frag) (C : Addr) (f : Str) (p g : Addr) : Prop where
  tk : PySem.W.takerIn K C f = some (some (.ref p))
  ty : PySem.W.typeIn K (.ref p) = some (.type "property")
  rc : ∃ a rest, PySem.W.recIn K p "property" = some (a :: .ref g :: rest)
section
variable {X : Cx} {CX : CXT} {k : Nat} {C p g a dx : Addr} {fs : List (Str × V)} {f : Str} {fd : FuncData} {ps : List Str} {sp : Sp} {E : XK}
theorem setprop_ok {pins : List (Addr × Obj)} {σ : St} {H : Hp} {s : Shared} {y : V} {u : Value} {R : Hp → Prop} (I : Inv X pins σ H s) (ea : H a = some (.ins C dx fs)) (c : Cls X.K C) (hp : SetOf X.K C f p g)
    (F : FnOk X.prog X.w X.K X.mg X.base CX k g fd ps sp) (hr : Room (k + 2) X.A) (hb : Binds X.K fd ps []) (hx : Passes CX X E) (ry : RelV y u) (h : sp [.ref a, y] H (fun _ H' => R H') E) :
    wpAny (model X.prog X.w) X.A (setAttr (.ref a) f u) (fun _ s' => ∃ H', Inv X pins σ H' s' ∧ R H') X.xe s := by
  obtain ⟨mA, O, _, _, _, _⟩ := ins_get I.hok ea
  obtain ⟨od, J, _⟩ := O.look
  obtain ⟨a0, rest, hrec⟩ := hp.rc
  have I1 := I.tok (s.toks + 1)
  have r2 : Vals [V.ref a, y] [Value.ref a, u] := .cons rfl (.cons ry .nil)
  have hl : ([Value.ref a, u] ++ []).length = ps.length := by
    rw [← F.len _ _ _ _ h]
    rfl
  refine PySem.W.set_plain I.kIn J c.sa (PySem.W.osa_descr (s := { s with toks := s.toks + 1 }) PySem.W.KF.slot_pset I1.kIn J c.po hp.tk hp.ty (PySem.W.prop_set (s := { s with toks := s.toks + 1 }) I1.kIn hrec ?_))
  refine codeAny_mono (F.run X.A.in1.in1 X.stack { s with toks := s.toks + 1 } H ⟨[.ref a, u], []⟩ [.ref a, u] [.ref a, y] _ E hr.in1.in1 I1.env0.in1.in1 (hb _ [.ref a, u] I1.kIn hl) r2 h) fun r s' hq => ?_
  cases r with
  | error er => exact hx pins σ H { s with toks := s.toks + 1 } er s' I1 hq
  | ok fl =>
    cases fl with
    | ret u' =>
      obtain ⟨v, H', I3, rv, q3⟩ := I1.after hq
      exact ⟨H', I3, q3⟩
    | next => exact False.elim hq
    | brk => exact False.elim hq
    | cont => exact False.elim hq
/-- e.f = value, f a property with a setter -/
def tPset (C : Addr) (sp : Sp) (E : XK) (ta tv : TE) : TS := fun D σ H => tv σ H fun y H1 => ta σ H1 fun x H2 => ∃ a dx fs, x = .ref a ∧ H2 a = some (.ins C dx fs) ∧ sp [.ref a, y] H2 (fun _ H' => D.nx σ H') E
theorem ps_pset {o value : Expr} {pos pos' : Pos} {ta tv : TE} (ha : PE X o ta) (hv : PE X value tv) (c : Cls X.K C) (hp : SetOf X.K C f p g) (F : FnOk X.prog X.w X.K X.mg X.base CX k g fd ps sp) (hr : Room (k + 2) X.A) (hb : Binds X.K fd ps []) (hx : Passes CX X E)
    (hs : swapsWith value (some (.Attribute o f pos')) pos.line X.env = pure false) : PS X (.Assign [.Attribute o f pos'] value pos) (tPset C sp E ta tv) := by
  refine ⟨fun pins s σ H D I h => ?_⟩
  refine plainObj_wpAny_Assign_Attribute (thn (hv.run pins s σ H _ I h) fun u s1 ⟨y, H1, I1, ry, q⟩ => thn (ha.run pins s1 σ H1 _ I1 q) fun ov s2 ⟨x, H2, I2, rx, a, dx, fs, ex, ea, q2⟩ => ?_) hs
  subst ex
  obtain rfl : ov = Value.ref a := rx
  exact wpAny_mono (setprop_ok I2 ea c hp F hr hb hx ry q2) (fun _ s3 ⟨H3, I3, q3⟩ => ⟨σ, H3, I3, q3⟩) fun _ _ z => z
end

/-! ## isinstance of a caught exception that has a dict of its own -/
/-- what the class of the exception must say -/
structure ExC (K : PySem.W.Frag) (D : Addr) : Prop where
  cl : (PySem.W.clsIn K D).isSome = true
  hg : PySem.W.findIn K (.ref D) "__getattribute__" = some (some (.builtin "BaseException.__getattribute__"))
  hk : PySem.W.findIn K (.ref D) "__getattr__" = some none
  hs : PySem.W.subIn K (.ref D) (.type "BaseException") = some true
  ha : PySem.W.findIn K (.ref D) "__class__" = some (some (.builtin "object.__class__"))
  hn : PySem.W.specialIn K (.builtin "object.__class__") "__get__" = some (some (.builtin "getset_descriptor.__get__"))
  ht : PySem.W.takesIn K (.builtin "object.__class__") = some true
  hm : PySem.W.mroIn K D (.type "object") = some true
def rIsX (K : PySem.W.Frag) (D a : Addr) (cls : Value) (d : Option Addr) : List V → Hp → VK → Prop := fun xs H Q => ∃ (c : V) (cv : Value) (b : Bool) (dd : Addr) (fs : List (Str × V)), xs = [.ref a, c] ∧ cls = .ref D ∧ ClsV c cv ∧ d = some dd ∧ H dd = some (.xd fs) ∧ PySem.W.kitOne K (.ref D) cv = some b ∧ Q (.bl b) H
def rIsXT (K : PySem.W.Frag) (D a : Addr) (cls : Value) (d : Option Addr) : List V → Hp → VK → Prop := fun xs H Q => ∃ (tp : Addr) (cs : List V) (us : List Value) (b : Bool) (dd : Addr) (fs : List (Str × V)), xs = [.ref a, .ref tp] ∧ cls = .ref D ∧ H tp = some (.tup cs) ∧ Paired ClsV cs us ∧ d = some dd ∧ H dd = some (.xd fs) ∧ PySem.W.kitAny K (.ref D) us = some b ∧ Q (.bl b) H
section
variable {X : Cx} {a D : Addr} {oe : Obj} {cls : Value} {d : Option Addr} {pn : List (Addr × Obj)}
theorem exc_inst {pins : List (Addr × Obj)} {σ : St} {H : Hp} {s : Shared} {dd : Addr} {fs : List (Str × V)} (hz : Zc (.ref D) (some dd) oe) (hf : ∃ vs, oe.data = .fields vs) (I : Inv (X.suite a ((a, oe) :: pn)) pins σ H s) (ed : H dd = some (.xd fs)) :
    ∃ od, PySem.W.InstAt s.heap a oe D (some od) := by
  obtain ⟨hget, _⟩ := I.pin (a, oe) (List.mem_append.mpr (.inl List.mem_cons_self))
  obtain ⟨vs, hv⟩ := hf
  have hx : ObjOk X.prog X.w H s.heap dd (.xd fs) := I.hok dd _ ed
  obtain ⟨mA, hns, hr⟩ := hx
  obtain ⟨od, ho, hl⟩ := lookIn_ns hns
  exact ⟨od, hget, hz.1, by unfold PySem.W.notCls; rw [hv] <;> rfl, by rw [hz.2]; exact ho⟩
theorem call_isX (C : ExC X.K D) (hz : Zc cls d oe) (hf : ∃ vs, oe.data = .fields vs) : CallR (X.suite a ((a, oe) :: pn)) (.builtin "isinstance") (rIsX X.K D a cls d) := by
  intro pins s σ H xs us Q I r h
  obtain ⟨c, cv, b, dd, fs, rfl, rfl, hc, rfl, ed, e, q⟩ := h
  obtain ⟨u1, u2, rfl, r1, r2⟩ := vals2 r
  cases r1
  have e2 := hc.eq r2
  subst e2
  obtain ⟨od, J⟩ := exc_inst hz hf I ed
  exact PySem.W.kia_one (PySem.W.kitx_exc C.cl C.hg C.hk C.hs C.ha C.hn C.ht C.hm) I.kIn J e (fun z => nomatch z) fun tk => ⟨.bl b, H, I.tok tk, rfl, q⟩
theorem call_isXT (C : ExC X.K D) (hz : Zc cls d oe) (hf : ∃ vs, oe.data = .fields vs) : CallR (X.suite a ((a, oe) :: pn)) (.builtin "isinstance") (rIsXT X.K D a cls d) := by
  intro pins s σ H xs us Q I r h
  obtain ⟨tp, cs, us', b, dd, fs, rfl, rfl, htp, hc, rfl, ed, e, q⟩ := h
  obtain ⟨u1, u2, rfl, r1, r2⟩ := vals2 r
  cases r1
  cases r2
  obtain ⟨od, J⟩ := exc_inst hz hf I ed
  obtain ⟨_, its, rv, o, h1, h2, n, h3⟩ := (show ObjOk X.prog X.w H s.heap tp (.tup cs) from I.hok tp _ htp)
  have e3 := ClsV.all hc rv
  subst e3
  obtain ⟨oc, od', oda, osl⟩ := o
  cases (show oc = _ from h2)
  cases (show oda = _ from h3)
  exact PySem.W.kia_tup (PySem.W.kitx_exc C.cl C.hg C.hk C.hs C.ha C.hn C.ht C.hm) I.kIn J h1 e (fun z => nomatch z) fun tk => ⟨.bl b, H, I.tok tk, rfl, q⟩
end

theorem call_isiS {X : Cx} {a : Addr} {pn : List (Addr × Obj)} : CallR (X.suite a pn) (.builtin "isinstance") (rIsi X.K) := call_isi (X := X.suite a pn)
theorem kit_yes {K : PySem.W.Frag} {t : Value} {C : Addr} (h1 : (PySem.W.clsIn K C).isSome = true) (h2 : PySem.W.typeIn K (.ref C) = some (.type "type")) (hs : PySem.W.subIn K t (.ref C) = some true) : PySem.W.kitOne K t (.ref C) = some true := by
  unfold PySem.W.kitOne PySem.W.kitCls
  split
  · rfl
  · show (if ((PySem.W.clsIn K C).isSome && PySem.W.typeIn K (.ref C) == some (.type "type")) = true then PySem.W.subIn K t (.ref C) else none) = some true
    rw [if_pos (by rw [h1, h2]; rfl), hs]
theorem kit_no {K : PySem.W.Frag} {t : Value} {C : Addr} (h1 : (PySem.W.clsIn K C).isSome = true) (h2 : PySem.W.typeIn K (.ref C) = some (.type "type")) (hs : PySem.W.subIn K t (.ref C) = some false)
    (h3 : PySem.W.subIn K (.ref C) (.ref C) = some true) : PySem.W.kitOne K t (.ref C) = some false := by
  unfold PySem.W.kitOne PySem.W.kitCls
  split
  · rename_i h
    rw [beq_iff_eq.mp h, h3] at hs
    cases hs
  · show (if ((PySem.W.clsIn K C).isSome && PySem.W.typeIn K (.ref C) == some (.type "type")) = true then PySem.W.subIn K t (.ref C) else none) = some false
    rw [if_pos (by rw [h1, h2]; rfl), hs]
/-! ## repr of data; defs that ask that no repr runs around them -/
section
variable {X : Cx}
def rRepr (K : PySem.W.Frag) : List V → Hp → VK → Prop := fun xs H Q => ∃ (a : Addr) (d : PyData), xs = [.ref a] ∧ Dp K H (.ref a) d ∧ d.showable = true ∧ d.hasDict = false ∧ d.depth ≤ 16 ∧ d.shown.length ≤ sizeLine ∧ Q (.str d.shown) H
theorem call_repr (hg : X.A.guards = some []) (hu : X.A.units + 64 < cLine) : CallR X (.builtin "repr") (rRepr X.K) := by
  intro pins s σ H xs us Q I r h
  obtain ⟨a, d, rfl, hd, h1, h2, h3, h4, q⟩ := h
  obtain ⟨u, rfl, ru⟩ := vals1 r
  cases ru
  obtain ⟨as, rd⟩ := Dp.reads I d _ _ hd rfl
  exact repr_of_reads' rd h1 (PyData.noDict_hsm h2) hg (by omega) (fun _ _ e => e) (fun h' u tk hk => ⟨.str _, H, I.kept (t' := tk) hk, ⟨_, rfl⟩, q⟩) h4
end
end L2.Ex

namespace L2.Ex
open PySem PySem.Spec PyProof.Rows
/-- as FnOk, where no repr runs around the call -/
structure GnOk (P : Program) (w : World) (K : PySem.W.Frag) (mg : Str → Option Value) (base : Heap) (CX : CXT) (k : Nat) (f : Addr) (fd : FuncData) (ps : List Str) (sp : Sp) : Prop where
  len : ∀ vs H Q E, sp vs H Q E → vs.length = ps.length
  run : ∀ (A : Around) (outer : List Env) (s : Shared) (H : Hp) (args : Args) (us : List Value) (vs : List V) (Q : VK) (E : XK),
    A.guards = some [] → Room k A → Env0 P w K mg base A outer s H → BindsTo s fd args (ps.zip us) → Vals vs us → sp vs H Q E → codeAny (model P w) A (.call (.ref f) args) (CR CX outer P w H s Q E) s
section
variable {X : Cx} {CX : CXT} {k : Nat} {f : Addr} {fd : FuncData} {ps : List Str} {sp : Sp} {dvs : List V} {ds : List Value} {E : XK} {x : Str} {p pos : Pos} {e : Expr} {es : List Expr} {t : TA}
theorem run_gn {pins : List (Addr × Obj)} {σ : St} {H : Hp} {s : Shared} {Q : VK} {us : List Value} {vs : List V} (gd : X.A.guards = some []) (F : GnOk X.prog X.w X.K X.mg X.base CX k f fd ps sp) (hr : Room k X.A)
    (hb : Binds X.K fd ps ds) (hd : Vals dvs ds) (hx : Passes CX X E) (I : Inv X pins σ H s) (r : Vals vs us) (h : sp (vs ++ dvs) H Q E) :
    wpAny (model X.prog X.w) X.A (call (.ref f) us) (EP X pins σ Q) X.xe s := by
  have rr := r.append hd
  have ll : (us ++ ds).length = ps.length := rr.length.symm.trans (F.len _ _ _ _ h)
  have go := F.run X.A X.stack s H ⟨us, []⟩ (us ++ ds) (vs ++ dvs) Q E gd hr I.env0 (hb s us I.kIn ll) rr h
  refine wpAny_call (codeAny_mono go ?_)
  intro res s' hq
  match res, hq with
  | .error er, hq => exact hx pins σ H s er s' I hq
  | .ok (.ret u), hq => exact I.after hq
  | .ok .next, hq => exact hq.elim
  | .ok .brk, hq => exact hq.elim
  | .ok .cont, hq => exact hq.elim
theorem pe_gcall (gd : X.A.guards = some []) (F : GnOk X.prog X.w X.K X.mg X.base CX k f fd ps sp) (hr : Room k X.A) (hg : Gl X x) (hm : X.mg x = some (.ref f))
    (hk : PySem.W.keepIn X.K (.ref f) = true) (hb : Binds X.K fd ps ds) (hd : Vals dvs ds) (hx : Passes CX X E) (ha : PA X (e :: es) t)
    (hdb : (x == ("__debug__" : Str)) = false := by decide) (he : starEach (e :: es) X.env = (false, eval e X.env) :: starEach es X.env := by rfl) (hpl : (backTo pos (starEach es X.env)).any (·.1) = false := by rfl) :
    PE X (.Call (.Name x p) (e :: es) [] pos) (tCall sp dvs E t) :=
  ⟨fun pins s σ H Q I h => wpAny_Call_Name_kw (ld_glob I hg hm (PySem.W.callWith_K (h₀ := X.base) I.ok.mod.kin hk
    (thn (ha.run pos pins s σ H _ I h) fun us s1 ⟨vs, H1, I1, r, q⟩ => ⟨I1.kIn, run_gn gd F hr hb hd hx I1 r q⟩) he hpl) hdb)⟩
end
theorem gn_of {CX : CXT} {P : Program} {w : World} {K : PySem.W.Frag} {mg : Str → Option Value} {base : Heap} {k : Nat} {f : Addr} {name qual : Str} {params : Arguments} {body : List Stmt} {scope : Scope} {dV kV doc pm cdv ct oc : Value}
    {an od : Option Addr} {osl : Array (Option Value)} {N ps : List Str} {sp : Sp}
    (lk : K.lookup f = some ⟨oc, od, .func (PySem.W.fnOf name qual params body scope dV kV doc pm an cdv ct), osl⟩) (hcd : PySem.W.codeIn K cdv qual = true) (S : FnScope N ps scope) (len : ∀ vs H Q E, sp vs H Q E → vs.length = ps.length)
    (hbody : ∀ (A : Around) (outer : List Env) (s : Shared) (H : Hp) (vs : List V) (Q : VK) (E : XK), A.guards = some [] → Room k (A.deeper (envOfC qual scope s.heap.objs.size f cdv)) → sp vs H Q E →
      ∃ t, PSs (cxOf CX P w K mg base N qual scope f cdv A outer s H E) body t ∧ t { nx := fun _ H' => Q .non H', rt := Q } (start N vs) H) :
    GnOk P w K mg base CX (k + 1) f (PySem.W.fnOf name qual params body scope dV kV doc pm an cdv ct) ps sp := by
  constructor
  · exact len
  intro A outer s H args us vs Q E gd hr e0 hb r hsp
  have hl := len _ _ _ _ hsp
  have keep : ∀ b o, base.get? b = some o → s.heap.get? b = some o := fun b o e => (e0.bs b o e).1
  have KX : K.In s.heap := e0.mod.kin.keeps keep
  have lim : s.heap.NoLimit := e0.mod.nolimit.keeps keep
  have kinds : ∀ y ∈ ps.zip us, scope.names.lookup y.1 = some .local ∨ (scope.names.lookup y.1 = some .cell ∧ ((cellsFrom (s.heap.objs.size + 1) scope.names []).lookup y.1).isSome = true) := by
    intro y hy
    have hm : y.1 ∈ ps := (List.of_mem_zip (a := y.1) (b := y.2) hy).1
    exact (S.par y.1 hm).imp (fun q => q) fun q => ⟨q, PySem.W.cellsFrom_some _ _ _ (.inl q)⟩
  refine codeAny_call_function hr.depth (KX _ _ lk) rfl S.co S.gen rfl (PySem.W.codeRec_of KX hcd) (hb _ _ _ _ (wpAny_newFunctionEnv_cells S.kind kinds ?_))
  intro env he s1 x
  cases he
  obtain ⟨t, ht, hq⟩ := hbody A outer s H vs Q E gd (hr.deeper _) hsp
  have I := inv_start (E := E) (CX := CX) S hr.hd e0 hl r x
  have fin : ∀ {σ' : St} {H' : Hp} {v : V} {u : Value} {s' : Shared}, Inv (cxOf CX P w K mg base N qual scope f cdv A outer s H E) [] σ' H' s' → RelV v u → Q v H' → CE outer P w H s Q u s' := by
    intro σ' H' v u s' J rv q
    exact ⟨v, H', J.os, J.bare, J.base, J.hok, rv, q⟩
  refine ⟨lim.keeps x.toInCall.keep, codeAny_func (wpAny_mono (ht.run [] s1 (start N vs) H _ I hq) ?_ fun _ _ z => z)⟩
  intro fl s' hs
  match fl, hs with
  | .ret u, ⟨v, σ', H', J, rv, q⟩ => exact fin J rv q
  | .next, ⟨σ', H', J, q⟩ => exact fin (v := V.non) (u := Value.none) J rfl q
  | .brk, ⟨_, _, _, q⟩ => exact q.elim
  | .cont, ⟨_, _, _, q⟩ => exact q.elim
section
variable {P : Program} {w : World} {K : PySem.W.Frag} {mg : Str → Option Value} {base : Heap}
theorem gn_ok {x qual : Str} {st : Stmt} {f : Addr} {fd : FuncData} {N ps : List Str} {k : Nat} {sp : Sp} (F : Fun K x qual st f fd) (S : FnScope N ps (defScope st)) (len : ∀ vs H Q E, sp vs H Q E → vs.length = ps.length)
    (hbody : ∀ (cdv : Value) (A : Around) (outer : List Env) (s : Shared) (H : Hp) (vs : List V) (Q : VK) (E : XK), A.guards = some [] → Room k (A.deeper (envOfC qual (defScope st) s.heap.objs.size f cdv)) → sp vs H Q E →
      ∃ t, PSs (cxOf CX0 P w K mg base N qual (defScope st) f cdv A outer s H E).nox (defBody st) t ∧ t { nx := fun _ H' => Q .non H', rt := Q } (start N vs) H) :
    GnOk P w K mg base CX0 (k + 1) f fd ps sp := by
  obtain ⟨oc, od, kV, doc, pm, an, cdv, ct, osl, e, lk, hcd⟩ := F.ex
  subst e
  refine gn_of lk hcd S len ?_
  intro A outer s H vs Q E gd hr hsp
  obtain ⟨t, h1, h2⟩ := hbody cdv A outer s H vs Q E gd hr hsp
  exact ⟨t, h1.nox, h2⟩
end
/-! ### the law's end -/
/-- all that the heap holds but the script -/
theorem call_g {P : Program} {w : World} {K : PySem.W.Frag} {mg mb : Str → Option Value} {CX : CXT} {k : Nat} {fa a : Addr} {fd : FuncData} {x : Str} {sp : Sp} {s1 : Shared} {vs : List Value} {ns : List Int}
    (KX : K.In s1.heap) (hns : s1.heap.Ns mainGlobals mg) (hb : s1.heap.Ns builtinsNs mb) (hbb : ∀ x : Str, x ≠ "__name__" → mb x = bootBuiltins x) (hlim : s1.heap.NoLimit) (hg : s1.gens = #[])
    (ha : s1.heap.get? a = some { cls := .type "list", data := .seq vs.toArray }) (hi : IntsAre vs ns) (hl : ns.length ≤ sizeLine) (hr : Room k callerA)
    (F : ∀ base : Heap, K.In base → base.Ns mainGlobals mg → GnOk P w K mg base CX k fa fd [x] sp) (hbind : ∀ (s : Shared) (u : Value), BindsTo s fd ⟨[u], []⟩ [(x, u)])
    (hsp : ∀ H : Hp, Only H → SqL K H a (ns.map V.int) → sp [.ref a] H (fun v _ => v = .bl true) fun _ _ _ => False) (hCX : ∀ H e s', CX [] H s1 (fun _ _ _ => False) e s' → False) :
    codeAny (model P w) callerA (.call (.ref fa) ⟨[.ref a], []⟩) (fun r s' => r = .ok (.ret (.bool true)) ∧ OldK s1.heap s'.heap ∧ s'.os = s1.os ∧ AllBare s'.gens) s1 := by
  have rv := vals_ints hi
  have lenV := hi.length
  have core : ∀ H : Hp, Only H → SqL K H a (ns.map V.int) → HOk P w H s1.heap → (∀ b, H b ≠ none → b = a) → (H a ≠ none → K.lookup a = none) →
      codeAny (model P w) callerA (.call (.ref fa) ⟨[.ref a], []⟩) (fun r s' => r = .ok (.ret (.bool true)) ∧ OldK s1.heap s'.heap ∧ s'.os = s1.os ∧ AllBare s'.gens) s1 := by
    intro H hO hS hok hA hK
    have some_ne : ∀ {b : Addr} {u : HO}, H b = some u → H b ≠ none := fun q z => by rw [q] at z; cases z
    have free_of : ∀ {b : Addr} {o : Obj}, s1.heap.get? b = some o → (b = a → False) → H b = none := fun {b o} e n => by
      cases q : H b with
      | none => rfl
      | some u => exact (n (hA b (some_ne q))).elim
    have nsK : ∀ {b : Addr} {m : Str → Option Value}, s1.heap.Ns b m → (hidT s1.heap H).Ns b m := by
      intro b m ⟨o, es, ep, e, d, r⟩
      refine ⟨o, es, ep, hidT_get e (free_of e ?_), d, r⟩
      intro z
      subst z
      rw [ha] at e
      cases e
      cases (show Data.seq vs.toArray _ = Data.dict es ep from d)
    have hKb : K.In (hidT s1.heap H) := by
      intro b o e
      refine hidT_get (KX b o e) ?_
      cases q : H b with
      | none => rfl
      | some u =>
        have z := hA b (some_ne q)
        subst z
        rw [hK (some_ne q)] at e
        cases e
    obtain ⟨mc, l1, l2⟩ := hlim
    have hM : Mod K mg (hidT s1.heap H) := ⟨hKb, nsK hns, ⟨mb, nsK hb, hbb⟩, ⟨mc, nsK l1, l2⟩⟩
    have nil_no : ∀ {α : Type} {b : α}, b ∈ ([] : List α) → False := fun z => nomatch z
    have e0 : Env0 P w K mg (hidT s1.heap H) callerA [] s1 H :=
      { frames := rfl, mod := hM, bs := fun b o e => of_hidT e, bsz := Nat.le_of_eq (hidT_size _ _), funs := trivial, frf := fun b hb => (nil_no (show b ∈ ([] : List Addr) from hb)).elim, hok := hok, bare := .of_eq hg }
    have go := (F _ hKb (nsK hns)).run callerA [] s1 H ⟨[.ref a], []⟩ [.ref a] [.ref a] _ _ rfl hr e0 (hbind s1 (.ref a)) (.cons rfl .nil) (hsp H hO hS)
    refine codeAny_mono go ?_
    intro r s' h
    match r, h with
    | .error e, h => exact (hCX H e s' h).elim
    | .ok .next, h => exact h.elim
    | .ok .brk, h => exact h.elim
    | .ok .cont, h => exact h.elim
    | .ok (.ret u), ⟨v, H', os, bare, un, hok', r', q⟩ =>
      have q' : v = .bl true := q
      subst q'
      obtain rfl : u = Value.bool true := r'
      refine ⟨rfl, OldK.of_keep ?_, os, bare⟩
      intro b o e
      cases q : H b with
      | none => exact un.keep b o e q (fun z => nil_no (show b ∈ ([] : List Addr) from z)) (fun z => nil_no z)
      | some u =>
        rcases hO b with z | ⟨ob, xs, z⟩
        · exact (some_ne q z).elim
        · have e1 := (hok b _ z).1
          have e2 := (hok' b _ (un.frzs b ob _ z)).1
          rw [e] at e1
          cases e1
          exact e2
  cases hk : K.lookup a with
  | some o =>
    have e := KX a o hk
    rw [ha] at e
    cases e
    refine core (fun _ => none) (fun _ => .inl rfl) (.inr ⟨_, vs.toArray, _, hk, rfl, rfl, rfl, by rw [List.size_toArray, lenV]; exact hl, by simpa using rv⟩) ?_ (fun b z => absurd rfl z) fun z => absurd rfl z
    intro b u z
    cases (show (none : Option HO) = some u from z)
  | none =>
    let H0 : Hp := fun b => if b = a then some (.frz { cls := .type "list", data := .seq vs.toArray } (.lst (ns.map V.int))) else none
    have at_a : H0 a = some (.frz { cls := .type "list", data := .seq vs.toArray } (.lst (ns.map V.int))) := if_pos rfl
    have off : ∀ {b : Addr}, b ≠ a → H0 b = none := fun h => if_neg h
    refine core H0 ?_ (.inl (.inr ⟨_, at_a⟩)) ?_ ?_ fun _ => hk
    · intro b
      by_cases h : b = a
      · exact .inr ⟨_, _, by rw [h]; exact at_a⟩
      · exact .inl (off h)
    · intro b u z
      by_cases h : b = a
      · subst h
        rw [at_a] at z
        cases z
        exact ⟨ha, by rw [List.length_map]; exact hl, vs, _, rv, ha⟩
      · rw [off h] at z
        cases z
    · intro b z
      by_cases h : b = a
      · exact h
      · exact absurd (off h) z
theorem walk_g {l : PySem.W.OpenLaw} {n k : Nat} {q : Program} {loose : List Str} {XP : (Str → Option Value) → Heap → Prop} {YP : World → Heap → Prop} {d : DefRec} {K : Params → PySem.W.Frag} {CX : World → CXT} {sp : World → Sp} {x : Str}
    (hn : l.most = some n) (hn2 : n ≤ sizeLine) (hdf : d.params.defaults = []) (hr : Room k callerA) (hY : ∀ (w : World) (h : Heap), YP w h → (K w.params).In h)
    (F : ∀ (w : World) (mg : Str → Option Value) (fa : Addr) (h : Heap), (K w.params).In h → h.Ns mainGlobals mg → mg d.name = some (.ref fa) →
      ∃ fd : FuncData, (∀ (s : Shared) (u : Value), BindsTo s fd ⟨[u], []⟩ [(x, u)]) ∧ ∀ base : Heap, (K w.params).In base → base.Ns mainGlobals mg → GnOk l.prog w (K w.params) mg base (CX w) k fa fd [x] (sp w))
    (hsp : ∀ (w : World) (H : Hp) (a : Addr) (ns : List Int), ns.length ≤ n → Only H → SqL (K w.params) H a (ns.map V.int) → sp w [.ref a] H (fun v _ => v = .bl true) fun _ _ _ => False)
    (hCX : ∀ (w : World) (H : Hp) (s : Shared) (e : Value) (s' : Shared), CX w [] H s (fun _ _ _ => False) e s' → False) :
    PySem.W.WalkO q loose XP YP l.row.toRowW d [] (fun f vs => PySem.call f vs) := by
  refine Att.attach_call hn hdf ?_
  intro w s0 s1 mg mb fa o pm cd doc a vs ns G Y ho hd hcd hmg hobj hints hlen hg
  have KX := hY w _ Y
  obtain ⟨fd, hb, hF⟩ := F w mg fa _ KX G.T.g hmg
  exact call_g KX G.T.g G.T.b G.T.builtins G.T.nolimit hg hobj hints (Nat.le_trans hlen hn2) hr hF hb (fun H hO hS => hsp w H a ns hlen hO hS) fun H e s' => hCX w H s1 e s'
end L2.Ex

namespace L2.Ex
open PySem PySem.Spec PyProof.Rows
/-! ## several except clauses, each with a name -/
/-- the ends of a suite behind which the slot i is empty -/
def offEnds (i : Nat) (D : Ends) : Ends := { nx := fun σ H => D.nx (σ.set i none) H, rt := D.rt, bk := fun σ H => D.bk (σ.set i none) H, ct := fun σ H => D.ct (σ.set i none) H }
/-- a clause: the class, the name's slot, the suite's reading -/
abbrev Clause := Value × Nat × (Addr → Value → Option Addr → TS)
def wNames (K : PySem.W.Frag) (Wout : WX) (D : Ends) : List Clause → WX
  | [] => Wout
  | (c, i, ts) :: r => fun cls d σ H => ∃ b, PySem.W.exmOne K cls c = some b ∧ (b = true → ∀ a, H a = none → ts a cls d (offEnds i D) (σ.set i (some (.ref a))) H) ∧ (b = false → wNames K Wout D r cls d σ H)
inductive HdsNm (X : Cx) : List ExceptHandler → List Clause → Prop
  | nil : HdsNm X [] []
  | cons {x n : Str} {c : Value} {i : Nat} {ts : Addr → Value → Option Addr → TS} {b0 : Stmt} {suite : List Stmt} {np pos' : Pos} {hds : List ExceptHandler} {l : List Clause} (hi : X.N[i]? = some n) (hln : X.env.kindOf n = some .local)
      (hc : Names X x c) (hsu : ∀ (a : Addr) (oe : Obj) (cls : Value) (d : Option Addr) (pn : List (Addr × Obj)), Zc cls d oe → (∃ vs, oe.data = .fields vs) → PSs (X.suite a ((a, oe) :: pn)) (b0 :: suite) (ts a cls d)) (r : HdsNm X hds l) :
      HdsNm X (.ExceptHandler (some (.Name x np)) (some n) (b0 :: suite) pos' :: hds) ((c, i, ts) :: l)
section
variable {X : Cx}
/-- an exception that has been caught in the frame: the state where the clauses are looked at -/
structure Held (X : Cx) (pins : List (Addr × Obj)) (D : Ends) (Wout : WX) (a : Addr) (B : Heap) (sI : Shared) (σ : St) (H : Hp) (cls : Value) (d : Option Addr) (s' : Shared) (h3 : Heap) : Prop where
  stk : X.stack = X.env :: X.outer
  fr : X.env.frame = some X.env.locals
  tk : Takes X Wout
  J : Inv X pins σ H sI
  nb : ∀ b o, sI.heap.get? b = some o → b ∉ frs X.stack → B.get? b = some o
  up : sI.heap.UpToSlots h3
  fl : HandSPX.FlyingZ B (X.env :: X.outer) a (Zc cls d) h3
  na : H a = none
  os : s'.os = sI.os
  ag : AllBare s'.gens
theorem suite_end {pins : List (Addr × Obj)} {D : Ends} {n : Str} {i : Nat} {q : Addr × Obj} {a : Addr} {pos' : Pos} {f : Flow} {s6 : Shared} (ok : X.Ok) (hN : X.N.Nodup) (hi : X.N[i]? = some n) (hln : X.env.kindOf n = some .local)
    (hsp : SP (X.suite a (q :: (X.pn ++ pins))) [] (offEnds i D) f s6) : wpAny (model X.prog X.w) X.A (do bindName X.env n .none; unbindBehindTheSuite X.env n pos') (fun _ s7 => SP X pins D f s7) X.xe s6 := by
  match f, hsp with
  | .next, ⟨_, _, S, z⟩ => exact gone_ok (S.unsuite ok) hN hi hln fun _ J => ⟨_, _, J, z⟩
  | .brk, ⟨_, _, S, z⟩ => exact gone_ok (S.unsuite ok) hN hi hln fun _ J => ⟨_, _, J, z⟩
  | .cont, ⟨_, _, S, z⟩ => exact gone_ok (S.unsuite ok) hN hi hln fun _ J => ⟨_, _, J, z⟩
  | .ret u, ⟨_, _, _, S, r, z⟩ => exact gone_ok (S.unsuite ok) hN hi hln fun _ J => ⟨_, _, _, J, r, z⟩
theorem names_handle {pins : List (Addr × Obj)} {D : Ends} {Wout : WX} {a : Addr} {B : Heap} {sI : Shared} {σ : St} {H : Hp} {cls : Value} {d : Option Addr} {s' : Shared} {h3 : Heap} (hN : X.N.Nodup) (Y : Held X pins D Wout a B sI σ H cls d s' h3) :
    ∀ {hds : List ExceptHandler} {l : List Clause}, HdsNm X hds l → wNames X.K Wout D l cls d σ H → wpAny (model X.prog X.w) X.A (handleBy (.ref a) X.env hds) (SP X pins D) X.xe { s' with heap := h3 } := by
  obtain ⟨hs, hf, tk, J, nb, up, fl, na, os, ag⟩ := Y
  have ok := J.ok
  have J3 : Inv X pins σ H { s' with heap := h3 } := J.landed nb fl.1 up os ag
  obtain ⟨oe, vs, he, hz, hd⟩ := fl.there
  have nfr : a ∉ frs (X.env :: X.outer) := by
    intro hm
    obtain ⟨_, o', e', hnf⟩ := fl.2.2.1.mem hm
    rw [he] at e'
    cases e'
    exact hnf _ hd
  have inFr : ∀ {e : Env}, e ∈ X.env :: X.outer → e.frame = some a → False := fun h1 h2 => nfr (List.mem_filterMap.mpr ⟨_, h1, h2⟩)
  have nL : a ≠ X.env.locals := fun z => inFr List.mem_cons_self (by rw [hf, z])
  have nF : a ∉ X.fs := by
    intro hm
    obtain ⟨e, h1, h2⟩ := List.mem_filterMap.mp hm
    exact inFr (List.mem_cons_of_mem _ h1) h2
  intro hds l hk
  induction hk with
  | nil =>
    intro w
    refine wpAny_handleBy_nil ?_
    obtain ⟨_, _, _, oe', vs', T, oT, ts', g1, _, g2, g3, _⟩ := id fl
    unfold PySem.passOn
    refine wpAny_bind (wpAny_field g1 g2 g3 ?_)
    rw [if_neg (by simp : ¬ ((Value.ref T == Value.none) = true))]
    have fin : wpAny (model X.prog X.w) X.A (setFlight (.ref a) X.env.frame) (fun _ s4 => wpAny (model X.prog X.w) X.A (throw (.ref a) : Sem Flow) (SP X pins D) X.xe s4) X.xe { s' with heap := h3 } := by
      rw [hf]
      refine HandSPX.setFlight_upZ fl fun h4 hh4 up4 => wpAny_throw (tk _ _ ?_)
      have sky : Sky B X.stack a (Zc cls d) X.env.locals h4 := .inr (.inr (by rw [hs]; exact hh4))
      exact ⟨a, B, sI, pins, σ, H, cls, d, rfl, J, nb, up.trans up4, sky, na, os, ag, w⟩
    first
      | exact wpAny_bind (wpAny_pure (wpAny_bind fin))
      | exact wpAny_bind fin
  | @cons x n c i ts b0 suite np pos' hds2 l2 hi hln hc hsu r ih =>
    rintro ⟨b, hb1, hyes, hno⟩
    have S3 := J3.suite he hd na nL nF
    have LT : PySem.W.Looks (model X.prog X.w) h3 (typeOf (.ref a)) cls := fun _ _ _ _ k q => wpAny_typeOf_ref (k _ _ he) (by rw [hz.1]; exact q)
    have LM := PySem.W.exm_one (M := model X.prog X.w) J3.kIn LT hb1
    have test : ∀ {Q E : Value → Shared → Prop}, Q c { s' with heap := h3 } → wpAny (model X.prog X.w) (X.A.mark (some (.ref a))) (eval (.Name x np) X.env) Q E { s' with heap := h3 } := by
      intro Q E q
      rcases hc with ⟨hg, hdb, hm | ⟨hm, hv, hn⟩⟩
      · exact ld_glob (X := X.suite a ((a, oe) :: (X.pn ++ pins))) S3 hg hm q hdb
      · exact ld_blt (X := X.suite a ((a, oe) :: (X.pn ++ pins))) S3 hg hm hv q hn hdb
    refine wpAny_handleBy_cons (codeAny_handlers_test (test (LM.here ?_))) (by intro q; cases q)
    cases b with
    | false => exact ih (hno rfl)
    | true =>
      refine codeAny_handlers_suite_as (HandSPX.lands_againZ fl fun h4 fl4 up4 => ?_)
      have J4 : Inv X pins σ H { s' with heap := h4 } := J.landed nb fl4.1 (up.trans up4) os ag
      obtain ⟨oe4, vs4, he4, hz4, hd4⟩ := fl4.there
      refine store_ok (X := X.suite a ((a, oe4) :: (X.pn ++ pins))) (v := .ref a) (J4.suite he4 hd4 na nL nF) hN hi (.inl hln) rfl (fun s5 S5 => ?_) (.inr hln)
      exact wpAny_mono ((hsu a oe4 cls d (X.pn ++ pins) hz4 ⟨_, hd4⟩).run [] s5 _ H _ S5 (hyes rfl a na)) (fun f s6 hsp => suite_end ok hN hi hln hsp) fun _ _ z => False.elim z
variable {body : List Stmt} {h0 : ExceptHandler} {hds : List ExceptHandler} {l : List Clause} {pos : Pos} {tb : WX → TS} {Wout : WX}
theorem ps_try_names (hs : X.stack = X.env :: X.outer) (hf : X.env.frame = some X.env.locals) (hN : X.N.Nodup) (tk : Takes X Wout)
    (hb : ∀ (W : WX) (pn : List (Addr × Obj)) (xe : Value → Shared → Prop), Takes (X.tr pn xe) W → PassesOwn (model X.prog X.w) X.A X.env xe → PSs (X.tr pn xe) body (tb W)) (hh : HdsNm X (h0 :: hds) l) :
    PS X (.Try body (h0 :: hds) [] [] pos) (fun D σ H => tb (wNames X.K Wout D l) D σ H) := by
  constructor
  intro pins s σ H D I h
  have ok := I.ok
  have hfr : X.A.frames = some (X.env :: X.outer) := by rw [ok.frames, hs]
  let xe' : Value → Shared → Prop := fun e s1 => wpAny (model X.prog X.w) X.A (noteFrame e X.env) (fun _ s2 => wpAny (model X.prog X.w) X.A (setFlight e none)
    (fun _ s3 => wpAny (model X.prog X.w) X.A (handleBy e X.env (h0 :: hds)) (SP X pins D) X.xe s3) X.xe s2) X.xe s1
  have catch_ : Takes (X.tr (X.pn ++ pins) xe') (wNames X.K Wout D l) := by
    rintro u s' ⟨a, B, sI, pins', σ', H', cls, d, rfl, J', nb, up, sky, na, os, ag, w⟩
    have sky' : Sky B (X.env :: X.outer) a (Zc cls d) X.env.locals s'.heap := by rw [← hs]; exact sky
    show wpAny (model X.prog X.w) X.A (noteFrame (.ref a) X.env) _ _ _
    exact Sky.land Zc.steady hfr hf sky' fun h3 fl3 up3 => names_handle hN ⟨hs, hf, tk, J'.ofTry ok, nb, up.trans up3, fl3, na, os, ag⟩ hh w
  refine wpAny_Try_except (wpAny_mono ((hb (wNames X.K Wout D l) (X.pn ++ pins) xe' catch_ PassesOwn.looking).run [] s σ H D (I.toTry _) h) ?_ fun _ _ z => z)
  intro f s1 hsp
  match f, hsp with
  | .next, ⟨σ', H', J', q⟩ => exact wpAny_execs_nil ⟨σ', H', J'.ofTry ok, q⟩
  | .brk, ⟨σ', H', J', q⟩ => exact ⟨σ', H', J'.ofTry ok, q⟩
  | .cont, ⟨σ', H', J', q⟩ => exact ⟨σ', H', J'.ofTry ok, q⟩
  | .ret u, ⟨v, σ', H', J', r, q⟩ => exact ⟨v, σ', H', J'.ofTry ok, r, q⟩
end
/-! ## o.m(e, ..) in a try's body -/
section
variable {X : Cx} {CX : CXT} {k : Nat} {f C : Addr} {fd : FuncData} {ps : List Str} {sp : Sp} {E : St → XK} {m : Str} {pos apos : Pos} {e o : Expr} {es : List Expr} {ta : TE} {t : TA}
def tMethX (C : Addr) (m : Str) (sp : Sp) (E : St → XK) (ta : TE) (t : TA) : TE := fun σ H Q => ta σ H fun x H1 => ∃ a dx fs, x = .ref a ∧ H1 a = some (.ins C dx fs) ∧ fs.lookup m = none ∧ t σ H1 fun vs H2 => sp (x :: vs) H2 Q (E σ)
theorem pe_methX {pl : Sem Bool} (he : PE X o ta) (c : Cls X.K C) (hm : Meth X.K C m f) (F : FnOk X.prog X.w X.K X.mg X.base CX k f fd ps sp) (hr : Room k X.A) (hb : Binds X.K fd ps []) (hx : ∀ σ, PassesAt CX X σ (E σ)) (ha : PA X (e :: es) t)
    (hst : starEach (e :: es) X.env = (false, eval e X.env) :: starEach es X.env := by rfl) (hpl : (backTo pos (starEach es X.env)).any (·.1) = false := by rfl)
    (ht : eval (.Call (.Attribute o m apos) (e :: es) [] pos) X.env = (do
      let ov ← eval o X.env
      standAt apos.atName
      let (f, first) ← holding [ov] (getMethod ov m pl)
      callWith pos f first (backTo pos (starEach (e :: es) X.env)) (backToKw pos (keywordEach [] X.env))) := by rfl) :
    PE X (.Call (.Attribute o m apos) (e :: es) [] pos) (tMethX C m sp E ta t) := by
  constructor
  intro pins s σ H Q I h
  refine PySem.W.methodCall_KW (pl := pl) (thn (he.run pins s σ H _ I h) ?_) ht
  rintro u s1 ⟨x, H1, I1, rx, a, dx, fs, rfl, ea, l, q⟩
  obtain rfl : u = Value.ref a := rx
  refine getmeth_ok I1 ea c hm l (PySem.W.callWith_K (first := [.ref a]) (h₀ := X.base) I.ok.mod.kin hm.kp (thn (ha.run pos pins s1 σ H1 _ I1 q) ?_) hst hpl)
  rintro us s2 ⟨vs, H2, I2, r, q2⟩
  exact ⟨I2.kIn, run_fnS (us := .ref a :: us) (vs := .ref a :: vs) F hr hb (hx σ) I2 (.cons rfl r) q2⟩
end
end L2.Ex

namespace L2.Kd
open PySem PySem.Spec PyProof.Rows L2.Ex
def top (i : Nat) : Stmt := PySem.Challenge.pw_colonnade_k76_disks.main.body.getD i (.Pass ⟨0, 0, 0, 0⟩)
abbrev s_NoFile_init : Stmt := inClass (top 2) 0
abbrev s_BadLimit_init : Stmt := inClass (top 3) 0
abbrev s_Fallen_init : Stmt := inClass (top 4) 0
abbrev s_Disk_init : Stmt := inClass (top 6) 0
abbrev s_Disk_limit : Stmt := inClass (top 6) 1
abbrev s_Disk_limitS : Stmt := inClass (top 6) 2
abbrev s_Disk_set_limit : Stmt := inClass (top 6) 3
abbrev s_Disk_need_file : Stmt := inClass (top 6) 4
abbrev s_Disk_take_step : Stmt := inClass (top 6) 5
abbrev s_Disk_put : Stmt := inClass (top 6) 6
abbrev s_Disk_sync : Stmt := inClass (top 6) 7
abbrev s_Disk_strike : Stmt := inClass (top 6) 8
abbrev s_Disk_cut : Stmt := inClass (top 6) 9
abbrev s_Disk_read : Stmt := inClass (top 6) 10
abbrev s_Disk_length : Stmt := inClass (top 6) 11
abbrev s_Disk_synced : Stmt := inClass (top 6) 12
abbrev s_Disk_all_files : Stmt := inClass (top 6) 13
abbrev s_Disk_fall : Stmt := inClass (top 6) 14
abbrev s_law_draw : Stmt := top 8
abbrev s_law_files : Stmt := top 9
abbrev s_law_whole : Stmt := top 10
abbrev s_law_tried : Stmt := top 11
abbrev s_law_due : Stmt := top 12
abbrev s_law_asked : Stmt := top 13
abbrev s_law_one : Stmt := top 14
abbrev s_law_as_due : Stmt := top 15
abbrev s_law_lengths : Stmt := top 16
abbrev s_law_left : Stmt := top 17
abbrev s_law_argument : Stmt := top 18
abbrev s_law : Stmt := top 19
theorem sc_NoFile_init : FnScope ["self", "name"] ["self", "name"] (defScope s_NoFile_init) := ⟨rfl, rfl, rfl, by decide +kernel, rfl, by decide +kernel, by decide +kernel⟩
theorem sc_BadLimit_init : FnScope ["self", "limit"] ["self", "limit"] (defScope s_BadLimit_init) := ⟨rfl, rfl, rfl, by decide +kernel, rfl, by decide +kernel, by decide +kernel⟩
theorem sc_Fallen_init : FnScope ["self", "steps"] ["self", "steps"] (defScope s_Fallen_init) := ⟨rfl, rfl, rfl, by decide +kernel, rfl, by decide +kernel, by decide +kernel⟩
theorem sc_Disk_init : FnScope ["self"] ["self"] (defScope s_Disk_init) := ⟨rfl, rfl, rfl, by decide +kernel, rfl, by decide +kernel, by decide +kernel⟩
theorem sc_Disk_limit : FnScope ["self"] ["self"] (defScope s_Disk_limit) := ⟨rfl, rfl, rfl, by decide +kernel, rfl, by decide +kernel, by decide +kernel⟩
theorem sc_Disk_limitS : FnScope ["self", "value"] ["self", "value"] (defScope s_Disk_limitS) := ⟨rfl, rfl, rfl, by decide +kernel, rfl, by decide +kernel, by decide +kernel⟩
theorem sc_Disk_set_limit : FnScope ["self", "limit"] ["self", "limit"] (defScope s_Disk_set_limit) := ⟨rfl, rfl, rfl, by decide +kernel, rfl, by decide +kernel, by decide +kernel⟩
theorem sc_Disk_need_file : FnScope ["self", "name"] ["self", "name"] (defScope s_Disk_need_file) := ⟨rfl, rfl, rfl, by decide +kernel, rfl, by decide +kernel, by decide +kernel⟩
theorem sc_Disk_take_step : FnScope ["self"] ["self"] (defScope s_Disk_take_step) := ⟨rfl, rfl, rfl, by decide +kernel, rfl, by decide +kernel, by decide +kernel⟩
theorem sc_Disk_put : FnScope ["self", "name", "cell"] ["self", "name", "cell"] (defScope s_Disk_put) := ⟨rfl, rfl, rfl, by decide +kernel, rfl, by decide +kernel, by decide +kernel⟩
theorem sc_Disk_sync : FnScope ["self", "name"] ["self", "name"] (defScope s_Disk_sync) := ⟨rfl, rfl, rfl, by decide +kernel, rfl, by decide +kernel, by decide +kernel⟩
theorem sc_Disk_strike : FnScope ["self", "name"] ["self", "name"] (defScope s_Disk_strike) := ⟨rfl, rfl, rfl, by decide +kernel, rfl, by decide +kernel, by decide +kernel⟩
theorem sc_Disk_cut : FnScope ["self", "name", "length"] ["self", "name", "length"] (defScope s_Disk_cut) := ⟨rfl, rfl, rfl, by decide +kernel, rfl, by decide +kernel, by decide +kernel⟩
theorem sc_Disk_read : FnScope ["self", "name"] ["self", "name"] (defScope s_Disk_read) := ⟨rfl, rfl, rfl, by decide +kernel, rfl, by decide +kernel, by decide +kernel⟩
theorem sc_Disk_length : FnScope ["self", "name"] ["self", "name"] (defScope s_Disk_length) := ⟨rfl, rfl, rfl, by decide +kernel, rfl, by decide +kernel, by decide +kernel⟩
theorem sc_Disk_synced : FnScope ["self", "name"] ["self", "name"] (defScope s_Disk_synced) := ⟨rfl, rfl, rfl, by decide +kernel, rfl, by decide +kernel, by decide +kernel⟩
theorem sc_Disk_all_files : FnScope ["self"] ["self"] (defScope s_Disk_all_files) := ⟨rfl, rfl, rfl, by decide +kernel, rfl, by decide +kernel, by decide +kernel⟩
theorem sc_Disk_fall : FnScope ["self", "lengths", "left", "name", "wanted", "many"] ["self", "lengths"] (defScope s_Disk_fall) := ⟨rfl, rfl, rfl, by decide +kernel, rfl, by decide +kernel, by decide +kernel⟩
theorem sc_law_draw : FnScope ["_law_pool", "_law_many", "_law_digit"] ["_law_pool", "_law_many"] (defScope s_law_draw) := ⟨rfl, rfl, rfl, by decide +kernel, rfl, by decide +kernel, by decide +kernel⟩
theorem sc_law_files : FnScope [] [] (defScope s_law_files) := ⟨rfl, rfl, rfl, by decide +kernel, rfl, by decide +kernel, by decide +kernel⟩
theorem sc_law_whole : FnScope ["_law_one_here", "_law_due_here"] ["_law_one_here", "_law_due_here"] (defScope s_law_whole) := ⟨rfl, rfl, rfl, by decide +kernel, rfl, by decide +kernel, by decide +kernel⟩
theorem sc_law_tried : FnScope ["_law_disk", "_law_deed", "_law_name", "_law_arg", "_law_back", "e", "_law_fine"] ["_law_disk", "_law_deed", "_law_name", "_law_arg"] (defScope s_law_tried) := ⟨rfl, rfl, rfl, by decide +kernel, rfl, by decide +kernel, by decide +kernel⟩
theorem sc_law_due : FnScope ["_law_model", "_law_deed", "_law_name", "_law_arg", "_law_files_here", "_law_row"] ["_law_model", "_law_deed", "_law_name", "_law_arg"] (defScope s_law_due) := ⟨rfl, rfl, rfl, by decide +kernel, rfl, by decide +kernel, by decide +kernel⟩
theorem sc_law_asked : FnScope ["_law_disk", "_law_what", "_law_name", "e"] ["_law_disk", "_law_what", "_law_name"] (defScope s_law_asked) := ⟨rfl, rfl, rfl, by decide +kernel, rfl, by decide +kernel, by decide +kernel⟩
theorem sc_law_one : FnScope ["_law_disk", "_law_model", "_law_name", "_law_told", "_law_what", "_law_row"] ["_law_disk", "_law_model", "_law_name"] (defScope s_law_one) := ⟨rfl, rfl, rfl, by decide +kernel, rfl, by decide +kernel, by decide +kernel⟩
theorem sc_law_as_due : FnScope ["_law_disk", "_law_model", "_law_names", "_law_name"] ["_law_disk", "_law_model"] (defScope s_law_as_due) := ⟨rfl, rfl, rfl, by decide +kernel, rfl, by decide +kernel, by decide +kernel⟩
theorem sc_law_lengths : FnScope ["_law_pool", "_law_lengths_here", "_law_files_here", "_law_j"] ["_law_pool"] (defScope s_law_lengths) := ⟨rfl, rfl, rfl, by decide +kernel, rfl, by decide +kernel, by decide +kernel⟩
theorem sc_law_left : FnScope ["_law_model", "_law_lengths_here", "_law_files_here", "_law_name", "_law_row", "_law_many"] ["_law_model", "_law_lengths_here"] (defScope s_law_left) := ⟨rfl, rfl, rfl, by decide +kernel, rfl, by decide +kernel, by decide +kernel⟩
theorem sc_law_argument : FnScope ["_law_pool", "_law_model", "_law_deed", "_law_name", "_law_k", "_law_pick", "_law_many"] ["_law_pool", "_law_model", "_law_deed", "_law_name", "_law_k"] (defScope s_law_argument) := ⟨rfl, rfl, rfl, by decide +kernel, rfl, by decide +kernel, by decide +kernel⟩
theorem sc_law : FnScope ["_law_script", "_law_pool", "_law_disks", "_law_models", "_law_deeds", "_law_k", "_law_at", "_law_deed", "_law_name", "_law_lengths_here", "_law_passed", "_law_left_here", "_law_model", "_law_arg", "_law_told", "_law_j", "_law_cell"] ["_law_script"] (defScope s_law) := ⟨rfl, rfl, rfl, by decide +kernel, rfl, by decide +kernel, by decide +kernel⟩
/-- where the top has laid the classes, the defs, the properties -/
structure Ad where
  c_ColonnadeError : Addr
  c_NoFile : Addr
  c_BadLimit : Addr
  c_Fallen : Addr
  c_Disk : Addr
  f_NoFile_init : Addr
  f_BadLimit_init : Addr
  f_Fallen_init : Addr
  f_Disk_init : Addr
  f_Disk_limit : Addr
  f_Disk_limitS : Addr
  f_Disk_set_limit : Addr
  f_Disk_need_file : Addr
  f_Disk_take_step : Addr
  f_Disk_put : Addr
  f_Disk_sync : Addr
  f_Disk_strike : Addr
  f_Disk_cut : Addr
  f_Disk_read : Addr
  f_Disk_length : Addr
  f_Disk_synced : Addr
  f_Disk_all_files : Addr
  f_Disk_fall : Addr
  f_law_draw : Addr
  f_law_files : Addr
  f_law_whole : Addr
  f_law_tried : Addr
  f_law_due : Addr
  f_law_asked : Addr
  f_law_one : Addr
  f_law_as_due : Addr
  f_law_lengths : Addr
  f_law_left : Addr
  f_law_argument : Addr
  f_law : Addr
  p_Disk_limit : Addr
structure Fd where
  f_NoFile_init : FuncData
  f_BadLimit_init : FuncData
  f_Fallen_init : FuncData
  f_Disk_init : FuncData
  f_Disk_limit : FuncData
  f_Disk_limitS : FuncData
  f_Disk_set_limit : FuncData
  f_Disk_need_file : FuncData
  f_Disk_take_step : FuncData
  f_Disk_put : FuncData
  f_Disk_sync : FuncData
  f_Disk_strike : FuncData
  f_Disk_cut : FuncData
  f_Disk_read : FuncData
  f_Disk_length : FuncData
  f_Disk_synced : FuncData
  f_Disk_all_files : FuncData
  f_Disk_fall : FuncData
  f_law_draw : FuncData
  f_law_files : FuncData
  f_law_whole : FuncData
  f_law_tried : FuncData
  f_law_due : FuncData
  f_law_asked : FuncData
  f_law_one : FuncData
  f_law_as_due : FuncData
  f_law_lengths : FuncData
  f_law_left : FuncData
  f_law_argument : FuncData
  f_law : FuncData
structure Tx (K : PySem.W.Frag) (mg : Str → Option Value) (A : Ad) (D : Fd) : Prop where
  b_isinstance : mg "isinstance" = none
  b_int : mg "int" = none
  b_bool : mg "bool" = none
  b_list : mg "list" = none
  b_len : mg "len" = none
  b_min : mg "min" = none
  b_max : mg "max" = none
  b_sorted : mg "sorted" = none
  b_repr : mg "repr" = none
  b_range : mg "range" = none
  b_dict : mg "dict" = none
  b_abs : mg "abs" = none
  m_ColonnadeError : mg "ColonnadeError" = some (.ref A.c_ColonnadeError)
  m_NoFile : mg "NoFile" = some (.ref A.c_NoFile)
  m_BadLimit : mg "BadLimit" = some (.ref A.c_BadLimit)
  m_Fallen : mg "Fallen" = some (.ref A.c_Fallen)
  m_Disk : mg "Disk" = some (.ref A.c_Disk)
  p_Disk_limit : PropOf K A.c_Disk "limit" A.p_Disk_limit A.f_Disk_limit
  ps_Disk_limit : SetOf K A.c_Disk "limit" A.p_Disk_limit A.f_Disk_limitS
  F_NoFile_init : Fun K "__init__" "NoFile.__init__" s_NoFile_init A.f_NoFile_init D.f_NoFile_init
  F_BadLimit_init : Fun K "__init__" "BadLimit.__init__" s_BadLimit_init A.f_BadLimit_init D.f_BadLimit_init
  F_Fallen_init : Fun K "__init__" "Fallen.__init__" s_Fallen_init A.f_Fallen_init D.f_Fallen_init
  F_Disk_init : Fun K "__init__" "Disk.__init__" s_Disk_init A.f_Disk_init D.f_Disk_init
  F_Disk_limit : Fun K "limit" "Disk.limit" s_Disk_limit A.f_Disk_limit D.f_Disk_limit
  F_Disk_limitS : Fun K "limit" "Disk.limit" s_Disk_limitS A.f_Disk_limitS D.f_Disk_limitS
  F_Disk_set_limit : Fun K "set_limit" "Disk.set_limit" s_Disk_set_limit A.f_Disk_set_limit D.f_Disk_set_limit
  me_Disk_set_limit : Meth K A.c_Disk "set_limit" A.f_Disk_set_limit
  F_Disk_need_file : Fun K "need_file" "Disk.need_file" s_Disk_need_file A.f_Disk_need_file D.f_Disk_need_file
  me_Disk_need_file : Meth K A.c_Disk "need_file" A.f_Disk_need_file
  F_Disk_take_step : Fun K "take_step" "Disk.take_step" s_Disk_take_step A.f_Disk_take_step D.f_Disk_take_step
  me_Disk_take_step : Meth K A.c_Disk "take_step" A.f_Disk_take_step
  F_Disk_put : Fun K "put" "Disk.put" s_Disk_put A.f_Disk_put D.f_Disk_put
  me_Disk_put : Meth K A.c_Disk "put" A.f_Disk_put
  F_Disk_sync : Fun K "sync" "Disk.sync" s_Disk_sync A.f_Disk_sync D.f_Disk_sync
  me_Disk_sync : Meth K A.c_Disk "sync" A.f_Disk_sync
  F_Disk_strike : Fun K "strike" "Disk.strike" s_Disk_strike A.f_Disk_strike D.f_Disk_strike
  me_Disk_strike : Meth K A.c_Disk "strike" A.f_Disk_strike
  F_Disk_cut : Fun K "cut" "Disk.cut" s_Disk_cut A.f_Disk_cut D.f_Disk_cut
  me_Disk_cut : Meth K A.c_Disk "cut" A.f_Disk_cut
  F_Disk_read : Fun K "read" "Disk.read" s_Disk_read A.f_Disk_read D.f_Disk_read
  me_Disk_read : Meth K A.c_Disk "read" A.f_Disk_read
  F_Disk_length : Fun K "length" "Disk.length" s_Disk_length A.f_Disk_length D.f_Disk_length
  me_Disk_length : Meth K A.c_Disk "length" A.f_Disk_length
  F_Disk_synced : Fun K "synced" "Disk.synced" s_Disk_synced A.f_Disk_synced D.f_Disk_synced
  me_Disk_synced : Meth K A.c_Disk "synced" A.f_Disk_synced
  F_Disk_all_files : Fun K "all_files" "Disk.all_files" s_Disk_all_files A.f_Disk_all_files D.f_Disk_all_files
  me_Disk_all_files : Meth K A.c_Disk "all_files" A.f_Disk_all_files
  F_Disk_fall : Fun K "fall" "Disk.fall" s_Disk_fall A.f_Disk_fall D.f_Disk_fall
  me_Disk_fall : Meth K A.c_Disk "fall" A.f_Disk_fall
  m_law_draw : mg "_law_draw" = some (.ref A.f_law_draw)
  F_law_draw : Fun K "_law_draw" "_law_draw" s_law_draw A.f_law_draw D.f_law_draw
  m_law_files : mg "_law_files" = some (.ref A.f_law_files)
  F_law_files : Fun K "_law_files" "_law_files" s_law_files A.f_law_files D.f_law_files
  m_law_whole : mg "_law_whole" = some (.ref A.f_law_whole)
  F_law_whole : Fun K "_law_whole" "_law_whole" s_law_whole A.f_law_whole D.f_law_whole
  m_law_tried : mg "_law_tried" = some (.ref A.f_law_tried)
  F_law_tried : Fun K "_law_tried" "_law_tried" s_law_tried A.f_law_tried D.f_law_tried
  m_law_due : mg "_law_due" = some (.ref A.f_law_due)
  F_law_due : Fun K "_law_due" "_law_due" s_law_due A.f_law_due D.f_law_due
  m_law_asked : mg "_law_asked" = some (.ref A.f_law_asked)
  F_law_asked : Fun K "_law_asked" "_law_asked" s_law_asked A.f_law_asked D.f_law_asked
  m_law_one : mg "_law_one" = some (.ref A.f_law_one)
  F_law_one : Fun K "_law_one" "_law_one" s_law_one A.f_law_one D.f_law_one
  m_law_as_due : mg "_law_as_due" = some (.ref A.f_law_as_due)
  F_law_as_due : Fun K "_law_as_due" "_law_as_due" s_law_as_due A.f_law_as_due D.f_law_as_due
  m_law_lengths : mg "_law_lengths" = some (.ref A.f_law_lengths)
  F_law_lengths : Fun K "_law_lengths" "_law_lengths" s_law_lengths A.f_law_lengths D.f_law_lengths
  m_law_left : mg "_law_left" = some (.ref A.f_law_left)
  F_law_left : Fun K "_law_left" "_law_left" s_law_left A.f_law_left D.f_law_left
  m_law_argument : mg "_law_argument" = some (.ref A.f_law_argument)
  F_law_argument : Fun K "_law_argument" "_law_argument" s_law_argument A.f_law_argument D.f_law_argument
  m_law : mg "law" = some (.ref A.f_law)
  F_law : Fun K "law" "law" s_law A.f_law D.f_law
  cl_Disk : Cls K A.c_Disk
  mk_Disk : Mk K A.c_Disk A.f_Disk_init
  na_Disk_contents : NoAttr K A.c_Disk "contents"
  na_Disk_safe : NoAttr K A.c_Disk "safe"
  na_Disk_steps : NoAttr K A.c_Disk "steps"
  na_Disk_allowed : NoAttr K A.c_Disk "allowed"
  ox_NoFile : OexC K A.c_NoFile
  xi_NoFile : PySem.W.findIn K (.ref A.c_NoFile) "__init__" = some (some (.ref A.f_NoFile_init))
  xt_NoFile : PySem.W.typeIn K (.ref A.f_NoFile_init) = some (.type "function")
  xf_NoFile : XfC K A.c_NoFile
  ex_NoFile : ExC K A.c_NoFile
  xn_NoFile_name : PySem.W.findIn K (.ref A.c_NoFile) "name" = some none
  ox_BadLimit : OexC K A.c_BadLimit
  xi_BadLimit : PySem.W.findIn K (.ref A.c_BadLimit) "__init__" = some (some (.ref A.f_BadLimit_init))
  xt_BadLimit : PySem.W.typeIn K (.ref A.f_BadLimit_init) = some (.type "function")
  xf_BadLimit : XfC K A.c_BadLimit
  ex_BadLimit : ExC K A.c_BadLimit
  xn_BadLimit_limit : PySem.W.findIn K (.ref A.c_BadLimit) "limit" = some none
  ox_Fallen : OexC K A.c_Fallen
  xi_Fallen : PySem.W.findIn K (.ref A.c_Fallen) "__init__" = some (some (.ref A.f_Fallen_init))
  xt_Fallen : PySem.W.typeIn K (.ref A.f_Fallen_init) = some (.type "function")
  xf_Fallen : XfC K A.c_Fallen
  ex_Fallen : ExC K A.c_Fallen
  xn_Fallen_steps : PySem.W.findIn K (.ref A.c_Fallen) "steps" = some none
  sub_NoFile_NoFile : PySem.W.exmOne K (.ref A.c_NoFile) (.ref A.c_NoFile) = some true
  sub_NoFile_Fallen : PySem.W.exmOne K (.ref A.c_NoFile) (.ref A.c_Fallen) = some false
  sub_NoFile_BadLimit : PySem.W.exmOne K (.ref A.c_NoFile) (.ref A.c_BadLimit) = some false
  sub_Fallen_NoFile : PySem.W.exmOne K (.ref A.c_Fallen) (.ref A.c_NoFile) = some false
  sub_Fallen_Fallen : PySem.W.exmOne K (.ref A.c_Fallen) (.ref A.c_Fallen) = some true
  sub_Fallen_BadLimit : PySem.W.exmOne K (.ref A.c_Fallen) (.ref A.c_BadLimit) = some false
  sub_BadLimit_NoFile : PySem.W.exmOne K (.ref A.c_BadLimit) (.ref A.c_NoFile) = some false
  sub_BadLimit_Fallen : PySem.W.exmOne K (.ref A.c_BadLimit) (.ref A.c_Fallen) = some false
  sub_BadLimit_BadLimit : PySem.W.exmOne K (.ref A.c_BadLimit) (.ref A.c_BadLimit) = some true
  ki_NoFile : PySem.W.kitOne K (.ref A.c_NoFile) (.ref A.c_ColonnadeError) = some true
  kn_NoFile : PySem.W.kitAny K (.ref A.c_NoFile) [.ref A.c_Fallen, .ref A.c_BadLimit] = some false
  ki_Fallen : PySem.W.kitOne K (.ref A.c_Fallen) (.ref A.c_ColonnadeError) = some true
  kn_Fallen : PySem.W.kitAny K (.ref A.c_Fallen) [.ref A.c_NoFile, .ref A.c_BadLimit] = some false
  ki_BadLimit : PySem.W.kitOne K (.ref A.c_BadLimit) (.ref A.c_ColonnadeError) = some true
  kn_BadLimit : PySem.W.kitAny K (.ref A.c_BadLimit) [.ref A.c_NoFile, .ref A.c_Fallen] = some false
section
variable {K : PySem.W.Frag} {mg : Str → Option Value} {A : Ad} {D : Fd}
theorem b_NoFile_init (T : Tx K mg A D) : Binds K D.f_NoFile_init ["self", "name"] [] := T.F_NoFile_init.binds (ps := ["self", "name"]) fun _ _ _ _ _ _ us hl => match us, hl with | [_, _], _ => rfl
theorem b_BadLimit_init (T : Tx K mg A D) : Binds K D.f_BadLimit_init ["self", "limit"] [] := T.F_BadLimit_init.binds (ps := ["self", "limit"]) fun _ _ _ _ _ _ us hl => match us, hl with | [_, _], _ => rfl
theorem b_Fallen_init (T : Tx K mg A D) : Binds K D.f_Fallen_init ["self", "steps"] [] := T.F_Fallen_init.binds (ps := ["self", "steps"]) fun _ _ _ _ _ _ us hl => match us, hl with | [_, _], _ => rfl
theorem b_Disk_init (T : Tx K mg A D) : Binds K D.f_Disk_init ["self"] [] := T.F_Disk_init.binds (ps := ["self"]) fun _ _ _ _ _ _ us hl => match us, hl with | [_], _ => rfl
theorem b_Disk_limit (T : Tx K mg A D) : Binds K D.f_Disk_limit ["self"] [] := T.F_Disk_limit.binds (ps := ["self"]) fun _ _ _ _ _ _ us hl => match us, hl with | [_], _ => rfl
theorem b_Disk_limitS (T : Tx K mg A D) : Binds K D.f_Disk_limitS ["self", "value"] [] := T.F_Disk_limitS.binds (ps := ["self", "value"]) fun _ _ _ _ _ _ us hl => match us, hl with | [_, _], _ => rfl
theorem b_Disk_set_limit (T : Tx K mg A D) : Binds K D.f_Disk_set_limit ["self", "limit"] [] := T.F_Disk_set_limit.binds (ps := ["self", "limit"]) fun _ _ _ _ _ _ us hl => match us, hl with | [_, _], _ => rfl
theorem b_Disk_need_file (T : Tx K mg A D) : Binds K D.f_Disk_need_file ["self", "name"] [] := T.F_Disk_need_file.binds (ps := ["self", "name"]) fun _ _ _ _ _ _ us hl => match us, hl with | [_, _], _ => rfl
theorem b_Disk_take_step (T : Tx K mg A D) : Binds K D.f_Disk_take_step ["self"] [] := T.F_Disk_take_step.binds (ps := ["self"]) fun _ _ _ _ _ _ us hl => match us, hl with | [_], _ => rfl
theorem b_Disk_put (T : Tx K mg A D) : Binds K D.f_Disk_put ["self", "name", "cell"] [] := T.F_Disk_put.binds (ps := ["self", "name", "cell"]) fun _ _ _ _ _ _ us hl => match us, hl with | [_, _, _], _ => rfl
theorem b_Disk_sync (T : Tx K mg A D) : Binds K D.f_Disk_sync ["self", "name"] [] := T.F_Disk_sync.binds (ps := ["self", "name"]) fun _ _ _ _ _ _ us hl => match us, hl with | [_, _], _ => rfl
theorem b_Disk_strike (T : Tx K mg A D) : Binds K D.f_Disk_strike ["self", "name"] [] := T.F_Disk_strike.binds (ps := ["self", "name"]) fun _ _ _ _ _ _ us hl => match us, hl with | [_, _], _ => rfl
theorem b_Disk_cut (T : Tx K mg A D) : Binds K D.f_Disk_cut ["self", "name", "length"] [] := T.F_Disk_cut.binds (ps := ["self", "name", "length"]) fun _ _ _ _ _ _ us hl => match us, hl with | [_, _, _], _ => rfl
theorem b_Disk_read (T : Tx K mg A D) : Binds K D.f_Disk_read ["self", "name"] [] := T.F_Disk_read.binds (ps := ["self", "name"]) fun _ _ _ _ _ _ us hl => match us, hl with | [_, _], _ => rfl
theorem b_Disk_length (T : Tx K mg A D) : Binds K D.f_Disk_length ["self", "name"] [] := T.F_Disk_length.binds (ps := ["self", "name"]) fun _ _ _ _ _ _ us hl => match us, hl with | [_, _], _ => rfl
theorem b_Disk_synced (T : Tx K mg A D) : Binds K D.f_Disk_synced ["self", "name"] [] := T.F_Disk_synced.binds (ps := ["self", "name"]) fun _ _ _ _ _ _ us hl => match us, hl with | [_, _], _ => rfl
theorem b_Disk_all_files (T : Tx K mg A D) : Binds K D.f_Disk_all_files ["self"] [] := T.F_Disk_all_files.binds (ps := ["self"]) fun _ _ _ _ _ _ us hl => match us, hl with | [_], _ => rfl
theorem b_Disk_fall (T : Tx K mg A D) : Binds K D.f_Disk_fall ["self", "lengths"] [] := T.F_Disk_fall.binds (ps := ["self", "lengths"]) fun _ _ _ _ _ _ us hl => match us, hl with | [_, _], _ => rfl
theorem b_law_draw (T : Tx K mg A D) : Binds K D.f_law_draw ["_law_pool", "_law_many"] [] := T.F_law_draw.binds (ps := ["_law_pool", "_law_many"]) fun _ _ _ _ _ _ us hl => match us, hl with | [_, _], _ => rfl
theorem b_law_files (T : Tx K mg A D) : Binds K D.f_law_files [] [] := T.F_law_files.binds (ps := []) fun _ _ _ _ _ _ us hl => match us, hl with | [], _ => rfl
theorem b_law_whole (T : Tx K mg A D) : Binds K D.f_law_whole ["_law_one_here", "_law_due_here"] [] := T.F_law_whole.binds (ps := ["_law_one_here", "_law_due_here"]) fun _ _ _ _ _ _ us hl => match us, hl with | [_, _], _ => rfl
theorem b_law_tried (T : Tx K mg A D) : Binds K D.f_law_tried ["_law_disk", "_law_deed", "_law_name", "_law_arg"] [] := T.F_law_tried.binds (ps := ["_law_disk", "_law_deed", "_law_name", "_law_arg"]) fun _ _ _ _ _ _ us hl => match us, hl with | [_, _, _, _], _ => rfl
theorem b_law_due (T : Tx K mg A D) : Binds K D.f_law_due ["_law_model", "_law_deed", "_law_name", "_law_arg"] [] := T.F_law_due.binds (ps := ["_law_model", "_law_deed", "_law_name", "_law_arg"]) fun _ _ _ _ _ _ us hl => match us, hl with | [_, _, _, _], _ => rfl
theorem b_law_asked (T : Tx K mg A D) : Binds K D.f_law_asked ["_law_disk", "_law_what", "_law_name"] [] := T.F_law_asked.binds (ps := ["_law_disk", "_law_what", "_law_name"]) fun _ _ _ _ _ _ us hl => match us, hl with | [_, _, _], _ => rfl
theorem b_law_one (T : Tx K mg A D) : Binds K D.f_law_one ["_law_disk", "_law_model", "_law_name"] [] := T.F_law_one.binds (ps := ["_law_disk", "_law_model", "_law_name"]) fun _ _ _ _ _ _ us hl => match us, hl with | [_, _, _], _ => rfl
theorem b_law_as_due (T : Tx K mg A D) : Binds K D.f_law_as_due ["_law_disk", "_law_model"] [] := T.F_law_as_due.binds (ps := ["_law_disk", "_law_model"]) fun _ _ _ _ _ _ us hl => match us, hl with | [_, _], _ => rfl
theorem b_law_lengths (T : Tx K mg A D) : Binds K D.f_law_lengths ["_law_pool"] [] := T.F_law_lengths.binds (ps := ["_law_pool"]) fun _ _ _ _ _ _ us hl => match us, hl with | [_], _ => rfl
theorem b_law_left (T : Tx K mg A D) : Binds K D.f_law_left ["_law_model", "_law_lengths_here"] [] := T.F_law_left.binds (ps := ["_law_model", "_law_lengths_here"]) fun _ _ _ _ _ _ us hl => match us, hl with | [_, _], _ => rfl
theorem b_law_argument (T : Tx K mg A D) : Binds K D.f_law_argument ["_law_pool", "_law_model", "_law_deed", "_law_name", "_law_k"] [] := T.F_law_argument.binds (ps := ["_law_pool", "_law_model", "_law_deed", "_law_name", "_law_k"]) fun _ _ _ _ _ _ us hl => match us, hl with | [_, _, _, _, _], _ => rfl
theorem b_law (T : Tx K mg A D) : Binds K D.f_law ["_law_script"] [] := T.F_law.binds (ps := ["_law_script"]) fun _ _ _ _ _ _ us hl => match us, hl with | [_], _ => rfl
end
end L2.Kd

namespace L2.Kd
open PySem PySem.Spec PyProof.Rows
/-! ## the data -/
/-- the files: cells and how many of them are synced -/
abbrev FM := Str → Option (List V × Int)
def limV : Option Int → V
  | none => .non
  | some i => .int i
def dkF (c s : Addr) (n : Int) (l : Option Int) : List (Str × V) := [("contents", .ref c), ("safe", .ref s), ("steps", .int n), ("allowed", limV l)]
/-- the step beyond the limit -/
def stop (n : Int) : Option Int → Prop
  | none => False
  | some m => m < n + 1
instance (n : Int) (l : Option Int) : Decidable (stop n l) := by cases l <;> unfold stop <;> infer_instance
/-- a disk at p, its dicts at c and s, its files' lists at L -/
structure DiskAt (C : Addr) (H : Hp) (p c s : Addr) (kc ks : List (Key × V)) (L : Str → Addr) (F : FM) (n : Int) (l : Option Int) : Prop where
  ob : ∃ dx, H p = some (.ins C dx (dkF c s n l))
  hc : H c = some (.dK kc)
  hs : H s = some (.dK ks)
  ne : c ≠ s
  no : ∀ x, F x = none → valV kc (.inr x) = none ∧ valV ks (.inr x) = none
  ye : ∀ x cs m, F x = some (cs, m) → valV kc (.inr x) = some (.ref (L x)) ∧ H (L x) = some (.lst cs) ∧ valV ks (.inr x) = some (.int m)
  inj : ∀ x y, F x ≠ none → F y ≠ none → L x = L y → x = y
  nd : (kc.map (·.1)).Nodup
  ky : ∀ k ∈ kc.map (·.1), ∃ x, k = .inr x ∧ F x ≠ none
  sz : ks.length ≤ kc.length
  ns : (ks.map (·.1)).Nodup
def fpD (p c s : Addr) (L : Str → Addr) (F : FM) : Addr → Prop := fun b => b = p ∨ b = c ∨ b = s ∨ ∃ x, F x ≠ none ∧ b = L x
/-- the law's own list of a disk at m, its dict at f, its rows at R, their cells at E -/
structure ModAt (H : Hp) (m f : Addr) (kf : List (Key × V)) (R E : Str → Addr) (F : FM) (n : Int) (l : Option Int) : Prop where
  hm : H m = some (.lst [.ref f, .int n, limV l])
  hf : H f = some (.dK kf)
  no : ∀ x, F x = none → valV kf (.inr x) = none
  ye : ∀ x cs k, F x = some (cs, k) → valV kf (.inr x) = some (.ref (R x)) ∧ H (R x) = some (.lst [.ref (E x), .int k]) ∧ H (E x) = some (.lst cs)
  inj : ∀ x y, F x ≠ none → F y ≠ none → R x = R y → x = y
  nd : (kf.map (·.1)).Nodup
  ky : ∀ k ∈ kf.map (·.1), ∃ x, k = .inr x ∧ F x ≠ none
def fpM (m f : Addr) (R E : Str → Addr) (F : FM) : Addr → Prop := fun b => b = m ∨ b = f ∨ ∃ x, F x ≠ none ∧ (b = R x ∨ b = E x)
/-- what is tracked outside of A stays -/
def Kp (A : Addr → Prop) (H H' : Hp) : Prop := ∀ b o, H b = some o → ¬ A b → H' b = some o
/-- a footprint that has grown by new addresses at most -/
def Grow (A A' : Addr → Prop) (H : Hp) : Prop := ∀ b, A' b → A b ∨ H b = none
theorem Kp.refl (A : Addr → Prop) (H : Hp) : Kp A H H := fun _ _ h _ => h
theorem Kp.trans {A B : Addr → Prop} {H H1 H2 : Hp} (a : Kp A H H1) (b : Kp B H1 H2) (g : ∀ x, B x → A x ∨ H x = none) : Kp A H H2 := fun x o h n =>
  b x o (a x o h n) fun z => (g x z).elim n fun q => by rw [q] at h; cases h
theorem Kp.mono {A B : Addr → Prop} {H H1 : Hp} (a : Kp A H H1) (h : ∀ x, A x → B x) : Kp B H H1 := fun x o e n => a x o e fun z => n (h x z)
theorem Kp.same {A : Addr → Prop} {H H1 : Hp} (a : Same H H1) : Kp A H H1 := fun x o e _ => a x o e
theorem Kp.new {A : Addr → Prop} {H : Hp} {p : Addr} {o : HO} (h : H p = none) : Kp A H (upd H p o) := fun x u e _ => by rw [upd_ne (ne_of_none e h)]; exact e
theorem Kp.at {A : Addr → Prop} {H : Hp} {p : Addr} {o : HO} (h : A p) : Kp A H (upd H p o) := fun x u e n => by rw [upd_ne (fun z => n (by rw [z]; exact h))]; exact e
theorem same_new {H : Hp} {p : Addr} {o : HO} (h : H p = none) : Same H (upd H p o) := fun x u e => by rw [upd_ne (ne_of_none e h)]; exact e
theorem DiskAt.keep {C p c s : Addr} {kc ks : List (Key × V)} {L : Str → Addr} {F : FM} {n : Int} {l : Option Int} {H H' : Hp} (D : DiskAt C H p c s kc ks L F n l) (k : ∀ b o, fpD p c s L F b → H b = some o → H' b = some o) : DiskAt C H' p c s kc ks L F n l := by
  obtain ⟨⟨dx, ob⟩, hc, hs, ne, no, ye, inj, nd, ky, sz, ns⟩ := D
  exact ⟨⟨dx, k _ _ (.inl rfl) ob⟩, k _ _ (.inr (.inl rfl)) hc, k _ _ (.inr (.inr (.inl rfl))) hs, ne, no, fun x cs m e => ⟨(ye x cs m e).1, k _ _ (.inr (.inr (.inr ⟨x, by rw [e]; simp, rfl⟩))) (ye x cs m e).2.1, (ye x cs m e).2.2⟩, inj, nd, ky, sz, ns⟩
theorem ModAt.keep {m f : Addr} {kf : List (Key × V)} {R E : Str → Addr} {F : FM} {n : Int} {l : Option Int} {H H' : Hp} (M : ModAt H m f kf R E F n l) (k : ∀ b o, fpM m f R E F b → H b = some o → H' b = some o) : ModAt H' m f kf R E F n l := by
  obtain ⟨hm, hf, no, ye, inj, nd, ky⟩ := M
  refine ⟨k _ _ (.inl rfl) hm, k _ _ (.inr (.inl rfl)) hf, no, fun x cs i e => ?_, inj, nd, ky⟩
  have z : F x ≠ none := by rw [e]; simp
  exact ⟨(ye x cs i e).1, k _ _ (.inr (.inr ⟨x, z, .inl rfl⟩)) (ye x cs i e).2.1, k _ _ (.inr (.inr ⟨x, z, .inr rfl⟩)) (ye x cs i e).2.2⟩
theorem DiskAt.dom {C p c s : Addr} {kc ks : List (Key × V)} {L : Str → Addr} {F : FM} {n : Int} {l : Option Int} {H : Hp} (D : DiskAt C H p c s kc ks L F n l) : ∀ b, fpD p c s L F b → ∃ o, H b = some o := by
  obtain ⟨⟨dx, ob⟩, hc, hs, ne, no, ye, inj, nd, ky, sz, ns⟩ := D
  rintro b (rfl | rfl | rfl | ⟨x, hx, rfl⟩)
  · exact ⟨_, ob⟩
  · exact ⟨_, hc⟩
  · exact ⟨_, hs⟩
  · cases e : F x with
    | none => exact absurd e hx
    | some r => exact ⟨_, (ye x r.1 r.2 e).2.1⟩
theorem ModAt.dom {m f : Addr} {kf : List (Key × V)} {R E : Str → Addr} {F : FM} {n : Int} {l : Option Int} {H : Hp} (M : ModAt H m f kf R E F n l) : ∀ b, fpM m f R E F b → ∃ o, H b = some o := by
  obtain ⟨hm, hf, no, ye, inj, nd, ky⟩ := M
  rintro b (rfl | rfl | ⟨x, hx, h⟩)
  · exact ⟨_, hm⟩
  · exact ⟨_, hf⟩
  · cases e : F x with
    | none => exact absurd e hx
    | some r =>
      rcases h with rfl | rfl
      · exact ⟨_, (ye x r.1 r.2 e).2.1⟩
      · exact ⟨_, (ye x r.1 r.2 e).2.2⟩
theorem if_true_of {c : Bool} {A B : Prop} (hc : c = true) (h : A) : if c = true then A else B := by rw [if_pos hc]; exact h
theorem if_false_of {c : Bool} {A B : Prop} (hc : c = false) (h : B) : if c = true then A else B := by rw [hc, if_neg Bool.false_ne_true]; exact h
/-! ### looking into dicts -/
theorem valV_drop (kvs : List (Key × V)) (k j : Key) : valV (dropK kvs k) j = if j = k then none else valV kvs j := by
  induction kvs with
  | nil => rw [show dropK ([] : List (Key × V)) k = [] from rfl, valV_nil]; split <;> rfl
  | cons p r ih =>
    by_cases e : p.1 = k
    · rw [dropK_pos e, ih]
      by_cases h : j = k
      · rw [if_pos h, if_pos h]
      · rw [if_neg h, if_neg h, valV_neg (fun z => h (z.symm.trans e))]
    · rw [dropK_neg e]
      by_cases h : p.1 = j
      · rw [valV_pos h, valV_pos h, if_neg (fun z => e (h.trans z))]
      · rw [valV_neg h, ih, valV_neg h]
theorem inr_inj {x y : Str} : (Sum.inr x : Key) = Sum.inr y ↔ x = y := ⟨fun z => Sum.inr.inj z, fun z => by rw [z]⟩
theorem putK_len_old {kvs : List (Key × V)} {k : Key} {v w : V} (h : valV kvs k = some w) : (putK kvs k v).length = kvs.length := by
  unfold putK
  rw [if_pos (by rw [valV_any, h]; rfl), List.length_map]
theorem putK_keys_old {kvs : List (Key × V)} {k : Key} {v w : V} (h : valV kvs k = some w) : (putK kvs k v).map (·.1) = kvs.map (·.1) := by
  unfold putK
  rw [if_pos (by rw [valV_any, h]; rfl), List.map_map]
  apply List.map_congr_left
  intro p _
  by_cases e : p.1 = k <;> simp [e]
theorem putK_keys_new {kvs : List (Key × V)} {k : Key} {v : V} (h : valV kvs k = none) : (putK kvs k v).map (·.1) = kvs.map (·.1) ++ [k] := by
  rw [putK_new _ h, List.map_append]
  rfl
theorem dropK_mem_keys {kvs : List (Key × V)} {k j : Key} (h : j ∈ (dropK kvs k).map (·.1)) : j ∈ kvs.map (·.1) ∧ j ≠ k := by
  obtain ⟨p, hp, e⟩ := List.mem_map.mp h
  obtain ⟨h1, h2⟩ := List.mem_filter.mp hp
  exact ⟨List.mem_map.mpr ⟨p, h1, e⟩, fun z => (of_decide_eq_true h2) (e.trans z)⟩
/-! ### fields -/
section
variable {c s : Addr} {n n' : Int} {l l' : Option Int}
theorem dk_contents : (dkF c s n l).lookup ("contents" : Str) = some (.ref c) := by
  unfold dkF
  rw [List.lookup_cons, show (("contents" : Str) == "contents") = true by decide +kernel]
theorem dk_safe : (dkF c s n l).lookup ("safe" : Str) = some (.ref s) := by
  unfold dkF
  rw [List.lookup_cons, show (("safe" : Str) == "contents") = false by decide +kernel]
  show List.lookup _ _ = _
  rw [List.lookup_cons, show (("safe" : Str) == "safe") = true by decide +kernel]
theorem dk_steps : (dkF c s n l).lookup ("steps" : Str) = some (.int n) := by
  unfold dkF
  rw [List.lookup_cons, show (("steps" : Str) == "contents") = false by decide +kernel]
  show List.lookup _ _ = _
  rw [List.lookup_cons, show (("steps" : Str) == "safe") = false by decide +kernel]
  show List.lookup _ _ = _
  rw [List.lookup_cons, show (("steps" : Str) == "steps") = true by decide +kernel]
theorem dk_allowed : (dkF c s n l).lookup ("allowed" : Str) = some (limV l) := by
  unfold dkF
  rw [List.lookup_cons, show (("allowed" : Str) == "contents") = false by decide +kernel]
  show List.lookup _ _ = _
  rw [List.lookup_cons, show (("allowed" : Str) == "safe") = false by decide +kernel]
  show List.lookup _ _ = _
  rw [List.lookup_cons, show (("allowed" : Str) == "steps") = false by decide +kernel]
  show List.lookup _ _ = _
  rw [List.lookup_cons, show (("allowed" : Str) == "allowed") = true by decide +kernel]
theorem dk_no {m : Str} (h1 : (m == ("contents" : Str)) = false) (h2 : (m == ("safe" : Str)) = false) (h3 : (m == ("steps" : Str)) = false) (h4 : (m == ("allowed" : Str)) = false) : (dkF c s n l).lookup m = none := by
  unfold dkF
  rw [List.lookup_cons, h1]
  show List.lookup _ _ = _
  rw [List.lookup_cons, h2]
  show List.lookup _ _ = _
  rw [List.lookup_cons, h3]
  show List.lookup _ _ = _
  rw [List.lookup_cons, h4]
  rfl
theorem putF_pos {f : Str} {v w : V} {r : List (Str × V)} : putF f v ((f, w) :: r) = (f, v) :: r := by
  unfold putF
  rw [if_pos rfl]
theorem putF_neg {f g : Str} {v w : V} {r : List (Str × V)} (h : ¬ g = f) : putF f v ((g, w) :: r) = (g, w) :: putF f v r := by
  conv => lhs; unfold putF
  rw [if_neg h]
theorem dk_put_steps : putF "steps" (.int n') (dkF c s n l) = dkF c s n' l := by
  unfold dkF
  rw [putF_neg (by decide +kernel), putF_neg (by decide +kernel), putF_pos]
theorem dk_put_allowed : putF "allowed" (limV l') (dkF c s n l) = dkF c s n l' := by
  unfold dkF
  rw [putF_neg (by decide +kernel), putF_neg (by decide +kernel), putF_neg (by decide +kernel), putF_pos]
theorem dk_len : (dkF c s n l).length < 1000 := by show 4 < 1000; decide
end
theorem dk_made {c s : Addr} : putF "allowed" .non (putF "steps" (.int 0) (putF "safe" (.ref s) (putF "contents" (.ref c) []))) = dkF c s 0 none := by
  have e0 : putF "contents" (.ref c) [] = [(("contents" : Str), V.ref c)] := rfl
  have e1 : putF "safe" (.ref s) [(("contents" : Str), V.ref c)] = [(("contents" : Str), V.ref c), ("safe", .ref s)] := by rw [putF_neg (by decide +kernel)]; rfl
  have e2 : putF "steps" (.int 0) [(("contents" : Str), V.ref c), ("safe", .ref s)] = [(("contents" : Str), V.ref c), ("safe", .ref s), ("steps", .int 0)] := by rw [putF_neg (by decide +kernel), putF_neg (by decide +kernel)]; rfl
  rw [e0, e1, e2, putF_neg (by decide +kernel), putF_neg (by decide +kernel), putF_neg (by decide +kernel)]
  rfl
end L2.Kd

namespace L2.Kd
open PySem PySem.Spec PyProof.Rows
/-! ## one file of the map is set, one is struck -/
def setM (F : FM) (x : Str) (r : List V × Int) : FM := fun y => if y = x then some r else F y
def dropM (F : FM) (x : Str) : FM := fun y => if y = x then none else F y
theorem setM_same {F : FM} {x : Str} {r : List V × Int} : setM F x r x = some r := if_pos rfl
theorem setM_ne {F : FM} {x y : Str} {r : List V × Int} (h : y ≠ x) : setM F x r y = F y := if_neg h
theorem dropM_same {F : FM} {x : Str} : dropM F x x = none := if_pos rfl
theorem dropM_ne {F : FM} {x y : Str} (h : y ≠ x) : dropM F x y = F y := if_neg h
def setL (L : Str → Addr) (x : Str) (q : Addr) : Str → Addr := fun y => if y = x then q else L y
theorem setL_same {L : Str → Addr} {x : Str} {q : Addr} : setL L x q x = q := if_pos rfl
theorem setL_ne {L : Str → Addr} {x y : Str} {q : Addr} (h : y ≠ x) : setL L x q y = L y := if_neg h
/-- what a dict looks like in which the text x is set to v -/
structure Put1 (kc kc' : List (Key × V)) (x : Str) (v : V) : Prop where
  val : ∀ j : Key, valV kc' j = if j = .inr x then some v else valV kc j
  nd : (kc.map (·.1)).Nodup → (kc'.map (·.1)).Nodup
  ky : ∀ k ∈ kc'.map (·.1), k = .inr x ∨ k ∈ kc.map (·.1)
theorem Put1.put (kc : List (Key × V)) (x : Str) (v : V) : Put1 kc (putK kc (.inr x) v) x v := by
  refine ⟨fun j => valV_put _ _ _ _, fun h => ?_, fun k hk => ?_⟩
  · cases e : valV kc (Sum.inr x : Key) with
    | none => exact nd_putK v h e
    | some w => rw [putK_keys_old e]; exact h
  · cases e : valV kc (Sum.inr x : Key) with
    | none =>
      rw [putK_keys_new e] at hk
      rcases List.mem_append.mp hk with h | h
      · exact .inr h
      · exact .inl (List.mem_singleton.mp h)
    | some w => rw [putK_keys_old e] at hk; exact .inr hk
theorem Put1.stay {kc : List (Key × V)} {x : Str} {v : V} (h : valV kc (.inr x) = some v) : Put1 kc kc x v :=
  ⟨fun j => by split <;> rename_i e <;> first | (rw [e]; exact h) | rfl, fun z => z, fun k hk => .inr hk⟩
section
variable {C p c s : Addr} {kc ks : List (Key × V)} {L : Str → Addr} {F : FM} {n n' : Int} {l l' : Option Int} {H H' : Hp}
theorem DiskAt.pc (D : DiskAt C H p c s kc ks L F n l) : p ≠ c ∧ p ≠ s ∧ (∀ x, F x ≠ none → p ≠ L x ∧ c ≠ L x ∧ s ≠ L x) := by
  obtain ⟨dx, ob⟩ := D.ob
  refine ⟨ne_of ob D.hc (fun z => by cases z), ne_of ob D.hs (fun z => by cases z), fun x hx => ?_⟩
  cases e : F x with
  | none => exact absurd e hx
  | some r =>
    have h := (D.ye x r.1 r.2 e).2.1
    exact ⟨ne_of ob h (fun z => by cases z), ne_of D.hc h (fun z => by cases z), ne_of D.hs h (fun z => by cases z)⟩
/-- the steps, the limit -/
theorem DiskAt.inst (D : DiskAt C H p c s kc ks L F n l) {dx : Addr} : DiskAt C (upd H p (.ins C dx (dkF c s n' l'))) p c s kc ks L F n' l' := by
  obtain ⟨h1, h2, h3⟩ := D.pc
  refine ⟨⟨dx, upd_same⟩, by rw [upd_ne h1.symm]; exact D.hc, by rw [upd_ne h2.symm]; exact D.hs, D.ne, D.no, fun x cs m e => ?_, D.inj, D.nd, D.ky, D.sz, D.ns⟩
  have z := h3 x (by rw [e]; simp)
  exact ⟨(D.ye x cs m e).1, by rw [upd_ne z.1.symm]; exact (D.ye x cs m e).2.1, (D.ye x cs m e).2.2⟩
theorem DiskAt.set (D : DiskAt C H p c s kc ks L F n l) {kc' ks' : List (Key × V)} {x : Str} {q : Addr} {cs : List V} {m : Int} (h1 : ∃ dx, H' p = some (.ins C dx (dkF c s n l))) (h2 : H' c = some (.dK kc')) (h3 : H' s = some (.dK ks'))
    (c1 : Put1 kc kc' x (.ref q)) (c2 : Put1 ks ks' x (.int m)) (hs : ks'.length ≤ kc'.length) (hq : H' q = some (.lst cs)) (ho : ∀ y, y ≠ x → F y ≠ none → L y ≠ q ∧ H' (L y) = H (L y)) :
    DiskAt C H' p c s kc' ks' (setL L x q) (setM F x (cs, m)) n l := by
  refine ⟨h1, h2, h3, D.ne, fun y e => ?_, fun y cs' m' e => ?_, fun y z hy hz e => ?_, c1.nd D.nd, fun k hk => ?_, hs, c2.nd D.ns⟩
  · have hy : y ≠ x := fun z => by rw [z, setM_same] at e; cases e
    rw [setM_ne hy] at e
    rw [c1.val, c2.val, if_neg (fun z => hy (inr_inj.mp z)), if_neg (fun z => hy (inr_inj.mp z))]
    exact D.no y e
  · by_cases hy : y = x
    · subst hy
      rw [setM_same] at e
      cases e
      rw [c1.val, c2.val, if_pos rfl, if_pos rfl, setL_same]
      exact ⟨rfl, hq, rfl⟩
    · rw [setM_ne hy] at e
      rw [c1.val, c2.val, if_neg (fun z => hy (inr_inj.mp z)), if_neg (fun z => hy (inr_inj.mp z)), setL_ne hy]
      obtain ⟨a, b, d⟩ := D.ye y cs' m' e
      exact ⟨a, by rw [(ho y hy (by rw [e]; simp)).2]; exact b, d⟩
  · by_cases hy1 : y = x
    · by_cases hz1 : z = x
      · rw [hy1, hz1]
      · rw [hy1, setL_same, setL_ne hz1] at e
        rw [setM_ne hz1] at hz
        exact absurd e.symm (ho z hz1 hz).1
    · by_cases hz1 : z = x
      · rw [hz1, setL_same, setL_ne hy1] at e
        rw [setM_ne hy1] at hy
        exact absurd e (ho y hy1 hy).1
      · rw [setL_ne hy1, setL_ne hz1] at e
        rw [setM_ne hy1] at hy
        rw [setM_ne hz1] at hz
        exact D.inj y z hy hz e
  · rcases c1.ky k hk with h | h
    · exact ⟨x, h, by rw [setM_same]; simp⟩
    · obtain ⟨y, e, hy⟩ := D.ky k h
      refine ⟨y, e, ?_⟩
      by_cases hyx : y = x
      · rw [hyx, setM_same]; simp
      · rw [setM_ne hyx]; exact hy
theorem DiskAt.drop (D : DiskAt C H p c s kc ks L F n l) {x : Str} (hx : F x ≠ none) (h1 : ∃ dx, H' p = some (.ins C dx (dkF c s n l))) (h2 : H' c = some (.dK (dropK kc (.inr x)))) (h3 : H' s = some (.dK (dropK ks (.inr x))))
    (hs : (dropK ks (.inr x)).length ≤ (dropK kc (.inr x)).length) (ho : ∀ y, y ≠ x → F y ≠ none → H' (L y) = H (L y)) : DiskAt C H' p c s (dropK kc (.inr x)) (dropK ks (.inr x)) L (dropM F x) n l := by
  refine ⟨h1, h2, h3, D.ne, fun y e => ?_, fun y cs' m' e => ?_, fun y z hy hz e => ?_, nd_dropK D.nd, fun k hk => ?_, hs, nd_dropK D.ns⟩
  · rw [valV_drop, valV_drop]
    by_cases hy : y = x
    · rw [if_pos (inr_inj.mpr hy), if_pos (inr_inj.mpr hy)]; exact ⟨rfl, rfl⟩
    · rw [if_neg (fun z => hy (inr_inj.mp z)), if_neg (fun z => hy (inr_inj.mp z))]
      rw [dropM_ne hy] at e
      exact D.no y e
  · by_cases hy : y = x
    · rw [hy, dropM_same] at e; cases e
    · rw [dropM_ne hy] at e
      rw [valV_drop, valV_drop, if_neg (fun z => hy (inr_inj.mp z)), if_neg (fun z => hy (inr_inj.mp z))]
      obtain ⟨a, b, d⟩ := D.ye y cs' m' e
      exact ⟨a, by rw [ho y hy (by rw [e]; simp)]; exact b, d⟩
  · have hy1 : y ≠ x := fun z => by rw [z, dropM_same] at hy; exact hy rfl
    have hz1 : z ≠ x := fun q => by rw [q, dropM_same] at hz; exact hz rfl
    rw [dropM_ne hy1] at hy
    rw [dropM_ne hz1] at hz
    exact D.inj y z hy hz e
  · obtain ⟨h, hne⟩ := dropK_mem_keys hk
    obtain ⟨y, e, hy⟩ := D.ky k h
    refine ⟨y, e, ?_⟩
    rw [dropM_ne (fun z => hne (by rw [e, z]))]
    exact hy
end
section
variable {m f : Addr} {kf : List (Key × V)} {R E : Str → Addr} {F : FM} {n n' : Int} {l l' : Option Int} {H H' : Hp}
theorem setM_idem {F : FM} {x : Str} {r r' : List V × Int} : setM (setM F x r) x r' = setM F x r' := by
  funext y
  by_cases h : y = x
  · rw [h, setM_same, setM_same]
  · rw [setM_ne h, setM_ne h, setM_ne h]
/-- rows and cells of the law's list: which addresses differ -/
theorem ModAt.mf (M : ModAt H m f kf R E F n l) : m ≠ f ∧ ∀ x, F x ≠ none → m ≠ R x ∧ f ≠ R x ∧ f ≠ E x := by
  refine ⟨ne_of M.hm M.hf (fun z => by cases z), fun x hx => ?_⟩
  cases e : F x with
  | none => exact absurd e hx
  | some r =>
    obtain ⟨_, h1, h2⟩ := M.ye x r.1 r.2 e
    exact ⟨ne_of M.hm h1 (fun z => by injection z with z; cases z), ne_of M.hf h1 (fun z => by cases z), ne_of M.hf h2 (fun z => by cases z)⟩
end
end L2.Kd

namespace L2.Kd
open PySem PySem.Spec PyProof.Rows
/-- a cell: a whole number or a text -/
def isC : V → Bool
  | .int _ => true
  | .str _ => true
  | _ => false
def Cl (F : FM) : Prop := ∀ x cs k, F x = some (cs, k) → ∀ v ∈ cs, isC v = true
theorem ref_cells {a : Addr} {r cs : List V} (h : ∀ v ∈ cs, isC v = true) : HO.lst (.ref a :: r) ≠ HO.lst cs := fun z => by
  injection z with z
  subst z
  have q : false = true := h _ List.mem_cons_self
  cases q
section
variable {m f : Addr} {kf kf' : List (Key × V)} {R E : Str → Addr} {F : FM} {n n' : Int} {l l' : Option Int} {H H' : Hp}
theorem ModAt.cell_ne (M : ModAt H m f kf R E F n l) (C : Cl F) {a : Addr} {b : Addr} {r : List V} (h : H a = some (.lst (.ref b :: r))) {x : Str} (hx : F x ≠ none) : a ≠ E x := by
  cases e : F x with
  | none => exact absurd e hx
  | some q => exact ne_of h (M.ye x q.1 q.2 e).2.2 (ref_cells (C x q.1 q.2 e))
theorem ModAt.set (M : ModAt H m f kf R E F n l) {x : Str} {r e : Addr} {cs : List V} {k : Int} (h1 : H' m = some (.lst [.ref f, .int n', limV l'])) (h2 : H' f = some (.dK kf')) (c1 : Put1 kf kf' x (.ref r)) (hr : H' r = some (.lst [.ref e, .int k])) (he : H' e = some (.lst cs))
    (ho : ∀ y, y ≠ x → F y ≠ none → R y ≠ r ∧ H' (R y) = H (R y) ∧ H' (E y) = H (E y)) : ModAt H' m f kf' (setL R x r) (setL E x e) (setM F x (cs, k)) n' l' := by
  refine ⟨h1, h2, fun y e => ?_, fun y cs' k' e => ?_, fun y z hy hz e => ?_, c1.nd M.nd, fun j hk => ?_⟩
  · have hy : y ≠ x := fun z => by rw [z, setM_same] at e; cases e
    rw [setM_ne hy] at e
    rw [c1.val, if_neg (fun z => hy (inr_inj.mp z))]
    exact M.no y e
  · by_cases hy : y = x
    · subst hy
      rw [setM_same] at e
      cases e
      rw [c1.val, if_pos rfl, setL_same, setL_same]
      exact ⟨rfl, hr, he⟩
    · rw [setM_ne hy] at e
      rw [c1.val, if_neg (fun z => hy (inr_inj.mp z)), setL_ne hy, setL_ne hy]
      obtain ⟨a, b, d⟩ := M.ye y cs' k' e
      obtain ⟨_, o2, o3⟩ := ho y hy (by rw [e]; simp)
      exact ⟨a, by rw [o2]; exact b, by rw [o3]; exact d⟩
  · by_cases hy1 : y = x
    · by_cases hz1 : z = x
      · rw [hy1, hz1]
      · rw [hy1, setL_same, setL_ne hz1] at e
        rw [setM_ne hz1] at hz
        exact absurd e.symm (ho z hz1 hz).1
    · by_cases hz1 : z = x
      · rw [hz1, setL_same, setL_ne hy1] at e
        rw [setM_ne hy1] at hy
        exact absurd e (ho y hy1 hy).1
      · rw [setL_ne hy1, setL_ne hz1] at e
        rw [setM_ne hy1] at hy
        rw [setM_ne hz1] at hz
        exact M.inj y z hy hz e
  · rcases c1.ky j hk with h | h
    · exact ⟨x, h, by rw [setM_same]; simp⟩
    · obtain ⟨y, e, hy⟩ := M.ky j h
      refine ⟨y, e, ?_⟩
      by_cases hyx : y = x
      · rw [hyx, setM_same]; simp
      · rw [setM_ne hyx]; exact hy
theorem ModAt.drop (M : ModAt H m f kf R E F n l) {x : Str} (h1 : H' m = some (.lst [.ref f, .int n', limV l'])) (h2 : H' f = some (.dK (dropK kf (.inr x)))) (ho : ∀ y, y ≠ x → F y ≠ none → H' (R y) = H (R y) ∧ H' (E y) = H (E y)) :
    ModAt H' m f (dropK kf (.inr x)) R E (dropM F x) n' l' := by
  refine ⟨h1, h2, fun y e => ?_, fun y cs' k' e => ?_, fun y z hy hz e => ?_, nd_dropK M.nd, fun j hk => ?_⟩
  · rw [valV_drop]
    by_cases hy : y = x
    · rw [if_pos (inr_inj.mpr hy)]
    · rw [if_neg (fun z => hy (inr_inj.mp z))]
      rw [dropM_ne hy] at e
      exact M.no y e
  · by_cases hy : y = x
    · rw [hy, dropM_same] at e; cases e
    · rw [dropM_ne hy] at e
      rw [valV_drop, if_neg (fun z => hy (inr_inj.mp z))]
      obtain ⟨a, b, d⟩ := M.ye y cs' k' e
      obtain ⟨o2, o3⟩ := ho y hy (by rw [e]; simp)
      exact ⟨a, by rw [o2]; exact b, by rw [o3]; exact d⟩
  · have hy1 : y ≠ x := fun z => by rw [z, dropM_same] at hy; exact hy rfl
    have hz1 : z ≠ x := fun q => by rw [q, dropM_same] at hz; exact hz rfl
    rw [dropM_ne hy1] at hy
    rw [dropM_ne hz1] at hz
    exact M.inj y z hy hz e
  · obtain ⟨h, hne⟩ := dropK_mem_keys hk
    obtain ⟨y, e, hy⟩ := M.ky j h
    refine ⟨y, e, ?_⟩
    rw [dropM_ne (fun z => hne (by rw [e, z]))]
    exact hy
/-- the law's own list is written: steps, limit -/
theorem ModAt.inst (M : ModAt H m f kf R E F n l) (C : Cl F) : ModAt (upd H m (.lst [.ref f, .int n', limV l'])) m f kf R E F n' l' := by
  obtain ⟨h1, h2⟩ := M.mf
  refine ⟨upd_same, by rw [upd_ne h1.symm]; exact M.hf, M.no, fun x cs k e => ?_, M.inj, M.nd, M.ky⟩
  have hx : F x ≠ none := by rw [e]; simp
  obtain ⟨a, b, d⟩ := M.ye x cs k e
  exact ⟨a, by rw [upd_ne (h2 x hx).1.symm]; exact b, by rw [upd_ne (M.cell_ne C M.hm hx).symm]; exact d⟩
end
theorem fpM_R {m f : Addr} {R E : Str → Addr} {F : FM} {x : Str} (h : F x ≠ none) : fpM m f R E F (R x) := .inr (.inr ⟨x, h, .inl rfl⟩)
theorem fpM_E {m f : Addr} {R E : Str → Addr} {F : FM} {x : Str} (h : F x ≠ none) : fpM m f R E F (E x) := .inr (.inr ⟨x, h, .inr rfl⟩)
theorem growM_set {m f r e : Addr} {R E : Str → Addr} {F : FM} {x : Str} {q : List V × Int} {H : Hp} (hr : fpM m f R E F r ∨ H r = none) (he : fpM m f R E F e ∨ H e = none) : Grow (fpM m f R E F) (fpM m f (setL R x r) (setL E x e) (setM F x q)) H := by
  rintro b (rfl | rfl | ⟨y, hy, h⟩)
  · exact .inl (.inl rfl)
  · exact .inl (.inr (.inl rfl))
  · by_cases e1 : y = x
    · rw [e1, setL_same, setL_same] at h
      rcases h with rfl | rfl
      · exact hr
      · exact he
    · rw [setL_ne e1, setL_ne e1] at h
      rw [setM_ne e1] at hy
      exact .inl (.inr (.inr ⟨y, hy, h⟩))
end L2.Kd

namespace L2.Kd
open PySem PySem.Spec PyProof.Rows L2.Ex
section
variable {P : Program} {w : World} {K : PySem.W.Frag} {mg : Str → Option Value} {base : Heap} {A : Ad} {D : Fd}
/-! ## the errors -/
/-- an error of the class at C is made: its own dict holds the field f -/
def spX (C : Addr) (f : Str) : Sp := fun vs H Q _ => ∃ (a : Addr) (y : V), vs = [.ref a, y] ∧ H a = some (exo a C none) ∧ ∀ d, H d = none → d ≠ a → Q .non (upd (upd H d (exd d [(f, y)])) a (exo a C (some d)))
theorem ok_NoFile_init (T : Tx K mg A D) : FnOk P w K mg base CX0 1 A.f_NoFile_init D.f_NoFile_init ["self", "name"] (spX A.c_NoFile "name") := by
  refine T.F_NoFile_init.ok sc_NoFile_init (fun vs H Q E h => ?_) (fun cdv A' outer s H vs Q E hr h => ?_)
  · obtain ⟨a, y, rfl, _⟩ := h
    rfl
  · obtain ⟨a, y, rfl, ha, k⟩ := h
    refine ⟨_, ((pss_one (ps_ost (pv 0) (pv 1)))), ?_⟩
    exact ⟨_, rfl, _, rfl, a, _, rfl, T.ox_NoFile, T.xn_NoFile_name, .inl ⟨ha, fun dx n ne => k dx n ne⟩⟩
theorem ok_BadLimit_init (T : Tx K mg A D) : FnOk P w K mg base CX0 1 A.f_BadLimit_init D.f_BadLimit_init ["self", "limit"] (spX A.c_BadLimit "limit") := by
  refine T.F_BadLimit_init.ok sc_BadLimit_init (fun vs H Q E h => ?_) (fun cdv A' outer s H vs Q E hr h => ?_)
  · obtain ⟨a, y, rfl, _⟩ := h
    rfl
  · obtain ⟨a, y, rfl, ha, k⟩ := h
    refine ⟨_, ((pss_one (ps_ost (pv 0) (pv 1)))), ?_⟩
    exact ⟨_, rfl, _, rfl, a, _, rfl, T.ox_BadLimit, T.xn_BadLimit_limit, .inl ⟨ha, fun dx n ne => k dx n ne⟩⟩
theorem ok_Fallen_init (T : Tx K mg A D) : FnOk P w K mg base CX0 1 A.f_Fallen_init D.f_Fallen_init ["self", "steps"] (spX A.c_Fallen "steps") := by
  refine T.F_Fallen_init.ok sc_Fallen_init (fun vs H Q E h => ?_) (fun cdv A' outer s H vs Q E hr h => ?_)
  · obtain ⟨a, y, rfl, _⟩ := h
    rfl
  · obtain ⟨a, y, rfl, ha, k⟩ := h
    refine ⟨_, ((pss_one (ps_ost (pv 0) (pv 1)))), ?_⟩
    exact ⟨_, rfl, _, rfl, a, _, rfl, T.ox_Fallen, T.xn_Fallen_steps, .inl ⟨ha, fun dx n ne => k dx n ne⟩⟩
/-- the reading of an error that is made of one value -/
theorem raise_one {C : Addr} {f : Str} {y : V} {H : Hp} {Q : XK} (q : ∀ d, H d = none → Q (.ref C) (some d) (upd H d (.xd [(f, y)]))) : ([y] : List V).length ≤ 1000 ∧ ∀ a, H a = none → spX C f (.ref a :: ([y] ++ [])) (upd H a (exo a C none))
    (fun v H2 => v = .non ∧ ∃ (d : Addr) (fs : List (Str × V)), H2 a = some (exo a C (some d)) ∧ H2 d = some (exd d fs) ∧ H d = none ∧ Q (.ref C) (some d) (upd (del H2 a) d (.xd fs))) (fun _ _ _ => False) := by
  refine ⟨(by show 1 ≤ 1000; decide), fun a ha => ⟨a, y, rfl, upd_same, fun d hd hda => ⟨rfl, d, [(f, y)], upd_same, by rw [upd_ne hda, upd_same], by rw [upd_ne hda] at hd; exact hd, ?_⟩⟩⟩
  have hd' : H d = none := by rw [upd_ne hda] at hd; exact hd
  have e : upd (del (upd (upd (upd H a (exo a C none)) d (exd d [(f, y)])) a (exo a C (some d))) a) d (.xd [(f, y)]) = upd H d (.xd [(f, y)]) := by
    funext b
    by_cases h : b = d
    · rw [h, upd_same, upd_same]
    · rw [upd_ne h, upd_ne h]
      by_cases h' : b = a
      · rw [h', del_same, ha]
      · rw [del_ne h', upd_ne h', upd_ne h, upd_ne h']
  rw [e]
  exact q d hd'
/-! ## the disk's small methods -/
def spInit (C : Addr) : Sp := fun vs H Q _ => ∃ (p dx : Addr), vs = [.ref p] ∧ H p = some (.ins C dx []) ∧ ∀ (c s : Addr) (H' : Hp), H c = none → H s = none → c ≠ s → H' p = some (.ins C dx (dkF c s 0 none)) → H' c = some (.dK []) → H' s = some (.dK []) →
  (∀ b o, H b = some o → b ≠ p → H' b = some o) → Q .non H'
theorem ok_Disk_init (T : Tx K mg A D) : FnOk P w K mg base CX0 1 A.f_Disk_init D.f_Disk_init ["self"] (spInit A.c_Disk) := by
  refine T.F_Disk_init.ok sc_Disk_init (fun vs H Q E h => ?_) (fun cdv A' outer s H vs Q E hr h => ?_)
  · obtain ⟨p, dx, rfl, _⟩ := h
    rfl
  · obtain ⟨p, dx, rfl, hp, k⟩ := h
    refine ⟨_, ((pss_cons (ps_fld (pv 0) pe_dnewK rfl)
      (pss_cons (ps_fld (pv 0) pe_dnewK rfl)
      (pss_cons (ps_fld (pv 0) pe_int rfl)
      (pss_one (ps_fld (pv 0) pe_non rfl)))))), ?_⟩
    intro c hc
    have npc : p ≠ c := ne_of_none hp hc
    refine ⟨_, rfl, p, _, dx, [], rfl, (by rw [upd_ne npc]; exact hp), T.cl_Disk, T.na_Disk_contents, (by show 0 < 1000; decide), ?_⟩
    intro s hs
    have nps : p ≠ s := ne_of_none (H := upd _ p _) upd_same hs
    have hs1 : s ≠ c := by
      intro z
      rw [z, upd_ne npc.symm, upd_same] at hs
      cases hs
    have hs0 : H s = none := by
      rw [upd_ne nps.symm, upd_ne hs1] at hs
      exact hs
    refine ⟨_, rfl, p, _, dx, _, rfl, (by rw [upd_ne nps, upd_same]), T.cl_Disk, T.na_Disk_safe, (by show 1 < 1000; decide), ?_⟩
    refine ⟨_, rfl, p, _, dx, _, rfl, upd_same, T.cl_Disk, T.na_Disk_steps, (by show 2 < 1000; decide), ?_⟩
    refine ⟨_, rfl, p, _, dx, _, rfl, upd_same, T.cl_Disk, T.na_Disk_allowed, (by show 3 < 1000; decide), ?_⟩
    refine k c s _ hc hs0 hs1.symm (by rw [upd_same, dk_made]) ?_ ?_ fun b o e hb => ?_
    · rw [upd_ne npc.symm, upd_ne npc.symm, upd_ne npc.symm, upd_ne hs1.symm, upd_ne npc.symm, upd_same]
    · rw [upd_ne nps.symm, upd_ne nps.symm, upd_ne nps.symm, upd_same]
    · rw [upd_ne hb, upd_ne hb, upd_ne hb, upd_ne (ne_of_none e hs0), upd_ne hb, upd_ne (ne_of_none e hc)]
      exact e
def spLimit (C : Addr) : Sp := fun vs H Q _ => ∃ (p dx c s : Addr) (n : Int) (l : Option Int), vs = [.ref p] ∧ H p = some (.ins C dx (dkF c s n l)) ∧ Q (limV l) H
theorem ok_Disk_limit (T : Tx K mg A D) : FnOk P w K mg base CX0 1 A.f_Disk_limit D.f_Disk_limit ["self"] (spLimit A.c_Disk) := by
  refine T.F_Disk_limit.ok sc_Disk_limit (fun vs H Q E h => ?_) (fun cdv A' outer s H vs Q E hr h => ?_)
  · obtain ⟨p, dx, c, s, n, l, rfl, _⟩ := h
    rfl
  · obtain ⟨p, dx, c, s, n, l, rfl, hp, k⟩ := h
    refine ⟨_, ((pss_one (ps_ret (pe_fld (pv 0) rfl)))), ?_⟩
    exact ⟨_, rfl, p, _, dx, _, _, rfl, hp, T.cl_Disk, T.na_Disk_allowed, dk_allowed, k⟩
/-- the limit is below what was done -/
def badL (n : Int) : Option Int → Prop
  | none => False
  | some i => i < n
instance (n : Int) (l : Option Int) : Decidable (badL n l) := by cases l <;> unfold badL <;> infer_instance
def spLimS (C CB : Addr) : Sp := fun vs H Q E => ∃ (p dx c s : Addr) (n : Int) (l a : Option Int), vs = [.ref p, limV a] ∧ H p = some (.ins C dx (dkF c s n l)) ∧
  (badL n a → ∀ d, H d = none → E (.ref CB) (some d) (upd H d (.xd [("limit", limV a)]))) ∧ (¬ badL n a → Q .non (upd H p (.ins C dx (dkF c s n a))))
theorem ok_Disk_limitS (T : Tx K mg A D) : FnOk P w K mg base (L2.CX P w) 4 A.f_Disk_limitS D.f_Disk_limitS ["self", "value"] (spLimS A.c_Disk A.c_BadLimit) := by
  refine T.F_Disk_limitS.okX sc_Disk_limitS (fun vs H Q E h => ?_) (fun cdv A' outer s H vs Q E hr h => ?_)
  · obtain ⟨p, dx, c, s, n, l, a, rfl, _⟩ := h
    rfl
  · obtain ⟨p, dx, c, s, n, l, a, rfl, hp, kb, kg⟩ := h
    refine ⟨_, ((pss_cons (ps_if (PW.pt (pw_and (pt_cmpR op_notN (pv 1) pe_non (nomark _)) (pw_and1 (pt_cmpR op_lt (pv 1) (pe_fld (pv 0) rfl) (nomark _))))) (pss_one (ps_raise rfl (takes_of rfl rfl rfl rfl) (pmk_oex T.ox_BadLimit T.xi_BadLimit T.xt_BadLimit (ok_BadLimit_init T) (hr.mono (by decide)) (b_BadLimit_init T) .nil (fun _ _ _ _ _ _ _ h => h.elim) (by rfl) T.m_BadLimit (pa_cons (pv 1) pa_nil)))) pss_nil)
      (pss_one (ps_fld (pv 0) (pv 1) rfl)))), ?_⟩
    refine ⟨_, rfl, rfl, _, rfl, ?_⟩
    cases a with
    | none =>
      refine iteF ?_
      refine iteF ?_
      refine ⟨_, rfl, _, rfl, p, _, dx, _, rfl, hp, T.cl_Disk, T.na_Disk_allowed, dk_len, ?_⟩
      have e : putF "allowed" .non (dkF c s n l) = dkF c s n none := dk_put_allowed (l' := none)
      show Q .non (upd H p (.ins A.c_Disk dx (putF "allowed" .non (dkF c s n l))))
      rw [e]
      exact kg (fun z => z)
    | some i =>
      refine iteT ?_
      refine ⟨_, rfl, _, rfl, p, _, dx, _, _, rfl, hp, T.cl_Disk, T.na_Disk_steps, dk_steps, _, _, rfl, rfl, _, rfl, ?_⟩
      by_cases hb : i < n
      · refine if_true_of (decide_eq_true hb) ?_
        exact ⟨_, rfl, raise_one (kb hb)⟩
      · refine if_false_of (decide_eq_false hb) ?_
        refine ⟨_, rfl, _, rfl, p, _, dx, _, rfl, hp, T.cl_Disk, T.na_Disk_allowed, dk_len, ?_⟩
        have e : putF "allowed" (.int i) (dkF c s n l) = dkF c s n (some i) := dk_put_allowed (l' := some i)
        show Q .non (upd H p (.ins A.c_Disk dx (putF "allowed" (.int i) (dkF c s n l))))
        rw [e]
        exact kg hb
theorem ok_Disk_set_limit (T : Tx K mg A D) : FnOk P w K mg base (L2.CX P w) 8 A.f_Disk_set_limit D.f_Disk_set_limit ["self", "limit"] (spLimS A.c_Disk A.c_BadLimit) := by
  refine T.F_Disk_set_limit.okX sc_Disk_set_limit (fun vs H Q E h => ?_) (fun cdv A' outer s H vs Q E hr h => ?_)
  · obtain ⟨p, dx, c, s, n, l, a, rfl, _⟩ := h
    rfl
  · obtain ⟨p, dx, c, s, n, l, a, rfl, hp, kb, kg⟩ := h
    refine ⟨_, ((pss_one (ps_pset (pv 0) (pv 1) T.cl_Disk T.ps_Disk_limit (ok_Disk_limitS T) (hr.mono (by decide)) (b_Disk_limitS T) (passes_call (takes_of rfl rfl rfl rfl) fun _ _ _ _ h => h) rfl))), ?_⟩
    exact ⟨_, rfl, _, rfl, p, dx, _, rfl, hp, p, dx, c, s, n, l, a, rfl, hp, kb, kg⟩
def spNeed (C CN : Addr) : Sp := fun vs H Q E => ∃ (p dx c s : Addr) (n : Int) (l : Option Int) (kc : List (Key × V)) (x : Str), vs = [.ref p, .str x] ∧ H p = some (.ins C dx (dkF c s n l)) ∧ H c = some (.dK kc) ∧
  (valV kc (.inr x) = none → ∀ d, H d = none → E (.ref CN) (some d) (upd H d (.xd [("name", .str x)]))) ∧ (valV kc (.inr x) ≠ none → Q .non H)
theorem ok_Disk_need_file (T : Tx K mg A D) : FnOk P w K mg base (L2.CX P w) 4 A.f_Disk_need_file D.f_Disk_need_file ["self", "name"] (spNeed A.c_Disk A.c_NoFile) := by
  refine T.F_Disk_need_file.okX sc_Disk_need_file (fun vs H Q E h => ?_) (fun cdv A' outer s H vs Q E hr h => ?_)
  · obtain ⟨p, dx, c, s, n, l, kc, x, rfl, _⟩ := h
    rfl
  · obtain ⟨p, dx, c, s, n, l, kc, x, rfl, hp, hc, kb, kg⟩ := h
    have hu := hu_of hr
    refine ⟨_, ((pss_one (ps_if (pt_cmp (pc_dnotin hu (pv 1) (pe_fld (pv 0) rfl))) (pss_one (ps_raise rfl (takes_of rfl rfl rfl rfl) (pmk_oex T.ox_NoFile T.xi_NoFile T.xt_NoFile (ok_NoFile_init T) (hr.mono (by decide)) (b_NoFile_init T) .nil (fun _ _ _ _ _ _ _ h => h.elim) (by rfl) T.m_NoFile (pa_cons (pv 1) pa_nil)))) pss_nil))), ?_⟩
    refine ⟨_, rfl, _, rfl, p, _, dx, _, _, rfl, hp, T.cl_Disk, T.na_Disk_contents, dk_contents, c, _, rfl, DGet.k (k := Sum.inr x) hc, _, rfl, ?_⟩
    cases e : valV kc (Sum.inr x : Key) with
    | none =>
      refine iteT ?_
      exact ⟨_, rfl, raise_one (kb e)⟩
    | some v =>
      refine iteF ?_
      exact kg (by rw [e]; simp)
def spStep (C CF : Addr) : Sp := fun vs H Q E => ∃ (p dx c s : Addr) (n : Int) (l : Option Int), vs = [.ref p] ∧ H p = some (.ins C dx (dkF c s n l)) ∧
  (stop n l → ∀ d, H d = none → E (.ref CF) (some d) (upd H d (.xd [("steps", .int n)]))) ∧ (¬ stop n l → Q .non (upd H p (.ins C dx (dkF c s (n + 1) l))))
theorem ok_Disk_take_step (T : Tx K mg A D) : FnOk P w K mg base (L2.CX P w) 4 A.f_Disk_take_step D.f_Disk_take_step ["self"] (spStep A.c_Disk A.c_Fallen) := by
  refine T.F_Disk_take_step.okX sc_Disk_take_step (fun vs H Q E h => ?_) (fun cdv A' outer s H vs Q E hr h => ?_)
  · obtain ⟨p, dx, c, s, n, l, rfl, _⟩ := h
    rfl
  · obtain ⟨p, dx, c, s, n, l, rfl, hp, kb, kg⟩ := h
    refine ⟨_, ((pss_cons (ps_if (PW.pt (pw_and (pt_cmpR op_notN (pe_fld (pv 0) rfl) pe_non (nomark _)) (pw_and1 (pt_cmpR op_gt (pe_op op_add (pe_fld (pv 0) rfl) pe_int) (pe_fld (pv 0) rfl) (nomark _))))) (pss_one (ps_raise rfl (takes_of rfl rfl rfl rfl) (pmk_oex T.ox_Fallen T.xi_Fallen T.xt_Fallen (ok_Fallen_init T) (hr.mono (by decide)) (b_Fallen_init T) .nil (fun _ _ _ _ _ _ _ h => h.elim) (by rfl) T.m_Fallen (pa_cons (pe_fld (pv 0) rfl) pa_nil)))) pss_nil)
      (pss_one (ps_fldaug (pv 0) pe_int in_add)))), ?_⟩
    have go : ¬ stop n l → (sFldAug K (tVar 0) (tC (.int 1)) rAdd "steps" : TS) { nx := fun _ H' => Q .non H', rt := Q } [some (.ref p)] H := fun hn =>
      ⟨_, rfl, p, _, dx, _, _, rfl, hp, T.cl_Disk, T.na_Disk_steps, dk_steps, _, _, rfl, rfl, dx, _, hp, dk_len, by rw [dk_put_steps]; exact kg hn⟩
    refine ⟨_, rfl, p, _, dx, _, _, rfl, hp, T.cl_Disk, T.na_Disk_allowed, dk_allowed, rfl, _, rfl, ?_⟩
    cases l with
    | none =>
      refine iteF ?_
      refine iteF ?_
      exact go (fun z => z)
    | some m =>
      refine iteT ?_
      refine ⟨_, rfl, p, _, dx, _, _, rfl, hp, T.cl_Disk, T.na_Disk_steps, dk_steps, _, _, rfl, rfl, _, rfl, p, _, dx, _, _, rfl, hp, T.cl_Disk, T.na_Disk_allowed, dk_allowed, _, _, rfl, rfl, _, rfl, ?_⟩
      by_cases hb : m < n + 1
      · refine if_true_of (decide_eq_true hb) ?_
        exact ⟨_, rfl, p, _, dx, _, _, rfl, hp, T.cl_Disk, T.na_Disk_steps, dk_steps, raise_one (kb hb)⟩
      · refine if_false_of (decide_eq_false hb) ?_
        exact go hb
end
end L2.Kd

namespace L2.Kd
open PySem PySem.Spec PyProof.Rows L2.Ex
section
variable {P : Program} {w : World} {K : PySem.W.Frag} {mg : Str → Option Value} {base : Heap} {A : Ad} {D : Fd}
def cellsOf (F : FM) (x : Str) : List V := ((F x).map (·.1)).getD []
def synOf (F : FM) (x : Str) : Int := ((F x).map (·.2)).getD 0
theorem cells_some {F : FM} {x : Str} {cs : List V} {m : Int} (h : F x = some (cs, m)) : cellsOf F x = cs ∧ synOf F x = m := by
  unfold cellsOf synOf
  rw [h]
  exact ⟨rfl, rfl⟩
theorem cells_none {F : FM} {x : Str} (h : F x = none) : cellsOf F x = [] ∧ synOf F x = 0 := by
  unfold cellsOf synOf
  rw [h]
  exact ⟨rfl, rfl⟩
theorem ne_some {F : FM} {x : Str} (h : F x ≠ none) : ∃ cs m, F x = some (cs, m) := by
  cases e : F x with
  | none => exact absurd e h
  | some r => exact ⟨r.1, r.2, rfl⟩
/-- the ways a step on the file x ends; need: the file must be there -/
structure StepEnd (C CN CF : Addr) (H : Hp) (p c s : Addr) (L : Str → Addr) (F : FM) (n : Int) (l : Option Int) (need : Bool) (x : Str) (F1 : FM) (Q : VK) (E : XK) : Prop where
  nf : need = true → F x = none → ∀ d, H d = none → E (.ref CN) (some d) (upd H d (.xd [("name", .str x)]))
  fl : (need = false ∨ F x ≠ none) → stop n l → ∀ d, H d = none → E (.ref CF) (some d) (upd H d (.xd [("steps", .int n)]))
  ok : (need = false ∨ F x ≠ none) → ¬ stop n l → ∀ H' kc' ks' L', DiskAt C H' p c s kc' ks' L' F1 (n + 1) l → Kp (fpD p c s L F) H H' → Grow (fpD p c s L F) (fpD p c s L' F1) H → Q .non H'
theorem DiskAt.has {C p c s : Addr} {kc ks : List (Key × V)} {L : Str → Addr} {F : FM} {n : Int} {l : Option Int} {H : Hp} (Y : DiskAt C H p c s kc ks L F n l) {x : Str} : valV kc (.inr x) = none ↔ F x = none := by
  constructor
  · intro h
    cases e : F x with
    | none => rfl
    | some r =>
      rw [(Y.ye x r.1 r.2 e).1] at h
      cases h
  · intro h
    exact (Y.no x h).1
theorem DiskAt.get {C p c s : Addr} {kc ks : List (Key × V)} {L : Str → Addr} {F : FM} {n : Int} {l : Option Int} {H : Hp} (Y : DiskAt C H p c s kc ks L F n l) {x : Str} (h : F x ≠ none) :
    valV kc (.inr x) = some (.ref (L x)) ∧ H (L x) = some (.lst (cellsOf F x)) ∧ valV ks (.inr x) = some (.int (synOf F x)) := by
  obtain ⟨cs, m, e⟩ := ne_some h
  obtain ⟨e1, e2⟩ := cells_some e
  rw [e1, e2]
  exact Y.ye x cs m e
theorem fp_in {p c s : Addr} {L : Str → Addr} {F : FM} {x : Str} (h : F x ≠ none) : fpD p c s L F (L x) := .inr (.inr (.inr ⟨x, h, rfl⟩))
/-- a step that sets one file -/
theorem grow_set {p c s q : Addr} {L : Str → Addr} {F : FM} {x : Str} {r : List V × Int} {H : Hp} (hq : fpD p c s L F q ∨ H q = none) : Grow (fpD p c s L F) (fpD p c s (setL L x q) (setM F x r)) H := by
  rintro b (rfl | rfl | rfl | ⟨y, hy, rfl⟩)
  · exact .inl (.inl rfl)
  · exact .inl (.inr (.inl rfl))
  · exact .inl (.inr (.inr (.inl rfl)))
  · by_cases e : y = x
    · rw [e, setL_same]
      exact hq
    · rw [setM_ne e] at hy
      rw [setL_ne e]
      exact .inl (fp_in hy)
theorem setL_id {L : Str → Addr} {x : Str} : setL L x (L x) = L := by
  funext y
  by_cases h : y = x
  · rw [h, setL_same]
  · rw [setL_ne h]
def spPut (C CN CF : Addr) : Sp := fun vs H Q E => ∃ (p c s : Addr) (kc ks : List (Key × V)) (L : Str → Addr) (F : FM) (n : Int) (l : Option Int) (x : Str) (v : V), vs = [.ref p, .str x, v] ∧ DiskAt C H p c s kc ks L F n l ∧ kc.length < 1000 ∧ (cellsOf F x).length < 1000 ∧
  StepEnd C CN CF H p c s L F n l false x (setM F x (cellsOf F x ++ [v], synOf F x)) Q E
theorem ok_Disk_put (T : Tx K mg A D) : FnOk P w K mg base (L2.CX P w) 8 A.f_Disk_put D.f_Disk_put ["self", "name", "cell"] (spPut A.c_Disk A.c_NoFile A.c_Fallen) := by
  refine T.F_Disk_put.okX sc_Disk_put (fun vs H Q E h => ?_) (fun cdv A' outer s H vs Q E hr h => ?_)
  · obtain ⟨p, c, s, kc, ks, L, F, n, l, x, v, rfl, _⟩ := h
    rfl
  · obtain ⟨p, c, s, kc, ks, L, F, n, l, x, v, rfl, Y, hz, hlen, SE⟩ := h
    have hu := hu_of hr
    refine ⟨_, ((pss_cons (ps_expr (pe_meth0 (pv 0) T.cl_Disk T.me_Disk_take_step (ok_Disk_take_step T) (hr.mono (by decide)) (b_Disk_take_step T) .nil (passes_call (takes_of rfl rfl rfl rfl) fun _ _ _ _ h => h)))
      (pss_cons (ps_if (pt_cmp (pc_dnotin hu (pv 1) (pe_fld (pv 0) rfl))) (pss_cons (ps_dput hu (pe_fld (pv 0) rfl) (pv 1) (pe_lst pa_nil) rfl)
      (pss_one (ps_dput hu (pe_fld (pv 0) rfl) (pv 1) pe_int rfl))) pss_nil)
      (pss_one (ps_expr (pe_bm PySem.F.plainAttrs_list PySem.F.slot_list_append PySem.F.type_list_append mt_append (pe_dget hu (pe_fld (pv 0) rfl) (pv 1) (fun _ _ => rfl)) (pa_cons (pv 2) pa_nil))))))), ?_⟩
    obtain ⟨dx, ob⟩ := Y.ob
    refine ⟨_, rfl, p, dx, _, rfl, ob, dk_no (by decide +kernel) (by decide +kernel) (by decide +kernel) (by decide +kernel), p, dx, c, s, n, l, rfl, ob, fun hs d hd => SE.fl (.inl rfl) hs d hd, fun hs => ?_⟩
    have Y1 : DiskAt A.c_Disk (upd H p (.ins A.c_Disk dx (dkF c s (n + 1) l))) p c s kc ks L F (n + 1) l := Y.inst
    have hk := SE.ok (.inl rfl) hs
    generalize hH1 : upd H p (.ins A.c_Disk dx (dkF c s (n + 1) l)) = H1 at Y1
    have s1 : Kp (fpD p c s L F) H H1 := by rw [← hH1]; exact Kp.at (.inl rfl)
    have ob1 : H1 p = some (.ins A.c_Disk dx (dkF c s (n + 1) l)) := by rw [← hH1]; exact upd_same
    have fr1 : ∀ q, H1 q = none → H q = none := fun q hq => by
      rw [← hH1] at hq
      by_cases e : q = p
      · rw [e, upd_same] at hq; cases hq
      · rw [upd_ne e] at hq; exact hq
    obtain ⟨npc, nps, nL⟩ := Y1.pc
    refine ⟨_, rfl, _, rfl, p, _, dx, _, _, rfl, ob1, T.cl_Disk, T.na_Disk_contents, dk_contents, c, _, rfl, DGet.k (k := Sum.inr x) Y1.hc, _, rfl, ?_⟩
    cases e : F x with
    | none =>
      obtain ⟨v1, v2⟩ := Y1.no x e
      obtain ⟨ce, se⟩ := cells_none e
      rw [v1]
      refine iteT ?_
      refine ⟨Nat.zero_le _, fun q hq => ?_⟩
      have nq : ∀ {b : Addr} {o : HO}, H1 b = some o → b ≠ q := fun h => ne_of_none h hq
      refine ⟨_, rfl, p, _, dx, _, _, rfl, (by rw [upd_ne (nq ob1)]; exact ob1), T.cl_Disk, T.na_Disk_contents, dk_contents, _, rfl, c, _, rfl, DPut.k (k := Sum.inr x) (by rw [upd_ne (nq Y1.hc)]; exact Y1.hc) (small1000 (by omega)), ?_⟩
      refine ⟨_, rfl, p, _, dx, _, _, rfl, (by rw [upd_ne npc, upd_ne (nq ob1)]; exact ob1), T.cl_Disk, T.na_Disk_safe, dk_safe, _, rfl, s, _, rfl, DPut.k (k := Sum.inr x) (by rw [upd_ne Y1.ne.symm, upd_ne (nq Y1.hs)]; exact Y1.hs) (small1000 (by have := Y1.sz; omega)), ?_⟩
      have oc : ∀ o o' o2, upd (upd (upd H1 q o) c o') s o2 c = some o' := fun o o' o2 => by rw [upd_ne Y1.ne, upd_same]
      have oq : ∀ o o' o2, upd (upd (upd H1 q o) c o') s o2 q = some o := fun o o' o2 => by rw [upd_ne (nq Y1.hs).symm, upd_ne (nq Y1.hc).symm, upd_same]
      have op : ∀ o o' o2, upd (upd (upd H1 q o) c o') s o2 p = H1 p := fun o o' o2 => by rw [upd_ne nps, upd_ne npc, upd_ne (nq ob1)]
      refine ⟨_, rfl, p, _, dx, _, _, rfl, (by rw [op]; exact ob1), T.cl_Disk, T.na_Disk_contents, dk_contents, _, rfl, c, .ref q, rfl, (by have z := DGet.k (k := Sum.inr x) (oc (.lst []) (.dK (putK kc (.inr x) (.ref q))) (.dK (putK ks (.inr x) (.int 0)))); rw [valV_put, if_pos rfl] at z; exact z),
        .inl ⟨rfl, _, SqL.of (oq _ _ _)⟩, _, rfl, q, _, _, rfl, rfl, oq _ _ _, (by decide), ?_⟩
      refine hk _ _ _ _ (Y1.set (q := q) ⟨dx, ?_⟩ ?_ ?_ (Put1.put kc x _) (Put1.put ks x _) ?_ ?_ fun y hy hF => ?_) ?_ ?_
      · rw [upd_ne (nq ob1), op]; exact ob1
      · rw [upd_ne (nq Y1.hc), oc]
      · rw [upd_ne (nq Y1.hs), upd_same, se]
      · rw [putK_new _ v1, putK_new _ v2, List.length_append, List.length_append]
        have := Y1.sz
        exact Nat.add_le_add_right this 1
      · rw [upd_same, ce]
      · obtain ⟨z1, z2, z3⟩ := nL y hF
        have z4 : L y ≠ q := nq (Y1.get hF).2.1
        exact ⟨z4, by rw [upd_ne z4, upd_ne z3.symm, upd_ne z2.symm, upd_ne z4]⟩
      · intro b o hb hn
        have b1 := s1 b o hb hn
        have bq : b ≠ q := nq b1
        have bc : b ≠ c := fun z => hn (.inr (.inl z))
        have bs : b ≠ s := fun z => hn (.inr (.inr (.inl z)))
        rw [upd_ne bq, upd_ne bs, upd_ne bc, upd_ne bq]
        exact b1
      · exact grow_set (.inr (fr1 q hq))
    | some r =>
      have hx : F x ≠ none := by rw [e]; simp
      obtain ⟨g1, g2, g3⟩ := Y1.get hx
      obtain ⟨z1, z2, z3⟩ := nL x hx
      rw [g1]
      refine iteF ?_
      refine ⟨_, rfl, p, _, dx, _, _, rfl, ob1, T.cl_Disk, T.na_Disk_contents, dk_contents, _, rfl, c, .ref (L x), rfl, (by have z := DGet.k (k := Sum.inr x) Y1.hc; rw [g1] at z; exact z), .inl ⟨rfl, _, SqL.of g2⟩, _, rfl, L x, _, _, rfl, rfl, g2, small1000 (by omega), ?_⟩
      have YY := Y1.set (q := L x) (cs := cellsOf F x ++ [v]) (m := synOf F x) (H' := upd H1 (L x) (.lst (cellsOf F x ++ [v]))) (x := x) ⟨dx, by rw [upd_ne z1]; exact ob1⟩ (by rw [upd_ne z2]; exact Y1.hc) (by rw [upd_ne z3]; exact Y1.hs) (Put1.stay g1) (Put1.stay g3) Y1.sz upd_same
        (fun y hy hF => ⟨fun q => hy (Y1.inj y x hF hx q), by rw [upd_ne fun q => hy (Y1.inj y x hF hx q)]⟩)
      refine hk _ _ _ _ YY ?_ (grow_set (.inl (fp_in hx)))
      intro b o hb hn
      rw [upd_ne fun z => hn (by rw [z]; exact fp_in hx)]
      exact s1 b o hb hn
end
end L2.Kd

namespace L2.Kd
open PySem PySem.Spec PyProof.Rows L2.Ex
section
variable {P : Program} {w : World} {K : PySem.W.Frag} {mg : Str → Option Value} {base : Heap} {A : Ad} {D : Fd}
theorem stp {C p c s dx : Addr} {kc ks : List (Key × V)} {L : Str → Addr} {F : FM} {n : Int} {l : Option Int} {H : Hp} (Y : DiskAt C H p c s kc ks L F n l) :
    ∃ H1, upd H p (.ins C dx (dkF c s (n + 1) l)) = H1 ∧ DiskAt C H1 p c s kc ks L F (n + 1) l ∧ H1 p = some (.ins C dx (dkF c s (n + 1) l)) ∧ Kp (fpD p c s L F) H H1 ∧ ∀ q, H1 q = none → H q = none := by
  obtain ⟨dx0, ob⟩ := Y.ob
  refine ⟨_, rfl, Y.inst, upd_same, Kp.at (.inl rfl), fun q hq => ?_⟩
  by_cases e : q = p
  · rw [e, upd_same] at hq
    cases hq
  · rw [upd_ne e] at hq
    exact hq
theorem dget_k {H : Hp} {a : Addr} {kvs : List (Key × V)} {x : Str} {v : V} (h : H a = some (.dK kvs)) (e : valV kvs (.inr x) = some v) : DGet H a (.str x) (some v) := by
  have z := DGet.k (k := Sum.inr x) h
  rw [e] at z
  exact z
def spSync (C CN CF : Addr) : Sp := fun vs H Q E => ∃ (p c s : Addr) (kc ks : List (Key × V)) (L : Str → Addr) (F : FM) (n : Int) (l : Option Int) (x : Str), vs = [.ref p, .str x] ∧ DiskAt C H p c s kc ks L F n l ∧ kc.length < 1000 ∧
  StepEnd C CN CF H p c s L F n l true x (setM F x (cellsOf F x, ((cellsOf F x).length : Int))) Q E
theorem ok_Disk_sync (T : Tx K mg A D) : FnOk P w K mg base (L2.CX P w) 8 A.f_Disk_sync D.f_Disk_sync ["self", "name"] (spSync A.c_Disk A.c_NoFile A.c_Fallen) := by
  refine T.F_Disk_sync.okX sc_Disk_sync (fun vs H Q E h => ?_) (fun cdv A' outer s H vs Q E hr h => ?_)
  · obtain ⟨p, c, s, kc, ks, L, F, n, l, x, rfl, _⟩ := h
    rfl
  · obtain ⟨p, c, s, kc, ks, L, F, n, l, x, rfl, Y, hz, SE⟩ := h
    have hu := hu_of hr
    refine ⟨_, ((pss_cons (ps_expr (pe_meth (pv 0) T.cl_Disk T.me_Disk_need_file (ok_Disk_need_file T) (hr.mono (by decide)) (b_Disk_need_file T) .nil (passes_call (takes_of rfl rfl rfl rfl) fun _ _ _ _ h => h) (pa_cons (pv 1) pa_nil)))
      (pss_cons (ps_expr (pe_meth0 (pv 0) T.cl_Disk T.me_Disk_take_step (ok_Disk_take_step T) (hr.mono (by decide)) (b_Disk_take_step T) .nil (passes_call (takes_of rfl rfl rfl rfl) fun _ _ _ _ h => h)))
      (pss_one (ps_dput hu (pe_fld (pv 0) rfl) (pv 1) (pe_callB call_len_seq (by rfl) T.b_len (by decide +kernel) (pa_cons (pe_dget hu (pe_fld (pv 0) rfl) (pv 1) (fun _ _ => rfl)) pa_nil)) rfl))))), ?_⟩
    obtain ⟨dx, ob⟩ := Y.ob
    refine ⟨_, rfl, p, dx, _, rfl, ob, dk_no (by decide +kernel) (by decide +kernel) (by decide +kernel) (by decide +kernel), _, rfl, p, dx, c, s, n, l, kc, x, rfl, ob, Y.hc, fun hn d hd => SE.nf rfl (Y.has.mp hn) d hd, fun hn => ?_⟩
    have hx : F x ≠ none := fun z => hn (Y.has.mpr z)
    refine ⟨_, rfl, p, dx, _, rfl, ob, dk_no (by decide +kernel) (by decide +kernel) (by decide +kernel) (by decide +kernel), p, dx, c, s, n, l, rfl, ob, fun hs d hd => SE.fl (.inr hx) hs d hd, fun hs => ?_⟩
    obtain ⟨H1, hH1, Y1, ob1, s1, fr1⟩ := stp (dx := dx) Y
    rw [hH1]
    obtain ⟨npc, nps, nL⟩ := Y1.pc
    obtain ⟨g1, g2, g3⟩ := Y1.get hx
    refine ⟨_, rfl, p, _, dx, _, _, rfl, ob1, T.cl_Disk, T.na_Disk_contents, dk_contents, _, rfl, c, .ref (L x), rfl, dget_k Y1.hc g1, L x, _, rfl, .inl (SqL.of g2), _, rfl, p, _, dx, _, _, rfl, ob1, T.cl_Disk, T.na_Disk_safe, dk_safe, _, rfl, s, _, rfl,
      DPut.k (k := Sum.inr x) Y1.hs (small1000 (by have := Y1.sz; omega)), ?_⟩
    have YY := Y1.set (q := L x) (cs := cellsOf F x) (m := ((cellsOf F x).length : Int)) (H' := upd H1 s (.dK (putK ks (.inr x) (.int (cellsOf F x).length)))) (x := x) ⟨dx, by rw [upd_ne nps]; exact ob1⟩ (by rw [upd_ne Y1.ne]; exact Y1.hc) upd_same (Put1.stay g1) (Put1.put ks x _)
      (by rw [putK_len_old g3]; exact Y1.sz) (by rw [upd_ne (nL x hx).2.2.symm]; exact g2) (fun y hy hF => ⟨fun q => hy (Y1.inj y x hF hx q), by rw [upd_ne (nL y hF).2.2.symm]⟩)
    refine SE.ok (.inr hx) hs _ _ _ _ YY ?_ (grow_set (.inl (fp_in hx)))
    intro b o hb hn
    rw [upd_ne fun z => hn (.inr (.inr (.inl z)))]
    exact s1 b o hb hn
def spCut (C CN CF : Addr) : Sp := fun vs H Q E => ∃ (p c s : Addr) (kc ks : List (Key × V)) (L : Str → Addr) (F : FM) (n : Int) (l : Option Int) (x : Str) (k : Int), vs = [.ref p, .str x, .int k] ∧ DiskAt C H p c s kc ks L F n l ∧ kc.length < 1000 ∧
  StepEnd C CN CF H p c s L F n l true x (setM F x (cutV (cellsOf F x) none (some k), if k < synOf F x then k else synOf F x)) Q E
theorem ok_Disk_cut (T : Tx K mg A D) : FnOk P w K mg base (L2.CX P w) 8 A.f_Disk_cut D.f_Disk_cut ["self", "name", "length"] (spCut A.c_Disk A.c_NoFile A.c_Fallen) := by
  refine T.F_Disk_cut.okX sc_Disk_cut (fun vs H Q E h => ?_) (fun cdv A' outer s H vs Q E hr h => ?_)
  · obtain ⟨p, c, s, kc, ks, L, F, n, l, x, k, rfl, _⟩ := h
    rfl
  · obtain ⟨p, c, s, kc, ks, L, F, n, l, x, k, rfl, Y, hz, SE⟩ := h
    have hu := hu_of hr
    refine ⟨_, ((pss_cons (ps_expr (pe_meth (pv 0) T.cl_Disk T.me_Disk_need_file (ok_Disk_need_file T) (hr.mono (by decide)) (b_Disk_need_file T) .nil (passes_call (takes_of rfl rfl rfl rfl) fun _ _ _ _ h => h) (pa_cons (pv 1) pa_nil)))
      (pss_cons (ps_expr (pe_meth0 (pv 0) T.cl_Disk T.me_Disk_take_step (ok_Disk_take_step T) (hr.mono (by decide)) (b_Disk_take_step T) .nil (passes_call (takes_of rfl rfl rfl rfl) fun _ _ _ _ h => h)))
      (pss_cons (ps_dput hu (pe_fld (pv 0) rfl) (pv 1) (pe_slice sl_list (pe_dget hu (pe_fld (pv 0) rfl) (pv 1) (fun _ _ => rfl)) po_none (po_some (pv 2))) rfl)
      (pss_one (ps_dput hu (pe_fld (pv 0) rfl) (pv 1) (pe_callB (call_min2 rfl) (by rfl) T.b_min (by decide +kernel) (pa_cons (pe_dget hu (pe_fld (pv 0) rfl) (pv 1) (fun _ _ => rfl)) (pa_cons (pv 2) pa_nil))) rfl)))))), ?_⟩
    obtain ⟨dx, ob⟩ := Y.ob
    refine ⟨_, rfl, p, dx, _, rfl, ob, dk_no (by decide +kernel) (by decide +kernel) (by decide +kernel) (by decide +kernel), _, rfl, p, dx, c, s, n, l, kc, x, rfl, ob, Y.hc, fun hn d hd => SE.nf rfl (Y.has.mp hn) d hd, fun hn => ?_⟩
    have hx : F x ≠ none := fun z => hn (Y.has.mpr z)
    refine ⟨_, rfl, p, dx, _, rfl, ob, dk_no (by decide +kernel) (by decide +kernel) (by decide +kernel) (by decide +kernel), p, dx, c, s, n, l, rfl, ob, fun hs d hd => SE.fl (.inr hx) hs d hd, fun hs => ?_⟩
    obtain ⟨H1, hH1, Y1, ob1, s1, fr1⟩ := stp (dx := dx) Y
    rw [hH1]
    obtain ⟨npc, nps, nL⟩ := Y1.pc
    obtain ⟨g1, g2, g3⟩ := Y1.get hx
    refine ⟨_, rfl, p, _, dx, _, _, rfl, ob1, T.cl_Disk, T.na_Disk_contents, dk_contents, _, rfl, c, .ref (L x), rfl, dget_k Y1.hc g1, _, rfl, k, rfl, L x, _, rfl, SqL.of g2, fun q hq => ?_⟩
    have nq : ∀ {b : Addr} {o : HO}, H1 b = some o → b ≠ q := fun h => ne_of_none h hq
    refine ⟨_, rfl, p, _, dx, _, _, rfl, (by rw [upd_ne (nq ob1)]; exact ob1), T.cl_Disk, T.na_Disk_contents, dk_contents, _, rfl, c, _, rfl, DPut.k (k := Sum.inr x) (by rw [upd_ne (nq Y1.hc)]; exact Y1.hc) (small1000 (by omega)), ?_⟩
    have ob2 : ∀ o o', upd (upd H1 q o) c o' p = some (.ins A.c_Disk dx (dkF c s (n + 1) l)) := fun o o' => by rw [upd_ne npc, upd_ne (nq ob1)]; exact ob1
    have hs2 : ∀ o o', upd (upd H1 q o) c o' s = some (.dK ks) := fun o o' => by rw [upd_ne Y1.ne.symm, upd_ne (nq Y1.hs)]; exact Y1.hs
    refine ⟨_, rfl, p, _, dx, _, _, rfl, ob2 _ _, T.cl_Disk, T.na_Disk_safe, dk_safe, _, rfl, s, .int (synOf F x), rfl, dget_k (hs2 _ _) g3, _, rfl, _, k, rfl, _, rfl, p, _, dx, _, _, rfl, ob2 _ _, T.cl_Disk, T.na_Disk_safe, dk_safe, _, rfl, s, _, rfl,
      DPut.k (k := Sum.inr x) (hs2 _ _) (small1000 (by have := Y1.sz; omega)), ?_⟩
    refine SE.ok (.inr hx) hs _ _ _ _ (Y1.set (q := q) ⟨dx, ?_⟩ ?_ ?_ (Put1.put kc x _) (Put1.put ks x _) ?_ ?_ fun y hy hF => ?_) ?_ (grow_set (.inr (fr1 q hq)))
    · rw [upd_ne nps]; exact ob2 _ _
    · rw [upd_ne Y1.ne, upd_same]
    · rw [upd_same]
    · rw [putK_len_old g3, putK_len_old g1]; exact Y1.sz
    · rw [upd_ne (nq Y1.hs).symm, upd_ne (nq Y1.hc).symm, upd_same]
    · obtain ⟨z1, z2, z3⟩ := nL y hF
      have z4 : L y ≠ q := nq (Y1.get hF).2.1
      exact ⟨z4, by rw [upd_ne z3.symm, upd_ne z2.symm, upd_ne z4]⟩
    · intro b o hb hn
      have b1 := s1 b o hb hn
      rw [upd_ne fun z => hn (.inr (.inr (.inl z))), upd_ne fun z => hn (.inr (.inl z)), upd_ne (nq b1)]
      exact b1
def spStrike (C CN CF : Addr) : Sp := fun vs H Q E => ∃ (p c s : Addr) (kc ks : List (Key × V)) (L : Str → Addr) (F : FM) (n : Int) (l : Option Int) (x : Str), vs = [.ref p, .str x] ∧ DiskAt C H p c s kc ks L F n l ∧
  StepEnd C CN CF H p c s L F n l true x (dropM F x) Q E
theorem ok_Disk_strike (T : Tx K mg A D) : FnOk P w K mg base (L2.CX P w) 8 A.f_Disk_strike D.f_Disk_strike ["self", "name"] (spStrike A.c_Disk A.c_NoFile A.c_Fallen) := by
  refine T.F_Disk_strike.okX sc_Disk_strike (fun vs H Q E h => ?_) (fun cdv A' outer s H vs Q E hr h => ?_)
  · obtain ⟨p, c, s, kc, ks, L, F, n, l, x, rfl, _⟩ := h
    rfl
  · obtain ⟨p, c, s, kc, ks, L, F, n, l, x, rfl, Y, SE⟩ := h
    have hu := hu_of hr
    refine ⟨_, ((pss_cons (ps_expr (pe_meth (pv 0) T.cl_Disk T.me_Disk_need_file (ok_Disk_need_file T) (hr.mono (by decide)) (b_Disk_need_file T) .nil (passes_call (takes_of rfl rfl rfl rfl) fun _ _ _ _ h => h) (pa_cons (pv 1) pa_nil)))
      (pss_cons (ps_expr (pe_meth0 (pv 0) T.cl_Disk T.me_Disk_take_step (ok_Disk_take_step T) (hr.mono (by decide)) (b_Disk_take_step T) .nil (passes_call (takes_of rfl rfl rfl rfl) fun _ _ _ _ h => h)))
      (pss_cons (ps_ddel (pe_fld (pv 0) rfl) (pv 1))
      (pss_one (ps_ddel (pe_fld (pv 0) rfl) (pv 1))))))), ?_⟩
    obtain ⟨dx, ob⟩ := Y.ob
    refine ⟨_, rfl, p, dx, _, rfl, ob, dk_no (by decide +kernel) (by decide +kernel) (by decide +kernel) (by decide +kernel), _, rfl, p, dx, c, s, n, l, kc, x, rfl, ob, Y.hc, fun hn d hd => SE.nf rfl (Y.has.mp hn) d hd, fun hn => ?_⟩
    have hx : F x ≠ none := fun z => hn (Y.has.mpr z)
    refine ⟨_, rfl, p, dx, _, rfl, ob, dk_no (by decide +kernel) (by decide +kernel) (by decide +kernel) (by decide +kernel), p, dx, c, s, n, l, rfl, ob, fun hs d hd => SE.fl (.inr hx) hs d hd, fun hs => ?_⟩
    obtain ⟨H1, hH1, Y1, ob1, s1, fr1⟩ := stp (dx := dx) Y
    rw [hH1]
    obtain ⟨npc, nps, nL⟩ := Y1.pc
    obtain ⟨g1, g2, g3⟩ := Y1.get hx
    refine ⟨_, rfl, p, _, dx, _, _, rfl, ob1, T.cl_Disk, T.na_Disk_contents, dk_contents, _, rfl, c, kc, Sum.inr x, rfl, Y1.hc, rfl, (by simp [g1]), ?_⟩
    refine ⟨_, rfl, p, _, dx, _, _, rfl, (by rw [upd_ne npc]; exact ob1), T.cl_Disk, T.na_Disk_safe, dk_safe, _, rfl, s, ks, Sum.inr x, rfl, (by rw [upd_ne Y1.ne.symm]; exact Y1.hs), rfl, (by simp [g3]), ?_⟩
    refine SE.ok (.inr hx) hs _ _ _ _ (Y1.drop hx ⟨dx, ?_⟩ ?_ ?_ ?_ fun y hy hF => ?_) ?_ ?_
    · rw [upd_ne nps, upd_ne npc]; exact ob1
    · rw [upd_ne Y1.ne, upd_same]
    · rw [upd_same]
    · have e1 := dropK_len Y1.nd (valV_in g1)
      have e2 := dropK_len Y1.ns (valV_in g3)
      have := Y1.sz
      omega
    · obtain ⟨z1, z2, z3⟩ := nL y hF
      rw [upd_ne z3.symm, upd_ne z2.symm]
    · intro b o hb hn
      rw [upd_ne fun z => hn (.inr (.inr (.inl z))), upd_ne fun z => hn (.inr (.inl z))]
      exact s1 b o hb hn
    · rintro b (rfl | rfl | rfl | ⟨y, hy, rfl⟩)
      · exact .inl (.inl rfl)
      · exact .inl (.inr (.inl rfl))
      · exact .inl (.inr (.inr (.inl rfl)))
      · by_cases e : y = x
        · rw [e, dropM_same] at hy
          exact absurd rfl hy
        · rw [dropM_ne e] at hy
          exact .inl (fp_in hy)
/-! ## what a disk tells -/
def spRead (C CN : Addr) : Sp := fun vs H Q E => ∃ (p c s : Addr) (kc ks : List (Key × V)) (L : Str → Addr) (F : FM) (n : Int) (l : Option Int) (x : Str), vs = [.ref p, .str x] ∧ DiskAt C H p c s kc ks L F n l ∧
  (F x = none → ∀ d, H d = none → E (.ref CN) (some d) (upd H d (.xd [("name", .str x)]))) ∧ (F x ≠ none → ∀ q, H q = none → Q (.ref q) (upd H q (.lst (cellsOf F x))))
theorem ok_Disk_read (T : Tx K mg A D) : FnOk P w K mg base (L2.CX P w) 8 A.f_Disk_read D.f_Disk_read ["self", "name"] (spRead A.c_Disk A.c_NoFile) := by
  refine T.F_Disk_read.okX sc_Disk_read (fun vs H Q E h => ?_) (fun cdv A' outer s H vs Q E hr h => ?_)
  · obtain ⟨p, c, s, kc, ks, L, F, n, l, x, rfl, _⟩ := h
    rfl
  · obtain ⟨p, c, s, kc, ks, L, F, n, l, x, rfl, Y, kn, ky⟩ := h
    have hu := hu_of hr
    refine ⟨_, ((pss_cons (ps_expr (pe_meth (pv 0) T.cl_Disk T.me_Disk_need_file (ok_Disk_need_file T) (hr.mono (by decide)) (b_Disk_need_file T) .nil (passes_call (takes_of rfl rfl rfl rfl) fun _ _ _ _ h => h) (pa_cons (pv 1) pa_nil)))
      (pss_one (ps_ret (pe_callTy call_list_of (by rfl) T.b_list (by decide +kernel) (pa_cons (pe_dget hu (pe_fld (pv 0) rfl) (pv 1) (fun _ _ => rfl)) pa_nil)))))), ?_⟩
    obtain ⟨dx, ob⟩ := Y.ob
    refine ⟨_, rfl, p, dx, _, rfl, ob, dk_no (by decide +kernel) (by decide +kernel) (by decide +kernel) (by decide +kernel), _, rfl, p, dx, c, s, n, l, kc, x, rfl, ob, Y.hc, fun hn d hd => kn (Y.has.mp hn) d hd, fun hn => ?_⟩
    have hx : F x ≠ none := fun z => hn (Y.has.mpr z)
    obtain ⟨g1, g2, g3⟩ := Y.get hx
    exact ⟨_, rfl, p, _, dx, _, _, rfl, ob, T.cl_Disk, T.na_Disk_contents, dk_contents, _, rfl, c, .ref (L x), rfl, dget_k Y.hc g1, L x, _, rfl, .inl (SqL.of g2), fun q hq => ky hx q hq⟩
def spTell (C CN : Addr) (g : FM → Str → Int) : Sp := fun vs H Q E => ∃ (p c s : Addr) (kc ks : List (Key × V)) (L : Str → Addr) (F : FM) (n : Int) (l : Option Int) (x : Str), vs = [.ref p, .str x] ∧ DiskAt C H p c s kc ks L F n l ∧
  (F x = none → ∀ d, H d = none → E (.ref CN) (some d) (upd H d (.xd [("name", .str x)]))) ∧ (F x ≠ none → Q (.int (g F x)) H)
theorem ok_Disk_length (T : Tx K mg A D) : FnOk P w K mg base (L2.CX P w) 8 A.f_Disk_length D.f_Disk_length ["self", "name"] (spTell A.c_Disk A.c_NoFile fun F x => ((cellsOf F x).length : Int)) := by
  refine T.F_Disk_length.okX sc_Disk_length (fun vs H Q E h => ?_) (fun cdv A' outer s H vs Q E hr h => ?_)
  · obtain ⟨p, c, s, kc, ks, L, F, n, l, x, rfl, _⟩ := h
    rfl
  · obtain ⟨p, c, s, kc, ks, L, F, n, l, x, rfl, Y, kn, ky⟩ := h
    have hu := hu_of hr
    refine ⟨_, ((pss_cons (ps_expr (pe_meth (pv 0) T.cl_Disk T.me_Disk_need_file (ok_Disk_need_file T) (hr.mono (by decide)) (b_Disk_need_file T) .nil (passes_call (takes_of rfl rfl rfl rfl) fun _ _ _ _ h => h) (pa_cons (pv 1) pa_nil)))
      (pss_one (ps_ret (pe_callB call_len_seq (by rfl) T.b_len (by decide +kernel) (pa_cons (pe_dget hu (pe_fld (pv 0) rfl) (pv 1) (fun _ _ => rfl)) pa_nil)))))), ?_⟩
    obtain ⟨dx, ob⟩ := Y.ob
    refine ⟨_, rfl, p, dx, _, rfl, ob, dk_no (by decide +kernel) (by decide +kernel) (by decide +kernel) (by decide +kernel), _, rfl, p, dx, c, s, n, l, kc, x, rfl, ob, Y.hc, fun hn d hd => kn (Y.has.mp hn) d hd, fun hn => ?_⟩
    have hx : F x ≠ none := fun z => hn (Y.has.mpr z)
    obtain ⟨g1, g2, g3⟩ := Y.get hx
    exact ⟨_, rfl, p, _, dx, _, _, rfl, ob, T.cl_Disk, T.na_Disk_contents, dk_contents, _, rfl, c, .ref (L x), rfl, dget_k Y.hc g1, L x, _, rfl, .inl (SqL.of g2), ky hx⟩
theorem ok_Disk_synced (T : Tx K mg A D) : FnOk P w K mg base (L2.CX P w) 8 A.f_Disk_synced D.f_Disk_synced ["self", "name"] (spTell A.c_Disk A.c_NoFile synOf) := by
  refine T.F_Disk_synced.okX sc_Disk_synced (fun vs H Q E h => ?_) (fun cdv A' outer s H vs Q E hr h => ?_)
  · obtain ⟨p, c, s, kc, ks, L, F, n, l, x, rfl, _⟩ := h
    rfl
  · obtain ⟨p, c, s, kc, ks, L, F, n, l, x, rfl, Y, kn, ky⟩ := h
    have hu := hu_of hr
    refine ⟨_, ((pss_cons (ps_expr (pe_meth (pv 0) T.cl_Disk T.me_Disk_need_file (ok_Disk_need_file T) (hr.mono (by decide)) (b_Disk_need_file T) .nil (passes_call (takes_of rfl rfl rfl rfl) fun _ _ _ _ h => h) (pa_cons (pv 1) pa_nil)))
      (pss_one (ps_ret (pe_dget hu (pe_fld (pv 0) rfl) (pv 1) (fun _ _ => rfl)))))), ?_⟩
    obtain ⟨dx, ob⟩ := Y.ob
    refine ⟨_, rfl, p, dx, _, rfl, ob, dk_no (by decide +kernel) (by decide +kernel) (by decide +kernel) (by decide +kernel), _, rfl, p, dx, c, s, n, l, kc, x, rfl, ob, Y.hc, fun hn d hd => kn (Y.has.mp hn) d hd, fun hn => ?_⟩
    have hx : F x ≠ none := fun z => hn (Y.has.mpr z)
    obtain ⟨g1, g2, g3⟩ := Y.get hx
    exact ⟨_, rfl, p, _, dx, _, _, rfl, ob, T.cl_Disk, T.na_Disk_safe, dk_safe, _, rfl, s, .int (synOf F x), rfl, dget_k Y.hs g3, ky hx⟩
/-- the names of the files, in order -/
structure Names6 (F : FM) (ys : List Str) : Prop where
  srt : sortedS ys = true
  nd : ys.Nodup
  mem : ∀ x, x ∈ ys ↔ F x ≠ none
theorem keys_str : ∀ {ks : List Key}, (∀ k ∈ ks, ∃ x : Str, k = .inr x) → ∃ xs : List Str, ks = xs.map Sum.inr
  | [], _ => ⟨[], rfl⟩
  | k :: r, h => by
    obtain ⟨x, e⟩ := h k List.mem_cons_self
    obtain ⟨xs, e'⟩ := keys_str (ks := r) fun j hj => h j (List.mem_cons_of_mem _ hj)
    exact ⟨x :: xs, by rw [e, e']; rfl⟩
theorem nodup_inr : ∀ {xs : List Str}, ((xs.map Sum.inr : List Key)).Nodup → xs.Nodup
  | [], _ => List.nodup_nil
  | x :: r, h => by
    have h : (Sum.inr x :: r.map Sum.inr : List Key).Nodup := h
    obtain ⟨h1, h2⟩ := List.nodup_cons.mp h
    exact List.nodup_cons.mpr ⟨fun z => h1 (List.mem_map.mpr ⟨x, z, rfl⟩), nodup_inr h2⟩
theorem keys_names {kc : List (Key × V)} {F : FM} (nd : (kc.map (·.1)).Nodup) (ky : ∀ k ∈ kc.map (·.1), ∃ x, k = .inr x ∧ F x ≠ none) (ye : ∀ x, F x ≠ none → (valV kc (.inr x)).isSome = true) :
    ∃ xs : List Str, kc.map (·.1) = xs.map Sum.inr ∧ xs.Nodup ∧ ∀ x, x ∈ xs ↔ F x ≠ none := by
  obtain ⟨xs, e⟩ := keys_str fun k hk => let ⟨x, h, _⟩ := ky k hk; ⟨x, h⟩
  refine ⟨xs, e, ?_, fun x => ⟨fun hx => ?_, fun hx => ?_⟩⟩
  · rw [e] at nd
    exact nodup_inr nd
  · obtain ⟨y, hy, hF⟩ := ky (.inr x) (by rw [e]; exact List.mem_map.mpr ⟨x, hx, rfl⟩)
    cases hy
    exact hF
  · obtain ⟨v, hv⟩ := Option.isSome_iff_exists.mp (ye x hx)
    have := valV_in hv
    rw [e] at this
    obtain ⟨y, hy, ey⟩ := List.mem_map.mp this
    cases ey
    exact hy
end
end L2.Kd

namespace L2.Kd
open PySem PySem.Spec PyProof.Rows L2.Ex
section
variable {P : Program} {w : World} {K : PySem.W.Frag} {mg : Str → Option Value} {base : Heap} {A : Ad} {D : Fd}
theorem DiskAt.names {C p c s : Addr} {kc ks : List (Key × V)} {L : Str → Addr} {F : FM} {n : Int} {l : Option Int} {H : Hp} (Y : DiskAt C H p c s kc ks L F n l) : ∃ xs : List Str, kc.map (·.1) = xs.map Sum.inr ∧ xs.Nodup ∧ ∀ x, x ∈ xs ↔ F x ≠ none :=
  keys_names Y.nd Y.ky fun x hx => by rw [(Y.get hx).1]; rfl
theorem names_len {kc : List (Key × V)} {xs : List Str} (e : kc.map (·.1) = xs.map Sum.inr) : xs.length = kc.length := by
  have := congrArg List.length e
  rw [List.length_map, List.length_map] at this
  exact this.symm
theorem Names6.of {F : FM} {xs ys : List Str} (hp : ys.Perm xs) (hs : sortedS ys = true) (nd : xs.Nodup) (hm : ∀ x, x ∈ xs ↔ F x ≠ none) : Names6 F ys := ⟨hs, hp.nodup_iff.mpr nd, fun x => hp.mem_iff.trans (hm x)⟩
def spAll (C : Addr) : Sp := fun vs H Q _ => ∃ (p c s : Addr) (kc ks : List (Key × V)) (L : Str → Addr) (F : FM) (n : Int) (l : Option Int), vs = [.ref p] ∧ DiskAt C H p c s kc ks L F n l ∧ kc.length < 64 ∧
  ∀ (ys : List Str) (q : Addr), H q = none → Names6 F ys → Q (.ref q) (upd H q (.lst (ys.map V.str)))
theorem ok_Disk_all_files (T : Tx K mg A D) : FnOk P w K mg base CX0 2 A.f_Disk_all_files D.f_Disk_all_files ["self"] (spAll A.c_Disk) := by
  refine T.F_Disk_all_files.ok sc_Disk_all_files (fun vs H Q E h => ?_) (fun cdv A' outer s H vs Q E hr h => ?_)
  · obtain ⟨p, c, s, kc, ks, L, F, n, l, rfl, _⟩ := h
    rfl
  · obtain ⟨p, c, s, kc, ks, L, F, n, l, rfl, Y, hz, k⟩ := h
    refine ⟨_, ((pss_one (ps_ret (pe_callB (call_sortedD rfl) (by rfl) T.b_sorted (by decide +kernel) (pa_cons (pe_fld (pv 0) rfl) pa_nil))))), ?_⟩
    obtain ⟨dx, ob⟩ := Y.ob
    obtain ⟨xs, e1, e2, e3⟩ := Y.names
    exact ⟨_, rfl, p, _, dx, _, _, rfl, ob, T.cl_Disk, T.na_Disk_contents, dk_contents, c, kc, xs, rfl, .inl Y.hc, e1, by rw [names_len e1]; exact hz, fun ys q hp hs hq => k ys q hq (.of hp hs e2 e3)⟩
/-! ## the fall -/
def manyM (o : Option Int) (r : List V × Int) : Int := if (r.1.length : Int) < (if r.2 > o.getD 0 then r.2 else o.getD 0) then (r.1.length : Int) else (if r.2 > o.getD 0 then r.2 else o.getD 0)
def fallM (F : FM) (W : Str → Option Int) : FM := fun y => (F y).map fun r => (cutV r.1 none (some (manyM (W y) r)), manyM (W y) r)
/-- the first of the names have been kept -/
def firstM (F : FM) (ys : List Str) : FM := fun y => if y ∈ ys then F y else none
theorem firstM_snoc {F : FM} {ys : List Str} {y : Str} {r : List V × Int} (h : F y = some r) : firstM F (ys ++ [y]) = setM (firstM F ys) y r := by
  funext z
  unfold firstM
  by_cases e : z = y
  · subst e
    rw [setM_same, if_pos (by simp), h]
  · rw [setM_ne e]
    show (if z ∈ ys ++ [y] then F z else none) = if z ∈ ys then F z else none
    by_cases h2 : z ∈ ys
    · rw [if_pos h2, if_pos (List.mem_append_left _ h2)]
    · rw [if_neg h2, if_neg (by rw [List.mem_append, List.mem_singleton]; exact fun q => q.elim h2 e)]
theorem firstM_all {F : FM} {ys : List Str} (h : ∀ x, F x ≠ none → x ∈ ys) : firstM F ys = F := by
  funext z
  unfold firstM
  by_cases h2 : z ∈ ys
  · rw [if_pos h2]
  · rw [if_neg h2]
    cases e : F z with
    | none => rfl
    | some r => exact absurd (h z (by rw [e]; simp)) h2
theorem take_succ_of {α : Type} {l : List α} {i : Nat} {x : α} (h : l[i]? = some x) : l.take (i + 1) = l.take i ++ [x] := by
  rw [List.take_add_one, h]
  rfl
def spFall (C : Addr) : Sp := fun vs H Q _ => ∃ (p c s : Addr) (kc ks : List (Key × V)) (L : Str → Addr) (F : FM) (n : Int) (l : Option Int) (u : Addr) (kw : List (Key × V)) (W : Str → Option Int), vs = [.ref p, .ref u] ∧ DiskAt C H p c s kc ks L F n l ∧ kc.length < 64 ∧
  H u = some (.dK kw) ∧ (∀ y, valV kw (.inr y) = (W y).map V.int) ∧
  ∀ (p' c' s' : Addr) (kc' ks' : List (Key × V)) (L' : Str → Addr) (H' : Hp), DiskAt C H' p' c' s' kc' ks' L' (fallM F W) 0 none → Same H H' → (∀ b, fpD p' c' s' L' (fallM F W) b → H b = none) → Q (.ref p') H'
theorem ok_Disk_fall (T : Tx K mg A D) : FnOk P w K mg base CX0 6 A.f_Disk_fall D.f_Disk_fall ["self", "lengths"] (spFall A.c_Disk) := by
  refine T.F_Disk_fall.ok sc_Disk_fall (fun vs H Q E h => ?_) (fun cdv A' outer s H vs Q E hr h => ?_)
  · obtain ⟨p, c, s, kc, ks, L, F, n, l, u, kw, W, rfl, _⟩ := h
    rfl
  · obtain ⟨p, c, s, kc, ks, L, F, n, l, u, kw, W, rfl, Y, hz, hu2, hW, k⟩ := h
    have hu := hu_of hr
    refine ⟨_, ((pss_cons (ps_set (i := 2) sc_Disk_fall.nd rfl (Or.inl rfl) (pe_make0 T.mk_Disk (ok_Disk_init T) (hr.mono (by decide)) (by rfl) T.m_Disk (b_Disk_init T) .nil pass0))
      (pss_cons (ps_for PassesOwn.never rfl (pi_list (pe_callB (call_sortedD rfl) (by rfl) T.b_sorted (by decide +kernel) (pa_cons (pe_fld (pv 0) rfl) pa_nil))) (pg_name (i := 3) sc_Disk_fall.nd rfl (Or.inl rfl)) (pss_cons (ps_set (i := 4) sc_Disk_fall.nd rfl (Or.inl rfl) (pe_dget2 hu (pv 1) (pv 3) pe_int ⟨rfl, rfl, rfl, rfl⟩))
      (pss_cons (ps_set (i := 5) sc_Disk_fall.nd rfl (Or.inl rfl) (pe_callB (call_min2 rfl) (by rfl) T.b_min (by decide +kernel) (pa_cons (pe_callB (call_max2 rfl) (by rfl) T.b_max (by decide +kernel) (pa_cons (pv 4) (pa_cons (pe_dget hu (pe_fld (pv 0) rfl) (pv 3) (fun _ _ => rfl)) pa_nil))) (pa_cons (pe_callB call_len_seq (by rfl) T.b_len (by decide +kernel) (pa_cons (pe_dget hu (pe_fld (pv 0) rfl) (pv 3) (fun _ _ => rfl)) pa_nil)) pa_nil))))
      (pss_cons (ps_dput hu (pe_fld (pv 2) rfl) (pv 3) (pe_slice sl_list (pe_dget hu (pe_fld (pv 0) rfl) (pv 3) (fun _ _ => rfl)) po_none (po_some (pv 5))) rfl)
      (pss_one (ps_dput hu (pe_fld (pv 2) rfl) (pv 3) (pv 5) rfl))))))
      (pss_one (ps_ret (pv 2)))))), ?_⟩
    obtain ⟨dx, ob⟩ := Y.ob
    obtain ⟨xs, e1, e2, e3⟩ := Y.names
    -- left = Disk()
    intro p' dx' np ndx nex
    refine ⟨p', dx', rfl, upd_same, fun c' s' H1 hc' hs' hcs ob' hcc hss kp => ⟨rfl, ?_⟩⟩
    have s1 : Same H H1 := Same.made np ndx kp
    have np1 : H c' = none := by
      by_cases q : c' = p'
      · rw [q]; exact np
      · rw [upd_ne q] at hc'
        by_cases q2 : c' = dx'
        · rw [q2]; exact ndx
        · rw [upd_ne q2] at hc'; exact hc'
    have ns1 : H s' = none := by
      by_cases q : s' = p'
      · rw [q]; exact np
      · rw [upd_ne q] at hs'
        by_cases q2 : s' = dx'
        · rw [q2]; exact ndx
        · rw [upd_ne q2] at hs'; exact hs'
    -- for name in sorted(self.contents)
    refine ⟨_, rfl, p, _, dx, _, _, rfl, s1 _ _ ob, T.cl_Disk, T.na_Disk_contents, dk_contents, c, kc, xs, rfl, .inl (s1 _ _ Y.hc), e1, by rw [names_len e1]; exact hz, fun ys q hp hs hq => ?_⟩
    have N6 := Names6.of (F := F) hp hs e2 e3
    have nq0 : H q = none := s1.free hq
    refine ⟨q, rfl, ⟨_, SqL.of upd_same⟩, for_list (K := K) (a := q) (xs := ys.map V.str) (fun i σ H2 => ∃ (v3 v4 v5 : Option V) (kc' ks' : List (Key × V)) (L' : Str → Addr), σ = [some (.ref p), some (.ref u), some (.ref p'), v3, v4, v5] ∧ Same H H2 ∧ H2 q = some (.lst (ys.map V.str)) ∧
      DiskAt A.c_Disk H2 p' c' s' kc' ks' L' (firstM (fallM F W) (ys.take i)) 0 none ∧ kc'.length ≤ i ∧ (∀ b, fpD p' c' s' L' (firstM (fallM F W) (ys.take i)) b → H b = none))
      ⟨none, none, none, [], [], fun _ => 0, rfl, fun b o e => by rw [upd_ne (ne_of_none e nq0)]; exact s1 b o e, upd_same, ?_, Nat.le_refl _, ?_⟩ (fun i σ H2 _ ⟨_, _, _, _, _, _, _, _, h2, _⟩ => SqL.of h2) ?_ ?_⟩
    · have z : firstM (fallM F W) (ys.take 0) = fun _ => none := by funext y; exact if_neg (by simp)
      rw [z]
      exact ⟨⟨dx', by rw [upd_ne (ne_of_none ob' hq)]; exact ob'⟩, by rw [upd_ne (ne_of_none hcc hq)]; exact hcc, by rw [upd_ne (ne_of_none hss hq)]; exact hss, hcs, fun _ _ => ⟨rfl, rfl⟩, fun x cs m e => (by cases e), fun x y h => absurd rfl h, List.nodup_nil, fun k hk => (by cases hk), Nat.le_refl _, List.nodup_nil⟩
    · rintro b (rfl | rfl | rfl | ⟨x, hx, rfl⟩)
      · exact np
      · exact np1
      · exact ns1
      · exact absurd (if_neg (by simp)) hx
    · rintro i v σ H2 hi ⟨v3, v4, v5, kc', ks', L', rfl, s2, hq2, Y', hlen, hfp⟩
      obtain ⟨y, hy, rfl⟩ : ∃ y, ys[i]? = some y ∧ v = V.str y := by
        rw [List.getElem?_map] at hi
        cases e : ys[i]? with
        | none => rw [e] at hi; cases hi
        | some y => rw [e] at hi; exact ⟨y, rfl, (Option.some.inj hi).symm⟩
      have hiy : i < ys.length := (List.getElem?_eq_some_iff.mp hy).1
      have hle : ys.length < 64 := by rw [hp.length_eq, names_len e1]; exact hz
      have hFy : F y ≠ none := (N6.mem y).mp (List.mem_of_getElem? hy)
      obtain ⟨g1, g2, g3⟩ := Y.get hFy
      obtain ⟨cs, m, eF⟩ := ne_some hFy
      obtain ⟨ec, em⟩ := cells_some eF
      obtain ⟨dx2, ob2⟩ := Y'.ob
      have Yk : DiskAt A.c_Disk H2 p c s kc ks L F n l := Y.keep fun b o _ e => s2 b o e
      obtain ⟨npc, nps, nL⟩ := Y'.pc
      -- wanted = lengths.get(name, 0)
      refine ⟨_, rfl, u, rfl, .inl ⟨_, .inl (s2 _ _ hu2)⟩, _, rfl, _, DGet.k (k := Sum.inr y) (s2 _ _ hu2), ?_⟩
      have ew : (valV kw (Sum.inr y : Key)).getD (.int 0) = V.int ((W y).getD 0) := by
        rw [hW]
        cases W y <;> rfl
      rw [ew]
      -- many = min(max(wanted, self.safe[name]), len(self.contents[name]))
      refine ⟨_, rfl, _, rfl, p, _, dx, _, _, rfl, s2 _ _ ob, T.cl_Disk, T.na_Disk_safe, dk_safe, _, rfl, s, .int (synOf F y), rfl, dget_k Yk.hs g3, _, _, rfl, ?_⟩
      refine ⟨_, rfl, p, _, dx, _, _, rfl, s2 _ _ ob, T.cl_Disk, T.na_Disk_contents, dk_contents, _, rfl, c, .ref (L y), rfl, dget_k Yk.hc g1, L y, _, rfl, .inl (SqL.of (s2 _ _ g2)), _, _, rfl, ?_⟩
      have emany : (if ((cellsOf F y).length : Int) < (if synOf F y > (W y).getD 0 then synOf F y else (W y).getD 0) then ((cellsOf F y).length : Int) else (if synOf F y > (W y).getD 0 then synOf F y else (W y).getD 0)) = manyM (W y) (cs, m) := by rw [ec, em]; rfl
      rw [emany]
      generalize hmn : manyM (W y) (cs, m) = mn
      have eFall : fallM F W y = some (cutV cs none (some mn), mn) := by unfold fallM; rw [eF, ← hmn]; rfl
      have efirst : firstM (fallM F W) (ys.take (i + 1)) = setM (firstM (fallM F W) (ys.take i)) y (cutV cs none (some mn), mn) := by rw [take_succ_of hy]; exact firstM_snoc eFall
      have hnew : firstM (fallM F W) (ys.take i) y = none := if_neg fun z => by
        obtain ⟨j, hj, ej⟩ := List.mem_take_iff_getElem.mp z
        have h1 : ys[j]? = some y := by rw [← ej]; exact List.getElem?_eq_getElem _
        have := nd_ix N6.nd h1 hy
        omega
      obtain ⟨v1, v2⟩ := Y'.no y hnew
      -- left.contents[name] = self.contents[name][:many]
      refine ⟨_, rfl, p, _, dx, _, _, rfl, s2 _ _ ob, T.cl_Disk, T.na_Disk_contents, dk_contents, _, rfl, c, .ref (L y), rfl, dget_k Yk.hc g1, _, rfl, mn, rfl, L y, _, rfl, SqL.of (s2 _ _ g2), fun t ht => ?_⟩
      have nt : ∀ {b : Addr} {o : HO}, H2 b = some o → b ≠ t := fun h => ne_of_none h ht
      rw [ec]
      refine ⟨_, rfl, p', _, dx2, _, _, rfl, (by rw [upd_ne (nt ob2)]; exact ob2), T.cl_Disk, T.na_Disk_contents, dk_contents, _, rfl, c', _, rfl, DPut.k (k := Sum.inr y) (by rw [upd_ne (nt Y'.hc)]; exact Y'.hc) (small1000 (by omega)), ?_⟩
      -- left.safe[name] = many
      refine ⟨_, rfl, _, rfl, p', _, dx2, _, _, rfl, (by rw [upd_ne npc, upd_ne (nt ob2)]; exact ob2), T.cl_Disk, T.na_Disk_safe, dk_safe, _, rfl, s', _, rfl, DPut.k (k := Sum.inr y) (by rw [upd_ne Y'.ne.symm, upd_ne (nt Y'.hs)]; exact Y'.hs) (small1000 (by have := Y'.sz; omega)), ?_⟩
      have fresh : ∀ b, H2 b = none → H b = none := fun b h => s2.free h
      refine ⟨_, _, _, putK kc' (.inr y) (.ref t), putK ks' (.inr y) (.int mn), setL L' y t, rfl, fun b o e => ?_, ?_, ?_, ?_, ?_⟩
      · have n1 : b ≠ s' := ne_of_none e (hfp s' (.inr (.inr (.inl rfl))))
        have n2 : b ≠ c' := ne_of_none e (hfp c' (.inr (.inl rfl)))
        rw [upd_ne n1, upd_ne n2, upd_ne (ne_of_none e (fresh t ht))]
        exact s2 b o e
      · rw [upd_ne (ne_of hq2 Y'.hs (fun z => by cases z)), upd_ne (ne_of hq2 Y'.hc (fun z => by cases z)), upd_ne (nt hq2)]
        exact hq2
      · rw [efirst]
        refine Y'.set ⟨dx2, ?_⟩ ?_ ?_ (Put1.put kc' y _) (Put1.put ks' y _) ?_ ?_ fun x hx hF => ?_
        · rw [upd_ne nps, upd_ne npc, upd_ne (nt ob2)]; exact ob2
        · rw [upd_ne Y'.ne, upd_same]
        · rw [upd_same]
        · rw [putK_new _ v1, putK_new _ v2, List.length_append, List.length_append]
          exact Nat.add_le_add_right Y'.sz 1
        · rw [upd_ne (nt Y'.hs).symm, upd_ne (nt Y'.hc).symm, upd_same]
        · obtain ⟨z1, z2, z3⟩ := nL x hF
          have z4 : L' x ≠ t := nt (Y'.get hF).2.1
          exact ⟨z4, by rw [upd_ne z3.symm, upd_ne z2.symm, upd_ne z4]⟩
      · rw [putK_new _ v1, List.length_append]
        exact Nat.add_le_add_right hlen 1
      · rw [efirst]
        intro b hb
        rcases grow_set (p := p') (c := c') (s := s') (q := t) (L := L') (F := firstM (fallM F W) (ys.take i)) (x := y) (r := (cutV cs none (some mn), mn)) (H := H) (.inr (fresh t ht)) b hb with h | h
        · exact hfp b h
        · exact h
    · rintro σ H2 ⟨v3, v4, v5, kc', ks', L', rfl, s2, hq2, Y', hlen, hfp⟩
      have eall : firstM (fallM F W) (ys.take (ys.map V.str).length) = fallM F W := by
        rw [List.length_map, List.take_length]
        refine firstM_all fun x hx => (N6.mem x).mpr fun z => hx ?_
        unfold fallM
        rw [z]
        rfl
      rw [eall] at Y' hfp
      exact ⟨_, rfl, k p' c' s' kc' ks' L' H2 Y' s2 hfp⟩
end
end L2.Kd

namespace L2.Kd
open PySem PySem.Spec PyProof.Rows L2.Ex
section
variable {P : Program} {w : World} {K : PySem.W.Frag} {mg : Str → Option Value} {base : Heap} {A : Ad} {D : Fd}
/-! ## the pool of draws -/
/-- the pool at P0: its cells at q, the place, the rest -/
def PoolAt (H : Hp) (P0 q : Addr) (ns : List Int) : Prop := ∃ at_ r : Int, H P0 = some (.lst [.ref q, .int at_, .int r]) ∧ H q = some (.lst (ns.map V.int)) ∧ 0 ≤ at_
theorem int_list {ns : List Int} {i : Nat} (h : i < ns.length) : ∃ z, (ns.map V.int)[i]? = some (.int z) := ⟨ns[i], by rw [List.getElem?_map, List.getElem?_eq_getElem h]; rfl⟩
theorem ref_ints {q : Addr} {r : List V} {ns : List Int} : HO.lst (.ref q :: r) ≠ HO.lst (ns.map V.int) := fun z => by
  cases ns with
  | nil => injection z with z; cases z
  | cons a b => injection z with z; injection z with z _; cases z
def spDraw : Sp := fun vs H Q _ => ∃ (P0 q : Addr) (ns : List Int) (m : Int), vs = [.ref P0, .int m] ∧ PoolAt H P0 q ns ∧ 0 < m ∧ m.natAbs.log2 < 9000 ∧
  ∀ (d : Int) (o : HO), 0 ≤ d → d < m → PoolAt (upd H P0 o) P0 q ns → Q (.int d) (upd H P0 o)
theorem ok_law_draw (T : Tx K mg A D) : FnOk P w K mg base CX0 2 A.f_law_draw D.f_law_draw ["_law_pool", "_law_many"] spDraw := by
  refine T.F_law_draw.ok sc_law_draw (fun vs H Q E h => ?_) (fun cdv A' outer s H vs Q E hr h => ?_)
  · obtain ⟨P0, q, ns, m, rfl, _⟩ := h
    rfl
  · obtain ⟨P0, q, ns, m, rfl, ⟨at_, r, hP, hq, h0⟩, hm, hm9, k⟩ := h
    have hu := hu_of hr
    refine ⟨_, ((pss_cons (ps_if (PW.pt (pw_and (pt_cmpR op_eq (pe_ix ix_list (pv 0) pe_int (fun _ _ => rfl)) pe_int (nomark _)) (pw_and1 (pt_cmpR op_lt (pe_ix ix_list (pv 0) pe_int (fun _ _ => rfl)) (pe_callB call_len_seq (by rfl) T.b_len (by decide +kernel) (pa_cons (pe_ix ix_list (pv 0) pe_int (fun _ _ => rfl)) pa_nil)) (nomark _))))) (pss_cons (ps_asg (pe_ix ix_list (pe_ix ix_list (pv 0) pe_int (fun _ _ => rfl)) (pe_ix ix_list (pv 0) pe_int (fun _ _ => rfl)) (fun _ _ => rfl)) (pg_sub (pv 0) pe_int set_list))
      (pss_one (ps_augS (pv 0) pe_int get_list pe_int ip_add set_list))) pss_nil)
      (pss_cons (ps_set (i := 2) sc_law_draw.nd rfl (Or.inl rfl) (pe_op op_mod (pe_callTy call_int1 (by rfl) T.b_int (by decide +kernel) (pa_cons (pe_ix ix_list (pv 0) pe_int (fun _ _ => rfl)) pa_nil)) (pv 1)))
      (pss_cons (ps_asg (pe_op op_fdivW (pe_callTy call_int1 (by rfl) T.b_int (by decide +kernel) (pa_cons (pe_ix ix_list (pv 0) pe_int (fun _ _ => rfl)) pa_nil)) (pv 1)) (pg_sub (pv 0) pe_int set_list))
      (pss_one (ps_ret (pv 2))))))), ?_⟩
    have npq : ∀ {H' : Hp} {a b : V}, H' P0 = some (.lst [.ref q, a, b]) → H' q = some (.lst (ns.map V.int)) → P0 ≠ q := fun h1 h2 => ne_of h1 h2 ref_ints
    -- behind the first if
    have rest : ∀ (H1 : Hp) (at1 r1 : Int), (∃ o, H1 = upd H P0 o ∨ H1 = H) → H1 P0 = some (.lst [.ref q, .int at1, .int r1]) → H1 q = some (.lst (ns.map V.int)) → 0 ≤ at1 →
        ∀ (tt : TS), tt = (tSeq (tAsg (tOp (rI (fun _ j => 0 < j) fun i j => .int (i % j)) (tCB (fun xs H Q => (∃ i, xs = [.int i] ∧ Q (.int i) H) ∨ ∃ k, xs = [.bl k] ∧ Q (.int (if k then 1 else 0)) H) (tCons (tOp (rIxL K) (tVar 0) (tC (.int 2))) tNil)) (tVar 1)) (gName 2))
          (tSeq (tAsg (tOp (rI CDivW fun i j => .int (i / j)) (tCB (fun xs H Q => (∃ i, xs = [.int i] ∧ Q (.int i) H) ∨ ∃ k, xs = [.bl k] ∧ Q (.int (if k then 1 else 0)) H) (tCons (tOp (rIxL K) (tVar 0) (tC (.int 2))) tNil)) (tVar 1)) (gSub (tVar 0) (tC (.int 2)) rSetL)) (tRet (tVar 2)))) →
        tt { nx := fun _ H' => Q .non H', rt := Q } [some (.ref P0), some (.int m), none] H1 := by
      rintro H1 at1 r1 ⟨o0, hH1⟩ e1 e2 h1 tt rfl
      refine ⟨_, rfl, P0, _, _, .int r1, rfl, rfl, SqL.of e1, rfl, .inl ⟨_, rfl, _, rfl, _, _, rfl, rfl, hm, ?_⟩⟩
      refine ⟨_, rfl, P0, _, _, .int r1, rfl, rfl, SqL.of e1, rfl, .inl ⟨_, rfl, _, rfl, _, _, rfl, rfl, ⟨hm, hm9⟩, _, rfl, P0, _, _, 2, rfl, rfl, e1, rfl, ?_⟩⟩
      have eu : upd H1 P0 (.lst ([.ref q, .int at1, .int r1].set 2 (.int (r1 / m)))) = upd H P0 (.lst [.ref q, .int at1, .int (r1 / m)]) := by
        rcases hH1 with h | h
        · rw [h, upd_upd] <;> rfl
        · rw [h] <;> rfl
      refine ⟨_, rfl, ?_⟩
      show Q (.int (r1 % m)) (upd H1 P0 (.lst ([.ref q, .int at1, .int r1].set 2 (.int (r1 / m)))))
      rw [eu]
      exact k _ _ (Int.emod_nonneg _ (by omega)) (Int.emod_lt_of_pos _ hm) ⟨at1, r1 / m, upd_same, by rw [upd_ne (npq hP hq).symm]; exact hq, h1⟩
    refine ⟨_, rfl, P0, _, _, .int r, rfl, rfl, SqL.of hP, rfl, rfl, _, rfl, ?_⟩
    by_cases hr0 : r = 0
    · refine if_true_of (by rw [hr0]; rfl) ?_
      refine ⟨_, rfl, P0, _, _, .int at_, rfl, rfl, SqL.of hP, rfl, _, rfl, P0, _, _, .ref q, rfl, rfl, SqL.of hP, rfl, q, _, rfl, .inl (SqL.of hq), _, _, rfl, rfl, _, rfl, ?_⟩
      rw [List.length_map]
      by_cases hat : at_ < (ns.length : Int)
      · refine if_true_of (decide_eq_true hat) ?_
        obtain ⟨j, rfl⟩ : ∃ j : Nat, at_ = (j : Int) := ⟨at_.toNat, by omega⟩
        obtain ⟨z, hz⟩ := int_list (ns := ns) (i := j) (by omega)
        refine ⟨_, rfl, P0, _, _, .ref q, rfl, rfl, SqL.of hP, rfl, _, rfl, P0, _, _, .int j, rfl, rfl, SqL.of hP, rfl, q, _, _, _, rfl, rfl, SqL.of hq, atI_nat hz, _, rfl, P0, _, _, 2, rfl, rfl, hP, rfl, ?_⟩
        have hP1 : upd H P0 (.lst ([.ref q, .int (j : Int), .int r].set 2 (.int z))) P0 = some (.lst [.ref q, .int (j : Int), .int z]) := upd_same
        refine ⟨_, rfl, P0, _, _, .int (j : Int), rfl, rfl, SqL.of hP1, rfl, _, _, rfl, rfl, P0, _, _, 1, rfl, rfl, hP1, rfl, ?_⟩
        refine rest _ ((j : Int) + 1) z ⟨.lst [.ref q, .int ((j : Int) + 1), .int z], .inl (by rw [upd_upd] <;> rfl)⟩ upd_same ?_ (by omega) _ rfl
        rw [upd_ne (npq hP hq).symm, upd_ne (npq hP hq).symm]
        exact hq
      · refine if_false_of (decide_eq_false hat) ?_
        exact rest H at_ r ⟨.lst [], .inr rfl⟩ hP hq h0 _ rfl
    · refine if_false_of (decide_eq_false fun z => hr0 (by injection z)) ?_
      exact rest H at_ r ⟨.lst [], .inr rfl⟩ hP hq h0 _ rfl
/-! ## the six names -/
def six : List Str := ["log", "t.a.0", "t.*.0", "*.p.0", "t.a.10", "t.a.2"]
def spFiles : Sp := fun vs H Q _ => vs = [] ∧ ∀ q, H q = none → Q (.ref q) (upd H q (.lst (six.map V.str)))
theorem ok_law_files (T : Tx K mg A D) : FnOk P w K mg base CX0 2 A.f_law_files D.f_law_files [] spFiles := by
  refine T.F_law_files.ok sc_law_files (fun vs H Q E h => ?_) (fun cdv A' outer s H vs Q E hr h => ?_)
  · obtain ⟨rfl, _⟩ := h
    rfl
  · obtain ⟨rfl, k⟩ := h
    refine ⟨_, ((pss_one (ps_ret (pe_lst (pa_cons pe_str (pa_cons pe_str (pa_cons pe_str (pa_cons pe_str (pa_cons pe_str (pa_cons pe_str pa_nil)))))))))), ?_⟩
    exact ⟨by show 6 ≤ sizeLine; decide, fun q hq => k q hq⟩
/-! ## a whole number that is the due one -/
def spWhole : Sp := fun vs H Q _ => ∃ x y : Int, vs = [.int x, .int y] ∧ Q (.bl (decide (V.int x = V.int y))) H
theorem ok_law_whole (T : Tx K mg A D) : FnOk P w K mg base CX0 2 A.f_law_whole D.f_law_whole ["_law_one_here", "_law_due_here"] spWhole := by
  refine T.F_law_whole.ok sc_law_whole (fun vs H Q E h => ?_) (fun cdv A' outer s H vs Q E hr h => ?_)
  · obtain ⟨x, y, rfl, _⟩ := h
    rfl
  · obtain ⟨x, y, rfl, k⟩ := h
    refine ⟨_, ((pss_cons (ps_if (PW.pt (pw_or (pt_not (pt_val (pe_callB call_isi (by rfl) T.b_isinstance (by decide +kernel) (pa_cons (pv 0) (pa_cons (pe_bltn (v := .ty "int") (by rfl) T.b_int (by decide +kernel) rfl) pa_nil))))) (pw_or1 (pt_val (pe_callB call_isi (by rfl) T.b_isinstance (by decide +kernel) (pa_cons (pv 0) (pa_cons (pe_bltn (v := .ty "bool") (by rfl) T.b_bool (by decide +kernel) rfl) pa_nil))))))) (pss_one (ps_ret pe_bl)) pss_nil)
      (pss_one (ps_ret (pe_cmpR op_eq (pv 0) (pv 1) (nomark _)))))), ?_⟩
    refine ⟨_, rfl, _, _, _, _, true, rfl, .ty "int", .base (.int x), kit_ty (by decide +kernel), _, rfl, ?_⟩
    refine iteF ?_
    refine ⟨_, rfl, _, _, _, _, false, rfl, .ty "bool", .base (.int x), kit_ty (by decide +kernel), _, rfl, ?_⟩
    refine iteF ?_
    exact ⟨_, rfl, _, rfl, rfl, k⟩
/-! ## what a disk tells of one name -/
/-- what is told in the heap H', which has grown from H -/
def Told (H H' : Hp) (F : FM) (x : Str) (what : Int) (v : V) : Prop :=
  (F x = none → ∃ q, v = .ref q ∧ H' q = some (.tup [.str "file", .str x]) ∧ H q = none) ∧
  (F x ≠ none → (what = 0 → ∃ q, v = .ref q ∧ H' q = some (.lst (cellsOf F x)) ∧ H q = none) ∧ (what = 1 → v = .int ((cellsOf F x).length : Int)) ∧ (what = 2 → v = .int (synOf F x)))
def spAsked (C : Addr) : Sp := fun vs H Q _ => ∃ (p c s : Addr) (kc ks : List (Key × V)) (L : Str → Addr) (F : FM) (n : Int) (l : Option Int) (x : Str) (what : Int), vs = [.ref p, .int what, .str x] ∧ DiskAt C H p c s kc ks L F n l ∧ (what = 0 ∨ what = 1 ∨ what = 2) ∧
  ∀ (v : V) (H' : Hp), Same H H' → Told H H' F x what v → Q v H'
theorem ok_law_asked (T : Tx K mg A D) : FnOk P w K mg base CX0 12 A.f_law_asked D.f_law_asked ["_law_disk", "_law_what", "_law_name"] (spAsked A.c_Disk) := by
  refine T.F_law_asked.ok sc_law_asked (fun vs H Q E h => ?_) (fun cdv A' outer s H vs Q E hr h => ?_)
  · obtain ⟨p, c, s, kc, ks, L, F, n, l, x, what, rfl, _⟩ := h
    rfl
  · obtain ⟨p, c, s, kc, ks, L, F, n, l, x, what, rfl, Y, hw, k⟩ := h
    have hu := hu_of hr
    refine ⟨_, ((pss_one (ps_try_names rfl rfl sc_law_asked.nd takes0 (fun W pn xe tk _ => (pss_cons (ps_if (pt_cmpR op_eq (pv 1) pe_int (nomark _)) (pss_one (ps_ret (pe_methX (pv 0) T.cl_Disk T.me_Disk_read (ok_Disk_read T) (hr.mono (by decide)) (b_Disk_read T) (fun σ => passAt tk σ) (pa_cons (pv 2) pa_nil)))) pss_nil)
      (pss_cons (ps_if (pt_cmpR op_eq (pv 1) pe_int (nomark _)) (pss_one (ps_ret (pe_methX (pv 0) T.cl_Disk T.me_Disk_length (ok_Disk_length T) (hr.mono (by decide)) (b_Disk_length T) (fun σ => passAt tk σ) (pa_cons (pv 2) pa_nil)))) pss_nil)
      (pss_one (ps_ret (pe_methX (pv 0) T.cl_Disk T.me_Disk_synced (ok_Disk_synced T) (hr.mono (by decide)) (b_Disk_synced T) (fun σ => passAt tk σ) (pa_cons (pv 2) pa_nil))))))) (HdsNm.cons (i := 3) rfl rfl ⟨rfl, by decide, .inl T.m_NoFile⟩ (fun a oe cls d pn hz hf => (pss_one (ps_ret (pe_tup (pa_cons pe_str (pa_cons (pe_xf T.xf_NoFile T.xn_NoFile_name hz hf (pv 3)) pa_nil)))))) HdsNm.nil)))), ?_⟩
    obtain ⟨dx, ob⟩ := Y.ob
    have nof : F x = none → ∀ (dd : Addr), H dd = none → wNames K (fun _ _ _ _ => False) { nx := fun _ H' => Q .non H', rt := Q } [(.ref A.c_NoFile, 3, fun a cls d => tRet (tTup (tCons (tC (.str "file")) (tCons (tXf a cls d A.c_NoFile "name" (tVar 3)) tNil))))] (.ref A.c_NoFile) (some dd) [some (.ref p), some (.int what), some (.str x), none] (upd H dd (.xd [("name", .str x)])) := fun hF dd hd =>
      ⟨true, T.sub_NoFile_NoFile, fun _ a ha => ⟨_, rfl, rfl, rfl, dd, _, _, rfl, upd_same, rfl, by show 2 ≤ sizeLine; decide, fun q hq => by
        have hq0 : H q = none := by
          by_cases e : q = dd
          · rw [e]; exact hd
          · rw [upd_ne e] at hq; exact hq
        exact k _ _ (fun b o e => by rw [upd_ne (ne_of_none e hq0), upd_ne (ne_of_none e hd)]; exact e) ⟨fun _ => ⟨q, rfl, upd_same, hq0⟩, fun z => absurd hF z⟩⟩, fun z => by cases z⟩
    refine ⟨_, rfl, rfl, _, rfl, ?_⟩
    rcases hw with rfl | rfl | rfl
    · refine iteT ?_
      refine ⟨_, rfl, p, dx, _, rfl, ob, dk_no (by decide +kernel) (by decide +kernel) (by decide +kernel) (by decide +kernel), _, rfl, p, c, s, kc, ks, L, F, n, l, x, rfl, Y, nof, fun hF q hq => ?_⟩
      exact k _ _ (same_new hq) ⟨fun z => absurd z hF, fun _ => ⟨fun _ => ⟨q, rfl, upd_same, hq⟩, fun z => (by cases z), fun z => (by cases z)⟩⟩
    · refine iteF ?_
      refine ⟨_, rfl, rfl, _, rfl, ?_⟩
      refine iteT ?_
      refine ⟨_, rfl, p, dx, _, rfl, ob, dk_no (by decide +kernel) (by decide +kernel) (by decide +kernel) (by decide +kernel), _, rfl, p, c, s, kc, ks, L, F, n, l, x, rfl, Y, nof, fun hF => ?_⟩
      exact k _ _ (Same.refl H) ⟨fun z => absurd z hF, fun _ => ⟨fun z => (by cases z), fun _ => rfl, fun z => (by cases z)⟩⟩
    · refine iteF ?_
      refine ⟨_, rfl, rfl, _, rfl, ?_⟩
      refine iteF ?_
      refine ⟨_, rfl, p, dx, _, rfl, ob, dk_no (by decide +kernel) (by decide +kernel) (by decide +kernel) (by decide +kernel), _, rfl, p, c, s, kc, ks, L, F, n, l, x, rfl, Y, nof, fun hF => ?_⟩
      exact k _ _ (Same.refl H) ⟨fun z => absurd z hF, fun _ => ⟨fun z => (by cases z), fun z => (by cases z), fun _ => rfl⟩⟩
end
end L2.Kd

namespace L2.Kd
open PySem PySem.Spec PyProof.Rows L2.Ex
/-! ## the steps as the law draws them, and their ends -/
inductive Op
  | put (x : Str) (v : V) | sync (x : Str) (v : V) | cut (x : Str) (k : Int) | strike (x : Str) (v : V) | lim (x : Str) (a : Option Int)
def Op.deed : Op → Str
  | .put .. => "put"
  | .sync .. => "sync"
  | .cut .. => "cut"
  | .strike .. => "strike"
  | .lim .. => "limit"
def Op.nm : Op → Str
  | .put x _ | .sync x _ | .cut x _ | .strike x _ | .lim x _ => x
def Op.arg : Op → V
  | .put _ v | .sync _ v | .strike _ v => v
  | .cut _ k => .int k
  | .lim _ a => limV a
inductive Out
  | done | file (x : Str) | fallen (n : Int) | lim (a : Option Int)
def Out.tup : Out → List V
  | .done => [.str "done", .bl true, .bl true]
  | .file x => [.str "file", .str x, .bl true]
  | .fallen n => [.str "fallen", .int n, .bl true]
  | .lim a => [.str "limit", limV a, .bl true]
def Op.out (o : Op) (F : FM) (n : Int) (l : Option Int) : Out := match o with
  | .lim _ a => if badL n a then .lim a else .done
  | .put _ _ => if stop n l then .fallen n else .done
  | .sync x _ | .cut x _ | .strike x _ => if F x = none then .file x else if stop n l then .fallen n else .done
def Op.F1 (o : Op) (F : FM) : FM := match o with
  | .put x v => setM F x (cellsOf F x ++ [v], synOf F x)
  | .sync x _ => setM F x (cellsOf F x, ((cellsOf F x).length : Int))
  | .cut x k => setM F x (cutV (cellsOf F x) none (some k), if k < synOf F x then k else synOf F x)
  | .strike x _ => dropM F x
  | .lim .. => F
def Op.n1 (o : Op) (n : Int) : Int := match o with
  | .lim .. => n
  | _ => n + 1
def Op.l1 (o : Op) (l : Option Int) : Option Int := match o with
  | .lim _ a => a
  | _ => l
/-- files, steps, limit behind the step -/
def Op.after (o : Op) (F : FM) (n : Int) (l : Option Int) : FM × Int × Option Int := match o.out F n l with
  | .done => (o.F1 F, o.n1 n, o.l1 l)
  | _ => (F, n, l)
theorem after_done {o : Op} {F : FM} {n : Int} {l : Option Int} (h : o.out F n l = .done) : o.after F n l = (o.F1 F, o.n1 n, o.l1 l) := by unfold Op.after; rw [h]
theorem after_file {o : Op} {F : FM} {n : Int} {l : Option Int} {x : Str} (h : o.out F n l = .file x) : o.after F n l = (F, n, l) := by unfold Op.after; rw [h]
theorem after_fallen {o : Op} {F : FM} {n m : Int} {l : Option Int} (h : o.out F n l = .fallen m) : o.after F n l = (F, n, l) := by unfold Op.after; rw [h]
theorem after_lim {o : Op} {F : FM} {n : Int} {l a : Option Int} (h : o.out F n l = .lim a) : o.after F n l = (F, n, l) := by unfold Op.after; rw [h]
section
variable {P : Program} {w : World} {K : PySem.W.Frag} {mg : Str → Option Value} {base : Heap} {A : Ad} {D : Fd}
/-! ## a step of the disk is tried -/
def spTried (C : Addr) : Sp := fun vs H Q _ => ∃ (p c s : Addr) (kc ks : List (Key × V)) (L : Str → Addr) (F : FM) (n : Int) (l : Option Int) (o : Op), vs = [.ref p, .str o.deed, .str o.nm, o.arg] ∧ DiskAt C H p c s kc ks L F n l ∧ kc.length < 1000 ∧ (cellsOf F o.nm).length < 1000 ∧
  ∀ (q : Addr) (H' : Hp) (kc' ks' : List (Key × V)) (L' : Str → Addr), DiskAt C H' p c s kc' ks' L' (o.after F n l).1 (o.after F n l).2.1 (o.after F n l).2.2 → Kp (fpD p c s L F) H H' → Grow (fpD p c s L F) (fpD p c s L' (o.after F n l).1) H →
    H' q = some (.tup (o.out F n l).tup) → Q (.ref q) H'
def tIs (K : PySem.W.Frag) (E C : Addr) (x y : Addr) (a : Addr) (cls : Value) (d : Option Addr) : TE :=
  tAndV (tCB (rIsX K E a cls d) (tCons (tVar 5) (tCons (tC (.ref C)) tNil))) (tNotV (tCB (rIsXT K E a cls d) (tCons (tVar 5) (tCons (tTup (tCons (tC (.ref x)) (tCons (tC (.ref y)) tNil))) tNil))))
def clFile (K : PySem.W.Frag) (A : Ad) : Addr → Value → Option Addr → TS := fun a cls d =>
  tRet (tTup (tCons (tC (.str "file")) (tCons (tXf a cls d A.c_NoFile "name" (tVar 5)) (tCons (tIs K A.c_NoFile A.c_ColonnadeError A.c_Fallen A.c_BadLimit a cls d) tNil))))
def clFallen (K : PySem.W.Frag) (A : Ad) : Addr → Value → Option Addr → TS := fun a cls d =>
  tSeq (tAsg (tIs K A.c_Fallen A.c_ColonnadeError A.c_NoFile A.c_BadLimit a cls d) (gName 6))
    (tRet (tTup (tCons (tC (.str "fallen")) (tCons (tXf a cls d A.c_Fallen "steps" (tVar 5)) (tCons (tAndV (tVar 6) (tNotV (tCB (rIsi K) (tCons (tXf a cls d A.c_Fallen "steps" (tVar 5)) (tCons (tC (.ty "bool")) tNil))))) tNil)))))
def clLimit (K : PySem.W.Frag) (A : Ad) : Addr → Value → Option Addr → TS := fun a cls d =>
  tRet (tTup (tCons (tC (.str "limit")) (tCons (tXf a cls d A.c_BadLimit "limit" (tVar 5)) (tCons (tIs K A.c_BadLimit A.c_ColonnadeError A.c_NoFile A.c_Fallen a cls d) tNil))))
def cls3 (K : PySem.W.Frag) (A : Ad) : List Clause := [(.ref A.c_NoFile, 5, clFile K A), (.ref A.c_Fallen, 5, clFallen K A), (.ref A.c_BadLimit, 5, clLimit K A)]
/-- isinstance(e, ColonnadeError) and not isinstance(e, (.., ..)): true -/
theorem tIs_ok {E C x y a dd : Addr} {f : Str} {v : V} {σ : St} {H : Hp} {Q : VK} (h1 : PySem.W.kitOne K (.ref E) (.ref C) = some true) (h2 : PySem.W.kitAny K (.ref E) [.ref x, .ref y] = some false) (hs : σ[5]? = some (some (.ref a))) (hd : H dd = some (.xd [(f, v)]))
    (k : ∀ t, H t = none → Q (.bl true) (upd H t (.tup [.ref x, .ref y]))) : tIs K E C x y a (.ref E) (some dd) σ H Q := by
  refine ⟨_, hs, _, _, true, dd, _, rfl, rfl, .own C, rfl, hd, h1, true, rfl, ?_⟩
  refine iteT ?_
  refine ⟨_, hs, by show 2 ≤ sizeLine; decide, fun t ht => ?_⟩
  refine ⟨t, _, [.ref x, .ref y], false, dd, _, rfl, rfl, upd_same, .cons (.own x) (.cons (.own y) .nil), rfl, (by rw [upd_ne (ne_of_none hd ht)]; exact hd), h2, false, rfl, k t ht⟩
section
variable {v0 v1 v2 v3 : V} {H : Hp} {Q : VK} {R : St → Hp → Prop}
theorem grown2 {dd t : Addr} {o o' : HO} {H : Hp} (hd : H dd = none) (ht : upd H dd o t = none) : Same H (upd (upd H dd o) t o') ∧ H t = none := by
  have h0 : H t = none := by
    by_cases e : t = dd
    · rw [e]; exact hd
    · rw [upd_ne e] at ht; exact ht
  exact ⟨fun b u e => by rw [upd_ne (ne_of_none e h0), upd_ne (ne_of_none e hd)]; exact e, h0⟩
theorem caught_file (T : Tx K mg A D) {x : Str} (k : ∀ q H', Same H H' → H q = none → H' q = some (.tup (Out.file x).tup) → Q (.ref q) H') : ∀ dd, H dd = none →
    wNames K (fun _ _ _ _ => False) { nx := R, rt := Q } (cls3 K A) (.ref A.c_NoFile) (some dd) [some v0, some v1, some v2, some v3, none, none, none] (upd H dd (.xd [("name", .str x)])) := by
  intro dd hd
  refine ⟨true, T.sub_NoFile_NoFile, fun _ a ha => ?_, fun z => (by cases z)⟩
  refine ⟨_, rfl, rfl, rfl, dd, _, _, rfl, upd_same, rfl, tIs_ok T.ki_NoFile T.kn_NoFile rfl upd_same fun t ht => ?_⟩
  refine ⟨by show 3 ≤ sizeLine; decide, fun q hq => ?_⟩
  obtain ⟨g1, g2⟩ := grown2 (o' := .tup [.ref A.c_Fallen, .ref A.c_BadLimit]) hd ht
  have hq0 : H q = none := g1.free hq
  exact k q _ (g1.trans (same_new hq)) hq0 upd_same
theorem caught_fallen (T : Tx K mg A D) {n : Int} (k : ∀ q H', Same H H' → H q = none → H' q = some (.tup (Out.fallen n).tup) → Q (.ref q) H') : ∀ dd, H dd = none →
    wNames K (fun _ _ _ _ => False) { nx := R, rt := Q } (cls3 K A) (.ref A.c_Fallen) (some dd) [some v0, some v1, some v2, some v3, none, none, none] (upd H dd (.xd [("steps", .int n)])) := by
  intro dd hd
  refine ⟨false, T.sub_Fallen_NoFile, fun z => (by cases z), fun _ => ?_⟩
  refine ⟨true, T.sub_Fallen_Fallen, fun _ a ha => ?_, fun z => (by cases z)⟩
  refine tIs_ok T.ki_Fallen T.kn_Fallen rfl upd_same fun t ht => ?_
  obtain ⟨g1, g2⟩ := grown2 (o' := .tup [.ref A.c_NoFile, .ref A.c_BadLimit]) hd ht
  have hx : upd (upd H dd (.xd [("steps", .int n)])) t (.tup [.ref A.c_NoFile, .ref A.c_BadLimit]) dd = some (.xd [("steps", .int n)]) := by
    rw [upd_ne (ne_of_none upd_same ht)]
    exact upd_same
  refine ⟨_, rfl, rfl, rfl, dd, _, _, rfl, hx, rfl, _, rfl, true, rfl, ?_⟩
  refine iteT ?_
  refine ⟨_, rfl, rfl, rfl, dd, _, _, rfl, hx, rfl, _, _, _, _, false, rfl, .ty "bool", .base (.int n), kit_ty (by decide +kernel), false, rfl, ?_⟩
  refine ⟨by show 3 ≤ sizeLine; decide, fun q hq => ?_⟩
  exact k q _ (g1.trans (same_new hq)) (g1.free hq) upd_same
theorem caught_limit (T : Tx K mg A D) {l : Option Int} (k : ∀ q H', Same H H' → H q = none → H' q = some (.tup (Out.lim l).tup) → Q (.ref q) H') : ∀ dd, H dd = none →
    wNames K (fun _ _ _ _ => False) { nx := R, rt := Q } (cls3 K A) (.ref A.c_BadLimit) (some dd) [some v0, some v1, some v2, some v3, none, none, none] (upd H dd (.xd [("limit", limV l)])) := by
  intro dd hd
  refine ⟨false, T.sub_BadLimit_NoFile, fun z => (by cases z), fun _ => ?_⟩
  refine ⟨false, T.sub_BadLimit_Fallen, fun z => (by cases z), fun _ => ?_⟩
  refine ⟨true, T.sub_BadLimit_BadLimit, fun _ a ha => ?_, fun z => (by cases z)⟩
  refine ⟨_, rfl, rfl, rfl, dd, _, _, rfl, upd_same, rfl, tIs_ok T.ki_BadLimit T.kn_BadLimit rfl upd_same fun t ht => ?_⟩
  refine ⟨by show 3 ≤ sizeLine; decide, fun q hq => ?_⟩
  obtain ⟨g1, g2⟩ := grown2 (o' := .tup [.ref A.c_NoFile, .ref A.c_Fallen]) hd ht
  exact k q _ (g1.trans (same_new hq)) (g1.free hq) upd_same
end
theorem Grow.refl {Y : Addr → Prop} {H : Hp} : Grow Y Y H := fun b h => .inl h
theorem sd {a b : Str} (h : decide (V.str a = V.str b) = false) : decide (V.str a = V.str b) = false := h
theorem ok_law_tried (T : Tx K mg A D) : FnOk P w K mg base CX0 14 A.f_law_tried D.f_law_tried ["_law_disk", "_law_deed", "_law_name", "_law_arg"] (spTried A.c_Disk) := by
  refine T.F_law_tried.ok sc_law_tried (fun vs H Q E h => ?_) (fun cdv A' outer s H vs Q E hr h => ?_)
  · obtain ⟨p, c, s, kc, ks, L, F, n, l, o, rfl, _⟩ := h
    rfl
  · obtain ⟨p, c, s, kc, ks, L, F, n, l, o, rfl, Y, hz, hlen, k⟩ := h
    have hu := hu_of hr
    refine ⟨_, ((pss_one (ps_try_names rfl rfl sc_law_tried.nd takes0 (fun W pn xe tk _ => (pss_cons (ps_if (pt_cmpR op_eq (pv 1) pe_str (nomark _)) (pss_one (ps_set (i := 4) sc_law_tried.nd rfl (Or.inl rfl) (pe_methX (pv 0) T.cl_Disk T.me_Disk_put (ok_Disk_put T) (hr.mono (by decide)) (b_Disk_put T) (fun σ => passAt tk σ) (pa_cons (pv 2) (pa_cons (pv 3) pa_nil))))) (pss_one (ps_if (pt_cmpR op_eq (pv 1) pe_str (nomark _)) (pss_one (ps_set (i := 4) sc_law_tried.nd rfl (Or.inl rfl) (pe_methX (pv 0) T.cl_Disk T.me_Disk_sync (ok_Disk_sync T) (hr.mono (by decide)) (b_Disk_sync T) (fun σ => passAt tk σ) (pa_cons (pv 2) pa_nil)))) (pss_one (ps_if (pt_cmpR op_eq (pv 1) pe_str (nomark _)) (pss_one (ps_set (i := 4) sc_law_tried.nd rfl (Or.inl rfl) (pe_methX (pv 0) T.cl_Disk T.me_Disk_cut (ok_Disk_cut T) (hr.mono (by decide)) (b_Disk_cut T) (fun σ => passAt tk σ) (pa_cons (pv 2) (pa_cons (pv 3) pa_nil))))) (pss_one (ps_if (pt_cmpR op_eq (pv 1) pe_str (nomark _)) (pss_one (ps_set (i := 4) sc_law_tried.nd rfl (Or.inl rfl) (pe_methX (pv 0) T.cl_Disk T.me_Disk_strike (ok_Disk_strike T) (hr.mono (by decide)) (b_Disk_strike T) (fun σ => passAt tk σ) (pa_cons (pv 2) pa_nil)))) (pss_one (ps_set (i := 4) sc_law_tried.nd rfl (Or.inl rfl) (pe_methX (pv 0) T.cl_Disk T.me_Disk_set_limit (ok_Disk_set_limit T) (hr.mono (by decide)) (b_Disk_set_limit T) (fun σ => passAt tk σ) (pa_cons (pv 3) pa_nil)))))))))))
      (pss_one (ps_ret (pe_tup (pa_cons pe_str (pa_cons (pe_cmpR op_isN (pv 4) pe_non (nomark _)) (pa_cons pe_bl pa_nil)))))))) (HdsNm.cons (i := 5) rfl rfl ⟨rfl, by decide, .inl T.m_NoFile⟩ (fun a oe cls d pn hz hf => (pss_one (ps_ret (pe_tup (pa_cons pe_str (pa_cons (pe_xf T.xf_NoFile T.xn_NoFile_name hz hf (pv 5)) (pa_cons (pe_and (pe_callB (call_isX T.ex_NoFile hz hf) (by rfl) T.b_isinstance (by decide +kernel) (pa_cons (pv 5) (pa_cons (pe_glob (v := .ref _) (by rfl) T.m_ColonnadeError rfl) pa_nil))) (pe_one (pe_not (pe_callB (call_isXT T.ex_NoFile hz hf) (by rfl) T.b_isinstance (by decide +kernel) (pa_cons (pv 5) (pa_cons (pe_tup (pa_cons (pe_glob (v := .ref _) (by rfl) T.m_Fallen rfl) (pa_cons (pe_glob (v := .ref _) (by rfl) T.m_BadLimit rfl) pa_nil))) pa_nil)))))) pa_nil))))))) (HdsNm.cons (i := 5) rfl rfl ⟨rfl, by decide, .inl T.m_Fallen⟩ (fun a oe cls d pn hz hf => (pss_cons (ps_set (i := 6) sc_law_tried.nd rfl (Or.inl rfl) (pe_and (pe_callB (call_isX T.ex_Fallen hz hf) (by rfl) T.b_isinstance (by decide +kernel) (pa_cons (pv 5) (pa_cons (pe_glob (v := .ref _) (by rfl) T.m_ColonnadeError rfl) pa_nil))) (pe_one (pe_not (pe_callB (call_isXT T.ex_Fallen hz hf) (by rfl) T.b_isinstance (by decide +kernel) (pa_cons (pv 5) (pa_cons (pe_tup (pa_cons (pe_glob (v := .ref _) (by rfl) T.m_NoFile rfl) (pa_cons (pe_glob (v := .ref _) (by rfl) T.m_BadLimit rfl) pa_nil))) pa_nil)))))))
      (pss_one (ps_ret (pe_tup (pa_cons pe_str (pa_cons (pe_xf T.xf_Fallen T.xn_Fallen_steps hz hf (pv 5)) (pa_cons (pe_and (pv 6) (pe_one (pe_not (pe_callB call_isiS (by rfl) T.b_isinstance (by decide +kernel) (pa_cons (pe_xf T.xf_Fallen T.xn_Fallen_steps hz hf (pv 5)) (pa_cons (pe_bltn (v := .ty "bool") (by rfl) T.b_bool (by decide +kernel) rfl) pa_nil)))))) pa_nil)))))))) (HdsNm.cons (i := 5) rfl rfl ⟨rfl, by decide, .inl T.m_BadLimit⟩ (fun a oe cls d pn hz hf => (pss_one (ps_ret (pe_tup (pa_cons pe_str (pa_cons (pe_xf T.xf_BadLimit T.xn_BadLimit_limit hz hf (pv 5)) (pa_cons (pe_and (pe_callB (call_isX T.ex_BadLimit hz hf) (by rfl) T.b_isinstance (by decide +kernel) (pa_cons (pv 5) (pa_cons (pe_glob (v := .ref _) (by rfl) T.m_ColonnadeError rfl) pa_nil))) (pe_one (pe_not (pe_callB (call_isXT T.ex_BadLimit hz hf) (by rfl) T.b_isinstance (by decide +kernel) (pa_cons (pv 5) (pa_cons (pe_tup (pa_cons (pe_glob (v := .ref _) (by rfl) T.m_NoFile rfl) (pa_cons (pe_glob (v := .ref _) (by rfl) T.m_Fallen rfl) pa_nil))) pa_nil)))))) pa_nil))))))) HdsNm.nil)))))), ?_⟩
    obtain ⟨dx, ob⟩ := Y.ob
    -- an error: the disk is as it was
    have kept : ∀ {H' : Hp}, Same H H' → DiskAt A.c_Disk H' p c s kc ks L F n l := fun e => Y.keep fun b o _ h => e b o h
    have k_file : ∀ x, o.out F n l = .file x → ∀ q H', Same H H' → H q = none → H' q = some (.tup (Out.file x).tup) → Q (.ref q) H' := fun x e q H' g hq hq' => by
      have := k q H' kc ks L
      rw [after_file e, e] at this
      exact this (kept g) (Kp.same g) Grow.refl hq'
    have k_fallen : ∀ m, o.out F n l = .fallen m → ∀ q H', Same H H' → H q = none → H' q = some (.tup (Out.fallen m).tup) → Q (.ref q) H' := fun m e q H' g hq hq' => by
      have := k q H' kc ks L
      rw [after_fallen e, e] at this
      exact this (kept g) (Kp.same g) Grow.refl hq'
    have k_lim : ∀ m, o.out F n l = .lim m → ∀ q H', Same H H' → H q = none → H' q = some (.tup (Out.lim m).tup) → Q (.ref q) H' := fun m e q H' g hq hq' => by
      have := k q H' kc ks L
      rw [after_lim e, e] at this
      exact this (kept g) (Kp.same g) Grow.refl hq'
    -- the step is done
    have k_done : o.out F n l = .done → ∀ H' kc' ks' L', DiskAt A.c_Disk H' p c s kc' ks' L' (o.F1 F) (o.n1 n) (o.l1 l) → Kp (fpD p c s L F) H H' → Grow (fpD p c s L F) (fpD p c s L' (o.F1 F)) H →
        (tRet (tTup (tCons (tC (.str "done")) (tCons (tOp (fun x y H Q => y = .non ∧ Q (.bl (decide (x = .non))) H) (tVar 4) (tC .non)) (tCons (tC (.bl true)) tNil)))) : TS) { nx := fun _ H' => Q .non H', rt := Q } [some (.ref p), some (.str o.deed), some (.str o.nm), some o.arg, some .non, none, none] H' := by
      intro e H' kc' ks' L' Y' kp gr
      refine ⟨_, rfl, rfl, by show 3 ≤ sizeLine; decide, fun q hq => ?_⟩
      have hk := k q (upd H' q (.tup [.str "done", .bl true, .bl true])) kc' ks' L'
      rw [after_done e, e] at hk
      have nq : ∀ {b : Addr} {u : HO}, H' b = some u → b ≠ q := fun h => ne_of_none h hq
      have kp2 : Kp (fpD p c s L F) H (upd H' q (.tup [.str "done", .bl true, .bl true])) := fun b u h1 h2 => by
        have h3 := kp b u h1 h2
        rw [upd_ne (nq h3)]
        exact h3
      have Y2 : DiskAt A.c_Disk (upd H' q (.tup [.str "done", .bl true, .bl true])) p c s kc' ks' L' (o.F1 F) (o.n1 n) (o.l1 l) := Y'.keep fun b u _ h => by
        rw [upd_ne (nq h)]
        exact h
      exact hk Y2 kp2 gr upd_same
    have name_no : ∀ {m : Str}, (m == ("contents" : Str)) = false → (m == ("safe" : Str)) = false → (m == ("steps" : Str)) = false → (m == ("allowed" : Str)) = false → (dkF c s n l).lookup m = none := fun h1 h2 h3 h4 => dk_no h1 h2 h3 h4
    cases o with
    | put x v =>
      refine ⟨_, rfl, rfl, _, rfl, ?_⟩
      refine if_true_of (show decide (V.str ("put" : Str) = V.str ("put" : Str)) = true by decide +kernel) ?_
      refine ⟨_, rfl, p, dx, _, rfl, ob, dk_no (by decide +kernel) (by decide +kernel) (by decide +kernel) (by decide +kernel), _, rfl, _, rfl, p, c, s, kc, ks, L, F, n, l, x, v, rfl, Y, hz, hlen, ⟨fun z => (by cases z), fun _ hs => caught_fallen T (k_fallen n (if_pos hs)), fun _ hs H' kc' ks' L' Y' kp gr => ?_⟩⟩
      exact k_done (if_neg hs) H' kc' ks' L' Y' kp gr
    | sync x v =>
      refine ⟨_, rfl, rfl, _, rfl, ?_⟩
      refine if_false_of (show decide (V.str ("sync" : Str) = V.str ("put" : Str)) = false by decide +kernel) ?_
      refine ⟨_, rfl, rfl, _, rfl, ?_⟩
      refine if_true_of (show decide (V.str ("sync" : Str) = V.str ("sync" : Str)) = true by decide +kernel) ?_
      refine ⟨_, rfl, p, dx, _, rfl, ob, dk_no (by decide +kernel) (by decide +kernel) (by decide +kernel) (by decide +kernel), _, rfl, p, c, s, kc, ks, L, F, n, l, x, rfl, Y, hz, ⟨fun _ hF => caught_file T (k_file x (if_pos hF)), fun hF hs => ?_, fun hF hs H' kc' ks' L' Y' kp gr => ?_⟩⟩
      · have hF' : F x ≠ none := hF.resolve_left fun z => (by cases z)
        exact caught_fallen T (k_fallen n ((if_neg hF').trans (if_pos hs)))
      · have hF' : F x ≠ none := hF.resolve_left fun z => (by cases z)
        exact k_done ((if_neg hF').trans (if_neg hs)) H' kc' ks' L' Y' kp gr
    | cut x v =>
      refine ⟨_, rfl, rfl, _, rfl, ?_⟩
      refine if_false_of (show decide (V.str ("cut" : Str) = V.str ("put" : Str)) = false by decide +kernel) ?_
      refine ⟨_, rfl, rfl, _, rfl, ?_⟩
      refine if_false_of (show decide (V.str ("cut" : Str) = V.str ("sync" : Str)) = false by decide +kernel) ?_
      refine ⟨_, rfl, rfl, _, rfl, ?_⟩
      refine if_true_of (show decide (V.str ("cut" : Str) = V.str ("cut" : Str)) = true by decide +kernel) ?_
      refine ⟨_, rfl, p, dx, _, rfl, ob, dk_no (by decide +kernel) (by decide +kernel) (by decide +kernel) (by decide +kernel), _, rfl, _, rfl, p, c, s, kc, ks, L, F, n, l, x, v, rfl, Y, hz, ⟨fun _ hF => caught_file T (k_file x (if_pos hF)), fun hF hs => ?_, fun hF hs H' kc' ks' L' Y' kp gr => ?_⟩⟩
      · have hF' : F x ≠ none := hF.resolve_left fun z => (by cases z)
        exact caught_fallen T (k_fallen n ((if_neg hF').trans (if_pos hs)))
      · have hF' : F x ≠ none := hF.resolve_left fun z => (by cases z)
        exact k_done ((if_neg hF').trans (if_neg hs)) H' kc' ks' L' Y' kp gr
    | strike x v =>
      refine ⟨_, rfl, rfl, _, rfl, ?_⟩
      refine if_false_of (show decide (V.str ("strike" : Str) = V.str ("put" : Str)) = false by decide +kernel) ?_
      refine ⟨_, rfl, rfl, _, rfl, ?_⟩
      refine if_false_of (show decide (V.str ("strike" : Str) = V.str ("sync" : Str)) = false by decide +kernel) ?_
      refine ⟨_, rfl, rfl, _, rfl, ?_⟩
      refine if_false_of (show decide (V.str ("strike" : Str) = V.str ("cut" : Str)) = false by decide +kernel) ?_
      refine ⟨_, rfl, rfl, _, rfl, ?_⟩
      refine if_true_of (show decide (V.str ("strike" : Str) = V.str ("strike" : Str)) = true by decide +kernel) ?_
      refine ⟨_, rfl, p, dx, _, rfl, ob, dk_no (by decide +kernel) (by decide +kernel) (by decide +kernel) (by decide +kernel), _, rfl, p, c, s, kc, ks, L, F, n, l, x, rfl, Y, ⟨fun _ hF => caught_file T (k_file x (if_pos hF)), fun hF hs => ?_, fun hF hs H' kc' ks' L' Y' kp gr => ?_⟩⟩
      · have hF' : F x ≠ none := hF.resolve_left fun z => (by cases z)
        exact caught_fallen T (k_fallen n ((if_neg hF').trans (if_pos hs)))
      · have hF' : F x ≠ none := hF.resolve_left fun z => (by cases z)
        exact k_done ((if_neg hF').trans (if_neg hs)) H' kc' ks' L' Y' kp gr
    | lim x a =>
      refine ⟨_, rfl, rfl, _, rfl, ?_⟩
      refine if_false_of (show decide (V.str ("limit" : Str) = V.str ("put" : Str)) = false by decide +kernel) ?_
      refine ⟨_, rfl, rfl, _, rfl, ?_⟩
      refine if_false_of (show decide (V.str ("limit" : Str) = V.str ("sync" : Str)) = false by decide +kernel) ?_
      refine ⟨_, rfl, rfl, _, rfl, ?_⟩
      refine if_false_of (show decide (V.str ("limit" : Str) = V.str ("cut" : Str)) = false by decide +kernel) ?_
      refine ⟨_, rfl, rfl, _, rfl, ?_⟩
      refine if_false_of (show decide (V.str ("limit" : Str) = V.str ("strike" : Str)) = false by decide +kernel) ?_
      refine ⟨_, rfl, p, dx, _, rfl, ob, dk_no (by decide +kernel) (by decide +kernel) (by decide +kernel) (by decide +kernel), _, rfl, p, dx, c, s, n, l, a, rfl, ob, fun hb => caught_limit T (k_lim a (if_pos hb)), fun hb => ?_⟩
      exact k_done (if_neg hb) _ kc ks L Y.inst (Kp.at (.inl rfl)) Grow.refl
end
end L2.Kd

namespace L2.Kd
open PySem PySem.Spec PyProof.Rows L2.Ex
section
variable {P : Program} {w : World} {K : PySem.W.Frag} {mg : Str → Option Value} {base : Heap} {A : Ad} {D : Fd}
theorem ModAt.has {m f : Addr} {kf : List (Key × V)} {R E : Str → Addr} {F : FM} {n : Int} {l : Option Int} {H : Hp} (M : ModAt H m f kf R E F n l) {x : Str} : valV kf (.inr x) = none ↔ F x = none := by
  constructor
  · intro h
    cases e : F x with
    | none => rfl
    | some r =>
      rw [(M.ye x r.1 r.2 e).1] at h
      cases h
  · exact M.no x
theorem ModAt.get {m f : Addr} {kf : List (Key × V)} {R E : Str → Addr} {F : FM} {n : Int} {l : Option Int} {H : Hp} (M : ModAt H m f kf R E F n l) {x : Str} (h : F x ≠ none) :
    valV kf (.inr x) = some (.ref (R x)) ∧ H (R x) = some (.lst [.ref (E x), .int (synOf F x)]) ∧ H (E x) = some (.lst (cellsOf F x)) := by
  obtain ⟨cs, m, e⟩ := ne_some h
  obtain ⟨e1, e2⟩ := cells_some e
  rw [e1, e2]
  exact M.ye x cs m e
/-- the row of x and all other rows and cells stand apart -/
def DiffM (H : Hp) (R E : Str → Addr) (F : FM) (x : Str) : Prop := ∀ y, y ≠ x → F y ≠ none → R y ≠ R x ∧ E y ≠ R x ∧ True ∧ True
theorem ModAt.diff {m f : Addr} {kf : List (Key × V)} {R E : Str → Addr} {F : FM} {n : Int} {l : Option Int} {H : Hp} (M : ModAt H m f kf R E F n l) (C : Cl F) {x : Str} (hx : F x ≠ none) : DiffM H R E F x := fun y hy hF =>
  ⟨fun z => hy (M.inj y x hF hx z), (M.cell_ne C (M.get hx).2.1 hF).symm, trivial, trivial⟩
theorem setM_id {F : FM} {x : Str} (h : F x ≠ none) : setM F x (cellsOf F x, synOf F x) = F := by
  obtain ⟨cs, m, e⟩ := ne_some h
  obtain ⟨e1, e2⟩ := cells_some e
  funext y
  by_cases hy : y = x
  · rw [hy, setM_same, e1, e2, e]
  · rw [setM_ne hy]
theorem Cl.set {F : FM} {x : Str} {r : List V × Int} (C : Cl F) (h : ∀ v ∈ r.1, isC v = true) : Cl (setM F x r) := by
  intro y cs k e
  by_cases hy : y = x
  · rw [hy, setM_same] at e
    cases e
    exact h
  · rw [setM_ne hy] at e
    exact C y cs k e
theorem Cl.cells {F : FM} (C : Cl F) (x : Str) : ∀ v ∈ cellsOf F x, isC v = true := by
  cases e : F x with
  | none => rw [(cells_none e).1]; intro v hv; cases hv
  | some r => rw [(cells_some (cs := r.1) (m := r.2) e).1]; exact C x r.1 r.2 e
theorem cells_set {F : FM} {x : Str} {cs : List V} {k : Int} : cellsOf (setM F x (cs, k)) x = cs ∧ synOf (setM F x (cs, k)) x = k := cells_some setM_same
def spDue : Sp := fun vs H Q _ => ∃ (m f : Addr) (kf : List (Key × V)) (R E : Str → Addr) (F : FM) (n : Int) (l : Option Int) (o : Op), vs = [.ref m, .str o.deed, .str o.nm, o.arg] ∧ ModAt H m f kf R E F n l ∧ Cl F ∧ kf.length < 1000 ∧ (cellsOf F o.nm).length < 1000 ∧
  ∀ (q : Addr) (H' : Hp) (kf' : List (Key × V)) (R' E' : Str → Addr), ModAt H' m f kf' R' E' (o.after F n l).1 (o.after F n l).2.1 (o.after F n l).2.2 → Kp (fpM m f R E F) H H' → Grow (fpM m f R E F) (fpM m f R' E' (o.after F n l).1) H →
    H' q = some (.tup (o.out F n l).tup) → Q (.ref q) H'
theorem ok_law_due (T : Tx K mg A D) : FnOk P w K mg base CX0 4 A.f_law_due D.f_law_due ["_law_model", "_law_deed", "_law_name", "_law_arg"] spDue := by
  refine T.F_law_due.ok sc_law_due (fun vs H Q E h => ?_) (fun cdv A' outer s H vs Q E hr h => ?_)
  · obtain ⟨m, f, kf, R, E, F, n, l, o, rfl, _⟩ := h
    rfl
  · obtain ⟨m, f, kf, R, E', F, n, l, o, rfl, M, C, hz, hlen, k⟩ := h
    have hu := hu_of hr
    refine ⟨_, ((pss_cons (ps_set (i := 4) sc_law_due.nd rfl (Or.inl rfl) (pe_ix ix_list (pv 0) pe_int (fun _ _ => rfl)))
      (pss_cons (ps_if (pt_cmpR op_eq (pv 1) pe_str (nomark _)) (pss_cons (ps_if (PW.pt (pw_and (pt_cmpR op_notN (pv 3) pe_non (nomark _)) (pw_and1 (pt_cmpR op_lt (pv 3) (pe_ix ix_list (pv 0) pe_int (fun _ _ => rfl)) (nomark _))))) (pss_one (ps_ret (pe_tup (pa_cons pe_str (pa_cons (pv 3) (pa_cons pe_bl pa_nil)))))) pss_nil)
      (pss_cons (ps_asg (pv 3) (pg_sub (pv 0) pe_int set_list))
      (pss_one (ps_ret (pe_tup (pa_cons pe_str (pa_cons pe_bl (pa_cons pe_bl pa_nil)))))))) pss_nil)
      (pss_cons (ps_if (PW.pt (pw_and (pt_cmpR op_ne (pv 1) pe_str (nomark _)) (pw_and1 (pt_cmp (pc_dnotin hu (pv 2) (pv 4)))))) (pss_one (ps_ret (pe_tup (pa_cons pe_str (pa_cons (pv 2) (pa_cons pe_bl pa_nil)))))) pss_nil)
      (pss_cons (ps_if (PW.pt (pw_and (pt_cmpR op_notN (pe_ix ix_list (pv 0) pe_int (fun _ _ => rfl)) pe_non (nomark _)) (pw_and1 (pt_cmpR op_ge (pe_ix ix_list (pv 0) pe_int (fun _ _ => rfl)) (pe_ix ix_list (pv 0) pe_int (fun _ _ => rfl)) (nomark _))))) (pss_one (ps_ret (pe_tup (pa_cons pe_str (pa_cons (pe_ix ix_list (pv 0) pe_int (fun _ _ => rfl)) (pa_cons pe_bl pa_nil)))))) pss_nil)
      (pss_cons (ps_augS (pv 0) pe_int get_list pe_int ip_add set_list)
      (pss_cons (ps_if (pt_cmpR op_eq (pv 1) pe_str (nomark _)) (pss_cons (ps_expr (pe_dpop1 (pv 4) (pv 2) ⟨rfl, rfl, rfl, rfl⟩))
      (pss_one (ps_ret (pe_tup (pa_cons pe_str (pa_cons pe_bl (pa_cons pe_bl pa_nil))))))) pss_nil)
      (pss_cons (ps_set (i := 5) sc_law_due.nd rfl (Or.inl rfl) (pe_dsetd (pv 4) (pv 2) (pe_lst (pa_cons (pe_lst pa_nil) (pa_cons pe_int pa_nil))) ⟨rfl, rfl, rfl, rfl⟩))
      (pss_cons (ps_if (pt_cmpR op_eq (pv 1) pe_str (nomark _)) (pss_one (ps_asg (pe_op op_cat (pe_ix ix_list (pv 5) pe_int (fun _ _ => rfl)) (pe_lst (pa_cons (pv 3) pa_nil))) (pg_sub (pv 5) pe_int set_list))) (pss_one (ps_if (pt_cmpR op_eq (pv 1) pe_str (nomark _)) (pss_one (ps_asg (pe_callB call_len_seq (by rfl) T.b_len (by decide +kernel) (pa_cons (pe_ix ix_list (pv 5) pe_int (fun _ _ => rfl)) pa_nil)) (pg_sub (pv 5) pe_int set_list))) (pss_cons (ps_asg (pe_slice sl_list (pe_ix ix_list (pv 5) pe_int (fun _ _ => rfl)) po_none (po_some (pv 3))) (pg_sub (pv 5) pe_int set_list))
      (pss_one (ps_asg (pe_callB (call_min2 rfl) (by rfl) T.b_min (by decide +kernel) (pa_cons (pe_ix ix_list (pv 5) pe_int (fun _ _ => rfl)) (pa_cons (pv 3) pa_nil))) (pg_sub (pv 5) pe_int set_list)))))))
      (pss_one (ps_ret (pe_tup (pa_cons pe_str (pa_cons pe_bl (pa_cons pe_bl pa_nil))))))))))))))), ?_⟩
    have hm := M.hm
    have new_q : ∀ {H' : Hp} {kf' : List (Key × V)} {R' E2 : Str → Addr} {F' : FM} {n' : Int} {l' : Option Int} {q : Addr} {u : HO}, ModAt H' m f kf' R' E2 F' n' l' → H' q = none → ModAt (upd H' q u) m f kf' R' E2 F' n' l' := fun M' hq => M'.keep fun b o _ h => by
      rw [upd_ne (ne_of_none h hq)]
      exact h
    have kp_q : ∀ {H' : Hp} {q : Addr} {u : HO}, Kp (fpM m f R E' F) H H' → H' q = none → Kp (fpM m f R E' F) H (upd H' q u) := fun kp hq b o h1 h2 => by
      have := kp b o h1 h2
      rw [upd_ne (ne_of_none this hq)]
      exact this
    have k_not : (o.after F n l) = (F, n, l) → ∀ q, H q = none → Q (.ref q) (upd H q (.tup (o.out F n l).tup)) := fun e q hq => by
      have := k q (upd H q (.tup (o.out F n l).tup)) kf R E'
      rw [e] at this
      exact this (new_q M hq) (kp_q (Kp.refl _ _) hq) Grow.refl upd_same
    have k_done : o.out F n l = .done → ∀ H' kf' R' E2, ModAt H' m f kf' R' E2 (o.F1 F) (o.n1 n) (o.l1 l) → Kp (fpM m f R E' F) H H' → Grow (fpM m f R E' F) (fpM m f R' E2 (o.F1 F)) H →
        ∀ q, H' q = none → Q (.ref q) (upd H' q (.tup [.str "done", .bl true, .bl true])) := fun e H' kf' R' E2 M' kp gr q hq => by
      have := k q (upd H' q (.tup [.str "done", .bl true, .bl true])) kf' R' E2
      rw [after_done e, e] at this
      exact this (new_q M' hq) (kp_q kp hq) gr upd_same
    -- files_here = model[0]
    refine ⟨_, rfl, m, _, _, .ref f, rfl, rfl, SqL.of hm, rfl, ?_⟩
    -- the limit, for a step on files
    have lim_at : ∀ {H1 : Hp}, H1 m = some (.lst [.ref f, .int n, limV l]) → ∀ (t1 t2 : TS) (Dd : Ends) (σ : St), σ[0]? = some (some (.ref m)) → (stop n l → t1 Dd σ H1) → (¬ stop n l → t2 Dd σ H1) →
        (tIfS (tAnd (tTest (tOp (fun x y H Q => y = .non ∧ Q (.bl (!decide (x = .non))) H) (tOp (rIxL K) (tVar 0) (tC (.int 2))) (tC .non))) (tTest (tOp (rI0 fun i j => .bl (decide (j ≤ i))) (tOp (rIxL K) (tVar 0) (tC (.int 1))) (tOp (rIxL K) (tVar 0) (tC (.int 2)))))) t1 t2 : TS) Dd σ H1 := by
      intro H1 h1 t1 t2 Dd σ hσ k1 k2
      refine ⟨_, hσ, m, _, _, limV l, rfl, rfl, SqL.of h1, rfl, rfl, _, rfl, ?_⟩
      cases l with
      | none =>
        refine iteF ?_
        refine iteF ?_
        exact k2 (fun z => z)
      | some i =>
        refine iteT ?_
        refine ⟨_, hσ, m, _, _, .int n, rfl, rfl, SqL.of h1, rfl, _, hσ, m, _, _, .int i, rfl, rfl, SqL.of h1, rfl, _, _, rfl, rfl, _, rfl, ?_⟩
        by_cases hs : i ≤ n
        · refine if_true_of (decide_eq_true hs) ?_
          exact k1 (show i < n + 1 by omega)
        · refine if_false_of (decide_eq_false hs) ?_
          exact k2 (fun z : i < n + 1 => hs (by omega))
    have fell : (o.after F n l) = (F, n, l) → o.out F n l = .fallen n → ∀ (σ : St), σ[0]? = some (some (.ref m)) → (tRet (tTup (tCons (tC (.str "fallen")) (tCons (tOp (rIxL K) (tVar 0) (tC (.int 1))) (tCons (tC (.bl true)) tNil)))) : TS) { nx := fun _ H' => Q .non H', rt := Q } σ H := by
      intro e1 e2 σ hσ
      refine ⟨_, hσ, m, _, _, .int n, rfl, rfl, SqL.of hm, rfl, by show 3 ≤ sizeLine; decide, fun q hq => ?_⟩
      have := k_not e1 q hq
      rw [e2] at this
      exact this
    have ready : ∀ (x : Str) (σ : St), σ[4]? = some (some (.ref f)) → σ[2]? = some (some (.str x)) → ∀ (Qk : V → Hp → Prop),
        (∀ ρ H2 kf2 R2 E2, ModAt H2 m f kf2 R2 E2 (setM F x (cellsOf F x, synOf F x)) (n + 1) l → Cl (setM F x (cellsOf F x, synOf F x)) → R2 x = ρ → Kp (fpM m f R E' F) H H2 → Grow (fpM m f R E' F) (fpM m f R2 E2 (setM F x (cellsOf F x, synOf F x))) H →
          (∀ q, H2 q = none → H q = none) → Qk (.ref ρ) H2) →
        tDSetd (tVar 4) (tVar 2) (tLst (tCons (tLst tNil) (tCons (tC (.int 0)) tNil))) σ (upd H m (.lst ([.ref f, .int n, limV l].set 1 (.int (n + 1))))) Qk := by
      intro x σ h4 h2 Qk kk
      have M1 : ModAt (upd H m (.lst ([.ref f, .int n, limV l].set 1 (.int (n + 1))))) m f kf R E' F (n + 1) l := M.inst C
      have kp1 : Kp (fpM m f R E' F) H (upd H m (.lst ([.ref f, .int n, limV l].set 1 (.int (n + 1))))) := Kp.at (.inl rfl)
      have fr1 : ∀ q, upd H m (.lst ([.ref f, .int n, limV l].set 1 (.int (n + 1)))) q = none → H q = none := fun q hq => by
        by_cases e : q = m
        · rw [e, upd_same] at hq; cases hq
        · rw [upd_ne e] at hq; exact hq
      generalize upd H m (.lst ([.ref f, .int n, limV l].set 1 (.int (n + 1)))) = H1 at M1 kp1 fr1
      refine ⟨_, h4, f, rfl, .inl ⟨_, .inl M1.hf⟩, _, h2, Nat.zero_le _, fun e0 he0 => ?_⟩
      have ne0 : ∀ {a : Addr} {o : HO}, H1 a = some o → a ≠ e0 := fun h => ne_of_none h he0
      refine ⟨by show 2 ≤ sizeLine; decide, fun r0 hr0 => ?_⟩
      have r0e : r0 ≠ e0 := fun z => by rw [z, upd_same] at hr0; cases hr0
      have hr1 : H1 r0 = none := by rw [upd_ne r0e] at hr0; exact hr0
      have nr0 : ∀ {a : Addr} {o : HO}, H1 a = some o → a ≠ r0 := fun h => ne_of_none h hr1
      have C2 : Cl (setM F x (cellsOf F x, synOf F x)) := C.set (C.cells x)
      have fr2 : ∀ q u u', upd (upd H1 e0 u) r0 u' q = none → H q = none := fun q u u' hq => by
        by_cases z : q = r0
        · rw [z, upd_same] at hq; cases hq
        · rw [upd_ne z] at hq
          by_cases z2 : q = e0
          · rw [z2, upd_same] at hq; cases hq
          · rw [upd_ne z2] at hq; exact fr1 q hq
      have kp2 : ∀ u u', Kp (fpM m f R E' F) H (upd (upd H1 e0 u) r0 u') := fun u u' a o h1 h3 => by
        have h4 := kp1 a o h1 h3
        rw [upd_ne (nr0 h4), upd_ne (ne0 h4)]
        exact h4
      have st2 : ∀ u u' {a : Addr} {o : HO}, H1 a = some o → upd (upd H1 e0 u) r0 u' a = some o := fun u u' {a o} h => by rw [upd_ne (nr0 h), upd_ne (ne0 h)]; exact h
      refine ⟨kf, Sum.inr x, st2 _ _ M1.hf, rfl, small1000 (by omega), fun v hv => ?_, fun hv => ?_⟩
      · have hx : F x ≠ none := fun z => by rw [M.has.mpr z] at hv; cases hv
        have e1 : v = .ref (R x) := Option.some.inj (hv.symm.trans (M1.get hx).1)
        rw [e1]
        refine kk (R x) _ kf R E' ?_ C2 rfl (kp2 _ _) ?_ (fun q => fr2 q _ _)
        · rw [setM_id hx]
          exact M1.keep fun b o _ h => st2 _ _ h
        · rw [setM_id hx]
          exact Grow.refl
      · have hx : F x = none := M.has.mp hv
        obtain ⟨ec, es⟩ := cells_none hx
        rw [ec, es] at kk C2
        have e0r : e0 ≠ r0 := fun z => r0e z.symm
        refine kk r0 _ (putK kf (.inr x) (.ref r0)) (setL R x r0) (setL E' x e0) (M1.set (n' := n + 1) (l' := l) ?_ upd_same (Put1.put kf x _) ?_ ?_ ?_) C2 setL_same ?_ ?_ ?_
        · rw [upd_ne M1.mf.1]
          exact st2 _ _ M1.hm
        · rw [upd_ne (nr0 M1.hf).symm, upd_same]
        · rw [upd_ne (ne0 M1.hf).symm, upd_ne e0r, upd_same]
        · intro y hy hF
          obtain ⟨g1, g2, g3⟩ := M1.get hF
          exact ⟨nr0 g2, by rw [upd_ne (M1.mf.2 y hF).2.1.symm, upd_ne (nr0 g2), upd_ne (ne0 g2)], by rw [upd_ne (M1.mf.2 y hF).2.2.symm, upd_ne (nr0 g3), upd_ne (ne0 g3)]⟩
        · intro a o h1 h3
          rw [upd_ne fun z => h3 (by rw [z]; exact .inr (.inl rfl))]
          exact kp2 _ _ a o h1 h3
        · exact growM_set (.inr (fr1 r0 hr1)) (.inr (fr1 e0 he0))
        · intro q hq
          by_cases z : q = f
          · rw [z, upd_same] at hq; cases hq
          · rw [upd_ne z] at hq
            exact fr2 q _ _ hq
    have fin : ∀ (x : Str) (H2 H3 : Hp) (kf2 : List (Key × V)) (R2 E2 : Str → Addr) (ε : Addr) (r : List V × Int), o.out F n l = .done → o.F1 F = setM F x r → o.n1 n = n + 1 → o.l1 l = l →
        ModAt H3 m f kf2 (setL R2 x (R2 x)) (setL E2 x ε) (setM (setM F x (cellsOf F x, synOf F x)) x r) (n + 1) l → Kp (fpM m f R E' F) H H2 → Grow (fpM m f R E' F) (fpM m f R2 E2 (setM F x (cellsOf F x, synOf F x))) H →
        (∀ q, H2 q = none → H q = none) → (∀ a u, H2 a = some u → a ≠ R2 x → H3 a = some u) → (ε = E2 x ∨ H2 ε = none) → ∀ q, H3 q = none → Q (.ref q) (upd H3 q (.tup [.str "done", .bl true, .bl true])) := by
      intro x H2 H3 kf2 R2 E2 ε r e1 e2 e3 e4 M3 kp2 gr2 fr2 st hε q hq
      have hX : setM F x (cellsOf F x, synOf F x) x ≠ none := by rw [setM_same]; simp
      rw [setM_idem] at M3
      refine k_done e1 H3 kf2 (setL R2 x (R2 x)) (setL E2 x ε) (by rw [e2, e3, e4]; exact M3) ?_ ?_ q hq
      · refine kp2.trans (B := fpM m f R2 E2 (setM F x (cellsOf F x, synOf F x))) ?_ gr2
        intro a u h1 h2
        exact st a u h1 fun z => h2 (by rw [z]; exact fpM_R hX)
      · rw [e2]
        intro a ha
        have hh : fpM m f R2 E2 (setM F x (cellsOf F x, synOf F x)) ε ∨ H2 ε = none := hε.imp (fun z => by rw [z]; exact fpM_E hX) fun z => z
        rcases growM_set (H := H2) (q := r) (.inl (fpM_R hX)) hh a (by rw [setM_idem]; exact ha) with h | h
        · exact gr2 a h
        · exact .inr (fr2 a h)
    cases o with
    | lim x a =>
      refine ⟨_, rfl, rfl, _, rfl, ?_⟩
      refine if_true_of (show decide (V.str ("limit" : Str) = V.str ("limit" : Str)) = true by decide +kernel) ?_
      have set_ : ¬ badL n a → (tSeq (tAsg (tVar 3) (gSub (tVar 0) (tC (.int 2)) rSetL)) (tRet (tTup (tCons (tC (.str "done")) (tCons (tC (.bl true)) (tCons (tC (.bl true)) tNil))))) : TS) { nx := fun _ H' => Q .non H', rt := Q } [some (.ref m), some (.str "limit"), some (.str x), some (limV a), some (.ref f), none] H := by
        intro hb
        refine ⟨_, rfl, _, rfl, m, _, _, 2, rfl, rfl, hm, rfl, ?_⟩
        refine ⟨by show 3 ≤ sizeLine; decide, fun q hq => ?_⟩
        exact k_done (if_neg hb) _ kf R E' (M.inst C) (Kp.at (.inl rfl)) Grow.refl q hq
      refine ⟨_, rfl, rfl, _, rfl, ?_⟩
      cases a with
      | none =>
        refine iteF ?_
        refine iteF ?_
        exact set_ (fun z => z)
      | some i =>
        refine iteT ?_
        refine ⟨_, rfl, _, rfl, m, _, _, .int n, rfl, rfl, SqL.of hm, rfl, _, _, rfl, rfl, _, rfl, ?_⟩
        by_cases hb : i < n
        · refine if_true_of (decide_eq_true hb) ?_
          refine ⟨_, rfl, by show 3 ≤ sizeLine; decide, fun q hq => ?_⟩
          have e : (Op.lim x (some i)).out F n l = .lim (some i) := if_pos hb
          have := k_not (after_lim e) q hq
          rw [e] at this
          exact this
        · refine if_false_of (decide_eq_false hb) ?_
          exact set_ hb
    | put x v =>
      refine ⟨_, rfl, rfl, _, rfl, ?_⟩
      refine if_false_of (show decide (V.str ("put" : Str) = V.str ("limit" : Str)) = false by decide +kernel) ?_
      refine ⟨_, rfl, rfl, _, rfl, ?_⟩
      refine if_false_of (show (!decide (V.str ("put" : Str) = V.str ("put" : Str))) = false by decide +kernel) ?_
      refine if_false_of rfl ?_
      refine lim_at hm _ _ _ _ rfl (fun hs => fell (after_fallen (if_pos hs)) (if_pos hs) _ rfl) fun hs => ?_
      refine ⟨_, rfl, m, _, _, .int n, rfl, rfl, SqL.of hm, rfl, _, _, rfl, rfl, m, _, _, 1, rfl, rfl, hm, rfl, ?_⟩
      refine ⟨_, rfl, rfl, _, rfl, ?_⟩
      refine if_false_of (show decide (V.str ("put" : Str) = V.str ("strike" : Str)) = false by decide +kernel) ?_
      refine ready x _ rfl rfl _ fun ρ H2 kf2 R2 E2 M2 C2 eR kp2 gr2 fr2 => ?_
      subst eR
      have hX : setM F x (cellsOf F x, synOf F x) x ≠ none := by rw [setM_same]; simp
      obtain ⟨g1, g2, g3⟩ := M2.get hX
      rw [cells_set.2] at g2
      rw [cells_set.1] at g3
      have dM := M2.diff C2 hX
      obtain ⟨nm1, nf1, nf2⟩ := M2.mf.2 x hX
      have nmf := M2.mf.1
      refine ⟨_, rfl, rfl, _, rfl, ?_⟩
      refine if_true_of (show decide (V.str ("put" : Str) = V.str ("put" : Str)) = true by decide +kernel) ?_
      refine ⟨_, rfl, R2 x, _, _, .ref (E2 x), rfl, rfl, SqL.of g2, rfl, _, rfl, by show 1 ≤ sizeLine; decide, fun b hb => ?_⟩
      have nb : ∀ {a : Addr} {o : HO}, H2 a = some o → a ≠ b := fun h => ne_of_none h hb
      refine ⟨E2 x, b, _, _, rfl, rfl, by rw [upd_ne (nb g3)]; exact g3, upd_same, by rw [List.length_singleton, sizeLine_eq]; have : (cellsOf F x).length < 1000 := hlen; omega, fun t ht => ?_⟩
      have ht0 : H2 t = none := by
        by_cases z : t = b
        · rw [z]; exact hb
        · rw [upd_ne z] at ht; exact ht
      have nt : ∀ {a : Addr} {o : HO}, H2 a = some o → a ≠ t := fun h => ne_of_none h ht0
      refine ⟨_, rfl, R2 x, _, _, 0, rfl, rfl, by rw [upd_ne (nt g2), upd_ne (nb g2)]; exact g2, rfl, ?_⟩
      refine ⟨by show 3 ≤ sizeLine; decide, fun q hq => ?_⟩
      refine fin x H2 _ kf2 R2 E2 t (cellsOf F x ++ [v], synOf F x) (if_neg hs) rfl rfl rfl (M2.set (n' := n + 1) (l' := l) ?_ ?_ (Put1.stay g1) upd_same ?_ fun y hy hF => ?_) kp2 gr2 fr2 ?_ (.inr ht0) q hq
      · rw [upd_ne nm1, upd_ne (nt M2.hm), upd_ne (nb M2.hm)]; exact M2.hm
      · rw [upd_ne nf1, upd_ne (nt M2.hf), upd_ne (nb M2.hf)]; exact M2.hf
      · rw [upd_ne (nt g2).symm, upd_same]; rfl
      · obtain ⟨d1, d2, _⟩ := dM y hy hF
        obtain ⟨o1, hR⟩ := M2.dom _ (fpM_R hF)
        obtain ⟨o2, hE⟩ := M2.dom _ (fpM_E hF)
        exact ⟨d1, by rw [upd_ne d1, upd_ne (nt hR), upd_ne (nb hR)], by rw [upd_ne d2, upd_ne (nt hE), upd_ne (nb hE)]⟩
      · intro a u h1 h2
        rw [upd_ne h2, upd_ne (nt h1), upd_ne (nb h1)]
        exact h1
    | sync x v =>
      refine ⟨_, rfl, rfl, _, rfl, ?_⟩
      refine if_false_of (show decide (V.str ("sync" : Str) = V.str ("limit" : Str)) = false by decide +kernel) ?_
      refine ⟨_, rfl, rfl, _, rfl, ?_⟩
      refine if_true_of (show (!decide (V.str ("sync" : Str) = V.str ("put" : Str))) = true by decide +kernel) ?_
      refine ⟨_, rfl, _, rfl, f, _, rfl, DGet.k (k := Sum.inr x) M.hf, _, rfl, ?_⟩
      by_cases hF : F x = none
      · refine if_true_of (by rw [M.has.mpr hF]; rfl) ?_
        refine ⟨_, rfl, by show 3 ≤ sizeLine; decide, fun q hq => ?_⟩
        have := k_not (after_file (if_pos hF)) q hq
        rw [show Op.out (.sync x v) F n l = .file x from if_pos hF] at this
        exact this
      refine if_false_of (by rw [(M.get hF).1]; rfl) ?_
      refine lim_at hm _ _ _ _ rfl (fun hs => fell (after_fallen ((if_neg hF).trans (if_pos hs))) ((if_neg hF).trans (if_pos hs)) _ rfl) fun hs => ?_
      refine ⟨_, rfl, m, _, _, .int n, rfl, rfl, SqL.of hm, rfl, _, _, rfl, rfl, m, _, _, 1, rfl, rfl, hm, rfl, ?_⟩
      refine ⟨_, rfl, rfl, _, rfl, ?_⟩
      refine if_false_of (show decide (V.str ("sync" : Str) = V.str ("strike" : Str)) = false by decide +kernel) ?_
      refine ready x _ rfl rfl _ fun ρ H2 kf2 R2 E2 M2 C2 eR kp2 gr2 fr2 => ?_
      subst eR
      have hX : setM F x (cellsOf F x, synOf F x) x ≠ none := by rw [setM_same]; simp
      obtain ⟨g1, g2, g3⟩ := M2.get hX
      rw [cells_set.2] at g2
      rw [cells_set.1] at g3
      have dM := M2.diff C2 hX
      obtain ⟨nm1, nf1, nf2⟩ := M2.mf.2 x hX
      have nmf := M2.mf.1
      refine ⟨_, rfl, rfl, _, rfl, ?_⟩
      refine if_false_of (show decide (V.str ("sync" : Str) = V.str ("put" : Str)) = false by decide +kernel) ?_
      refine ⟨_, rfl, rfl, _, rfl, ?_⟩
      refine if_true_of (show decide (V.str ("sync" : Str) = V.str ("sync" : Str)) = true by decide +kernel) ?_
      refine ⟨_, rfl, R2 x, _, _, .ref (E2 x), rfl, rfl, SqL.of g2, rfl, E2 x, _, rfl, .inl (SqL.of g3), _, rfl, R2 x, _, _, 1, rfl, rfl, g2, rfl, ?_⟩
      refine ⟨by show 3 ≤ sizeLine; decide, fun q hq => ?_⟩
      refine fin x H2 _ kf2 R2 E2 (E2 x) (cellsOf F x, ((cellsOf F x).length : Int)) ((if_neg hF).trans (if_neg hs)) rfl rfl rfl (M2.set (n' := n + 1) (l' := l) ?_ ?_ (Put1.stay g1) upd_same ?_ fun y hy hF => ?_) kp2 gr2 fr2 ?_ (.inl rfl) q hq
      · rw [upd_ne nm1]; exact M2.hm
      · rw [upd_ne nf1]; exact M2.hf
      · rw [upd_ne (M2.cell_ne C2 g2 hX).symm]; exact g3
      · obtain ⟨d1, d2, _⟩ := dM y hy hF
        exact ⟨d1, by rw [upd_ne d1], by rw [upd_ne d2]⟩
      · intro a u h1 h2
        rw [upd_ne h2]
        exact h1
    | cut x v =>
      refine ⟨_, rfl, rfl, _, rfl, ?_⟩
      refine if_false_of (show decide (V.str ("cut" : Str) = V.str ("limit" : Str)) = false by decide +kernel) ?_
      refine ⟨_, rfl, rfl, _, rfl, ?_⟩
      refine if_true_of (show (!decide (V.str ("cut" : Str) = V.str ("put" : Str))) = true by decide +kernel) ?_
      refine ⟨_, rfl, _, rfl, f, _, rfl, DGet.k (k := Sum.inr x) M.hf, _, rfl, ?_⟩
      by_cases hF : F x = none
      · refine if_true_of (by rw [M.has.mpr hF]; rfl) ?_
        refine ⟨_, rfl, by show 3 ≤ sizeLine; decide, fun q hq => ?_⟩
        have := k_not (after_file (if_pos hF)) q hq
        rw [show Op.out (.cut x v) F n l = .file x from if_pos hF] at this
        exact this
      refine if_false_of (by rw [(M.get hF).1]; rfl) ?_
      refine lim_at hm _ _ _ _ rfl (fun hs => fell (after_fallen ((if_neg hF).trans (if_pos hs))) ((if_neg hF).trans (if_pos hs)) _ rfl) fun hs => ?_
      refine ⟨_, rfl, m, _, _, .int n, rfl, rfl, SqL.of hm, rfl, _, _, rfl, rfl, m, _, _, 1, rfl, rfl, hm, rfl, ?_⟩
      refine ⟨_, rfl, rfl, _, rfl, ?_⟩
      refine if_false_of (show decide (V.str ("cut" : Str) = V.str ("strike" : Str)) = false by decide +kernel) ?_
      refine ready x _ rfl rfl _ fun ρ H2 kf2 R2 E2 M2 C2 eR kp2 gr2 fr2 => ?_
      subst eR
      have hX : setM F x (cellsOf F x, synOf F x) x ≠ none := by rw [setM_same]; simp
      obtain ⟨g1, g2, g3⟩ := M2.get hX
      rw [cells_set.2] at g2
      rw [cells_set.1] at g3
      have dM := M2.diff C2 hX
      obtain ⟨nm1, nf1, nf2⟩ := M2.mf.2 x hX
      have nmf := M2.mf.1
      refine ⟨_, rfl, rfl, _, rfl, ?_⟩
      refine if_false_of (show decide (V.str ("cut" : Str) = V.str ("put" : Str)) = false by decide +kernel) ?_
      refine ⟨_, rfl, rfl, _, rfl, ?_⟩
      refine if_false_of (show decide (V.str ("cut" : Str) = V.str ("sync" : Str)) = false by decide +kernel) ?_
      refine ⟨_, rfl, R2 x, _, _, .ref (E2 x), rfl, rfl, SqL.of g2, rfl, _, rfl, v, rfl, E2 x, _, rfl, SqL.of g3, fun t ht => ?_⟩
      have nt : ∀ {a : Addr} {o : HO}, H2 a = some o → a ≠ t := fun h => ne_of_none h ht
      refine ⟨_, rfl, R2 x, _, _, 0, rfl, rfl, by rw [upd_ne (nt g2)]; exact g2, rfl, ?_⟩
      refine ⟨_, rfl, R2 x, _, _, .int (synOf F x), rfl, rfl, SqL.of upd_same, rfl, _, rfl, _, v, rfl, _, rfl, R2 x, _, _, 1, rfl, rfl, upd_same, rfl, ?_⟩
      refine ⟨by show 3 ≤ sizeLine; decide, fun q hq => ?_⟩
      refine fin x H2 _ kf2 R2 E2 t (cutV (cellsOf F x) none (some v), if v < synOf F x then v else synOf F x) ((if_neg hF).trans (if_neg hs)) rfl rfl rfl (M2.set (n' := n + 1) (l' := l) ?_ ?_ (Put1.stay g1) upd_same ?_ fun y hy hF => ?_) kp2 gr2 fr2 ?_ (.inr ht) q hq
      · rw [upd_ne nm1, upd_ne nm1, upd_ne (nt M2.hm)]; exact M2.hm
      · rw [upd_ne nf1, upd_ne nf1, upd_ne (nt M2.hf)]; exact M2.hf
      · rw [upd_ne (nt g2).symm, upd_ne (nt g2).symm, upd_same]
      · obtain ⟨d1, d2, _⟩ := dM y hy hF
        obtain ⟨o1, hR⟩ := M2.dom _ (fpM_R hF)
        obtain ⟨o2, hE⟩ := M2.dom _ (fpM_E hF)
        exact ⟨d1, by rw [upd_ne d1, upd_ne d1, upd_ne (nt hR)], by rw [upd_ne d2, upd_ne d2, upd_ne (nt hE)]⟩
      · intro a u h1 h2
        rw [upd_ne h2, upd_ne h2, upd_ne (nt h1)]
        exact h1
    | strike x v =>
      refine ⟨_, rfl, rfl, _, rfl, ?_⟩
      refine if_false_of (show decide (V.str ("strike" : Str) = V.str ("limit" : Str)) = false by decide +kernel) ?_
      refine ⟨_, rfl, rfl, _, rfl, ?_⟩
      refine if_true_of (show (!decide (V.str ("strike" : Str) = V.str ("put" : Str))) = true by decide +kernel) ?_
      refine ⟨_, rfl, _, rfl, f, _, rfl, DGet.k (k := Sum.inr x) M.hf, _, rfl, ?_⟩
      by_cases hF : F x = none
      · refine if_true_of (by rw [M.has.mpr hF]; rfl) ?_
        refine ⟨_, rfl, by show 3 ≤ sizeLine; decide, fun q hq => ?_⟩
        have := k_not (after_file (if_pos hF)) q hq
        rw [show Op.out (.strike x v) F n l = .file x from if_pos hF] at this
        exact this
      refine if_false_of (by rw [(M.get hF).1]; rfl) ?_
      refine lim_at hm _ _ _ _ rfl (fun hs => fell (after_fallen ((if_neg hF).trans (if_pos hs))) ((if_neg hF).trans (if_pos hs)) _ rfl) fun hs => ?_
      refine ⟨_, rfl, m, _, _, .int n, rfl, rfl, SqL.of hm, rfl, _, _, rfl, rfl, m, _, _, 1, rfl, rfl, hm, rfl, ?_⟩
      refine ⟨_, rfl, rfl, _, rfl, ?_⟩
      refine if_true_of (show decide (V.str ("strike" : Str) = V.str ("strike" : Str)) = true by decide +kernel) ?_
      have M1 : ModAt (upd H m (.lst ([.ref f, .int n, limV l].set 1 (.int (n + 1))))) m f kf R E' F (n + 1) l := M.inst C
      have kp1 : Kp (fpM m f R E' F) H (upd H m (.lst ([.ref f, .int n, limV l].set 1 (.int (n + 1))))) := Kp.at (.inl rfl)
      refine ⟨_, rfl, f, rfl, .inl ⟨_, .inl M1.hf⟩, _, rfl, kf, Sum.inr x, .ref (R x), M1.hf, rfl, (M1.get hF).1, ?_⟩
      refine ⟨by show 3 ≤ sizeLine; decide, fun q hq => ?_⟩
      refine k_done ((if_neg hF).trans (if_neg hs)) _ (dropK kf (.inr x)) R E' (M1.drop (n' := n + 1) (l' := l) ?_ upd_same fun y hy hF => ?_) ?_ ?_ q hq
      · rw [upd_ne M1.mf.1]; exact M1.hm
      · rw [upd_ne (M1.mf.2 y hF).2.1.symm, upd_ne (M1.mf.2 y hF).2.2.symm]
        exact ⟨rfl, rfl⟩
      · intro a o h1 h2
        rw [upd_ne fun z => h2 (by rw [z]; exact .inr (.inl rfl))]
        exact kp1 a o h1 h2
      · rintro b (rfl | rfl | ⟨y, hy, h⟩)
        · exact .inl (.inl rfl)
        · exact .inl (.inr (.inl rfl))
        · by_cases e : y = x
          · rw [e] at hy
            exact absurd dropM_same hy
          · have hy' : F y ≠ none := by rw [← dropM_ne (F := F) e]; exact hy
            exact .inl (.inr (.inr ⟨y, hy', h⟩))
end
end L2.Kd

namespace L2.Kd
open PySem PySem.Spec PyProof.Rows
/-! ## the sorted list of names is one -/
def leS (a b : Str) : Prop := a.cps.toList ≤ b.cps.toList
theorem leS_of {a b : Str} (h : ltCps b.cps.toList a.cps.toList = false) : leS a b := by
  rw [ltCps_eq] at h
  exact List.not_lt.mp (of_decide_eq_false h)
theorem rising_le : ∀ (l : List Str) (p : Str), risingS p l = true → (p :: l).Pairwise leS
  | [], p, _ => List.pairwise_cons.mpr ⟨fun _ h => (by cases h), List.Pairwise.nil⟩
  | x :: r, p, h => by
    have h' : (!ltCps x.cps.toList p.cps.toList && risingS x r) = true := h
    obtain ⟨h1, h2⟩ := Bool.and_eq_true_iff.mp h'
    have e := rising_le r x h2
    have px : leS p x := leS_of (by simpa using h1)
    refine List.pairwise_cons.mpr ⟨fun y hy => ?_, e⟩
    rcases List.mem_cons.mp hy with rfl | hy
    · exact px
    · exact List.le_trans px ((List.pairwise_cons.mp e).1 y hy)
theorem sorted_le {l : List Str} (h : sortedS l = true) : l.Pairwise leS := by
  cases l with
  | nil => exact List.Pairwise.nil
  | cons x r => exact rising_le r x h
theorem str_ext {a b : Str} (h : a.cps.toList = b.cps.toList) : a = b := by
  obtain ⟨a⟩ := a
  obtain ⟨b⟩ := b
  have : a = b := by
    apply Array.toList_inj.mp
    exact h
  rw [this]
theorem leS_anti {a b : Str} (h1 : leS a b) (h2 : leS b a) : a = b := str_ext (List.le_antisymm h1 h2)
theorem sorted_one : ∀ {l m : List Str}, l.Perm m → l.Pairwise leS → m.Pairwise leS → l = m
  | [], m, p, _, _ => (List.perm_nil.mp p.symm).symm
  | x :: r, [], p, _, _ => absurd p.length_eq (by simp)
  | x :: r, y :: s, p, h1, h2 => by
    obtain ⟨a1, a2⟩ := List.pairwise_cons.mp h1
    obtain ⟨b1, b2⟩ := List.pairwise_cons.mp h2
    have e : x = y := by
      have hx : x ∈ y :: s := p.mem_iff.mp List.mem_cons_self
      have hy : y ∈ x :: r := p.mem_iff.mpr List.mem_cons_self
      rcases List.mem_cons.mp hx with h | h
      · exact h
      · rcases List.mem_cons.mp hy with h' | h'
        · exact h'.symm
        · exact leS_anti (a1 y h') (b1 x h)
    subst e
    rw [sorted_one (List.Perm.cons_inv p) a2 b2]
theorem perm_of_mem : ∀ {l m : List Str}, l.Nodup → m.Nodup → (∀ x, x ∈ l ↔ x ∈ m) → l.Perm m
  | [], m, _, _, h => by
    have : m = [] := List.eq_nil_iff_forall_not_mem.mpr fun x hx => by cases (h x).mpr hx
    rw [this]
  | x :: r, m, h1, h2, h => by
    obtain ⟨a1, a2⟩ := List.nodup_cons.mp h1
    have hx : x ∈ m := (h x).mp List.mem_cons_self
    have p := List.perm_cons_erase hx
    refine List.Perm.trans (List.Perm.cons x (perm_of_mem a2 (h2.erase x) fun y => ?_)) p.symm
    rw [h2.mem_erase_iff]
    constructor
    · intro hy
      exact ⟨fun z => a1 (by rw [← z]; exact hy), (h y).mp (List.mem_cons_of_mem _ hy)⟩
    · rintro ⟨n, hy⟩
      rcases List.mem_cons.mp ((h y).mpr hy) with z | z
      · exact absurd z n
      · exact z
theorem sorted_eq {l m : List Str} (h1 : sortedS l = true) (h2 : sortedS m = true) (n1 : l.Nodup) (n2 : m.Nodup) (h : ∀ x, x ∈ l ↔ x ∈ m) : l = m := sorted_one (perm_of_mem n1 n2 h) (sorted_le h1) (sorted_le h2)
/-! ## data of cells -/
def cd : V → PyData
  | .int i => .int i
  | .str s => .str s
  | _ => .none
/-- cells whose repr is at hand -/
structure Rp (cs : List V) : Prop where
  sh : (PyData.list (cs.map cd)).showable = true
  ln : (PyData.list (cs.map cd)).shown.length ≤ sizeLine
theorem noDict_cells : ∀ cs : List V, PyData.hasDictAll (cs.map cd) = false
  | [] => rfl
  | v :: r => by
    rw [List.map_cons]
    unfold PyData.hasDictAll
    rw [noDict_cells r]
    cases v <;> rfl
theorem depth_cells : ∀ cs : List V, PyData.depthAll (cs.map cd) ≤ 1
  | [] => by show PyData.depthAll [] ≤ 1; unfold PyData.depthAll; omega
  | v :: r => by
    rw [List.map_cons]
    unfold PyData.depthAll
    have := depth_cells r
    have h2 : (cd v).depth ≤ 1 := by cases v <;> (unfold cd PyData.depth; omega)
    omega
theorem depth_list (cs : List V) : (PyData.list (cs.map cd)).depth ≤ 16 := by
  unfold PyData.depth
  have := depth_cells cs
  omega
/-- a cell of the law's: its repr is short -/
def CellOk (v : V) : Prop := (∃ i : Int, v = .int i ∧ i.natAbs < 2 ^ 40) ∨ v = .str "" ∨ v = .str "plain" ∨ v = .str "a b~"
theorem CellOk.isC {v : V} (h : CellOk v) : (match v with | .int _ => true | .str _ => true | _ => false) = true := by
  rcases h with ⟨i, rfl, _⟩ | rfl | rfl | rfl <;> rfl
theorem shown_cell {v : V} (h : CellOk v) : (cd v).showable = true ∧ (cd v).shown.length ≤ 100 := by
  rcases h with ⟨i, rfl, hi⟩ | rfl | rfl | rfl
  · refine ⟨decide_eq_true ?_, ?_⟩
    · have := PySem.Flt.log2_lt_of (k := 40) (by decide) hi
      show i.natAbs.log2 < 1920
      omega
    · have := int_text_length_le (k := 40) (by decide) (PySem.Flt.log2_lt_of (k := 40) (by decide) hi)
      show (Str.ofString (toString i)).length ≤ 100
      rw [PySem.ofString_length]
      omega
  · exact ⟨rfl, by decide +kernel⟩
  · exact ⟨rfl, by decide +kernel⟩
  · exact ⟨rfl, by decide +kernel⟩
theorem Rp.of {cs : List V} (h : ∀ v ∈ cs, CellOk v) (hl : cs.length ≤ 100) : Rp cs := by
  have h1 : ∀ l : List V, (∀ v ∈ l, CellOk v) → PyData.showableAll (l.map cd) = true := by
    intro l
    induction l with
    | nil => intro _; rfl
    | cons v r ih =>
      intro h
      rw [List.map_cons]
      unfold PyData.showableAll
      rw [(shown_cell (h v List.mem_cons_self)).1, ih fun w hw => h w (List.mem_cons_of_mem _ hw)]
      rfl
  have h2 : ∀ l : List V, (∀ v ∈ l, CellOk v) → ((PyData.shownAll (l.map cd)).map (·.length)).sum ≤ 100 * l.length ∧ (PyData.shownAll (l.map cd)).length = l.length := by
    intro l
    induction l with
    | nil => intro _; exact ⟨Nat.zero_le _, rfl⟩
    | cons v r ih =>
      intro h
      have a := (shown_cell (h v List.mem_cons_self)).2
      obtain ⟨b, c⟩ := ih fun w hw => h w (List.mem_cons_of_mem _ hw)
      rw [List.map_cons]
      unfold PyData.shownAll
      rw [List.map_cons, List.sum_cons, List.length_cons, List.length_cons, c]
      exact ⟨by omega, rfl⟩
  refine ⟨?_, ?_⟩
  · unfold PyData.showable
    exact h1 cs h
  · unfold PyData.shown
    obtain ⟨a, b⟩ := h2 cs h
    have := listText_len_le (PyData.shownAll (cs.map cd))
    rw [sizeLine_eq]
    omega
/-! ## lists of texts as data -/
theorem canLay_strs : ∀ ys : List Str, (∀ y ∈ ys, PyData.strOk y = true) → PyData.canLayAll0 (ys.map PyData.str) = true
  | [], _ => by rw [List.map_nil]; unfold PyData.canLayAll0; rfl
  | y :: r, h => by
    rw [List.map_cons]
    unfold PyData.canLayAll0
    rw [canLay_strs r fun z hz => h z (List.mem_cons_of_mem _ hz), show (PyData.str y).canLay0 = PyData.strOk y by unfold PyData.canLay0; rfl, h y List.mem_cons_self]
    rfl
theorem depth_strs : ∀ ys : List Str, PyData.depthAll (ys.map PyData.str) ≤ 1
  | [] => by show PyData.depthAll [] ≤ 1; unfold PyData.depthAll; omega
  | y :: r => by
    rw [List.map_cons]
    unfold PyData.depthAll
    have := depth_strs r
    have h2 : (PyData.str y).depth ≤ 1 := by unfold PyData.depth; omega
    omega
theorem lay_list {ys : List Str} (h : ∀ y ∈ ys, PyData.strOk y = true) : (PyData.list (ys.map PyData.str)).canLay0 = true := by
  unfold PyData.canLay0
  exact canLay_strs ys h
theorem shaped_strs {ys : List Str} (h : ∀ y ∈ ys, PyData.strOk y = true) : SeqAt.shaped (PyData.list (ys.map PyData.str)) = true := by
  unfold SeqAt.shaped
  refine Bool.and_eq_true_iff.mpr ⟨lay_list h, decide_eq_true ?_⟩
  unfold PyData.depth
  have := depth_strs ys
  omega
theorem eqv_strs {ys : List Str} (h : ∀ y ∈ ys, PyData.strOk y = true) : PyData.eqv (PyData.list (ys.map PyData.str)) (PyData.list (ys.map PyData.str)) = true := SeqAt.eqv_refl _ (lay_list h)
theorem Dp.strs {K : PySem.W.Frag} {H : Hp} : ∀ ys : List Str, DpAll K H (ys.map V.str) (ys.map PyData.str)
  | [] => .nil
  | y :: r => .cons (.str y) (Dp.strs r)
theorem Dp.cells {K : PySem.W.Frag} {H : Hp} : ∀ cs : List V, (∀ v ∈ cs, (∃ i, v = .int i) ∨ ∃ s, v = .str s) → DpAll K H cs (cs.map cd)
  | [], _ => .nil
  | v :: r, h => by
    refine .cons ?_ (Dp.cells r fun w hw => h w (List.mem_cons_of_mem _ hw))
    rcases h v List.mem_cons_self with ⟨i, rfl⟩ | ⟨s, rfl⟩
    · exact .int i
    · exact .str s
end L2.Kd

namespace L2.Kd
open PySem PySem.Spec PyProof.Rows L2.Ex
section
variable {P : Program} {w : World} {K : PySem.W.Frag} {mg : Str → Option Value} {base : Heap} {A : Ad} {D : Fd}
/-- what has been told and lies in the list at t -/
def TV (H H2 : Hp) (t : Addr) (F : FM) (x : Str) (j : Nat) (v : V) : Prop :=
  (F x = none → ∃ q, v = .ref q ∧ q ≠ t ∧ H2 q = some (.tup [.str "file", .str x])) ∧
  (F x ≠ none → (j = 0 → ∃ q, v = .ref q ∧ q ≠ t ∧ H2 q = some (.lst (cellsOf F x)) ∧ H q = none) ∧ (j = 1 → v = .int ((cellsOf F x).length : Int)) ∧ (j = 2 → v = .int (synOf F x)))
theorem TV.keep {H H2 H3 : Hp} {t : Addr} {F : FM} {x : Str} {j : Nat} {v : V} (h : TV H H2 t F x j v) (k : ∀ b o, H2 b = some o → b ≠ t → H3 b = some o) : TV H H3 t F x j v := by
  refine ⟨fun e => ?_, fun e => ⟨fun e2 => ?_, (h.2 e).2.1, (h.2 e).2.2⟩⟩
  · obtain ⟨q, h1, h2, h3⟩ := h.1 e
    exact ⟨q, h1, h2, k _ _ h3 h2⟩
  · obtain ⟨q, h1, h2, h3, h4⟩ := (h.2 e).1 e2
    exact ⟨q, h1, h2, k _ _ h3 h2, h4⟩
def txd (x : Str) : PyData := .tuple [.str "file", .str x]
theorem shaped3 {x : Str} (h : PyData.strOk x = true) : (PyData.list [txd x, txd x, txd x]).canLay0 = true ∧ SeqAt.shaped (.list [txd x, txd x, txd x]) = true := by
  have e1 : (txd x).canLay0 = true := by
    unfold txd PyData.canLay0 PyData.canLayAll0 PyData.canLayAll0 PyData.canLayAll0
    rw [show (PyData.str x).canLay0 = PyData.strOk x by unfold PyData.canLay0; rfl, h, show (PyData.str "file").canLay0 = true by unfold PyData.canLay0; decide +kernel]
    rfl
  have e2 : (PyData.list [txd x, txd x, txd x]).canLay0 = true := by
    unfold PyData.canLay0 PyData.canLayAll0 PyData.canLayAll0 PyData.canLayAll0 PyData.canLayAll0
    rw [e1]
    rfl
  refine ⟨e2, ?_⟩
  unfold SeqAt.shaped
  refine Bool.and_eq_true_iff.mpr ⟨e2, decide_eq_true ?_⟩
  have d1 : (PyData.str x).depth ≤ 1 := by unfold PyData.depth; omega
  have d2 : (PyData.str ("file" : Str)).depth ≤ 1 := by unfold PyData.depth; omega
  have d3 : (txd x).depth ≤ 3 := by
    unfold txd PyData.depth PyData.depthAll PyData.depthAll PyData.depthAll
    omega
  unfold PyData.depth PyData.depthAll PyData.depthAll PyData.depthAll PyData.depthAll
  omega
theorem Dp.repr_of {K : PySem.W.Frag} {H : Hp} {a : Addr} {cs : List V} (h : H a = some (.lst cs)) (hc : ∀ v ∈ cs, isC v = true) : Dp K H (.ref a) (.list (cs.map cd)) :=
  .lst (SqL.of h) (Dp.cells cs fun v hv => by
    have := hc v hv
    cases v <;> first | exact .inl ⟨_, rfl⟩ | exact .inr ⟨_, rfl⟩ | (exact absurd this (by simp [isC])))
theorem noDict_list (cs : List V) : (PyData.list (cs.map cd)).hasDict = false := by
  unfold PyData.hasDict
  exact noDict_cells cs
def spOne (C : Addr) : Sp := fun vs H Q _ => ∃ (p c s : Addr) (kc ks : List (Key × V)) (L : Str → Addr) (m f : Addr) (kf : List (Key × V)) (R E : Str → Addr) (F : FM) (n : Int) (l : Option Int) (x : Str), vs = [.ref p, .ref m, .str x] ∧
  DiskAt C H p c s kc ks L F n l ∧ ModAt H m f kf R E F n l ∧ Cl F ∧ Rp (cellsOf F x) ∧ (cellsOf F x).length < 1000 ∧ PyData.strOk x = true ∧ ∀ H', Same H H' → Q (.bl true) H'
theorem ok_law_one (T : Tx K mg A D) : GnOk P w K mg base CX0 (16 + 1) A.f_law_one D.f_law_one ["_law_disk", "_law_model", "_law_name"] (spOne A.c_Disk) := by
  refine gn_ok T.F_law_one sc_law_one (fun vs H Q E h => ?_) (fun cdv A' outer s H vs Q E gd hr h => ?_)
  · obtain ⟨p, c, s, kc, ks, L, m, f, kf, R, E, F, n, l, x, rfl, _⟩ := h
    rfl
  · obtain ⟨p, c, s, kc, ks, L, m, f, kf, R, E', F, n, l, x, rfl, Y, M, C, hR, hlen, hx, k⟩ := h
    have hu := hu_of hr
    refine ⟨_, ((pss_cons (ps_set (i := 3) sc_law_one.nd rfl (Or.inl rfl) (pe_lst pa_nil))
      (pss_cons (ps_for PassesOwn.never rfl (pi_range1 (by rfl) T.b_range (pa_cons pe_int pa_nil)) (pg_name (i := 4) sc_law_one.nd rfl (Or.inl rfl)) (pss_one (ps_expr (pe_bm PySem.F.plainAttrs_list PySem.F.slot_list_append PySem.F.type_list_append mt_append (pv 3) (pa_cons (pe_call (ok_law_asked T) (hr.mono (by decide)) (by rfl) T.m_law_asked T.F_law_asked.kp (b_law_asked T) .nil pass0 (pa_cons (pv 0) (pa_cons (pv 4) (pa_cons (pv 2) pa_nil)))) pa_nil)))))
      (pss_cons (ps_if (pt_cmp (pc_dnotin hu (pv 2) (pe_ix ix_list (pv 1) pe_int (fun _ _ => rfl)))) (pss_one (ps_ret (pe_cmpR (op_eqD (hr.units)) (pv 3) (pe_lst (pa_cons (pe_tup (pa_cons pe_str (pa_cons (pv 2) pa_nil))) (pa_cons (pe_tup (pa_cons pe_str (pa_cons (pv 2) pa_nil))) (pa_cons (pe_tup (pa_cons pe_str (pa_cons (pv 2) pa_nil))) pa_nil)))) (nomark _)))) pss_nil)
      (pss_cons (ps_set (i := 5) sc_law_one.nd rfl (Or.inl rfl) (pe_dget hu (pe_ix ix_list (pv 1) pe_int (fun _ _ => rfl)) (pv 2) (fun _ _ => rfl)))
      (pss_cons (ps_if (PW.pt (pw_or (pt_cmpR op_ne (pe_callB (call_repr gd (hr.units)) (by rfl) T.b_repr (by decide +kernel) (pa_cons (pe_ix ix_list (pv 3) pe_int (fun _ _ => rfl)) pa_nil)) (pe_callB (call_repr gd (hr.units)) (by rfl) T.b_repr (by decide +kernel) (pa_cons (pe_ix ix_list (pv 5) pe_int (fun _ _ => rfl)) pa_nil)) (nomark _)) (pw_or1 (pt_not (pt_val (pe_call (ok_law_whole T) (hr.mono (by decide)) (by rfl) T.m_law_whole T.F_law_whole.kp (b_law_whole T) .nil pass0 (pa_cons (pe_ix ix_list (pv 3) pe_int (fun _ _ => rfl)) (pa_cons (pe_callB call_len_seq (by rfl) T.b_len (by decide +kernel) (pa_cons (pe_ix ix_list (pv 5) pe_int (fun _ _ => rfl)) pa_nil)) pa_nil)))))))) (pss_one (ps_ret pe_bl)) pss_nil)
      (pss_cons (ps_expr (pe_bm PySem.F.plainAttrs_list PySem.F.slot_list_append PySem.F.type_list_append mt_append (pe_ix ix_list (pv 3) pe_int (fun _ _ => rfl)) (pa_cons pe_str pa_nil)))
      (pss_one (ps_ret (pe_and (pe_call (ok_law_whole T) (hr.mono (by decide)) (by rfl) T.m_law_whole T.F_law_whole.kp (b_law_whole T) .nil pass0 (pa_cons (pe_ix ix_list (pv 3) pe_int (fun _ _ => rfl)) (pa_cons (pe_ix ix_list (pv 5) pe_int (fun _ _ => rfl)) pa_nil))) (pe_one (pe_cmpR op_eq (pe_callB (call_repr gd (hr.units)) (by rfl) T.b_repr (by decide +kernel) (pa_cons (pe_meth (pv 0) T.cl_Disk T.me_Disk_read (ok_Disk_read T) (hr.mono (by decide)) (b_Disk_read T) .nil passL (pa_cons (pv 2) pa_nil)) pa_nil)) (pe_callB (call_repr gd (hr.units)) (by rfl) T.b_repr (by decide +kernel) (pa_cons (pe_ix ix_list (pv 5) pe_int (fun _ _ => rfl)) pa_nil)) (nomark _))))))))))))), ?_⟩
    -- told = []
    refine ⟨by show 0 ≤ sizeLine; decide, fun t ht => ?_⟩
    refine ⟨3, rfl, by decide, by decide, for_range (lo := 0) (n := 3) (fun i σ H2 => ∃ (v4 : Option V) (vs : List V), σ = [some (.ref p), some (.ref m), some (.str x), some (.ref t), v4, none] ∧ Same H H2 ∧ H2 t = some (.lst vs) ∧ vs.length = i ∧ ∀ j v, vs[j]? = some v → TV H H2 t F x j v)
      ⟨none, [], rfl, same_new ht, upd_same, rfl, fun j v e => by cases e⟩ ?_ ?_⟩
    · rintro i σ H2 hi ⟨v4, vs, rfl, s2, ht2, hl2, htv⟩
      have Y2 := Y.keep fun b o _ e => s2 b o e
      have hw : (0 + (i : Int) = 0 ∨ 0 + (i : Int) = 1 ∨ 0 + (i : Int) = 2) := by omega
      refine ⟨_, rfl, .inl ⟨rfl, _, SqL.of ht2⟩, _, rfl, _, rfl, _, rfl, p, c, s, kc, ks, L, F, n, l, x, 0 + (i : Int), rfl, Y2, hw, fun v H3 s3 told => ?_⟩
      have ht3 := s3 _ _ ht2
      refine ⟨t, vs, v, rfl, rfl, ht3, by rw [sizeLine_eq]; omega, ?_⟩
      have keep3 : ∀ b o, H2 b = some o → b ≠ t → upd H3 t (.lst (vs ++ [v])) b = some o := fun b o e h => by rw [upd_ne h]; exact s3 b o e
      refine ⟨_, vs ++ [v], rfl, fun b o e => keep3 b o (s2 b o e) (ne_of_none e ht), upd_same, by rw [List.length_append, hl2]; rfl, fun j u e => ?_⟩
      by_cases hj : j < vs.length
      · rw [List.getElem?_append_left hj] at e
        exact (htv j u e).keep keep3
      · have hj2 : j = vs.length := by
          have := (List.getElem?_eq_some_iff.mp e).1
          rw [List.length_append] at this
          have q : [v].length = 1 := rfl
          omega
        subst hj2
        rw [List.getElem?_append_right (Nat.le_refl _), Nat.sub_self] at e
        cases e
        have nt : ∀ {q : Addr}, H2 q = none → q ≠ t := fun h z => by rw [z, ht2] at h; cases h
        refine ⟨fun e => ?_, fun e => ⟨fun z => ?_, fun z => (told.2 e).2.1 (by omega), fun z => (told.2 e).2.2 (by omega)⟩⟩
        · obtain ⟨q, h1, h2, h3⟩ := told.1 e
          exact ⟨q, h1, nt h3, by rw [upd_ne (nt h3)]; exact h2⟩
        · obtain ⟨q, h1, h2, h3⟩ := (told.2 e).1 (by omega)
          exact ⟨q, h1, nt h3, by rw [upd_ne (nt h3)]; exact h2, s2.free h3⟩
    · rintro σ H2 ⟨v4, vs, rfl, s2, ht2, hl2, htv⟩
      obtain ⟨v0, v1, v2, rfl⟩ : ∃ v0 v1 v2, vs = [v0, v1, v2] := by
        match vs, hl2 with
        | [a, b, c], _ => exact ⟨a, b, c, rfl⟩
      have t0 := htv 0 v0 rfl
      have t1 := htv 1 v1 rfl
      have t2 := htv 2 v2 rfl
      have Y2 := Y.keep fun b o _ e => s2 b o e
      have M2 := M.keep fun b o _ e => s2 b o e
      refine ⟨_, rfl, _, rfl, m, _, _, .ref f, rfl, rfl, SqL.of M2.hm, rfl, f, _, rfl, DGet.k (k := Sum.inr x) M2.hf, _, rfl, ?_⟩
      by_cases hF : F x = none
      · refine if_true_of (by rw [M2.has.mpr hF]; rfl) ?_
        obtain ⟨q0, rfl, n0, h0⟩ := t0.1 hF
        obtain ⟨q1, rfl, n1, h1⟩ := t1.1 hF
        obtain ⟨q2, rfl, n2, h2⟩ := t2.1 hF
        refine ⟨_, rfl, _, rfl, by show 2 ≤ sizeLine; decide, fun r0 f0 => ⟨_, rfl, by show 2 ≤ sizeLine; decide, fun r1 f1 => ⟨_, rfl, by show 2 ≤ sizeLine; decide, fun r2 f2 => ⟨by show 3 ≤ sizeLine; decide, fun r3 f3 => ?_⟩⟩⟩⟩
        obtain ⟨e1, e2⟩ := shaped3 hx
        have sa : Same H2 (upd (upd (upd H2 r0 (.tup [.str "file", .str x])) r1 (.tup [.str "file", .str x])) r2 (.tup [.str "file", .str x])) := (same_new f0).trans ((same_new f1).trans (same_new f2))
        have sb := sa.trans (same_new (o := .lst [.ref r0, .ref r1, .ref r2]) f3)
        have g0 := ((same_new (o := .tup [.str "file", .str x]) f1).trans ((same_new (o := .tup [.str "file", .str x]) f2).trans (same_new (o := .lst [.ref r0, .ref r1, .ref r2]) f3))) r0 _ upd_same
        have g1 := ((same_new (o := .tup [.str "file", .str x]) f2).trans (same_new (o := .lst [.ref r0, .ref r1, .ref r2]) f3)) r1 _ upd_same
        have g2 := (same_new (o := .lst [.ref r0, .ref r1, .ref r2]) f3) r2 _ upd_same
        have tup_dp : ∀ {H4 : Hp} {q : Addr}, H4 q = some (.tup [.str "file", .str x]) → Dp K H4 (.ref q) (txd x) := fun h => .tup (SqT.of h) (.cons (.str _) (.cons (.str _) .nil))
        refine ⟨.list [txd x, txd x, txd x], .list [txd x, txd x, txd x], .lst (SqL.of (sb _ _ ht2)) (.cons (tup_dp (sb _ _ h0)) (.cons (tup_dp (sb _ _ h1)) (.cons (tup_dp (sb _ _ h2)) .nil))), .lst (SqL.of upd_same) (.cons (tup_dp g0) (.cons (tup_dp g1) (.cons (tup_dp g2) .nil))), e2, e2, ?_⟩
        rw [SeqAt.eqv_refl _ e1]
        exact k _ (s2.trans sb)
      · refine if_false_of (by rw [(M2.get hF).1]; rfl) ?_
        obtain ⟨q0, rfl, n0, h0, h0n⟩ := (t0.2 hF).1 rfl
        obtain rfl := (t1.2 hF).2.1 rfl
        obtain rfl := (t2.2 hF).2.2 rfl
        obtain ⟨g1, g2, g3⟩ := M2.get hF
        have dpR : ∀ {H4 : Hp} {a : Addr}, H4 a = some (.lst (cellsOf F x)) → Dp K H4 (.ref a) (.list ((cellsOf F x).map cd)) := fun h => Dp.repr_of h (C.cells x)
        -- row
        refine ⟨_, rfl, m, _, _, .ref f, rfl, rfl, SqL.of M2.hm, rfl, _, rfl, f, .ref (R x), rfl, dget_k M2.hf g1, ?_⟩
        refine ⟨_, rfl, t, _, _, .ref q0, rfl, rfl, SqL.of ht2, rfl, q0, _, rfl, dpR h0, hR.sh, noDict_list _, depth_list _, hR.ln, ?_⟩
        refine ⟨_, rfl, R x, _, _, .ref (E' x), rfl, rfl, SqL.of g2, rfl, E' x, _, rfl, dpR g3, hR.sh, noDict_list _, depth_list _, hR.ln, rfl, _, rfl, ?_⟩
        refine if_false_of (by simp) ?_
        refine ⟨_, rfl, t, _, _, .int ((cellsOf F x).length : Int), rfl, rfl, SqL.of ht2, rfl, _, rfl, R x, _, _, .ref (E' x), rfl, rfl, SqL.of g2, rfl, E' x, _, rfl, .inl (SqL.of g3), _, _, rfl, _, rfl, ?_⟩
        refine if_false_of (by simp) ?_
        -- told[0].append("more")
        refine ⟨_, rfl, t, _, _, .ref q0, rfl, rfl, SqL.of ht2, rfl, .inl ⟨rfl, _, SqL.of h0⟩, q0, _, _, rfl, rfl, h0, by rw [sizeLine_eq]; omega, ?_⟩
        have s4 : Same H (upd H2 q0 (.lst (cellsOf F x ++ [.str "more"]))) := fun b o e => by rw [upd_ne (ne_of_none e h0n)]; exact s2 b o e
        have Y4 := Y.keep fun b o _ e => s4 b o e
        have M4 := M.keep fun b o _ e => s4 b o e
        have ht4 : upd H2 q0 (.lst (cellsOf F x ++ [.str "more"])) t = some (.lst [.ref q0, .int ((cellsOf F x).length : Int), .int (synOf F x)]) := by rw [upd_ne n0.symm]; exact ht2
        obtain ⟨k1, k2, k3⟩ := M4.get hF
        obtain ⟨dx, ob⟩ := Y4.ob
        refine ⟨_, rfl, t, _, _, .int (synOf F x), rfl, rfl, SqL.of ht4, rfl, _, rfl, R x, _, _, .int (synOf F x), rfl, rfl, SqL.of k2, rfl, _, _, rfl, _, rfl, ?_⟩
        refine if_true_of (by simp) ?_
        refine ⟨_, rfl, p, dx, _, rfl, ob, dk_no (by decide +kernel) (by decide +kernel) (by decide +kernel) (by decide +kernel), _, rfl, p, c, s, kc, ks, L, F, n, l, x, rfl, Y4, fun z => absurd z hF, fun _ q hq => ?_⟩
        have s5 := same_new (o := .lst (cellsOf F x)) hq
        refine ⟨q, _, rfl, dpR upd_same, hR.sh, noDict_list _, depth_list _, hR.ln, _, rfl, R x, _, _, .ref (E' x), rfl, rfl, SqL.of (s5 _ _ k2), rfl, E' x, _, rfl, dpR (s5 _ _ k3), hR.sh, noDict_list _, depth_list _, hR.ln, rfl, ?_⟩
        rw [decide_eq_true rfl]
        exact k _ (s4.trans s5)
end
end L2.Kd

namespace L2.Kd
open PySem PySem.Spec PyProof.Rows L2.Ex
section
variable {P : Program} {w : World} {K : PySem.W.Frag} {mg : Str → Option Value} {base : Heap} {A : Ad} {D : Fd}
theorem ModAt.names {m f : Addr} {kf : List (Key × V)} {R E : Str → Addr} {F : FM} {n : Int} {l : Option Int} {H : Hp} (M : ModAt H m f kf R E F n l) : ∃ xs : List Str, kf.map (·.1) = xs.map Sum.inr ∧ xs.Nodup ∧ ∀ x, x ∈ xs ↔ F x ≠ none :=
  keys_names M.nd M.ky fun x hx => by rw [(M.get hx).1]; rfl
theorem keys_kV {kf : List (Key × V)} {xs : List Str} (e : kf.map (·.1) = xs.map Sum.inr) : (kf.map fun kv => kV kv.1) = xs.map V.str := by
  have h : (kf.map fun kv => kV kv.1) = (kf.map (·.1)).map kV := by rw [List.map_map]; rfl
  rw [h, e, List.map_map]
  rfl
theorem nx_ok {D : Ends} {σ : St} {H : Hp} (h : D.nx σ H) : tNext D σ H := h
theorem seq_ok {t u : TS} {D : Ends} {σ : St} {H : Hp} (h : ∀ N : St → Hp → Prop, N σ H → t { D with nx := N } σ H) (h2 : u D σ H) : tSeq t u D σ H := h _ h2
def spAsDue (C : Addr) : Sp := fun vs H Q _ => ∃ (p c s : Addr) (kc ks : List (Key × V)) (L : Str → Addr) (m f : Addr) (kf : List (Key × V)) (R E : Str → Addr) (F : FM) (n : Int) (l : Option Int), vs = [.ref p, .ref m] ∧
  DiskAt C H p c s kc ks L F n l ∧ ModAt H m f kf R E F n l ∧ Cl F ∧ (∀ x, Rp (cellsOf F x)) ∧ (∀ x, (cellsOf F x).length < 1000) ∧ (∀ x, F x ≠ none → PyData.strOk x = true) ∧ kc.length < 64 ∧ kf.length < 64 ∧ ∀ H', Same H H' → Q (.bl true) H'
theorem six_ok : ∀ x ∈ six, PyData.strOk x = true := by decide +kernel
theorem ok_law_as_due (T : Tx K mg A D) : GnOk P w K mg base CX0 (20 + 1) A.f_law_as_due D.f_law_as_due ["_law_disk", "_law_model"] (spAsDue A.c_Disk) := by
  refine gn_ok T.F_law_as_due sc_law_as_due (fun vs H Q E h => ?_) (fun cdv A' outer s H vs Q E gd hr h => ?_)
  · obtain ⟨p, c, s, kc, ks, L, m, f, kf, R, E, F, n, l, rfl, _⟩ := h
    rfl
  · obtain ⟨p, c, s, kc, ks, L, m, f, kf, R, E', F, n, l, rfl, Y, M, C, hR, hlen, hx, hzc, hzf, k⟩ := h
    have hu := hu_of hr
    refine ⟨_, ((pss_cons (ps_set (i := 2) sc_law_as_due.nd rfl (Or.inl rfl) (pe_meth0 (pv 0) T.cl_Disk T.me_Disk_all_files (ok_Disk_all_files T) (hr.mono (by decide)) (b_Disk_all_files T) .nil pass0))
      (pss_cons (ps_if (PW.pt (pw_or (pt_not (pt_val (pe_callB call_isi (by rfl) T.b_isinstance (by decide +kernel) (pa_cons (pv 2) (pa_cons (pe_bltn (v := .ty "list") (by rfl) T.b_list (by decide +kernel) rfl) pa_nil))))) (pw_or1 (pt_cmpR (op_neD (hr.units)) (pv 2) (pe_callB cr_sortedS (by rfl) T.b_sorted (by decide +kernel) (pa_cons (pe_callTy (call_listD rfl) (by rfl) T.b_list (by decide +kernel) (pa_cons (pe_ix ix_list (pv 1) pe_int (fun _ _ => rfl)) pa_nil)) pa_nil)) (nomark _))))) (pss_one (ps_ret pe_bl)) pss_nil)
      (pss_cons (ps_if (pt_not (pt_val (pe_call (ok_law_whole T) (hr.mono (by decide)) (by rfl) T.m_law_whole T.F_law_whole.kp (b_law_whole T) .nil pass0 (pa_cons (pe_fld (pv 0) rfl) (pa_cons (pe_ix ix_list (pv 1) pe_int (fun _ _ => rfl)) pa_nil))))) (pss_one (ps_ret pe_bl)) pss_nil)
      (pss_cons (ps_if (pt_cmpR op_isN (pe_ix ix_list (pv 1) pe_int (fun _ _ => rfl)) pe_non (nomark _)) (pss_one (ps_if (pt_cmpR op_notN (pe_prop (pv 0) T.cl_Disk T.p_Disk_limit (ok_Disk_limit T) (hr.mono (by decide)) (b_Disk_limit T) .nil pass0 rfl) pe_non (nomark _)) (pss_one (ps_ret pe_bl)) pss_nil)) (pss_one (ps_if (pt_not (pt_val (pe_call (ok_law_whole T) (hr.mono (by decide)) (by rfl) T.m_law_whole T.F_law_whole.kp (b_law_whole T) .nil pass0 (pa_cons (pe_prop (pv 0) T.cl_Disk T.p_Disk_limit (ok_Disk_limit T) (hr.mono (by decide)) (b_Disk_limit T) .nil pass0 rfl) (pa_cons (pe_ix ix_list (pv 1) pe_int (fun _ _ => rfl)) pa_nil))))) (pss_one (ps_ret pe_bl)) pss_nil)))
      (pss_cons (ps_expr (pe_bm PySem.F.plainAttrs_list PySem.F.slot_list_append PySem.F.type_list_append mt_append (pv 2) (pa_cons pe_str pa_nil)))
      (pss_cons (ps_for PassesOwn.never rfl (pi_list (pe_call0 (ok_law_files T) (hr.mono (by decide)) (by rfl) T.m_law_files T.F_law_files.kp (b_law_files T) .nil pass0)) (pg_name (i := 3) sc_law_as_due.nd rfl (Or.inl rfl)) (pss_one (ps_if (pt_not (pt_val (pe_gcall gd (ok_law_one T) (hr.mono (by decide)) (by rfl) T.m_law_one T.F_law_one.kp (b_law_one T) .nil pass0 (pa_cons (pv 0) (pa_cons (pv 1) (pa_cons (pv 3) pa_nil)))))) (pss_one (ps_ret pe_bl)) pss_nil)))
      (pss_one (ps_ret (pe_cmpR (op_eqD (hr.units)) (pe_meth0 (pv 0) T.cl_Disk T.me_Disk_all_files (ok_Disk_all_files T) (hr.mono (by decide)) (b_Disk_all_files T) .nil pass0) (pe_callB cr_sortedS (by rfl) T.b_sorted (by decide +kernel) (pa_cons (pe_callTy (call_listD rfl) (by rfl) T.b_list (by decide +kernel) (pa_cons (pe_ix ix_list (pv 1) pe_int (fun _ _ => rfl)) pa_nil)) pa_nil)) (nomark _))))))))))), ?_⟩
    obtain ⟨dx, ob⟩ := Y.ob
    have dno : (dkF c s n l).lookup ("all_files" : Str) = none := dk_no (by decide +kernel) (by decide +kernel) (by decide +kernel) (by decide +kernel)
    obtain ⟨xs, ex1, ex2, ex3⟩ := M.names
    have hxl : xs.length < 64 := by rw [names_len ex1]; exact hzf
    -- names = disk.all_files()
    refine ⟨_, rfl, p, dx, _, rfl, ob, dno, p, c, s, kc, ks, L, F, n, l, rfl, Y, hzc, fun ys q hq N6 => ?_⟩
    have sorted_same : ∀ {zs : List Str}, zs.Perm xs → sortedS zs = true → zs = ys := fun hp hs => by
      have N := Names6.of (F := F) hp hs ex2 ex3
      exact sorted_eq N.srt N6.srt N.nd N6.nd fun x => (N.mem x).trans (N6.mem x).symm
    have hys : ∀ y ∈ ys, PyData.strOk y = true := fun y hy => hx y ((N6.mem y).mp hy)
    have s1 : Same H (upd H q (.lst (ys.map V.str))) := same_new hq
    have M1 := M.keep fun b o _ e => s1 b o e
    refine ⟨_, rfl, _, _, _, _, true, rfl, .ty "list", .base (.lst upd_same), kit_ty (by decide +kernel), _, rfl, ?_⟩
    refine if_false_of rfl ?_
    refine ⟨_, rfl, _, rfl, m, _, _, .ref f, rfl, rfl, SqL.of M1.hm, rfl, f, kf, rfl, .inl M1.hf, fun p1 hp1 => ?_⟩
    rw [keys_kV ex1]
    refine ⟨p1, xs, rfl, SqL.of upd_same, hxl, fun zs p2 hperm hs hp2 => ?_⟩
    obtain rfl := sorted_same hperm hs
    have s2 := (same_new (o := .lst (xs.map V.str)) hp1).trans (same_new (o := .lst (zs.map V.str)) hp2)
    refine ⟨.list (zs.map PyData.str), .list (zs.map PyData.str), .lst (SqL.of (s2 _ _ upd_same)) (Dp.strs zs), .lst (SqL.of upd_same) (Dp.strs zs), shaped_strs hys, shaped_strs hys, ?_⟩
    rw [eqv_strs hys]
    refine ⟨_, rfl, ?_⟩
    refine if_false_of rfl ?_
    have s3 := s1.trans s2
    have hq3 := s2 q _ upd_same
    generalize upd (upd (upd H q (.lst (zs.map V.str))) p1 (.lst (xs.map V.str))) p2 (.lst (zs.map V.str)) = H3 at s3 hq3
    have M3 := M.keep fun b o _ e => s3 b o e
    have ob3 := s3 _ _ ob
    -- steps
    refine ⟨_, rfl, p, _, dx, _, _, rfl, ob3, T.cl_Disk, T.na_Disk_steps, dk_steps, _, rfl, m, _, _, .int n, rfl, rfl, SqL.of M3.hm, rfl, _, _, rfl, _, rfl, ?_⟩
    refine if_false_of (by simp) ?_
    -- behind the limit
    refine nx_ok ?_
    dsimp only
    refine seq_ok (fun N hN => ?_) ?_
    · cases l with
      | none =>
        refine ⟨_, rfl, m, _, _, .non, rfl, rfl, SqL.of M3.hm, rfl, rfl, _, rfl, ?_⟩
        refine if_true_of rfl ?_
        refine ⟨_, rfl, p, dx, _, rfl, ob3, p, dx, c, s, n, none, rfl, ob3, rfl, _, rfl, ?_⟩
        exact if_false_of rfl hN
      | some i =>
        refine ⟨_, rfl, m, _, _, .int i, rfl, rfl, SqL.of M3.hm, rfl, rfl, _, rfl, ?_⟩
        refine if_false_of rfl ?_
        refine ⟨_, rfl, p, dx, _, rfl, ob3, p, dx, c, s, n, some i, rfl, ob3, _, rfl, m, _, _, .int i, rfl, rfl, SqL.of M3.hm, rfl, i, i, rfl, _, rfl, ?_⟩
        exact if_false_of (by simp) hN
    · -- names.append("zz")
      refine ⟨_, rfl, .inl ⟨rfl, _, SqL.of hq3⟩, q, _, _, rfl, rfl, hq3, by rw [List.length_map, hperm.length_eq, sizeLine_eq]; omega, ?_⟩
      have s4 : Same H (upd H3 q (.lst (zs.map V.str ++ [.str "zz"]))) := fun b o e => by rw [upd_ne (ne_of_none e hq)]; exact s3 b o e
      generalize upd H3 q (.lst (zs.map V.str ++ [.str "zz"])) = H4 at s4
      refine ⟨rfl, fun q6 hq6 => ⟨q6, rfl, ⟨_, SqL.of upd_same⟩, for_list (K := K) (a := q6) (xs := six.map V.str) (fun i σ H2 => ∃ (v3 : Option V), σ = [some (.ref p), some (.ref m), some (.ref q), v3] ∧ Same H H2 ∧ H2 q6 = some (.lst (six.map V.str)))
        ⟨none, rfl, s4.trans (same_new hq6), upd_same⟩ (fun i σ H2 _ ⟨_, _, _, h⟩ => SqL.of h) ?_ ?_⟩⟩
      · rintro i v σ H5 hi ⟨v3, rfl, s5, h5⟩
        obtain ⟨y, hy, rfl⟩ : ∃ y, six[i]? = some y ∧ v = V.str y := by
          rw [List.getElem?_map] at hi
          cases e : six[i]? with
          | none => rw [e] at hi; cases hi
          | some y => rw [e] at hi; exact ⟨y, rfl, (Option.some.inj hi).symm⟩
        refine ⟨_, rfl, _, rfl, _, rfl, p, c, s, kc, ks, L, m, f, kf, R, E', F, n, l, y, rfl, Y.keep fun b o _ e => s5 b o e, M.keep fun b o _ e => s5 b o e, C, hR y, hlen y, six_ok y (List.mem_of_getElem? hy), fun H6 s6 => ⟨_, rfl, ?_⟩⟩
        refine if_false_of rfl ?_
        exact ⟨_, rfl, s5.trans s6, s6 _ _ h5⟩
      · rintro σ H5 ⟨v3, rfl, s5, h5⟩
        have Y5 := Y.keep fun b o _ e => s5 b o e
        have M5 := M.keep fun b o _ e => s5 b o e
        refine ⟨_, rfl, p, dx, _, rfl, s5 _ _ ob, dno, p, c, s, kc, ks, L, F, n, l, rfl, Y5, hzc, fun ys q7 hq7 N7 => ?_⟩
        obtain rfl : ys = zs := sorted_eq N7.srt N6.srt N7.nd N6.nd fun x => (N7.mem x).trans (N6.mem x).symm
        have s7 := s5.trans (same_new (o := .lst (ys.map V.str)) hq7)
        have M7 := M.keep fun b o _ e => s7 b o e
        refine ⟨_, rfl, m, _, _, .ref f, rfl, rfl, SqL.of M7.hm, rfl, f, kf, rfl, .inl M7.hf, fun p1 hp1 => ?_⟩
        rw [keys_kV ex1]
        refine ⟨p1, xs, rfl, SqL.of upd_same, hxl, fun us p2 hperm hs hp2 => ?_⟩
        have N8 := Names6.of (F := F) hperm hs ex2 ex3
        obtain rfl : us = ys := sorted_eq N8.srt N6.srt N8.nd N6.nd fun x => (N8.mem x).trans (N6.mem x).symm
        have s8 := (same_new (o := .lst (xs.map V.str)) hp1).trans (same_new (o := .lst (us.map V.str)) hp2)
        refine ⟨.list (us.map PyData.str), .list (us.map PyData.str), .lst (SqL.of (s8 _ _ upd_same)) (Dp.strs us), .lst (SqL.of upd_same) (Dp.strs us), shaped_strs hys, shaped_strs hys, ?_⟩
        rw [eqv_strs hys]
        exact k _ (s7.trans s8)
end
end L2.Kd

namespace L2.Kd
open PySem PySem.Spec PyProof.Rows L2.Ex
section
variable {P : Program} {w : World} {K : PySem.W.Frag} {mg : Str → Option Value} {base : Heap} {A : Ad} {D : Fd}
/-! ## the lengths that are left -/
/-- a dict of whole numbers by name -/
structure LenAt (kw : List (Key × V)) (W : Str → Option Int) : Prop where
  va : ∀ y, valV kw (.inr y) = (W y).map V.int
  it : ∀ k v, valV kw k = some v → ∃ i, v = .int i
  nd : (kw.map (·.1)).Nodup
theorem LenAt.put {kw : List (Key × V)} {W : Str → Option Int} (h : LenAt kw W) (x : Str) (i : Int) : LenAt (putK kw (.inr x) (.int i)) fun y => if y = x then some i else W y := by
  obtain ⟨h1, h2, h3⟩ := h
  have z := Put1.put kw x (.int i)
  refine ⟨fun y => ?_, fun k v e => ?_, z.nd h3⟩
  · rw [z.val]
    by_cases e : y = x
    · rw [if_pos (inr_inj.mpr e), if_pos e]
      rfl
    · rw [if_neg (fun q => e (inr_inj.mp q)), if_neg e]
      exact h1 y
  · rw [z.val] at e
    by_cases q : k = .inr x
    · rw [if_pos q] at e
      exact ⟨i, (Option.some.inj e).symm⟩
    · rw [if_neg q] at e
      exact h2 k v e
theorem valV_mem : ∀ {kw : List (Key × V)}, (kw.map (·.1)).Nodup → ∀ p ∈ kw, valV kw p.1 = some p.2
  | [], _, p, h => by cases h
  | a :: r, nd, p, h => by
    rw [List.map_cons] at nd
    obtain ⟨n1, n2⟩ := List.nodup_cons.mp nd
    rcases List.mem_cons.mp h with rfl | h
    · exact valV_pos rfl
    · rw [valV_neg (fun z => n1 (by rw [z]; exact List.mem_map.mpr ⟨p, h, rfl⟩))]
      exact valV_mem n2 p h
theorem put_len (c : List (Key × V)) (k : Key) (x : V) : (putK c k x).length ≤ c.length + 1 := by
  cases e : valV c k with
  | none => rw [putK_new x e, List.length_append]; exact Nat.le_refl _
  | some v => rw [putK_len_old e]; exact Nat.le_succ _
def spLengths : Sp := fun vs H Q _ => ∃ (P0 q : Addr) (ns : List Int), vs = [.ref P0] ∧ PoolAt H P0 q ns ∧
  ∀ (u : Addr) (kw : List (Key × V)) (W : Str → Option Int) (H' : Hp), H u = none → H' u = some (.dK kw) → LenAt kw W → kw.length ≤ 6 → PoolAt H' P0 q ns → Kp (fun b => b = P0) H H' → Q (.ref u) H'
theorem ok_law_lengths (T : Tx K mg A D) : FnOk P w K mg base CX0 4 A.f_law_lengths D.f_law_lengths ["_law_pool"] spLengths := by
  refine T.F_law_lengths.ok sc_law_lengths (fun vs H Q E h => ?_) (fun cdv A' outer s H vs Q E hr h => ?_)
  · obtain ⟨P0, q, ns, rfl, _⟩ := h
    rfl
  · obtain ⟨P0, q, ns, rfl, hp, k⟩ := h
    have hu := hu_of hr
    refine ⟨_, ((pss_cons (ps_set (i := 1) sc_law_lengths.nd rfl (Or.inl rfl) pe_dnewK)
      (pss_cons (ps_set (i := 2) sc_law_lengths.nd rfl (Or.inl rfl) (pe_call0 (ok_law_files T) (hr.mono (by decide)) (by rfl) T.m_law_files T.F_law_files.kp (b_law_files T) .nil pass0))
      (pss_cons (ps_for PassesOwn.never rfl (pi_range1 (by rfl) T.b_range (pa_cons pe_int pa_nil)) (pg_name (i := 3) sc_law_lengths.nd rfl (Or.inl rfl)) (pss_one (ps_if (pt_cmpR op_lt (pe_call (ok_law_draw T) (hr.mono (by decide)) (by rfl) T.m_law_draw T.F_law_draw.kp (b_law_draw T) .nil pass0 (pa_cons (pv 0) (pa_cons pe_int pa_nil))) pe_int (nomark _)) (pss_one (ps_dput hu (pv 1) (pe_ix ix_list (pv 2) (pv 3) (fun _ _ => rfl)) (pe_op op_sub (pe_op op_mod (pe_callTy call_int1 (by rfl) T.b_int (by decide +kernel) (pa_cons (pe_op op_add (pe_call (ok_law_draw T) (hr.mono (by decide)) (by rfl) T.m_law_draw T.F_law_draw.kp (b_law_draw T) .nil pass0 (pa_cons (pv 0) (pa_cons pe_int pa_nil))) (pe_op op_mul pe_int (pv 3))) pa_nil)) pe_int) pe_int) rfl)) pss_nil)))
      (pss_one (ps_ret (pv 1))))))), ?_⟩
    intro u hu0
    refine ⟨rfl, fun q6 hq6 => ?_⟩
    have nu6 : u ≠ q6 := ne_of_none upd_same hq6
    have h6 : H q6 = none := by rw [upd_ne nu6.symm] at hq6; exact hq6
    obtain ⟨a0, r0, hP0, hq0, z0⟩ := hp
    have nPu : P0 ≠ u := ne_of_none hP0 hu0
    have nP6 : P0 ≠ q6 := ne_of_none hP0 h6
    refine ⟨6, rfl, by decide, by decide, for_range (lo := 0) (n := 6) (fun i σ H2 => ∃ (v3 : Option V) (kw : List (Key × V)) (W : Str → Option Int), σ = [some (.ref P0), some (.ref u), some (.ref q6), v3] ∧ H2 u = some (.dK kw) ∧ H2 q6 = some (.lst (six.map V.str)) ∧ LenAt kw W ∧ kw.length ≤ i ∧ PoolAt H2 P0 q ns ∧ Kp (fun b => b = P0) H H2)
      ⟨none, [], fun _ => none, rfl, by rw [upd_ne nu6, upd_same], upd_same, ⟨fun _ => rfl, fun k v e => (by cases e), List.nodup_nil⟩, Nat.le_refl _, ⟨a0, r0, by rw [upd_ne nP6, upd_ne nPu]; exact hP0, by rw [upd_ne (ne_of_none hq0 h6), upd_ne (ne_of_none hq0 hu0)]; exact hq0, z0⟩, fun b o e _ => by rw [upd_ne (ne_of_none e h6), upd_ne (ne_of_none e hu0)]; exact e⟩ ?_ ?_⟩
    · rintro i σ H2 hi ⟨v3, kw, W, rfl, e1, e2, hW, hl, hp2, kp⟩
      obtain ⟨y, hy⟩ : ∃ y, six[i]? = some y := ⟨six[i]'(by show i < 6; exact hi), List.getElem?_eq_getElem _⟩
      have hyV : (six.map V.str)[i]? = some (.str y) := by rw [List.getElem?_map, hy]; rfl
      refine ⟨_, rfl, P0, q, ns, 3, rfl, hp2, by decide, by decide, fun d o d0 d1 hp3 => ?_⟩
      have e13 : upd H2 P0 o u = some (.dK kw) := by rw [upd_ne nPu.symm]; exact e1
      have e23 : upd H2 P0 o q6 = some (.lst (six.map V.str)) := by rw [upd_ne nP6.symm]; exact e2
      have kp3 : Kp (fun b => b = P0) H (upd H2 P0 o) := fun b u h1 h2 => by rw [upd_ne h2]; exact kp b u h1 h2
      refine ⟨_, _, rfl, rfl, _, rfl, ?_⟩
      by_cases hd : d < 2
      · refine if_true_of (decide_eq_true hd) ?_
        refine ⟨_, rfl, P0, q, ns, 9, rfl, hp3, by decide, by decide, fun d' o' d0' d1' hp4 => ?_⟩
        refine ⟨_, rfl, _, _, rfl, rfl, .inl ⟨by decide, by decide⟩, _, _, rfl, rfl, .inl ⟨_, rfl, _, _, rfl, rfl, (by show (0 : Int) < 9; decide), _, _, rfl, rfl, _, rfl, _, rfl, _, rfl, q6, _, _, .str y, rfl, rfl, SqL.of (by rw [upd_ne nP6.symm]; exact e23), by rw [Int.zero_add]; exact atI_nat hyV, ?_⟩⟩
        refine ⟨u, _, rfl, DPut.k (k := Sum.inr y) (by rw [upd_ne nPu.symm]; exact e13) (small1000 (by omega)), ?_⟩
        refine ⟨_, _, _, rfl, upd_same, ?_, hW.put y _, ?_, ?_, ?_⟩
        · rw [upd_ne nu6.symm, upd_ne nP6.symm]
          exact e23
        · exact Nat.le_trans (put_len _ _ _) (Nat.succ_le_succ hl)
        · obtain ⟨a5, r5, h5, h55, z5⟩ := hp4
          exact ⟨a5, r5, by rw [upd_ne nPu]; exact h5, by rw [upd_ne (ne_of_none hq0 hu0)]; exact h55, z5⟩
        · intro b o1 h1 h2
          rw [upd_ne (ne_of_none h1 hu0), upd_ne h2]
          exact kp3 b o1 h1 h2
      · refine if_false_of (decide_eq_false hd) ?_
        exact ⟨_, kw, W, rfl, e13, e23, hW, Nat.le_succ_of_le hl, hp3, kp3⟩
    · rintro σ H2 ⟨v3, kw, W, rfl, e1, e2, hW, hl, hp2, kp⟩
      exact ⟨_, rfl, k u kw W H2 hu0 e1 hW hl hp2 kp⟩
/-! ## what is left, by the law's own list -/
/-- the dict at f, its rows at R, their cells at E -/
structure RowsAt (H : Hp) (f : Addr) (kf : List (Key × V)) (R E : Str → Addr) (F : FM) : Prop where
  hf : H f = some (.dK kf)
  no : ∀ x, F x = none → valV kf (.inr x) = none
  ye : ∀ x cs k, F x = some (cs, k) → valV kf (.inr x) = some (.ref (R x)) ∧ H (R x) = some (.lst [.ref (E x), .int k]) ∧ H (E x) = some (.lst cs)
  inj : ∀ x y, F x ≠ none → F y ≠ none → R x = R y → x = y
  nd : (kf.map (·.1)).Nodup
  ky : ∀ k ∈ kf.map (·.1), ∃ x, k = .inr x ∧ F x ≠ none
theorem RowsAt.mod {H : Hp} {m f : Addr} {kf : List (Key × V)} {R E : Str → Addr} {F : FM} {n : Int} {l : Option Int} (h : RowsAt H f kf R E F) (hm : H m = some (.lst [.ref f, .int n, limV l])) : ModAt H m f kf R E F n l :=
  ⟨hm, h.hf, h.no, h.ye, h.inj, h.nd, h.ky⟩
theorem RowsAt.dom {H : Hp} {f : Addr} {kf : List (Key × V)} {R E : Str → Addr} {F : FM} (h : RowsAt H f kf R E F) {x : Str} (hx : F x ≠ none) : (∃ o, H (R x) = some o) ∧ (∃ o, H (E x) = some o) ∧ f ≠ R x ∧ f ≠ E x := by
  obtain ⟨cs, k, e⟩ := ne_some hx
  obtain ⟨_, h1, h2⟩ := h.ye x cs k e
  exact ⟨⟨_, h1⟩, ⟨_, h2⟩, ne_of h.hf h1 (fun z => by cases z), ne_of h.hf h2 (fun z => by cases z)⟩
theorem RowsAt.set {H H' : Hp} {f : Addr} {kf kf' : List (Key × V)} {R E : Str → Addr} {F : FM} (M : RowsAt H f kf R E F) {x : Str} {r e : Addr} {cs : List V} {k : Int} (h2 : H' f = some (.dK kf')) (c1 : Put1 kf kf' x (.ref r)) (hr : H' r = some (.lst [.ref e, .int k])) (he : H' e = some (.lst cs))
    (ho : ∀ y, y ≠ x → F y ≠ none → R y ≠ r ∧ H' (R y) = H (R y) ∧ H' (E y) = H (E y)) : RowsAt H' f kf' (setL R x r) (setL E x e) (setM F x (cs, k)) := by
  refine ⟨h2, fun y e => ?_, fun y cs' k' e => ?_, fun y z hy hz e => ?_, c1.nd M.nd, fun j hk => ?_⟩
  · have hy : y ≠ x := fun z => by rw [z, setM_same] at e; cases e
    rw [setM_ne hy] at e
    rw [c1.val, if_neg (fun z => hy (inr_inj.mp z))]
    exact M.no y e
  · by_cases hy : y = x
    · subst hy
      rw [setM_same] at e
      cases e
      rw [c1.val, if_pos rfl, setL_same, setL_same]
      exact ⟨rfl, hr, he⟩
    · rw [setM_ne hy] at e
      rw [c1.val, if_neg (fun z => hy (inr_inj.mp z)), setL_ne hy, setL_ne hy]
      obtain ⟨a, b, d⟩ := M.ye y cs' k' e
      obtain ⟨_, o2, o3⟩ := ho y hy (by rw [e]; simp)
      exact ⟨a, by rw [o2]; exact b, by rw [o3]; exact d⟩
  · by_cases hy1 : y = x
    · by_cases hz1 : z = x
      · rw [hy1, hz1]
      · rw [hy1, setL_same, setL_ne hz1] at e
        rw [setM_ne hz1] at hz
        exact absurd e.symm (ho z hz1 hz).1
    · by_cases hz1 : z = x
      · rw [hz1, setL_same, setL_ne hy1] at e
        rw [setM_ne hy1] at hy
        exact absurd e (ho y hy1 hy).1
      · rw [setL_ne hy1, setL_ne hz1] at e
        rw [setM_ne hy1] at hy
        rw [setM_ne hz1] at hz
        exact M.inj y z hy hz e
  · rcases c1.ky j hk with h | h
    · exact ⟨x, h, by rw [setM_same]; simp⟩
    · obtain ⟨y, e, hy⟩ := M.ky j h
      refine ⟨y, e, ?_⟩
      by_cases hyx : y = x
      · rw [hyx, setM_same]; simp
      · rw [setM_ne hyx]; exact hy
def spLeft : Sp := fun vs H Q _ => ∃ (m f : Addr) (kf : List (Key × V)) (R E : Str → Addr) (F : FM) (n : Int) (l : Option Int) (u : Addr) (kw : List (Key × V)) (W : Str → Option Int), vs = [.ref m, .ref u] ∧ ModAt H m f kf R E F n l ∧ kf.length < 64 ∧ (∀ x, 0 ≤ synOf F x) ∧
  H u = some (.dK kw) ∧ (∀ y, valV kw (.inr y) = (W y).map V.int) ∧
  ∀ (m' f' : Addr) (kf' : List (Key × V)) (R' E' : Str → Addr) (H' : Hp), ModAt H' m' f' kf' R' E' (fallM F W) 0 none → Same H H' → (∀ b, fpM m' f' R' E' (fallM F W) b → H b = none) → Q (.ref m') H'
theorem ok_law_left (T : Tx K mg A D) : FnOk P w K mg base CX0 4 A.f_law_left D.f_law_left ["_law_model", "_law_lengths_here"] spLeft := by
  refine T.F_law_left.ok sc_law_left (fun vs H Q E h => ?_) (fun cdv A' outer s H vs Q E hr h => ?_)
  · obtain ⟨m, f, kf, R, E, F, n, l, u, kw, W, rfl, _⟩ := h
    rfl
  · obtain ⟨m, f, kf, R, E', F, n, l, u, kw, W, rfl, M, hz, hs, hu0, hW, k⟩ := h
    have hu := hu_of hr
    refine ⟨_, ((pss_cons (ps_set (i := 2) sc_law_left.nd rfl (Or.inl rfl) pe_dnewK)
      (pss_cons (ps_for PassesOwn.never rfl (pi_list (pe_callTy (call_listD rfl) (by rfl) T.b_list (by decide +kernel) (pa_cons (pe_ix ix_list (pv 0) pe_int (fun _ _ => rfl)) pa_nil))) (pg_name (i := 3) sc_law_left.nd rfl (Or.inl rfl)) (pss_cons (ps_set (i := 4) sc_law_left.nd rfl (Or.inl rfl) (pe_dget hu (pe_ix ix_list (pv 0) pe_int (fun _ _ => rfl)) (pv 3) (fun _ _ => rfl)))
      (pss_cons (ps_set (i := 5) sc_law_left.nd rfl (Or.inl rfl) (pe_callB (call_min2 rfl) (by rfl) T.b_min (by decide +kernel) (pa_cons (pe_callB (call_max2 rfl) (by rfl) T.b_max (by decide +kernel) (pa_cons (pe_dget2 hu (pv 1) (pv 3) (pe_ix ix_list (pv 4) pe_int (fun _ _ => rfl)) ⟨rfl, rfl, rfl, rfl⟩) (pa_cons (pe_ix ix_list (pv 4) pe_int (fun _ _ => rfl)) pa_nil))) (pa_cons (pe_callB call_len_seq (by rfl) T.b_len (by decide +kernel) (pa_cons (pe_ix ix_list (pv 4) pe_int (fun _ _ => rfl)) pa_nil)) pa_nil))))
      (pss_one (ps_dput hu (pv 2) (pv 3) (pe_lst (pa_cons (pe_slice sl_list (pe_ix ix_list (pv 4) pe_int (fun _ _ => rfl)) po_none (po_some (pv 5))) (pa_cons (pv 5) pa_nil))) rfl)))))
      (pss_one (ps_ret (pe_lst (pa_cons (pv 2) (pa_cons pe_int (pa_cons pe_non pa_nil))))))))), ?_⟩
    obtain ⟨xs, ex1, ex2, ex3⟩ := M.names
    have hxl : xs.length < 64 := by rw [names_len ex1]; exact hz
    intro f' hf'
    have M1 := M.keep fun b o _ e => same_new (o := .dK []) hf' b o e
    refine ⟨_, rfl, m, _, _, .ref f, rfl, rfl, SqL.of M1.hm, rfl, f, kf, rfl, .inl M1.hf, fun q hq => ?_⟩
    rw [keys_kV ex1]
    have nfq : f' ≠ q := ne_of_none upd_same hq
    have q0 : H q = none := by rw [upd_ne nfq.symm] at hq; exact hq
    refine ⟨q, rfl, ⟨_, SqL.of upd_same⟩, for_list (K := K) (a := q) (xs := xs.map V.str) (fun i σ H2 => ∃ (v3 v4 v5 : Option V) (kf' : List (Key × V)) (R2 E2 : Str → Addr), σ = [some (.ref m), some (.ref u), some (.ref f'), v3, v4, v5] ∧ Same H H2 ∧ H2 q = some (.lst (xs.map V.str)) ∧
      RowsAt H2 f' kf' R2 E2 (firstM (fallM F W) (xs.take i)) ∧ kf'.length ≤ i ∧ (∀ x, firstM (fallM F W) (xs.take i) x ≠ none → H (R2 x) = none ∧ H (E2 x) = none))
      ⟨none, none, none, [], fun _ => 0, fun _ => 0, rfl, fun b o e => by rw [upd_ne (ne_of_none e q0), upd_ne (ne_of_none e hf')]; exact e, upd_same, ?_, Nat.le_refl _, fun x hx => absurd (if_neg (by simp)) hx⟩ (fun i σ H2 _ ⟨_, _, _, _, _, _, _, _, h2, _⟩ => SqL.of h2) ?_ ?_⟩
    · have z : firstM (fallM F W) (xs.take 0) = fun _ => none := by funext y; exact if_neg (by simp)
      rw [z]
      exact ⟨by rw [upd_ne nfq, upd_same], fun _ _ => rfl, fun x cs m e => (by cases e), fun x y h => absurd rfl h, List.nodup_nil, fun k hk => (by cases hk)⟩
    · rintro i v σ H2 hi ⟨v3, v4, v5, kf', R2, E2, rfl, s2, hq2, Y', hlen, hfp⟩
      obtain ⟨y, hy, rfl⟩ : ∃ y, xs[i]? = some y ∧ v = V.str y := by
        rw [List.getElem?_map] at hi
        cases e : xs[i]? with
        | none => rw [e] at hi; cases hi
        | some y => rw [e] at hi; exact ⟨y, rfl, (Option.some.inj hi).symm⟩
      have hiy : i < xs.length := (List.getElem?_eq_some_iff.mp hy).1
      have hFy : F y ≠ none := (ex3 y).mp (List.mem_of_getElem? hy)
      have M2 := M.keep fun b o _ e => s2 b o e
      obtain ⟨g1, g2, g3⟩ := M2.get hFy
      obtain ⟨cs, sy, eF⟩ := ne_some hFy
      obtain ⟨ec, em⟩ := cells_some eF
      have hsy := hs y
      -- row
      refine ⟨_, rfl, m, _, _, .ref f, rfl, rfl, SqL.of M2.hm, rfl, _, rfl, f, .ref (R y), rfl, dget_k M2.hf g1, ?_⟩
      -- many
      refine ⟨_, rfl, u, rfl, .inl ⟨_, .inl (s2 _ _ hu0)⟩, _, rfl, _, rfl, R y, _, _, .int (synOf F y), rfl, rfl, SqL.of g2, rfl, _, DGet.k (k := Sum.inr y) (s2 _ _ hu0), ?_⟩
      have ew : (valV kw (Sum.inr y : Key)).getD (.int (synOf F y)) = V.int ((W y).getD (synOf F y)) := by
        rw [hW]
        cases W y <;> rfl
      rw [ew]
      refine ⟨_, rfl, R y, _, _, .int (synOf F y), rfl, rfl, SqL.of g2, rfl, _, _, rfl, ?_⟩
      refine ⟨_, rfl, R y, _, _, .ref (E' y), rfl, rfl, SqL.of g2, rfl, E' y, _, rfl, .inl (SqL.of g3), _, _, rfl, ?_⟩
      have emany : (if ((cellsOf F y).length : Int) < (if synOf F y > (W y).getD (synOf F y) then synOf F y else (W y).getD (synOf F y)) then ((cellsOf F y).length : Int) else (if synOf F y > (W y).getD (synOf F y) then synOf F y else (W y).getD (synOf F y))) = manyM (W y) (cs, sy) := by
        rw [ec, em]
        rw [em] at hsy
        unfold manyM
        cases W y with
        | some j => rfl
        | none =>
          have e1 : (if sy > (none : Option Int).getD sy then sy else (none : Option Int).getD sy) = sy := by show (if sy > sy then sy else sy) = sy; split <;> rfl
          have e2 : (if sy > (none : Option Int).getD 0 then sy else (none : Option Int).getD 0) = sy := by show (if sy > 0 then sy else 0) = sy; split <;> omega
          rw [e1, e2]
      rw [emany]
      generalize hmn : manyM (W y) (cs, sy) = mn
      have eFall : fallM F W y = some (cutV cs none (some mn), mn) := by unfold fallM; rw [eF, ← hmn]; rfl
      have efirst : firstM (fallM F W) (xs.take (i + 1)) = setM (firstM (fallM F W) (xs.take i)) y (cutV cs none (some mn), mn) := by rw [take_succ_of hy]; exact firstM_snoc eFall
      have hnew : firstM (fallM F W) (xs.take i) y = none := if_neg fun z => by
        obtain ⟨j, hj, ej⟩ := List.mem_take_iff_getElem.mp z
        have h1 : xs[j]? = some y := by rw [← ej]; exact List.getElem?_eq_getElem _
        have := nd_ix ex2 h1 hy
        omega
      have v1 := Y'.no y hnew
      -- files[name] = [row[0][:many], many]
      refine ⟨_, rfl, R y, _, _, .ref (E' y), rfl, rfl, SqL.of g2, rfl, _, rfl, mn, rfl, E' y, _, rfl, SqL.of g3, fun e ht => ?_⟩
      refine ⟨_, rfl, by show 2 ≤ sizeLine; decide, fun r hr => ?_⟩
      have ner : e ≠ r := ne_of_none upd_same hr
      have hr2 : H2 r = none := by rw [upd_ne ner.symm] at hr; exact hr
      have nt : ∀ {b : Addr} {o : HO}, H2 b = some o → b ≠ e := fun h => ne_of_none h ht
      have nr : ∀ {b : Addr} {o : HO}, H2 b = some o → b ≠ r := fun h => ne_of_none h hr2
      rw [ec]
      refine ⟨_, rfl, _, rfl, f', _, rfl, DPut.k (k := Sum.inr y) (by rw [upd_ne (nr Y'.hf), upd_ne (nt Y'.hf)]; exact Y'.hf) (small1000 (by omega)), ?_⟩
      refine ⟨_, _, _, putK kf' (.inr y) (.ref r), setL R2 y r, setL E2 y e, rfl, fun b o h => ?_, ?_, ?_, ?_, ?_⟩
      · have n1 : b ≠ f' := ne_of_none h hf'
        rw [upd_ne n1, upd_ne (ne_of_none h (s2.free hr2)), upd_ne (ne_of_none h (s2.free ht))]
        exact s2 b o h
      · rw [upd_ne (ne_of hq2 Y'.hf (fun z => by cases z)), upd_ne (nr hq2), upd_ne (nt hq2)]
        exact hq2
      · rw [efirst]
        refine Y'.set upd_same (Put1.put kf' y _) ?_ ?_ fun x hx hF => ?_
        · rw [upd_ne (nr Y'.hf).symm, upd_same]
        · rw [upd_ne (nt Y'.hf).symm, upd_ne ner, upd_same]
        · obtain ⟨⟨o1, z1⟩, ⟨o2, z2⟩, z3, z4⟩ := Y'.dom hF
          exact ⟨nr z1, by rw [upd_ne z3.symm, upd_ne (nr z1), upd_ne (nt z1)], by rw [upd_ne z4.symm, upd_ne (nr z2), upd_ne (nt z2)]⟩
      · rw [putK_new _ v1, List.length_append]
        exact Nat.add_le_add_right hlen 1
      · rw [efirst]
        intro x hx
        by_cases hxy : x = y
        · rw [hxy, setL_same, setL_same]
          exact ⟨s2.free hr2, s2.free ht⟩
        · rw [setL_ne hxy, setL_ne hxy]
          rw [setM_ne hxy] at hx
          exact hfp x hx
    · rintro σ H2 ⟨v3, v4, v5, kf', R2, E2, rfl, s2, hq2, Y', hlen, hfp⟩
      have eall : firstM (fallM F W) (xs.take (xs.map V.str).length) = fallM F W := by
        rw [List.length_map, List.take_length]
        refine firstM_all fun x hx => (ex3 x).mpr fun z => hx ?_
        unfold fallM
        rw [z]
        rfl
      rw [eall] at Y' hfp
      refine ⟨_, rfl, by show 3 ≤ sizeLine; decide, fun m' hm' => ?_⟩
      have sm := same_new (o := .lst [.ref f', .int 0, .non]) hm'
      have Y2 : RowsAt (upd H2 m' (.lst [.ref f', .int 0, .non])) f' kf' R2 E2 (fallM F W) := ⟨sm _ _ Y'.hf, Y'.no, fun x cs j e => ⟨(Y'.ye x cs j e).1, sm _ _ (Y'.ye x cs j e).2.1, sm _ _ (Y'.ye x cs j e).2.2⟩, Y'.inj, Y'.nd, Y'.ky⟩
      refine k m' f' kf' R2 E2 _ (Y2.mod (n := 0) (l := none) upd_same) (s2.trans sm) ?_
      rintro b (rfl | rfl | ⟨x, hx, rfl | rfl⟩)
      · exact s2.free hm'
      · exact hf'
      · exact (hfp x hx).1
      · exact (hfp x hx).2
end
end L2.Kd

namespace L2.Kd
open PySem PySem.Spec PyProof.Rows L2.Ex
section
variable {P : Program} {w : World} {K : PySem.W.Frag} {mg : Str → Option Value} {base : Heap} {A : Ad} {D : Fd}
/-! ## what a step is handed -/
def ArgOk (F : FM) (x deed : Str) (v : V) : Prop :=
  (deed = "limit" → ∃ a, v = limV a) ∧ (deed = "cut" → ∃ i : Int, v = .int i ∧ 0 ≤ i ∧ i ≤ ((cellsOf F x).length : Int)) ∧ (deed ≠ "limit" → deed ≠ "cut" → CellOk v)
def spArg : Sp := fun vs H Q _ => ∃ (P0 q : Addr) (ns : List Int) (m f : Addr) (kf : List (Key × V)) (R E : Str → Addr) (F : FM) (n : Int) (l : Option Int) (deed x : Str) (i : Int), vs = [.ref P0, .ref m, .str deed, .str x, .int i] ∧
  PoolAt H P0 q ns ∧ ModAt H m f kf R E F n l ∧ P0 ≠ m ∧ (cellsOf F x).length < 1000 ∧ 0 ≤ i ∧ i < 1000 ∧
  ∀ (v : V) (H' : Hp), ArgOk F x deed v → PoolAt H' P0 q ns → Kp (fun b => b = P0) H H' → Q v H'
theorem ne_dec {a b : Str} (h : a ≠ b) : decide (V.str a = V.str b) = false := decide_eq_false fun z => h (by injection z)
theorem eq_dec {a b : Str} (h : a = b) : decide (V.str a = V.str b) = true := decide_eq_true (by rw [h])
theorem ok_law_argument (T : Tx K mg A D) : FnOk P w K mg base CX0 4 A.f_law_argument D.f_law_argument ["_law_pool", "_law_model", "_law_deed", "_law_name", "_law_k"] spArg := by
  refine T.F_law_argument.ok sc_law_argument (fun vs H Q E h => ?_) (fun cdv A' outer s H vs Q E hr h => ?_)
  · obtain ⟨P0, q, ns, m, f, kf, R, E, F, n, l, deed, x, i, rfl, _⟩ := h
    rfl
  · obtain ⟨P0, q, ns, m, f, kf, R, E', F, n, l, deed, x, i, rfl, hp, M, nPm, hlen, i0, i1, k⟩ := h
    have hu := hu_of hr
    refine ⟨_, ((pss_cons (ps_if (pt_cmpR op_eq (pv 2) pe_str (nomark _)) (pss_cons (ps_set (i := 5) sc_law_argument.nd rfl (Or.inl rfl) (pe_op op_mod (pe_callTy call_int1 (by rfl) T.b_int (by decide +kernel) (pa_cons (pe_op op_add (pe_call (ok_law_draw T) (hr.mono (by decide)) (by rfl) T.m_law_draw T.F_law_draw.kp (b_law_draw T) .nil pass0 (pa_cons (pv 0) (pa_cons pe_int pa_nil))) (pv 4)) pa_nil)) pe_int))
      (pss_cons (ps_if (pt_cmpR op_eq (pv 5) pe_int (nomark _)) (pss_one (ps_ret pe_non)) pss_nil)
      (pss_one (ps_ret (pe_op op_sub (pe_op op_add (pe_ix ix_list (pv 1) pe_int (fun _ _ => rfl)) (pv 5)) pe_int))))) pss_nil)
      (pss_cons (ps_if (pt_cmpR op_eq (pv 2) pe_str (nomark _)) (pss_cons (ps_set (i := 6) sc_law_argument.nd rfl (Or.inl rfl) pe_int)
      (pss_cons (ps_if (pt_cmp (pc_din hu (pv 3) (pe_ix ix_list (pv 1) pe_int (fun _ _ => rfl)))) (pss_one (ps_set (i := 6) sc_law_argument.nd rfl (Or.inl rfl) (pe_callB call_len_seq (by rfl) T.b_len (by decide +kernel) (pa_cons (pe_ix ix_list (pe_dget hu (pe_ix ix_list (pv 1) pe_int (fun _ _ => rfl)) (pv 3) (fun _ _ => rfl)) pe_int (fun _ _ => rfl)) pa_nil)))) pss_nil)
      (pss_one (ps_ret (pe_op op_mod (pe_callTy call_int1 (by rfl) T.b_int (by decide +kernel) (pa_cons (pe_op op_add (pe_call (ok_law_draw T) (hr.mono (by decide)) (by rfl) T.m_law_draw T.F_law_draw.kp (b_law_draw T) .nil pass0 (pa_cons (pv 0) (pa_cons (pe_op op_add (pv 6) pe_int) pa_nil))) pe_int) pa_nil)) (pe_op op_add (pv 6) pe_int)))))) pss_nil)
      (pss_cons (ps_set (i := 5) sc_law_argument.nd rfl (Or.inl rfl) (pe_op op_mod (pe_callTy call_int1 (by rfl) T.b_int (by decide +kernel) (pa_cons (pe_op op_add (pe_call (ok_law_draw T) (hr.mono (by decide)) (by rfl) T.m_law_draw T.F_law_draw.kp (b_law_draw T) .nil pass0 (pa_cons (pv 0) (pa_cons pe_int pa_nil))) (pv 4)) pa_nil)) pe_int))
      (pss_cons (ps_if (pt_cmpR op_lt (pv 5) pe_int (nomark _)) (pss_one (ps_ret (pe_op op_sub (pe_op op_mod (pe_callTy call_int1 (by rfl) T.b_int (by decide +kernel) (pa_cons (pe_op op_add (pe_op op_add (pe_call (ok_law_draw T) (hr.mono (by decide)) (by rfl) T.m_law_draw T.F_law_draw.kp (b_law_draw T) .nil pass0 (pa_cons (pv 0) (pa_cons pe_int pa_nil))) pe_int) (pv 4)) pa_nil)) pe_int) pe_int))) pss_nil)
      (pss_one (ps_ret (pe_ix ix_list (pe_lst (pa_cons pe_str (pa_cons pe_str (pa_cons pe_str (pa_cons (pv 4) pa_nil))))) (pe_op op_sub (pv 5) pe_int) (fun _ _ => rfl))))))))), ?_⟩
    have kpP : ∀ {o : HO}, Kp (fun b => b = P0) H (upd H P0 o) := Kp.at rfl
    refine ⟨_, rfl, rfl, _, rfl, ?_⟩
    by_cases hL : deed = "limit"
    · refine if_true_of (eq_dec hL) ?_
      refine ⟨_, rfl, P0, q, ns, 7, rfl, hp, by decide, by decide, fun d o d0 d1 hp3 => ?_⟩
      refine ⟨_, rfl, _, _, rfl, rfl, .inl ⟨_, rfl, _, _, rfl, rfl, (by show (0 : Int) < 7; decide), ?_⟩⟩
      have ok : ∀ a, ArgOk F x deed (limV a) := fun a => ⟨fun _ => ⟨a, rfl⟩, fun z => absurd (hL.symm.trans z) (by decide +kernel), fun z => absurd hL z⟩
      refine ⟨_, rfl, rfl, _, rfl, ?_⟩
      by_cases h6 : (d + i) % 7 = 6
      · refine if_true_of (decide_eq_true (show V.int ((d + i) % 7) = V.int 6 by rw [h6])) ?_
        exact k .non _ (ok none) hp3 kpP
      · refine if_false_of (decide_eq_false fun z => h6 (by injection z)) ?_
        refine ⟨_, rfl, m, _, _, .int n, rfl, rfl, SqL.of (by rw [upd_ne nPm.symm]; exact M.hm), rfl, _, rfl, _, _, rfl, rfl, _, _, rfl, rfl, ?_⟩
        exact k (.int (n + (d + i) % 7 - 1)) _ (ok (some _)) hp3 kpP
    refine if_false_of (ne_dec hL) ?_
    refine ⟨_, rfl, rfl, _, rfl, ?_⟩
    by_cases hC : deed = "cut"
    · refine if_true_of (eq_dec hC) ?_
      refine ⟨_, rfl, _, rfl, m, _, _, .ref f, rfl, rfl, SqL.of M.hm, rfl, f, _, rfl, DGet.k (k := Sum.inr x) M.hf, _, rfl, ?_⟩
      have fin : ∀ (j : Nat), j = (cellsOf F x).length → ∀ (tt : TS), tt = tRet (tOp (rI (fun _ j => 0 < j) fun i j => .int (i % j)) (tCB (fun xs H Q => (∃ i, xs = [.int i] ∧ Q (.int i) H) ∨ ∃ k, xs = [.bl k] ∧ Q (.int (if k then 1 else 0)) H) (tCons (tOp (rI0 fun i j => .int (i + j)) (tCall spDraw [] E0 (tCons (tVar 0) (tCons (tOp (rI0 fun i j => .int (i + j)) (tVar 6) (tC (.int 1))) tNil))) (tC (.int 2))) tNil)) (tOp (rI0 fun i j => .int (i + j)) (tVar 6) (tC (.int 1)))) →
          tt { nx := fun _ H' => Q .non H', rt := Q } [some (.ref P0), some (.ref m), some (.str deed), some (.str x), some (.int i), none, some (.int j)] H := by
        rintro j hj tt rfl
        refine ⟨_, rfl, _, rfl, _, _, rfl, rfl, P0, q, ns, (j : Int) + 1, rfl, hp, by omega, ?_, fun d o d0 d1 hp3 => ?_⟩
        · have : ((j : Int) + 1).natAbs < 2 ^ 10 := by omega
          have := PySem.Flt.log2_lt_of (k := 10) (by decide) this
          omega
        · refine ⟨_, _, rfl, rfl, .inl ⟨_, rfl, _, rfl, _, _, rfl, rfl, _, _, rfl, rfl, (by show (0 : Int) < (j : Int) + 1; omega), ?_⟩⟩
          refine k _ _ ⟨fun z => absurd z hL, fun _ => ⟨_, rfl, Int.emod_nonneg _ (by omega), ?_⟩, fun _ z => absurd hC z⟩ hp3 kpP
          have := Int.emod_lt_of_pos (d + 2) (b := (j : Int) + 1) (by omega)
          omega
      by_cases hF : F x = none
      · refine if_false_of (by rw [M.has.mpr hF]; rfl) ?_
        exact fin 0 (by rw [(cells_none hF).1]; rfl) _ rfl
      · obtain ⟨g1, g2, g3⟩ := M.get hF
        refine if_true_of (by rw [g1]; rfl) ?_
        refine ⟨_, rfl, m, _, _, .ref f, rfl, rfl, SqL.of M.hm, rfl, _, rfl, f, .ref (R x), rfl, dget_k M.hf g1, R x, _, _, .ref (E' x), rfl, rfl, SqL.of g2, rfl, E' x, _, rfl, .inl (SqL.of g3), ?_⟩
        exact fin _ rfl _ rfl
    refine if_false_of (ne_dec hC) ?_
    refine ⟨_, rfl, P0, q, ns, 6, rfl, hp, by decide, by decide, fun d o d0 d1 hp3 => ?_⟩
    refine ⟨_, rfl, _, _, rfl, rfl, .inl ⟨_, rfl, _, _, rfl, rfl, (by show (0 : Int) < 6; decide), ?_⟩⟩
    have hp0 : 0 ≤ (d + i) % 6 := Int.emod_nonneg _ (by decide)
    have hp6 : (d + i) % 6 < 6 := Int.emod_lt_of_pos _ (by decide)
    refine ⟨_, rfl, _, _, rfl, rfl, _, rfl, ?_⟩
    by_cases h2 : (d + i) % 6 < 2
    · refine if_true_of (decide_eq_true h2) ?_
      refine ⟨_, rfl, P0, q, ns, 1999999999, rfl, hp3, by decide, by decide +kernel, fun d' o' d0' d1' hp4 => ?_⟩
      refine ⟨_, _, rfl, rfl, _, rfl, _, _, rfl, rfl, .inl ⟨_, rfl, _, _, rfl, rfl, (by show (0 : Int) < 1999999999; decide), _, _, rfl, rfl, ?_⟩⟩
      have e0 : 0 ≤ (d' + 999999999 + i) % 1999999999 := Int.emod_nonneg _ (by decide)
      have e1 : (d' + 999999999 + i) % 1999999999 < 1999999999 := Int.emod_lt_of_pos _ (by decide)
      refine k _ _ ⟨fun z => absurd z hL, fun z => absurd z hC, fun _ _ => .inl ⟨_, rfl, ?_⟩⟩ hp4 fun b u h1 h3 => ?_
      · have : (2 : Nat) ^ 40 = 1099511627776 := by decide
        omega
      · rw [upd_ne h3, upd_ne h3]; exact h1
    · refine if_false_of (decide_eq_false h2) ?_
      refine ⟨_, rfl, by show 4 ≤ sizeLine; decide, fun t ht => ?_⟩
      have hk : ∀ v, CellOk v → Q v (upd (upd H P0 o) t (.lst [.str "", .str "plain", .str "a b~", .int i])) := fun v hv => by
        refine k v _ ⟨fun z => absurd z hL, fun z => absurd z hC, fun _ _ => hv⟩ ?_ fun b u h1 h3 => ?_
        · obtain ⟨a5, r5, h5, h55, z5⟩ := hp3
          exact ⟨a5, r5, by rw [upd_ne (ne_of_none h5 ht)]; exact h5, by rw [upd_ne (ne_of_none h55 ht)]; exact h55, z5⟩
        · have h4 : upd H P0 o b = some u := by rw [upd_ne h3]; exact h1
          rw [upd_ne (ne_of_none h4 ht)]
          exact h4
      obtain ⟨j, hj, hj4⟩ : ∃ j : Nat, (d + i) % 6 - 2 = (j : Int) ∧ j < 4 := ⟨((d + i) % 6 - 2).toNat, by omega, by omega⟩
      refine ⟨_, rfl, _, _, rfl, rfl, ?_⟩
      have p40 : (2 : Nat) ^ 40 = 1099511627776 := by decide
      match j, hj, hj4 with
      | 0, hj, _ => exact ⟨t, _, _, .str "", rfl, rfl, SqL.of upd_same, (by rw [hj]; rfl), hk _ (.inr (.inl rfl))⟩
      | 1, hj, _ => exact ⟨t, _, _, .str "plain", rfl, rfl, SqL.of upd_same, (by rw [hj]; rfl), hk _ (.inr (.inr (.inl rfl)))⟩
      | 2, hj, _ => exact ⟨t, _, _, .str "a b~", rfl, rfl, SqL.of upd_same, (by rw [hj]; rfl), hk _ (.inr (.inr (.inr rfl)))⟩
      | 3, hj, _ => exact ⟨t, _, _, .int i, rfl, rfl, SqL.of upd_same, (by rw [hj]; rfl), hk _ (.inl ⟨i, rfl, by omega⟩)⟩
end
end L2.Kd

namespace L2.Kd
open PySem PySem.Spec PyProof.Rows L2.Ex
/-! ## a disk and the law's own list of it -/
structure Good (F : FM) (j : Nat) : Prop where
  six : ∀ x, F x ≠ none → x ∈ six
  ce : ∀ x, ∀ v ∈ cellsOf F x, CellOk v
  ln : ∀ x, (cellsOf F x).length ≤ j
  sy : ∀ x, 0 ≤ synOf F x
theorem CellOk.c {v : V} (h : CellOk v) : L2.Kd.isC v = true := by
  rcases h with ⟨i, rfl, _⟩ | rfl | rfl | rfl <;> rfl
theorem Good.cl {F : FM} {j : Nat} (g : Good F j) : Cl F := fun x cs k e v hv => (g.ce x v (by rw [(cells_some e).1]; exact hv)).c
theorem Good.rp {F : FM} {j : Nat} (g : Good F j) (h : j ≤ 100) (x : Str) : Rp (cellsOf F x) := Rp.of (g.ce x) (Nat.le_trans (g.ln x) h)
theorem Good.mono {F : FM} {j k : Nat} (g : Good F j) (h : j ≤ k) : Good F k := ⟨g.six, g.ce, fun x => Nat.le_trans (g.ln x) h, g.sy⟩
theorem Good.str {F : FM} {j : Nat} (g : Good F j) (x : Str) (h : F x ≠ none) : PyData.strOk x = true := six_ok x (g.six x h)
theorem nd_len : ∀ {l m : List Str}, l.Nodup → (∀ x ∈ l, x ∈ m) → l.length ≤ m.length
  | [], m, _, _ => Nat.zero_le _
  | x :: r, m, nd, h => by
    obtain ⟨n1, n2⟩ := List.nodup_cons.mp nd
    have hx := h x List.mem_cons_self
    have := nd_len (l := r) (m := m.erase x) n2 fun y hy => (List.mem_erase_of_ne (fun z => n1 (by rw [← z]; exact hy))).mpr (h y (List.mem_cons_of_mem _ hy))
    rw [List.length_erase_of_mem hx] at this
    have : 0 < m.length := List.length_pos_of_mem hx
    rw [List.length_cons]
    omega
theorem cellsOf_set {F : FM} {x y : Str} {r : List V × Int} : cellsOf (setM F x r) y = if y = x then r.1 else cellsOf F y := by
  unfold cellsOf
  by_cases h : y = x
  · rw [h, setM_same, if_pos rfl]; rfl
  · rw [setM_ne h, if_neg h]
theorem synOf_set {F : FM} {x y : Str} {r : List V × Int} : synOf (setM F x r) y = if y = x then r.2 else synOf F y := by
  unfold synOf
  by_cases h : y = x
  · rw [h, setM_same, if_pos rfl]; rfl
  · rw [setM_ne h, if_neg h]
theorem Good.set {F : FM} {j : Nat} (g : Good F j) {x : Str} {cs : List V} {m : Int} (hx : x ∈ L2.Kd.six) (h1 : ∀ v ∈ cs, CellOk v) (h2 : cs.length ≤ j + 1) (h3 : 0 ≤ m) : Good (setM F x (cs, m)) (j + 1) := by
  refine ⟨fun y hy => ?_, fun y => ?_, fun y => ?_, fun y => ?_⟩
  · by_cases e : y = x
    · rw [e]; exact hx
    · rw [setM_ne e] at hy; exact g.six y hy
  · rw [cellsOf_set]
    split
    · exact h1
    · exact g.ce y
  · rw [cellsOf_set]
    split
    · exact h2
    · exact Nat.le_succ_of_le (g.ln y)
  · rw [synOf_set]
    split
    · exact h3
    · exact g.sy y
theorem Good.drop {F : FM} {j : Nat} (g : Good F j) (x : Str) : Good (dropM F x) (j + 1) := by
  have e : ∀ y, dropM F x y = none ∨ dropM F x y = F y := fun y => by
    by_cases h : y = x
    · rw [h]; exact .inl dropM_same
    · exact .inr (dropM_ne h)
  have c : ∀ y, (cellsOf (dropM F x) y = [] ∧ synOf (dropM F x) y = 0) ∨ (cellsOf (dropM F x) y = cellsOf F y ∧ synOf (dropM F x) y = synOf F y) := fun y => by
    rcases e y with h | h
    · exact .inl (cells_none h)
    · exact .inr (by unfold cellsOf synOf; rw [h]; exact ⟨rfl, rfl⟩)
  refine ⟨fun y hy => ?_, fun y => ?_, fun y => ?_, fun y => ?_⟩
  · rcases e y with h | h
    · exact absurd h hy
    · rw [h] at hy; exact g.six y hy
  · rcases c y with h | h
    · rw [h.1]; intro v hv; cases hv
    · rw [h.1]; exact g.ce y
  · rcases c y with h | h
    · rw [h.1]; exact Nat.zero_le _
    · rw [h.1]; exact Nat.le_succ_of_le (g.ln y)
  · rcases c y with h | h
    · rw [h.2]; exact Int.le_refl _
    · rw [h.2]; exact g.sy y
theorem cutV_mem {cs : List V} {a b : Option Int} {v : V} (h : v ∈ cutV cs a b) : v ∈ cs := List.mem_of_mem_drop (List.mem_of_mem_take h)
theorem Good.fall {F : FM} {j : Nat} (g : Good F j) (W : Str → Option Int) : Good (fallM F W) j := by
  have c : ∀ y, (F y = none ∧ fallM F W y = none) ∨ ∃ cs m k, F y = some (cs, m) ∧ fallM F W y = some (cutV cs none (some k), k) ∧ 0 ≤ k := fun y => by
    cases e : F y with
    | none => exact .inl ⟨rfl, by unfold fallM; rw [e]; rfl⟩
    | some r =>
      obtain ⟨cs, m⟩ := r
      refine .inr ⟨cs, m, manyM (W y) (cs, m), rfl, by unfold fallM; rw [e]; rfl, ?_⟩
      have h0 := g.sy y
      rw [(cells_some e).2] at h0
      unfold manyM
      show 0 ≤ if (cs.length : Int) < (if m > (W y).getD 0 then m else (W y).getD 0) then (cs.length : Int) else (if m > (W y).getD 0 then m else (W y).getD 0)
      split
      · omega
      · split <;> omega
  refine ⟨fun y hy => ?_, fun y => ?_, fun y => ?_, fun y => ?_⟩
  · rcases c y with ⟨_, h⟩ | ⟨cs, m, k, h, _⟩
    · exact absurd h hy
    · exact g.six y (by rw [h]; simp)
  · rcases c y with ⟨_, h⟩ | ⟨cs, m, k, h, h2, _⟩
    · rw [(cells_none h).1]; intro v hv; cases hv
    · rw [(cells_some h2).1]
      intro v hv
      exact g.ce y v (by rw [(cells_some h).1]; exact cutV_mem hv)
  · rcases c y with ⟨_, h⟩ | ⟨cs, m, k, h, h2, _⟩
    · rw [(cells_none h).1]; exact Nat.zero_le _
    · rw [(cells_some h2).1]
      have := g.ln y
      rw [(cells_some h).1] at this
      exact Nat.le_trans (cutV_length _ _ _) this
  · rcases c y with ⟨_, h⟩ | ⟨cs, m, k, h, h2, h3⟩
    · rw [(cells_none h).2]; exact Int.le_refl _
    · rw [(cells_some h2).2]; exact h3
/-- what a step must be handed -/
def Op.Ok : Op → Prop
  | .put _ v => CellOk v
  | .cut _ k => 0 ≤ k
  | _ => True
theorem Good.after {F : FM} {j : Nat} {n : Int} {l : Option Int} (g : Good F j) {o : Op} (hx : o.nm ∈ L2.Kd.six) (ho : o.Ok) : Good (o.after F n l).1 (j + 1) := by
  have stay : Good F (j + 1) := g.mono (Nat.le_succ j)
  unfold Op.after
  split
  · cases o with
    | put x v =>
      refine g.set hx (fun u hu => ?_) ?_ (g.sy x)
      · rcases List.mem_append.mp hu with h | h
        · exact g.ce x u h
        · rw [List.mem_singleton.mp h]; exact ho
      · rw [List.length_append]
        exact Nat.succ_le_succ (g.ln x)
    | sync x v => exact g.set hx (g.ce x) (Nat.le_succ_of_le (g.ln x)) (Int.natCast_nonneg _)
    | cut x k =>
      refine g.set hx (fun u hu => g.ce x u (cutV_mem hu)) (Nat.le_trans (cutV_length _ _ _) (Nat.le_succ_of_le (g.ln x))) ?_
      have h1 := g.sy x
      have h2 : 0 ≤ k := ho
      split <;> omega
    | strike x v => exact g.drop x
    | lim x a => exact stay
  · exact stay
/-- the steps as they are drawn -/
theorem op_of {F : FM} {x deed : Str} {v : V} (h : ArgOk F x deed v) (hd : deed = "put" ∨ deed = "sync" ∨ deed = "cut" ∨ deed = "strike" ∨ deed = "limit") : ∃ o : Op, o.deed = deed ∧ o.nm = x ∧ o.arg = v ∧ o.Ok := by
  rcases hd with rfl | rfl | rfl | rfl | rfl
  · exact ⟨.put x v, rfl, rfl, rfl, h.2.2 (by decide +kernel) (by decide +kernel)⟩
  · exact ⟨.sync x v, rfl, rfl, rfl, trivial⟩
  · obtain ⟨i, rfl, h0, _⟩ := h.2.1 rfl
    exact ⟨.cut x i, rfl, rfl, rfl, h0⟩
  · exact ⟨.strike x v, rfl, rfl, rfl, trivial⟩
  · obtain ⟨a, rfl⟩ := h.1 rfl
    exact ⟨.lim x a, rfl, rfl, rfl, trivial⟩
/-! ### the pairs -/
structure PD where
  (p c s : Addr) (kc ks : List (Key × V)) (L : Str → Addr) (m f : Addr) (kf : List (Key × V)) (R E : Str → Addr) (F : FM) (n : Int) (l : Option Int)
def PD.D (d : PD) : Addr → Prop := fpD d.p d.c d.s d.L d.F
def PD.M (d : PD) : Addr → Prop := fpM d.m d.f d.R d.E d.F
structure PD.Ok (d : PD) (C : Addr) (H : Hp) (j : Nat) : Prop where
  dk : DiskAt C H d.p d.c d.s d.kc d.ks d.L d.F d.n d.l
  md : ModAt H d.m d.f d.kf d.R d.E d.F d.n d.l
  ap : ∀ b, d.D b → ¬ d.M b
  gd : Good d.F j
section
variable {C : Addr} {H H1 H2 : Hp} {d : PD} {j : Nat}
theorem PD.Ok.keep (h : d.Ok C H j) (k : ∀ b o, d.D b ∨ d.M b → H b = some o → H2 b = some o) : d.Ok C H2 j :=
  ⟨h.dk.keep fun b o e => k b o (.inl e), h.md.keep fun b o e => k b o (.inr e), h.ap, h.gd⟩
theorem PD.Ok.mono (h : d.Ok C H j) {k : Nat} (hk : j ≤ k) : d.Ok C H k := ⟨h.dk, h.md, h.ap, h.gd.mono hk⟩
theorem PD.Ok.dom (h : d.Ok C H j) {b : Addr} (e : d.D b ∨ d.M b) : ∃ o, H b = some o := e.elim (h.dk.dom b) (h.md.dom b)
theorem PD.Ok.kc6 (h : d.Ok C H j) : d.kc.length ≤ 6 := by
  obtain ⟨xs, e1, e2, e3⟩ := h.dk.names
  rw [← names_len e1]
  exact nd_len (m := six) e2 fun x hx => h.gd.six x ((e3 x).mp hx)
theorem PD.Ok.kf6 (h : d.Ok C H j) : d.kf.length ≤ 6 := by
  obtain ⟨xs, e1, e2, e3⟩ := h.md.names
  rw [← names_len e1]
  exact nd_len (m := six) e2 fun x hx => h.gd.six x ((e3 x).mp hx)
theorem ModAt.kind {m f : Addr} {kf : List (Key × V)} {R E : Str → Addr} {F : FM} {n : Int} {l : Option Int} (M : ModAt H m f kf R E F n l) {b : Addr} {xs : List V} (e : H b = some (.tup xs)) : ¬ fpM m f R E F b := by
  rintro (rfl | rfl | ⟨x, hx, h⟩)
  · rw [M.hm] at e; cases e
  · rw [M.hf] at e; cases e
  · obtain ⟨_, g2, g3⟩ := M.get hx
    rcases h with rfl | rfl
    · rw [g2] at e; cases e
    · rw [g3] at e; cases e
end
/-! ### the law's state -/
structure LInv (C : Addr) (H : Hp) (P0 q aD aM aL : Addr) (ns : List Int) (dl : List V) (ds : Nat → PD) (N j : Nat) : Prop where
  po : PoolAt H P0 q ns
  hD : H aD = some (.lst ((List.range N).map fun i => V.ref (ds i).p))
  hM : H aM = some (.lst ((List.range N).map fun i => V.ref (ds i).m))
  hL : H aL = some (.lst dl)
  n1 : 1 ≤ N
  n3 : N ≤ 3
  ok : ∀ i, i < N → (ds i).Ok C H j
  dj : ∀ i k, i < N → k < N → i ≠ k → ∀ x, (ds i).D x ∨ (ds i).M x → ¬ ((ds k).D x ∨ (ds k).M x)
  ba : ∀ i, i < N → ∀ x, (ds i).D x ∨ (ds i).M x → ¬ (x = P0 ∨ x = q ∨ x = aD ∨ x = aM ∨ x = aL)
/-- the law's own lists lie apart -/
structure BNe (P0 q aD aM aL : Addr) : Prop where
  (d1 : P0 ≠ q) (d2 : P0 ≠ aD) (d3 : P0 ≠ aM) (d4 : P0 ≠ aL) (d5 : aD ≠ aM) (d6 : aD ≠ q) (d7 : aM ≠ q) (d8 : aL ≠ aD) (d9 : aL ≠ aM)
theorem rng_at {α : Type} {N i : Nat} (f : Nat → α) (h : i < N) : ((List.range N).map f)[i]? = some (f i) := by
  rw [List.getElem?_map, List.getElem?_range h]
  rfl
section
variable {C : Addr} {H H1 H2 : Hp} {P0 q aD aM aL : Addr} {ns : List Int} {dl : List V} {ds : Nat → PD} {N j : Nat}
theorem LInv.mono (I : LInv C H P0 q aD aM aL ns dl ds N j) {k : Nat} (h : j ≤ k) : LInv C H P0 q aD aM aL ns dl ds N k :=
  ⟨I.po, I.hD, I.hM, I.hL, I.n1, I.n3, fun i hi => (I.ok i hi).mono h, I.dj, I.ba⟩
theorem LInv.same (I : LInv C H P0 q aD aM aL ns dl ds N j) (s : Same H H2) : LInv C H2 P0 q aD aM aL ns dl ds N j := by
  obtain ⟨a, r, h1, h2, h3⟩ := I.po
  exact ⟨⟨a, r, s _ _ h1, s _ _ h2, h3⟩, s _ _ I.hD, s _ _ I.hM, s _ _ I.hL, I.n1, I.n3, fun i hi => (I.ok i hi).keep fun b o _ e => s b o e, I.dj, I.ba⟩
/-- a draw -/
theorem LInv.drawn (I : LInv C H P0 q aD aM aL ns dl ds N j) (B : BNe P0 q aD aM aL) (k : Kp (fun b => b = P0) H H2) (hp : PoolAt H2 P0 q ns) : LInv C H2 P0 q aD aM aL ns dl ds N j :=
  ⟨hp, k _ _ I.hD B.d2.symm, k _ _ I.hM B.d3.symm, k _ _ I.hL B.d4.symm, I.n1, I.n3, fun i hi => (I.ok i hi).keep fun b o e h => k b o h fun z => I.ba i hi b e (.inl z), I.dj, I.ba⟩
theorem LInv.dom (I : LInv C H P0 q aD aM aL ns dl ds N j) {x : Addr} (h : x = P0 ∨ x = q ∨ x = aD ∨ x = aM ∨ x = aL) : ∃ o, H x = some o := by
  obtain ⟨a, r, h1, h2, h3⟩ := I.po
  rcases h with rfl | rfl | rfl | rfl | rfl
  · exact ⟨_, h1⟩
  · exact ⟨_, h2⟩
  · exact ⟨_, I.hD⟩
  · exact ⟨_, I.hM⟩
  · exact ⟨_, I.hL⟩
def putD (ds : Nat → PD) (i : Nat) (d : PD) : Nat → PD := fun k => if k = i then d else ds k
theorem putD_same {ds : Nat → PD} {i : Nat} {d : PD} : putD ds i d i = d := if_pos rfl
theorem putD_ne {ds : Nat → PD} {i k : Nat} {d : PD} (h : k ≠ i) : putD ds i d k = ds k := if_neg h
/-- a step of one of the pairs -/
theorem LInv.step (I : LInv C H P0 q aD aM aL ns dl ds N j) {i : Nat} (hi : i < N) (d' : PD) (hp : d'.p = (ds i).p) (hm : d'.m = (ds i).m)
    (D1 : DiskAt C H1 d'.p d'.c d'.s d'.kc d'.ks d'.L d'.F d'.n d'.l) (k1 : Kp (ds i).D H H1) (g1 : Grow (ds i).D d'.D H)
    (M2 : ModAt H2 d'.m d'.f d'.kf d'.R d'.E d'.F d'.n d'.l) (k2 : Kp (ds i).M H1 H2) (g2 : Grow (ds i).M d'.M H1) (gd : Good d'.F (j + 1)) : LInv C H2 P0 q aD aM aL ns dl (putD ds i d') N (j + 1) := by
  have O := I.ok i hi
  -- what lies outside of the pair stays
  have st : ∀ b o, H b = some o → ¬ ((ds i).D b ∨ (ds i).M b) → H2 b = some o := fun b o h n => k2 b o (k1 b o h fun z => n (.inl z)) fun z => n (.inr z)
  have st1 : ∀ b o, H b = some o → ¬ ((ds i).D b ∨ (ds i).M b) → H1 b = some o := fun b o h n => k1 b o h fun z => n (.inl z)
  have bs : ∀ x, (x = P0 ∨ x = q ∨ x = aD ∨ x = aM ∨ x = aL) → ¬ ((ds i).D x ∨ (ds i).M x) := fun x hx z => I.ba i hi x z hx
  -- the new disk's places are none of the old list's
  have nDM : ∀ b, d'.D b → ¬ (ds i).M b := fun b h z => (g1 b h).elim (fun y => O.ap b y z) fun y => by
    obtain ⟨o, e⟩ := O.md.dom b z
    rw [y] at e
    cases e
  -- the new places are none of those that lay outside
  have out : ∀ b o, H b = some o → ¬ ((ds i).D b ∨ (ds i).M b) → ¬ (d'.D b ∨ d'.M b) := fun b o h n z => by
    rcases z with z | z
    · rcases g1 b z with y | y
      · exact n (.inl y)
      · rw [h] at y; cases y
    · rcases g2 b z with y | y
      · exact n (.inr y)
      · rw [st1 b o h n] at y; cases y
  have okD : DiskAt C H2 d'.p d'.c d'.s d'.kc d'.ks d'.L d'.F d'.n d'.l := D1.keep fun b o h e => k2 b o e (nDM b h)
  have ap : ∀ b, d'.D b → ¬ d'.M b := fun b h z => (g2 b z).elim (nDM b h) fun y => by
    obtain ⟨o, e⟩ := D1.dom b h
    rw [y] at e
    cases e
  obtain ⟨a, r, h1, h2, h3⟩ := I.po
  have mp : ((List.range N).map fun k => V.ref (putD ds i d' k).p) = (List.range N).map fun k => V.ref (ds k).p := List.map_congr_left fun k _ => by
    by_cases e : k = i
    · rw [e, putD_same, hp]
    · rw [putD_ne e]
  have mm : ((List.range N).map fun k => V.ref (putD ds i d' k).m) = (List.range N).map fun k => V.ref (ds k).m := List.map_congr_left fun k _ => by
    by_cases e : k = i
    · rw [e, putD_same, hm]
    · rw [putD_ne e]
  refine ⟨⟨a, r, st _ _ h1 (bs _ (.inl rfl)), st _ _ h2 (bs _ (.inr (.inl rfl))), h3⟩, by rw [mp]; exact st _ _ I.hD (bs _ (.inr (.inr (.inl rfl)))), by rw [mm]; exact st _ _ I.hM (bs _ (.inr (.inr (.inr (.inl rfl))))),
    st _ _ I.hL (bs _ (.inr (.inr (.inr (.inr rfl))))), I.n1, I.n3, fun k hk => ?_, fun k k' hk hk' ne x => ?_, fun k hk x => ?_⟩
  · by_cases e : k = i
    · rw [e, putD_same]
      exact ⟨okD, M2, ap, gd⟩
    · rw [putD_ne e]
      exact ((I.ok k hk).keep fun b o h z => st b o z fun y => I.dj k i hk hi e b h y).mono (Nat.le_succ j)
  · by_cases e : k = i
    · by_cases e' : k' = i
      · exact absurd (e.trans e'.symm) ne
      · rw [e, putD_same, putD_ne e']
        intro z y
        obtain ⟨o, ho⟩ := (I.ok k' hk').dom y
        exact out x o ho (fun z => I.dj k' i hk' hi e' x y z) z
    · by_cases e' : k' = i
      · rw [e', putD_same, putD_ne e]
        intro y z
        obtain ⟨o, ho⟩ := (I.ok k hk).dom y
        exact out x o ho (fun z => I.dj k i hk hi e x y z) z
      · rw [putD_ne e, putD_ne e']
        exact I.dj k k' hk hk' ne x
  · by_cases e : k = i
    · rw [e, putD_same]
      intro z y
      obtain ⟨o, ho⟩ := I.dom y
      exact out x o ho (bs x y) z
    · rw [putD_ne e]
      exact I.ba k hk x
/-- one more pair -/
theorem LInv.more (I : LInv C H P0 q aD aM aL ns dl ds N j) (B : BNe P0 q aD aM aL) (hN : N < 3) (d' : PD) (O : d'.Ok C H1 j) (s : Same H H1) (fr : ∀ b, d'.D b ∨ d'.M b → H b = none) :
    LInv C (upd (upd H1 aD (.lst (((List.range N).map fun i => V.ref (ds i).p) ++ [V.ref d'.p]))) aM (.lst (((List.range N).map fun i => V.ref (ds i).m) ++ [V.ref d'.m]))) P0 q aD aM aL ns dl (putD ds N d') (N + 1) j := by
  have I1 := I.same s
  have nb : ∀ b, (d'.D b ∨ d'.M b) → ¬ (b = P0 ∨ b = q ∨ b = aD ∨ b = aM ∨ b = aL) := fun b h z => by
    obtain ⟨o, e⟩ := I.dom z
    rw [fr b h] at e
    cases e
  have mp : ((List.range (N + 1)).map fun k => V.ref (putD ds N d' k).p) = ((List.range N).map fun k => V.ref (ds k).p) ++ [V.ref d'.p] := by
    rw [List.range_succ, List.map_append]
    congr 1
    · exact List.map_congr_left fun k hk => by rw [putD_ne (Nat.ne_of_lt (List.mem_range.mp hk))]
    · show [V.ref (putD ds N d' N).p] = _
      rw [putD_same]
  have mm : ((List.range (N + 1)).map fun k => V.ref (putD ds N d' k).m) = ((List.range N).map fun k => V.ref (ds k).m) ++ [V.ref d'.m] := by
    rw [List.range_succ, List.map_append]
    congr 1
    · exact List.map_congr_left fun k hk => by rw [putD_ne (Nat.ne_of_lt (List.mem_range.mp hk))]
    · show [V.ref (putD ds N d' N).m] = _
      rw [putD_same]
  obtain ⟨a, r, h1, h2, h3⟩ := I1.po
  have st : ∀ b o, ¬ (b = P0 ∨ b = q ∨ b = aD ∨ b = aM ∨ b = aL) → H1 b = some o → upd (upd H1 aD (.lst (((List.range N).map fun i => V.ref (ds i).p) ++ [V.ref d'.p]))) aM (.lst (((List.range N).map fun i => V.ref (ds i).m) ++ [V.ref d'.m])) b = some o := fun b o n e => by
    rw [upd_ne fun z => n (.inr (.inr (.inr (.inl z)))), upd_ne fun z => n (.inr (.inr (.inl z)))]
    exact e
  refine ⟨⟨a, r, by rw [upd_ne B.d3, upd_ne B.d2]; exact h1, by rw [upd_ne B.d7.symm, upd_ne B.d6.symm]; exact h2, h3⟩, by rw [upd_ne B.d5, upd_same, mp], by rw [upd_same, mm], by rw [upd_ne B.d9, upd_ne B.d8]; exact I1.hL, Nat.le_add_left 1 N, hN, fun k hk => ?_, fun k k' hk hk' ne x => ?_, fun k hk x => ?_⟩
  · by_cases e : k = N
    · rw [e, putD_same]
      exact O.keep fun b o h z => st b o (nb b h) z
    · rw [putD_ne e]
      exact (I1.ok k (by omega)).keep fun b o h z => st b o (I.ba k (by omega) b h) z
  · by_cases e : k = N
    · by_cases e' : k' = N
      · exact absurd (e.trans e'.symm) ne
      · rw [e, putD_same, putD_ne e']
        intro z y
        obtain ⟨o, ho⟩ := (I.ok k' (by omega)).dom y
        rw [fr x z] at ho
        cases ho
    · by_cases e' : k' = N
      · rw [e', putD_same, putD_ne e]
        intro y z
        obtain ⟨o, ho⟩ := (I.ok k (by omega)).dom y
        rw [fr x z] at ho
        cases ho
      · rw [putD_ne e, putD_ne e']
        exact I.dj k k' (by omega) (by omega) ne x
  · by_cases e : k = N
    · rw [e, putD_same]
      exact nb x
    · rw [putD_ne e]
      exact I.ba k (by omega) x
end
/-- the tuples of the ends, as data -/
def Out.data : Out → PyData
  | .done => .tuple [.str "done", .bool true, .bool true]
  | .file x => .tuple [.str "file", .str x, .bool true]
  | .fallen n => .tuple [.str "fallen", .int n, .bool true]
  | .lim none => .tuple [.str "limit", .none, .bool true]
  | .lim (some i) => .tuple [.str "limit", .int i, .bool true]
theorem Out.dp {K : PySem.W.Frag} {H : Hp} {q : Addr} {o : Out} (h : H q = some (.tup o.tup)) : Dp K H (.ref q) o.data := by
  cases o with
  | done => exact .tup (SqT.of h) (.cons (.str _) (.cons (.bl _) (.cons (.bl _) .nil)))
  | file x => exact .tup (SqT.of h) (.cons (.str _) (.cons (.str _) (.cons (.bl _) .nil)))
  | fallen n => exact .tup (SqT.of h) (.cons (.str _) (.cons (.int _) (.cons (.bl _) .nil)))
  | lim a =>
    cases a with
    | none => exact .tup (SqT.of h) (.cons (.str _) (.cons .non (.cons (.bl _) .nil)))
    | some i => exact .tup (SqT.of h) (.cons (.str _) (.cons (.int _) (.cons (.bl _) .nil)))
theorem tup3_ok {a : Str} {b : PyData} (ha : PyData.strOk a = true) (hb : b.canLay0 = true) (hd : b.depth ≤ 1) : (PyData.tuple [.str a, b, .bool true]).canLay0 = true ∧ SeqAt.shaped (.tuple [.str a, b, .bool true]) = true := by
  have e1 : (PyData.tuple [.str a, b, .bool true]).canLay0 = true := by
    unfold PyData.canLay0 PyData.canLayAll0 PyData.canLayAll0 PyData.canLayAll0 PyData.canLayAll0
    rw [show (PyData.str a).canLay0 = PyData.strOk a by unfold PyData.canLay0; rfl, ha, hb, show (PyData.bool true).canLay0 = true by unfold PyData.canLay0; rfl]
    rfl
  refine ⟨e1, ?_⟩
  unfold SeqAt.shaped
  refine Bool.and_eq_true_iff.mpr ⟨e1, decide_eq_true ?_⟩
  have d1 : (PyData.str a).depth ≤ 1 := by unfold PyData.depth; omega
  have d2 : (PyData.bool true).depth ≤ 1 := by unfold PyData.depth; omega
  unfold PyData.depth PyData.depthAll PyData.depthAll PyData.depthAll PyData.depthAll
  omega
theorem Out.fine {o : Out} (h : ∀ x, o = .file x → PyData.strOk x = true) : SeqAt.shaped o.data = true ∧ PyData.eqv o.data o.data = true := by
  have key : o.data.canLay0 = true ∧ SeqAt.shaped o.data = true := by
    have c0 : ∀ b : Bool, (PyData.bool b).canLay0 = true ∧ (PyData.bool b).depth ≤ 1 := fun b => ⟨by unfold PyData.canLay0; rfl, by unfold PyData.depth; omega⟩
    have c1 : ∀ i : Int, (PyData.int i).canLay0 = true ∧ (PyData.int i).depth ≤ 1 := fun b => ⟨by unfold PyData.canLay0; rfl, by unfold PyData.depth; omega⟩
    have c2 : PyData.none.canLay0 = true ∧ PyData.none.depth ≤ 1 := ⟨by unfold PyData.canLay0; rfl, by unfold PyData.depth; omega⟩
    cases o with
    | done => exact tup3_ok (by decide +kernel) (c0 _).1 (c0 _).2
    | file x => exact tup3_ok (by decide +kernel) (by unfold PyData.canLay0; exact h x rfl) (by unfold PyData.depth; omega)
    | fallen n => exact tup3_ok (by decide +kernel) (c1 _).1 (c1 _).2
    | lim a =>
      cases a with
      | none => exact tup3_ok (by decide +kernel) c2.1 c2.2
      | some i => exact tup3_ok (by decide +kernel) (c1 _).1 (c1 _).2
  exact ⟨key.2, SeqAt.eqv_refl _ key.1⟩
theorem out_file {o : Op} {F : FM} {n : Int} {l : Option Int} {x : Str} (h : o.out F n l = .file x) : x = o.nm := by
  unfold Op.out at h
  cases o with
  | put y v => dsimp only at h; split at h <;> cases h
  | lim y a => dsimp only at h; split at h <;> cases h
  | sync y v => dsimp only at h; split at h <;> first | (cases h; rfl) | (split at h <;> cases h)
  | cut y v => dsimp only at h; split at h <;> first | (cases h; rfl) | (split at h <;> cases h)
  | strike y v => dsimp only at h; split at h <;> first | (cases h; rfl) | (split at h <;> cases h)
theorem seq_mid {t u : TS} {D : Ends} {σ : St} {H : Hp} (Mid : St → Hp → Prop) (h : ∀ N : St → Hp → Prop, (∀ σ' H', Mid σ' H' → N σ' H') → t { D with nx := N } σ H) (h2 : ∀ σ' H', Mid σ' H' → u D σ' H') : tSeq t u D σ H := h _ h2
end L2.Kd

namespace L2.Kd
open PySem PySem.Spec PyProof.Rows L2.Ex
section
variable {P : Program} {w : World} {K : PySem.W.Frag} {mg : Str → Option Value} {base : Heap} {A : Ad} {D : Fd}
def sp_law (K : PySem.W.Frag) : Sp := fun vs H Q _ => ∃ (a : Addr) (ns : List Int), vs = [.ref a] ∧ SqL K H a (ns.map V.int) ∧ ns.length ≤ 63 ∧ ∀ H', Q (.bl true) H'
def deeds10 : List Str := ["put", "put", "sync", "put", "cut", "limit", "fall", "put", "strike", "sync"]
theorem deeds_of : ∀ x ∈ deeds10, x = "fall" ∨ (x = "put" ∨ x = "sync" ∨ x = "cut" ∨ x = "strike" ∨ x = "limit") := by
  intro x hx
  unfold deeds10 at hx
  simp only [List.mem_cons, List.not_mem_nil, or_false] at hx
  rcases hx with h | h | h | h | h | h | h | h | h | h
  · exact .inr (.inl h)
  · exact .inr (.inl h)
  · exact .inr (.inr (.inl h))
  · exact .inr (.inl h)
  · exact .inr (.inr (.inr (.inl h)))
  · exact .inr (.inr (.inr (.inr (.inr h))))
  · exact .inl h
  · exact .inr (.inl h)
  · exact .inr (.inr (.inr (.inr (.inl h))))
  · exact .inr (.inr (.inl h))
theorem g_ok {i : Nat} {v : V} {σ : St} {H : Hp} {N : St → Hp → Prop} (h : N (σ.set i (some v)) H) : gName i v σ H N := h
theorem cut_ints (ns : List Int) (a b : Option Int) : ∃ ms : List Int, cutV (ns.map V.int) a b = ms.map V.int ∧ ms.length ≤ ns.length := by
  refine ⟨(ns.drop (HT.sIx ns.length 0 a)).take (HT.sIx ns.length ns.length b - HT.sIx ns.length 0 a), ?_, ?_⟩
  · unfold cutV
    rw [List.map_take, List.map_drop, List.length_map]
  · rw [List.length_take, List.length_drop]
    omega
theorem ok_law (T : Tx K mg A D) : GnOk P w K mg base CX0 (59 + 1) A.f_law D.f_law ["_law_script"] (sp_law K) := by
  refine gn_ok T.F_law sc_law (fun vs H Q E h => ?_) (fun cdv A' outer s H vs Q E gd hr h => ?_)
  · obtain ⟨a, ns, rfl, _⟩ := h
    rfl
  · obtain ⟨a, ns0, rfl, hS, hN, kQ⟩ := h
    have hu := hu_of hr
    refine ⟨_, ((pss_cons (ps_set (i := 1) sc_law.nd rfl (Or.inl rfl) (pe_lst (pa_cons (pe_lc (own := [("_law_cell", 16)]) (g := gName 16) rfl sc_law.nd (pi_list (pe_slice sl_list (pv 0) po_none (po_some pe_int))) (blkOk_by (own := [("_law_cell", 16)]) (N := ["_law_script", "_law_pool", "_law_disks", "_law_models", "_law_deeds", "_law_k", "_law_at", "_law_deed", "_law_name", "_law_lengths_here", "_law_passed", "_law_left_here", "_law_model", "_law_arg", "_law_told", "_law_j", "_law_cell"]) (sc := defScope s_law) (by decide +kernel)) (fun _ _ _ _ _ => pg_name (i := 16) sc_law.nd rfl (Or.inl rfl)) (fun _ _ _ _ _ => pts_nil) (fun _ _ _ _ _ => (pe_op op_mod (pe_callB call_abs (by rfl) T.b_abs (by decide +kernel) (pa_cons (pv 16) pa_nil)) (pe_op op_pow pe_int pe_int)))) (pa_cons pe_int (pa_cons pe_int pa_nil)))))
      (pss_cons (ps_set (i := 2) sc_law.nd rfl (Or.inl rfl) (pe_lst (pa_cons (pe_make0 T.mk_Disk (ok_Disk_init T) (hr.mono (by decide)) (by rfl) T.m_Disk (b_Disk_init T) .nil pass0) pa_nil)))
      (pss_cons (ps_set (i := 3) sc_law.nd rfl (Or.inl rfl) (pe_lst (pa_cons (pe_lst (pa_cons pe_dnewK (pa_cons pe_int (pa_cons pe_non pa_nil)))) pa_nil)))
      (pss_cons (ps_set (i := 4) sc_law.nd rfl (Or.inl rfl) (pe_lst (pa_cons pe_str (pa_cons pe_str (pa_cons pe_str (pa_cons pe_str (pa_cons pe_str (pa_cons pe_str (pa_cons pe_str (pa_cons pe_str (pa_cons pe_str (pa_cons pe_str pa_nil))))))))))))
      (pss_cons (ps_for PassesOwn.never rfl (pi_range1 (by rfl) T.b_range (pa_cons (pe_op op_add pe_int (pe_call (ok_law_draw T) (hr.mono (by decide)) (by rfl) T.m_law_draw T.F_law_draw.kp (b_law_draw T) .nil pass0 (pa_cons (pv 1) (pa_cons pe_int pa_nil)))) pa_nil)) (pg_name (i := 5) sc_law.nd rfl (Or.inl rfl)) (pss_cons (ps_set (i := 6) sc_law.nd rfl (Or.inl rfl) (pe_call (ok_law_draw T) (hr.mono (by decide)) (by rfl) T.m_law_draw T.F_law_draw.kp (b_law_draw T) .nil pass0 (pa_cons (pv 1) (pa_cons (pe_callB call_len_seq (by rfl) T.b_len (by decide +kernel) (pa_cons (pv 2) pa_nil)) pa_nil))))
      (pss_cons (ps_set (i := 7) sc_law.nd rfl (Or.inl rfl) (pe_ix ix_list (pv 4) (pe_op op_mod (pe_callTy call_int1 (by rfl) T.b_int (by decide +kernel) (pa_cons (pe_op op_add (pe_call (ok_law_draw T) (hr.mono (by decide)) (by rfl) T.m_law_draw T.F_law_draw.kp (b_law_draw T) .nil pass0 (pa_cons (pv 1) (pa_cons pe_int pa_nil))) (pv 5)) pa_nil)) pe_int) (fun _ _ => rfl)))
      (pss_cons (ps_set (i := 8) sc_law.nd rfl (Or.inl rfl) (pe_ix ix_list (pe_call0 (ok_law_files T) (hr.mono (by decide)) (by rfl) T.m_law_files T.F_law_files.kp (b_law_files T) .nil pass0) (pe_op op_mod (pe_callTy call_int1 (by rfl) T.b_int (by decide +kernel) (pa_cons (pe_op op_add (pe_call (ok_law_draw T) (hr.mono (by decide)) (by rfl) T.m_law_draw T.F_law_draw.kp (b_law_draw T) .nil pass0 (pa_cons (pv 1) (pa_cons pe_int pa_nil))) (pe_op op_fdivW (pv 5) pe_int)) pa_nil)) pe_int) (fun _ _ => rfl)))
      (pss_cons (ps_if (pt_cmpR op_eq (pv 7) pe_str (nomark _)) (pss_cons (ps_set (i := 9) sc_law.nd rfl (Or.inl rfl) (pe_call (ok_law_lengths T) (hr.mono (by decide)) (by rfl) T.m_law_lengths T.F_law_lengths.kp (b_law_lengths T) .nil pass0 (pa_cons (pv 1) pa_nil)))
      (pss_cons (ps_set (i := 10) sc_law.nd rfl (Or.inl rfl) (pe_callTy call_dictD (by rfl) T.b_dict (by decide +kernel) (pa_cons (pv 9) pa_nil)))
      (pss_cons (ps_set (i := 11) sc_law.nd rfl (Or.inl rfl) (pe_meth (pe_ix ix_list (pv 2) (pv 6) (fun _ _ => rfl)) T.cl_Disk T.me_Disk_fall (ok_Disk_fall T) (hr.mono (by decide)) (b_Disk_fall T) .nil pass0 (pa_cons (pv 10) pa_nil)))
      (pss_cons (ps_set (i := 12) sc_law.nd rfl (Or.inl rfl) (pe_call (ok_law_left T) (hr.mono (by decide)) (by rfl) T.m_law_left T.F_law_left.kp (b_law_left T) .nil pass0 (pa_cons (pe_ix ix_list (pv 3) (pv 6) (fun _ _ => rfl)) (pa_cons (pv 9) pa_nil))))
      (pss_cons (ps_if (PW.pt (pw_or (pt_cmpR (op_ne_dictA (hr.units0)) (pv 10) (pv 9) (nomark _)) (pw_or1 (pt_not (pt_val (pe_gcall gd (ok_law_as_due T) (hr.mono (by decide)) (by rfl) T.m_law_as_due T.F_law_as_due.kp (b_law_as_due T) .nil pass0 (pa_cons (pv 11) (pa_cons (pv 12) pa_nil)))))))) (pss_one (ps_ret pe_bl)) pss_nil)
      (pss_one (ps_if (pt_cmpR op_lt (pe_callB call_len_seq (by rfl) T.b_len (by decide +kernel) (pa_cons (pv 2) pa_nil)) pe_int (nomark _)) (pss_cons (ps_expr (pe_bm PySem.F.plainAttrs_list PySem.F.slot_list_append PySem.F.type_list_append mt_append (pv 2) (pa_cons (pv 11) pa_nil)))
      (pss_one (ps_expr (pe_bm PySem.F.plainAttrs_list PySem.F.slot_list_append PySem.F.type_list_append mt_append (pv 3) (pa_cons (pv 12) pa_nil))))) pss_nil))))))) (pss_cons (ps_set (i := 13) sc_law.nd rfl (Or.inl rfl) (pe_call (ok_law_argument T) (hr.mono (by decide)) (by rfl) T.m_law_argument T.F_law_argument.kp (b_law_argument T) .nil pass0 (pa_cons (pv 1) (pa_cons (pe_ix ix_list (pv 3) (pv 6) (fun _ _ => rfl)) (pa_cons (pv 7) (pa_cons (pv 8) (pa_cons (pv 5) pa_nil)))))))
      (pss_cons (ps_set (i := 14) sc_law.nd rfl (Or.inl rfl) (pe_call (ok_law_tried T) (hr.mono (by decide)) (by rfl) T.m_law_tried T.F_law_tried.kp (b_law_tried T) .nil pass0 (pa_cons (pe_ix ix_list (pv 2) (pv 6) (fun _ _ => rfl)) (pa_cons (pv 7) (pa_cons (pv 8) (pa_cons (pv 13) pa_nil))))))
      (pss_one (ps_if (pt_cmpR (op_neD (hr.units)) (pv 14) (pe_call (ok_law_due T) (hr.mono (by decide)) (by rfl) T.m_law_due T.F_law_due.kp (b_law_due T) .nil pass0 (pa_cons (pe_ix ix_list (pv 3) (pv 6) (fun _ _ => rfl)) (pa_cons (pv 7) (pa_cons (pv 8) (pa_cons (pv 13) pa_nil))))) (nomark _)) (pss_one (ps_ret pe_bl)) pss_nil)))))
      (pss_one (ps_for PassesOwn.never rfl (pi_range1 (by rfl) T.b_range (pa_cons (pe_callB call_len_seq (by rfl) T.b_len (by decide +kernel) (pa_cons (pv 2) pa_nil)) pa_nil)) (pg_name (i := 15) sc_law.nd rfl (Or.inl rfl)) (pss_one (ps_if (pt_not (pt_val (pe_gcall gd (ok_law_as_due T) (hr.mono (by decide)) (by rfl) T.m_law_as_due T.F_law_as_due.kp (b_law_as_due T) .nil pass0 (pa_cons (pe_ix ix_list (pv 2) (pv 15) (fun _ _ => rfl)) (pa_cons (pe_ix ix_list (pv 3) (pv 15) (fun _ _ => rfl)) pa_nil))))) (pss_one (ps_ret pe_bl)) pss_nil)))))))))
      (pss_one (ps_ret pe_bl)))))))), ?_⟩
    -- the script's cells
    refine ⟨_, rfl, 63, rfl, a, _, rfl, hS, fun t ht => ⟨t, rfl, ⟨_, SqL.of upd_same⟩, fun q hq => ?_⟩⟩
    obtain ⟨ms, hms, hml⟩ := cut_ints ns0 none (some 63)
    rw [hms] at hq ⊢
    have ntq : t ≠ q := ne_of_none upd_same hq
    refine lc_list (K := K) (a := t) (xs := ms.map V.int) (fun i H2 => ∃ zs : List Int, zs.length = i ∧ H2 q = some (.lst (zs.map V.int)) ∧ H2 t = some (.lst (ms.map V.int))) ⟨[], rfl, upd_same, by rw [upd_ne ntq, upd_same]⟩ (fun i H2 _ h => ?_) ?_ ?_
    · obtain ⟨zs, _, _, h⟩ := h
      exact SqL.of h
    · rintro i x H2 hx ⟨zs, hz, h1, h2⟩
      have hi : i < ms.length := by
        have := (List.getElem?_eq_some_iff.mp hx).1
        rw [List.length_map] at this
        exact this
      obtain ⟨z, rfl⟩ : ∃ z, x = V.int z := by
        obtain ⟨z, _, e⟩ := List.mem_map.mp (List.mem_of_getElem? hx)
        exact ⟨z, e.symm⟩
      refine ⟨rfl, ?_⟩
      refine iteT (B := True) ?_
      refine iteT ?_
      refine ⟨_, rfl, z, rfl, _, _, rfl, rfl, ⟨by decide, by decide, by decide⟩, _, _, rfl, rfl, (by show (0 : Int) < 10 ^ (60 : Int).toNat; decide), _, h1, ?_, zs ++ [(if z < 0 then -z else z) % (10 ^ (60 : Int).toNat)], ?_, ?_, ?_⟩
      · rw [List.length_map, hz, sizeLine_eq]; omega
      · rw [List.length_append, hz]; rfl
      · rw [upd_same, List.map_append]; rfl
      · rw [upd_ne ntq]
        exact h2
    · rintro H2 ⟨ns, hz, h1, h2⟩
      -- pool
      refine ⟨by show 3 ≤ sizeLine; decide, fun P0 hP0 => ?_⟩
      have nqP : q ≠ P0 := ne_of_none h1 hP0
      -- disks = [Disk()]
      intro p dx np ndx nex
      refine ⟨p, dx, rfl, upd_same, fun c s' H3 hc hs' hcs ob hcc hss kp => ⟨rfl, ?_⟩⟩
      have s3 : Same (upd H2 P0 (.lst [.ref q, .int 0, .int 0])) H3 := Same.made np ndx kp
      have hP3 := s3 P0 _ upd_same
      have hq3 : H3 q = some (.lst (ns.map V.int)) := s3 q _ (by rw [upd_ne nqP]; exact h1)
      have hD0 : DiskAt A.c_Disk H3 p c s' [] [] (fun _ => 0) (fun _ => none) 0 none := ⟨⟨dx, ob⟩, hcc, hss, hcs, fun _ _ => ⟨rfl, rfl⟩, fun x cs m e => (by cases e), fun x y h => absurd rfl h, List.nodup_nil, fun k hk => (by cases hk), Nat.le_refl _, List.nodup_nil⟩
      have nPq : P0 ≠ q := nqP.symm
      -- disks
      refine ⟨by show 1 ≤ sizeLine; decide, fun aD hAD => ?_⟩
      have s4 := same_new (o := .lst [.ref p]) hAD
      -- models
      intro f hf
      have s5 := s4.trans (same_new (o := .dK []) hf)
      refine ⟨by show 3 ≤ sizeLine; decide, fun m hm => ?_⟩
      have s6 := s5.trans (same_new (o := .lst [.ref f, .int 0, .non]) hm)
      refine ⟨by show 1 ≤ sizeLine; decide, fun aM hAM => ?_⟩
      have s7 := s6.trans (same_new (o := .lst [.ref m]) hAM)
      -- deeds
      refine ⟨by show 10 ≤ sizeLine; decide, fun aL hAL => ?_⟩
      rw [show ([V.str "put", V.str "put", V.str "sync", V.str "put", V.str "cut", V.str "limit", V.str "fall", V.str "put", V.str "strike", V.str "sync"] : List V) = deeds10.map V.str from rfl]
      have s8 := s7.trans (same_new (o := .lst (deeds10.map V.str)) hAL)
      have nfm : f ≠ m := ne_of_none (H := upd _ f _) upd_same hm
      have e_aD : ∀ o, upd (upd (upd (upd (upd H3 aD (.lst [.ref p])) f (.dK [])) m (.lst [.ref f, .int 0, .non])) aM (.lst [.ref m])) aL o aD = some (.lst [.ref p]) := fun o => by
        rw [upd_ne (ne_of_none (((same_new (o := .dK []) hf).trans ((same_new (o := .lst [.ref f, .int 0, .non]) hm).trans (same_new (o := .lst [.ref m]) hAM))) aD _ upd_same) hAL)]
        exact ((same_new (o := .dK []) hf).trans ((same_new (o := .lst [.ref f, .int 0, .non]) hm).trans (same_new (o := .lst [.ref m]) hAM))) aD _ upd_same
      have e_f : upd (upd (upd (upd (upd H3 aD (.lst [.ref p])) f (.dK [])) m (.lst [.ref f, .int 0, .non])) aM (.lst [.ref m])) aL (.lst (deeds10.map V.str)) f = some (.dK []) := ((same_new (o := .lst [.ref f, .int 0, .non]) hm).trans ((same_new (o := .lst [.ref m]) hAM).trans (same_new hAL))) f _ upd_same
      have e_m : upd (upd (upd (upd (upd H3 aD (.lst [.ref p])) f (.dK [])) m (.lst [.ref f, .int 0, .non])) aM (.lst [.ref m])) aL (.lst (deeds10.map V.str)) m = some (.lst [.ref f, .int 0, .non]) := ((same_new (o := .lst [.ref m]) hAM).trans (same_new hAL)) m _ upd_same
      have e_aM : upd (upd (upd (upd (upd H3 aD (.lst [.ref p])) f (.dK [])) m (.lst [.ref f, .int 0, .non])) aM (.lst [.ref m])) aL (.lst (deeds10.map V.str)) aM = some (.lst [.ref m]) := (same_new hAL) aM _ upd_same
      have e_aL : upd (upd (upd (upd (upd H3 aD (.lst [.ref p])) f (.dK [])) m (.lst [.ref f, .int 0, .non])) aM (.lst [.ref m])) aL (.lst (deeds10.map V.str)) aL = some (.lst (deeds10.map V.str)) := upd_same
      have B : BNe P0 q aD aM aL := by
        have h3 : ∀ {b o}, H3 b = some o → b ≠ aD := fun h => ne_of_none h hAD
        have hM' : ∀ {b o}, H3 b = some o → b ≠ aM := fun h => ne_of_none (s6 _ _ h) hAM
        have hL' : ∀ {b o}, H3 b = some o → b ≠ aL := fun h => ne_of_none (s7 _ _ h) hAL
        have dM : aD ≠ aM := ne_of_none (((same_new (o := .dK []) hf).trans (same_new (o := .lst [.ref f, .int 0, .non]) hm)) aD _ upd_same) hAM
        have dL : aD ≠ aL := ne_of_none (((same_new (o := .dK []) hf).trans ((same_new (o := .lst [.ref f, .int 0, .non]) hm).trans (same_new (o := .lst [.ref m]) hAM))) aD _ upd_same) hAL
        have mL : aM ≠ aL := ne_of_none (H := upd _ aM _) upd_same hAL
        exact ⟨nPq, h3 hP3, hM' hP3, hL' hP3, dM, (h3 hq3).symm, (hM' hq3).symm, dL.symm, mL.symm⟩
      let d0 : PD := ⟨p, c, s', [], [], fun _ => 0, m, f, [], fun _ => 0, fun _ => 0, fun _ => none, 0, none⟩
      have fpd : ∀ x, d0.D x ∨ d0.M x → x = p ∨ x = c ∨ x = s' ∨ x = m ∨ x = f := by
        rintro x ((h | h | h | ⟨y, hy, _⟩) | (h | h | ⟨y, hy, _⟩))
        · exact .inl h
        · exact .inr (.inl h)
        · exact .inr (.inr (.inl h))
        · exact absurd rfl hy
        · exact .inr (.inr (.inr (.inl h)))
        · exact .inr (.inr (.inr (.inr h)))
        · exact absurd rfl hy
      obtain ⟨dx', ob'⟩ := hD0.ob
      have I0 : LInv A.c_Disk (upd (upd (upd (upd (upd H3 aD (.lst [.ref p])) f (.dK [])) m (.lst [.ref f, .int 0, .non])) aM (.lst [.ref m])) aL (.lst (deeds10.map V.str))) P0 q aD aM aL ns (deeds10.map V.str) (fun _ => d0) 1 0 := by
        refine ⟨⟨0, 0, s8 _ _ hP3, s8 _ _ hq3, Int.le_refl _⟩, e_aD _, e_aM, e_aL, Nat.le_refl _, by decide, fun i hi => ⟨hD0.keep fun b o _ e => s8 b o e, ⟨e_m, e_f, fun _ _ => rfl, fun x cs k e => (by cases e), fun x y h => absurd rfl h, List.nodup_nil, fun k hk => (by cases hk)⟩, ?_, ⟨fun x h => absurd rfl h, fun x v hv => (by cases hv), fun x => Nat.zero_le _, fun x => Int.le_refl _⟩⟩, fun i k hi hk ne => (by omega), fun i hi x hx => ?_⟩
        · intro b hb
          have nm : ∀ {b o}, H3 b = some o → b ≠ m ∧ b ≠ f := fun h => ⟨ne_of_none (s5 _ _ h) hm, ne_of_none (s4 _ _ h) hf⟩
          rintro (h | h | ⟨y, hy, _⟩)
          · rcases hb with h' | h' | h' | ⟨y, hy, _⟩
            · exact (nm ob').1 (h'.symm.trans h)
            · exact (nm hD0.hc).1 (h'.symm.trans h)
            · exact (nm hD0.hs).1 (h'.symm.trans h)
            · exact hy rfl
          · rcases hb with h' | h' | h' | ⟨y, hy, _⟩
            · exact (nm ob').2 (h'.symm.trans h)
            · exact (nm hD0.hc).2 (h'.symm.trans h)
            · exact (nm hD0.hs).2 (h'.symm.trans h)
            · exact hy rfl
          · exact hy rfl
        · have n3 : ∀ {b o}, H3 b = some o → b ≠ aD ∧ b ≠ aM ∧ b ≠ aL := fun h => ⟨ne_of_none h hAD, ne_of_none (s6 _ _ h) hAM, ne_of_none (s7 _ _ h) hAL⟩
          have big : ∀ y o, H3 y = some o → (∀ r, o ≠ .lst r) → ¬ (y = P0 ∨ y = q ∨ y = aD ∨ y = aM ∨ y = aL) := fun y o e hl => by
            rintro (rfl | rfl | z | z | z)
            · rw [hP3] at e; exact hl _ (Option.some.inj e).symm
            · rw [hq3] at e; exact hl _ (Option.some.inj e).symm
            · exact (n3 e).1 z
            · exact (n3 e).2.1 z
            · exact (n3 e).2.2 z
          have fresh3 : ∀ {b}, H3 b = none → b ≠ P0 ∧ b ≠ q := fun h => ⟨fun z => (by rw [z, hP3] at h; cases h), fun z => (by rw [z, hq3] at h; cases h)⟩
          rcases fpd x hx with e | e | e | e | e <;> rw [e]
          · exact big _ _ ob' fun r z => by cases z
          · exact big _ _ hD0.hc fun r z => by cases z
          · exact big _ _ hD0.hs fun r z => by cases z
          · have f3 : H3 m = none := s5.free hm
            have nmD : m ≠ aD := fun z => by
              rw [z] at hm
              rw [(same_new (o := .dK []) hf) aD _ upd_same] at hm
              cases hm
            have nmM : m ≠ aM := ne_of_none (H := upd _ m _) upd_same hAM
            have nmL : m ≠ aL := ne_of_none ((same_new (o := .lst [.ref m]) hAM) m _ upd_same) hAL
            rintro (z | z | z | z | z)
            · exact (fresh3 f3).1 z
            · exact (fresh3 f3).2 z
            · exact nmD z
            · exact nmM z
            · exact nmL z
          · have f3 : H3 f = none := s4.free hf
            have nfD : f ≠ aD := fun z => by
              rw [z, upd_same] at hf
              cases hf
            have nfM : f ≠ aM := ne_of_none ((same_new (o := .lst [.ref f, .int 0, .non]) hm) f _ upd_same) hAM
            have nfL : f ≠ aL := ne_of_none (((same_new (o := .lst [.ref f, .int 0, .non]) hm).trans (same_new (o := .lst [.ref m]) hAM)) f _ upd_same) hAL
            rintro (z | z | z | z | z)
            · exact (fresh3 f3).1 z
            · exact (fresh3 f3).2 z
            · exact nfD z
            · exact nfM z
            · exact nfL z
      generalize upd (upd (upd (upd (upd H3 aD (.lst [.ref p])) f (.dK [])) m (.lst [.ref f, .int 0, .non])) aM (.lst [.ref m])) aL (.lst (deeds10.map V.str)) = H9 at I0
      clear s3 s4 s5 s6 s7 s8 e_aD e_f e_m e_aM e_aL
      -- the turns
      refine ⟨_, rfl, P0, q, ns, 13, rfl, I0.po, by decide, by decide, fun d o dd0 dd1 hpo => ?_⟩
      have I1 := I0.drawn B (Kp.at rfl) hpo
      refine ⟨_, _, rfl, rfl, 8 + d, rfl, by omega, by omega, for_range (lo := 0) (n := (8 + d).toNat) (fun i σ H2 => ∃ (v5 v6 v7 v8 v9 v10 v11 v12 v13 v14 v15 v16 : Option V) (ds : Nat → PD) (N : Nat), σ = [some (.ref a), some (.ref P0), some (.ref aD), some (.ref aM), some (.ref aL), v5, v6, v7, v8, v9, v10, v11, v12, v13, v14, v15, v16] ∧ LInv A.c_Disk H2 P0 q aD aM aL ns (deeds10.map V.str) ds N i)
        ⟨none, none, none, none, none, none, none, none, none, none, none, none, _, 1, rfl, I1⟩ ?_ ?_⟩
      · rintro i σ H4 hi ⟨v5, v6, v7, v8, v9, v10, v11, v12, v13, v14, v15, v16, ds, N, rfl, I4⟩
        have hi20 : i < 21 := by omega
        have hn1 := I4.n1
        have hn3 := I4.n3
        have hlen : ∀ f : Nat → V, (((List.range N).map f).length : Int) = (N : Int) := fun f => by rw [List.length_map, List.length_range]
        -- at
        refine ⟨_, rfl, _, rfl, aD, _, rfl, .inl (SqL.of I4.hD), P0, q, ns, _, rfl, I4.po, (by rw [hlen]; omega), (by
          rw [hlen]
          have h : ((N : Nat) : Int).natAbs < 2 ^ 10 := by omega
          have := PySem.Flt.log2_lt_of (k := 10) (by decide) h
          omega), fun d o e0 e1 hp => ?_⟩
        rw [hlen] at e1
        obtain ⟨at_, rfl⟩ : ∃ j : Nat, d = (j : Int) := ⟨d.toNat, by omega⟩
        have hat : at_ < N := by omega
        have I5 := I4.drawn B (Kp.at rfl) hp
        -- deed
        refine ⟨_, rfl, _, rfl, P0, q, ns, 10, rfl, hp, by decide, by decide, fun d2 o2 e20 e21 hp2 => ?_⟩
        have I6 := I5.drawn B (Kp.at rfl) hp2
        obtain ⟨j2, hj2, hj2l⟩ : ∃ j : Nat, (d2 + (0 + (i : Int))) % 10 = (j : Int) ∧ j < 10 := ⟨((d2 + (0 + (i : Int))) % 10).toNat, by omega, by omega⟩
        obtain ⟨deed, hdeed⟩ : ∃ x, deeds10[j2]? = some x := ⟨deeds10[j2]'(by show j2 < 10; exact hj2l), List.getElem?_eq_getElem _⟩
        have hdeedV : (deeds10.map V.str)[j2]? = some (.str deed) := by rw [List.getElem?_map, hdeed]; rfl
        refine ⟨_, rfl, _, _, rfl, rfl, .inl ⟨_, rfl, _, _, rfl, rfl, (by show (0 : Int) < 10; decide), aL, _, _, .str deed, rfl, rfl, SqL.of I6.hL, (by rw [hj2]; exact atI_nat hdeedV), ?_⟩⟩
        -- name
        refine ⟨rfl, fun q6 hq6 => ⟨_, rfl, P0, q, ns, 6, rfl, (I6.same (same_new hq6)).po, by decide, by decide, fun d3 o3 e30 e31 hp3 => ?_⟩⟩
        have I7 := (I6.same (same_new (o := .lst (six.map V.str)) hq6)).drawn B (Kp.at rfl) hp3
        have nP6 : q6 ≠ P0 := by
          obtain ⟨_, _, h, _⟩ := I6.po
          exact (ne_of_none h hq6).symm
        obtain ⟨j3, hj3, hj3l⟩ : ∃ j : Nat, (d3 + (0 + (i : Int)) / 5) % 6 = (j : Int) ∧ j < 6 := ⟨((d3 + (0 + (i : Int)) / 5) % 6).toNat, by omega, by omega⟩
        obtain ⟨x, hx⟩ : ∃ x, six[j3]? = some x := ⟨six[j3]'(by show j3 < 6; exact hj3l), List.getElem?_eq_getElem _⟩
        have hxV : (six.map V.str)[j3]? = some (.str x) := by rw [List.getElem?_map, hx]; rfl
        have hx6 : x ∈ six := List.mem_of_getElem? hx
        refine ⟨_, rfl, _, _, rfl, rfl, ⟨by decide, by decide⟩, _, _, rfl, rfl, .inl ⟨_, rfl, _, _, rfl, rfl, (by show (0 : Int) < 6; decide), q6, _, _, .str x, rfl, rfl, SqL.of (by rw [upd_ne nP6, upd_same]), (by rw [hj3]; exact atI_nat hxV), ?_⟩⟩
        generalize upd (upd (upd (upd H4 P0 o) P0 o2) q6 (.lst (six.map V.str))) P0 o3 = H7 at I7 ⊢
        refine g_ok ?_
        dsimp only
        refine seq_mid (fun σ H5 => ∃ (v5 v6 v7 v8 v9 v10 v11 v12 v13 v14 v15 v16 : Option V) (ds : Nat → PD) (N : Nat), σ = [some (.ref a), some (.ref P0), some (.ref aD), some (.ref aM), some (.ref aL), v5, v6, v7, v8, v9, v10, v11, v12, v13, v14, v15, v16] ∧ LInv A.c_Disk H5 P0 q aD aM aL ns (deeds10.map V.str) ds N (i + 1)) (fun Nx hNx => ?_) ?_
        · refine ⟨_, rfl, rfl, _, rfl, ?_⟩
          have O7 := I7.ok at_ hat
          have k6 := O7.kc6
          have k6' := O7.kf6
          by_cases hfall : deed = "fall"
          · refine if_true_of (eq_dec hfall) ?_
            refine ⟨_, rfl, P0, q, ns, rfl, I7.po, fun u kw W H8 hu0 hu8 hW hkw hp8 kp8 => ?_⟩
            have I8 := I7.drawn B kp8 hp8
            refine ⟨_, rfl, u, kw, rfl, .inl hu8, fun p1 hp1 => ?_⟩
            have I9 := I8.same (same_new (o := .dK kw) hp1)
            have hu9 := (same_new (o := .dK kw) hp1) _ _ hu8
            have hp9 : upd H8 p1 (.dK kw) p1 = some (.dK kw) := upd_same
            generalize upd H8 p1 (.dK kw) = H9 at I9 hu9 hp9 ⊢
            have O9 := I9.ok at_ hat
            obtain ⟨dx9, ob9⟩ := O9.dk.ob
            refine ⟨_, rfl, _, rfl, aD, _, _, .ref (ds at_).p, rfl, rfl, SqL.of I9.hD, atI_nat (rng_at _ hat), (ds at_).p, dx9, _, rfl, ob9, dk_no (by decide +kernel) (by decide +kernel) (by decide +kernel) (by decide +kernel), _, rfl, _, _, _, _, _, _, _, _, _, p1, kw, W, rfl, O9.dk, by omega, hp9, hW.va, fun p' c' s' kc' ks' L' H10 Y' s10 fr10 => ?_⟩
            have I10 := I9.same s10
            have O10 := I10.ok at_ hat
            refine ⟨_, rfl, _, rfl, aM, _, _, .ref (ds at_).m, rfl, rfl, SqL.of I10.hM, atI_nat (rng_at _ hat), _, rfl, _, _, _, _, _, _, _, _, u, kw, W, rfl, O10.md, by omega, O10.gd.sy, s10 _ _ hu9, hW.va, fun m' f' kf' R' E' H11 M' s11 fr11 => ?_⟩
            have ap : ∀ b, fpD p' c' s' L' (fallM (ds at_).F W) b → ¬ fpM m' f' R' E' (fallM (ds at_).F W) b := fun b h1 h2 => by
              obtain ⟨o, e⟩ := Y'.dom b h1
              rw [fr11 b h2] at e
              cases e
            have gF := O9.gd.fall W
            have O11 : (⟨p', c', s', kc', ks', L', m', f', kf', R', E', fallM (ds at_).F W, 0, none⟩ : PD).Ok A.c_Disk H11 i := ⟨Y'.keep fun b o _ e => s11 b o e, M', ap, gF⟩
            have k7 := O11.kc6
            have k7' := O11.kf6
            refine ⟨_, rfl, _, rfl, p1, u, kw, kw, rfl, rfl, s11 _ _ (s10 _ _ hp9), s11 _ _ (s10 _ _ hu9), rfl, fun pp hpp => ?_, _, rfl, ?_⟩
            · have e := valV_mem hW.nd pp hpp
              obtain ⟨z, hz⟩ := hW.it _ _ e
              exact ⟨e, by rw [hz]; rfl⟩
            refine if_false_of rfl ?_
            refine ⟨_, rfl, _, rfl, p', c', s', kc', ks', L', m', f', kf', R', E', fallM (ds at_).F W, 0, none, rfl, O11.dk, O11.md, gF.cl, gF.rp (by omega), fun y => (by have := gF.ln y; omega), gF.str, Nat.lt_of_le_of_lt k7 (by decide), Nat.lt_of_le_of_lt k7' (by decide), fun H12 s12 => ⟨_, rfl, ?_⟩⟩
            refine if_false_of rfl ?_
            have sA := s10.trans (s11.trans s12)
            have I12 := I9.same sA
            have O12 := O11.keep (H2 := H12) fun b o _ e => s12 b o e
            refine ⟨_, rfl, aD, _, rfl, .inl (SqL.of I12.hD), _, _, rfl, rfl, _, rfl, ?_⟩
            by_cases hN3 : N < 3
            · refine if_true_of (decide_eq_true (by rw [hlen]; omega)) ?_
              refine ⟨_, rfl, .inl ⟨rfl, _, SqL.of I12.hD⟩, _, rfl, aD, _, _, rfl, rfl, I12.hD, (by rw [List.length_map, List.length_range, sizeLine_eq]; omega), ?_⟩
              have hM12 : upd H12 aD (.lst (((List.range N).map fun i => V.ref (ds i).p) ++ [.ref p'])) aM = some (.lst ((List.range N).map fun i => V.ref (ds i).m)) := by rw [upd_ne B.d5.symm]; exact I12.hM
              refine ⟨_, rfl, .inl ⟨rfl, _, SqL.of hM12⟩, _, rfl, aM, _, _, rfl, rfl, hM12, (by rw [List.length_map, List.length_range, sizeLine_eq]; omega), ?_⟩
              exact hNx _ _ ⟨_, _, _, _, _, _, _, _, _, _, _, _, _, _, rfl, (I9.more B hN3 _ O12 sA fun b h => h.elim (fr10 b) fun h => s10.free (fr11 b h)).mono (Nat.le_succ i)⟩
            · refine if_false_of (decide_eq_false (by rw [hlen]; omega)) ?_
              exact hNx _ _ ⟨_, _, _, _, _, _, _, _, _, _, _, _, _, _, rfl, I12.mono (Nat.le_succ i)⟩
          · refine if_false_of (ne_dec hfall) ?_
            have hc7 : ∀ y, (cellsOf (ds at_).F y).length < 1000 := fun y => by have := O7.gd.ln y; omega
            refine ⟨_, rfl, _, rfl, _, rfl, aM, _, _, .ref (ds at_).m, rfl, rfl, SqL.of I7.hM, atI_nat (rng_at _ hat), _, rfl, _, rfl, _, rfl, P0, q, ns, _, _, _, _, _, _, _, _, deed, x, _, rfl, I7.po, O7.md, fun z => I7.ba at_ hat _ (.inr (.inl rfl)) (.inl z.symm), hc7 x, by omega, by omega, fun v H8 hArg hp8 kp8 => ?_⟩
            have I8 := I7.drawn B kp8 hp8
            have O8 := I8.ok at_ hat
            obtain ⟨o, rfl, rfl, rfl, ho⟩ := op_of hArg ((deeds_of deed (List.mem_of_getElem? hdeed)).resolve_left hfall)
            refine ⟨_, rfl, _, rfl, aD, _, _, .ref (ds at_).p, rfl, rfl, SqL.of I8.hD, atI_nat (rng_at _ hat), _, rfl, _, rfl, _, rfl, _, _, _, _, _, _, _, _, _, o, rfl, O8.dk, by omega, hc7 _, fun q1 H9 kc' ks' L' D1 k1 g1 e1 => ?_⟩
            have nb := I8.ba at_ hat
            have M9 : ModAt H9 _ _ _ _ _ _ _ _ := O8.md.keep fun b o h e => k1 b o e fun z => O8.ap b z h
            have hM9 := k1 _ _ I8.hM fun z => nb _ (.inl z) (.inr (.inr (.inr (.inl rfl))))
            refine ⟨_, rfl, _, rfl, _, rfl, aM, _, _, .ref (ds at_).m, rfl, rfl, SqL.of hM9, atI_nat (rng_at _ hat), _, rfl, _, rfl, _, rfl, _, _, _, _, _, _, _, _, o, rfl, M9, O8.gd.cl, by omega, hc7 _, fun q2 H10 kf' R' E' M2 k2 g2 e2 => ?_⟩
            obtain ⟨sh, ev⟩ := Out.fine (o := o.out (ds at_).F (ds at_).n (ds at_).l) fun y hy => by rw [out_file hy]; exact six_ok _ hx6
            refine ⟨_, _, Out.dp (k2 q1 _ e1 (M9.kind e1)), Out.dp e2, sh, sh, ?_⟩
            rw [ev]
            refine ⟨_, rfl, ?_⟩
            refine if_false_of rfl ?_
            exact hNx _ _ ⟨_, _, _, _, _, _, _, _, _, _, _, _, _, _, rfl, I8.step hat ⟨_, _, _, kc', ks', L', _, _, kf', R', E', _, _, _⟩ rfl rfl D1 k1 g1 M2 k2 g2 (O8.gd.after hx6 ho)⟩
        · rintro σ H5 ⟨v5, v6, v7, v8, v9, v10, v11, v12, v13, v14, v15, v16, ds, N, rfl, I5⟩
          have hn3 := I5.n3
          have hlen : ∀ f : Nat → V, (((List.range N).map f).length : Int) = (N : Int) := fun f => by rw [List.length_map, List.length_range]
          refine ⟨_, rfl, aD, _, rfl, .inl (SqL.of I5.hD), _, rfl, by omega, by rw [hlen]; omega, for_range (lo := 0) (fun i2 σ H6 => ∃ (v15 : Option V), σ = [some (.ref a), some (.ref P0), some (.ref aD), some (.ref aM), some (.ref aL), v5, v6, v7, v8, v9, v10, v11, v12, v13, v14, v15, v16] ∧ Same H5 H6)
            ⟨_, rfl, Same.refl _⟩ ?_ ?_⟩
          · rintro i2 σ H6 hi2 ⟨v15, rfl, s6⟩
            rw [hlen] at hi2
            have hi2N : i2 < N := by omega
            have I6 := I5.same s6
            have O := I6.ok i2 hi2N
            have k6 := O.kc6
            have k6' := O.kf6
            refine ⟨_, rfl, _, rfl, aD, _, _, .ref (ds i2).p, rfl, rfl, SqL.of I6.hD, (by rw [Int.zero_add]; exact atI_nat (rng_at _ hi2N)), _, rfl, _, rfl, aM, _, _, .ref (ds i2).m, rfl, rfl, SqL.of I6.hM, (by rw [Int.zero_add]; exact atI_nat (rng_at _ hi2N)), _, _, _, _, _, _, _, _, _, _, _, _, _, _, rfl, O.dk, O.md, O.gd.cl, O.gd.rp (by omega), fun y => (by have := O.gd.ln y; omega), O.gd.str, by omega, by omega, fun H7 s7 => ⟨_, rfl, ?_⟩⟩
            refine if_false_of rfl ?_
            exact ⟨_, rfl, s6.trans s7⟩
          · rintro σ H6 ⟨v15, rfl, s6⟩
            exact ⟨_, _, _, _, _, _, _, _, _, _, _, _, ds, N, rfl, I5.same s6⟩
      · rintro σ H4 ⟨v5, v6, v7, v8, v9, v10, v11, v12, v13, v14, v15, v16, ds, N, rfl, I4⟩
        exact kQ H4
end
end L2.Kd

namespace L2.Kd
open PySem PySem.Spec PyProof.Rows L2.Ex
theorem all_mk {P : Program} {w : World} {K : PySem.W.Frag} {h : Heap} {mg : Str → Option Value} {fa : Addr} (X : K.In h) (G : h.Ns mainGlobals mg) (hfa : mg "law" = some (.ref fa))
    {c_ColonnadeError c_NoFile c_BadLimit c_Fallen c_Disk f_NoFile_init f_BadLimit_init f_Fallen_init f_Disk_init f_Disk_limit f_Disk_limitS f_Disk_set_limit f_Disk_need_file f_Disk_take_step f_Disk_put f_Disk_sync f_Disk_strike f_Disk_cut f_Disk_read f_Disk_length f_Disk_synced f_Disk_all_files f_Disk_fall f_law_draw f_law_files f_law_whole f_law_tried f_law_due f_law_asked f_law_one f_law_as_due f_law_lengths f_law_left f_law_argument f_law p_Disk_limit : Addr}
    {rs_Disk_limit xb_NoFile xu_NoFile xb_BadLimit xu_BadLimit xb_Fallen xu_Fallen : List Value}
    {oc_NoFile_init kV_NoFile_init dc_NoFile_init pm_NoFile_init cd_NoFile_init ct_NoFile_init oc_BadLimit_init kV_BadLimit_init dc_BadLimit_init pm_BadLimit_init cd_BadLimit_init ct_BadLimit_init oc_Fallen_init kV_Fallen_init dc_Fallen_init pm_Fallen_init cd_Fallen_init ct_Fallen_init oc_Disk_init kV_Disk_init dc_Disk_init pm_Disk_init cd_Disk_init ct_Disk_init oc_Disk_limit kV_Disk_limit dc_Disk_limit pm_Disk_limit cd_Disk_limit ct_Disk_limit oc_Disk_limitS kV_Disk_limitS dc_Disk_limitS pm_Disk_limitS cd_Disk_limitS ct_Disk_limitS oc_Disk_set_limit kV_Disk_set_limit dc_Disk_set_limit pm_Disk_set_limit cd_Disk_set_limit ct_Disk_set_limit oc_Disk_need_file kV_Disk_need_file dc_Disk_need_file pm_Disk_need_file cd_Disk_need_file ct_Disk_need_file oc_Disk_take_step kV_Disk_take_step dc_Disk_take_step pm_Disk_take_step cd_Disk_take_step ct_Disk_take_step oc_Disk_put kV_Disk_put dc_Disk_put pm_Disk_put cd_Disk_put ct_Disk_put oc_Disk_sync kV_Disk_sync dc_Disk_sync pm_Disk_sync cd_Disk_sync ct_Disk_sync oc_Disk_strike kV_Disk_strike dc_Disk_strike pm_Disk_strike cd_Disk_strike ct_Disk_strike oc_Disk_cut kV_Disk_cut dc_Disk_cut pm_Disk_cut cd_Disk_cut ct_Disk_cut oc_Disk_read kV_Disk_read dc_Disk_read pm_Disk_read cd_Disk_read ct_Disk_read oc_Disk_length kV_Disk_length dc_Disk_length pm_Disk_length cd_Disk_length ct_Disk_length oc_Disk_synced kV_Disk_synced dc_Disk_synced pm_Disk_synced cd_Disk_synced ct_Disk_synced oc_Disk_all_files kV_Disk_all_files dc_Disk_all_files pm_Disk_all_files cd_Disk_all_files ct_Disk_all_files oc_Disk_fall kV_Disk_fall dc_Disk_fall pm_Disk_fall cd_Disk_fall ct_Disk_fall oc_law_draw kV_law_draw dc_law_draw pm_law_draw cd_law_draw ct_law_draw oc_law_files kV_law_files dc_law_files pm_law_files cd_law_files ct_law_files oc_law_whole kV_law_whole dc_law_whole pm_law_whole cd_law_whole ct_law_whole oc_law_tried kV_law_tried dc_law_tried pm_law_tried cd_law_tried ct_law_tried oc_law_due kV_law_due dc_law_due pm_law_due cd_law_due ct_law_due oc_law_asked kV_law_asked dc_law_asked pm_law_asked cd_law_asked ct_law_asked oc_law_one kV_law_one dc_law_one pm_law_one cd_law_one ct_law_one oc_law_as_due kV_law_as_due dc_law_as_due pm_law_as_due cd_law_as_due ct_law_as_due oc_law_lengths kV_law_lengths dc_law_lengths pm_law_lengths cd_law_lengths ct_law_lengths oc_law_left kV_law_left dc_law_left pm_law_left cd_law_left ct_law_left oc_law_argument kV_law_argument dc_law_argument pm_law_argument cd_law_argument ct_law_argument oc_law kV_law dc_law pm_law cd_law ct_law : Value}
    {od_NoFile_init an_NoFile_init od_BadLimit_init an_BadLimit_init od_Fallen_init an_Fallen_init od_Disk_init an_Disk_init od_Disk_limit an_Disk_limit od_Disk_limitS an_Disk_limitS od_Disk_set_limit an_Disk_set_limit od_Disk_need_file an_Disk_need_file od_Disk_take_step an_Disk_take_step od_Disk_put an_Disk_put od_Disk_sync an_Disk_sync od_Disk_strike an_Disk_strike od_Disk_cut an_Disk_cut od_Disk_read an_Disk_read od_Disk_length an_Disk_length od_Disk_synced an_Disk_synced od_Disk_all_files an_Disk_all_files od_Disk_fall an_Disk_fall od_law_draw an_law_draw od_law_files an_law_files od_law_whole an_law_whole od_law_tried an_law_tried od_law_due an_law_due od_law_asked an_law_asked od_law_one an_law_one od_law_as_due an_law_as_due od_law_lengths an_law_lengths od_law_left an_law_left od_law_argument an_law_argument od_law an_law xd_NoFile xd_BadLimit xd_Fallen : Option Addr}
    {sl_NoFile_init sl_BadLimit_init sl_Fallen_init sl_Disk_init sl_Disk_limit sl_Disk_limitS sl_Disk_set_limit sl_Disk_need_file sl_Disk_take_step sl_Disk_put sl_Disk_sync sl_Disk_strike sl_Disk_cut sl_Disk_read sl_Disk_length sl_Disk_synced sl_Disk_all_files sl_Disk_fall sl_law_draw sl_law_files sl_law_whole sl_law_tried sl_law_due sl_law_asked sl_law_one sl_law_as_due sl_law_lengths sl_law_left sl_law_argument sl_law : Array (Option Value)}
    {xn_NoFile xq_NoFile xn_BadLimit xq_BadLimit xn_Fallen xq_Fallen : Str}
    {xN_NoFile xN_BadLimit xN_Fallen : Addr}
    {xs_NoFile xs_BadLimit xs_Fallen : List Str}
    {xa_NoFile xa_BadLimit xa_Fallen : Bool}
    {xo_NoFile xo_BadLimit xo_Fallen : Option Bool}
    {x0_NoFile x1_NoFile x2_NoFile x3_NoFile x5_NoFile x0_BadLimit x1_BadLimit x2_BadLimit x3_BadLimit x5_BadLimit x0_Fallen x1_Fallen x2_Fallen x3_Fallen x5_Fallen : Option Value}
    (hb_isinstance : PySem.W.nsIn K mainGlobals "isinstance" = some none)
    (hb_int : PySem.W.nsIn K mainGlobals "int" = some none)
    (hb_bool : PySem.W.nsIn K mainGlobals "bool" = some none)
    (hb_list : PySem.W.nsIn K mainGlobals "list" = some none)
    (hb_len : PySem.W.nsIn K mainGlobals "len" = some none)
    (hb_min : PySem.W.nsIn K mainGlobals "min" = some none)
    (hb_max : PySem.W.nsIn K mainGlobals "max" = some none)
    (hb_sorted : PySem.W.nsIn K mainGlobals "sorted" = some none)
    (hb_repr : PySem.W.nsIn K mainGlobals "repr" = some none)
    (hb_range : PySem.W.nsIn K mainGlobals "range" = some none)
    (hb_dict : PySem.W.nsIn K mainGlobals "dict" = some none)
    (hb_abs : PySem.W.nsIn K mainGlobals "abs" = some none)
    (hc_ColonnadeError : PySem.W.nsIn K mainGlobals "ColonnadeError" = some (some (.ref c_ColonnadeError)))
    (hc_NoFile : PySem.W.nsIn K mainGlobals "NoFile" = some (some (.ref c_NoFile)))
    (hc_BadLimit : PySem.W.nsIn K mainGlobals "BadLimit" = some (some (.ref c_BadLimit)))
    (hc_Fallen : PySem.W.nsIn K mainGlobals "Fallen" = some (some (.ref c_Fallen)))
    (hc_Disk : PySem.W.nsIn K mainGlobals "Disk" = some (some (.ref c_Disk)))
    (hp_Disk_limit : PySem.W.findIn K (.ref c_Disk) "limit" = some (some (.ref p_Disk_limit)))
    (hpq_Disk_limit : PySem.W.specialIn K (.ref p_Disk_limit) "__get__" = some (some (.builtin "property.__get__")))
    (hpt_Disk_limit : PySem.W.takesIn K (.ref p_Disk_limit) = some true)
    (hpy_Disk_limit : PySem.W.typeIn K (.ref p_Disk_limit) = some (.type "property"))
    (hpr_Disk_limit : PySem.W.recIn K p_Disk_limit "property" = some (.ref f_Disk_limit :: .ref f_Disk_limitS :: rs_Disk_limit))
    (ha_NoFile_init : PySem.W.findIn K (.ref c_NoFile) "__init__" = some (some (.ref f_NoFile_init)))
    (hl_NoFile_init : K.lookup f_NoFile_init = some ⟨oc_NoFile_init, od_NoFile_init, .func (PySem.W.fnOf "__init__" "NoFile.__init__" (defArgs s_NoFile_init) (defBody s_NoFile_init) (defScope s_NoFile_init) .none kV_NoFile_init dc_NoFile_init pm_NoFile_init an_NoFile_init cd_NoFile_init ct_NoFile_init), sl_NoFile_init⟩)
    (hd_NoFile_init : PySem.W.codeIn K cd_NoFile_init "NoFile.__init__" = true)
    (hk_NoFile_init : PySem.W.keepIn K (.ref f_NoFile_init) = true)
    (ha_BadLimit_init : PySem.W.findIn K (.ref c_BadLimit) "__init__" = some (some (.ref f_BadLimit_init)))
    (hl_BadLimit_init : K.lookup f_BadLimit_init = some ⟨oc_BadLimit_init, od_BadLimit_init, .func (PySem.W.fnOf "__init__" "BadLimit.__init__" (defArgs s_BadLimit_init) (defBody s_BadLimit_init) (defScope s_BadLimit_init) .none kV_BadLimit_init dc_BadLimit_init pm_BadLimit_init an_BadLimit_init cd_BadLimit_init ct_BadLimit_init), sl_BadLimit_init⟩)
    (hd_BadLimit_init : PySem.W.codeIn K cd_BadLimit_init "BadLimit.__init__" = true)
    (hk_BadLimit_init : PySem.W.keepIn K (.ref f_BadLimit_init) = true)
    (ha_Fallen_init : PySem.W.findIn K (.ref c_Fallen) "__init__" = some (some (.ref f_Fallen_init)))
    (hl_Fallen_init : K.lookup f_Fallen_init = some ⟨oc_Fallen_init, od_Fallen_init, .func (PySem.W.fnOf "__init__" "Fallen.__init__" (defArgs s_Fallen_init) (defBody s_Fallen_init) (defScope s_Fallen_init) .none kV_Fallen_init dc_Fallen_init pm_Fallen_init an_Fallen_init cd_Fallen_init ct_Fallen_init), sl_Fallen_init⟩)
    (hd_Fallen_init : PySem.W.codeIn K cd_Fallen_init "Fallen.__init__" = true)
    (hk_Fallen_init : PySem.W.keepIn K (.ref f_Fallen_init) = true)
    (ha_Disk_init : PySem.W.findIn K (.ref c_Disk) "__init__" = some (some (.ref f_Disk_init)))
    (hi_Disk_init : PySem.W.isFn K (.ref f_Disk_init) = true)
    (hl_Disk_init : K.lookup f_Disk_init = some ⟨oc_Disk_init, od_Disk_init, .func (PySem.W.fnOf "__init__" "Disk.__init__" (defArgs s_Disk_init) (defBody s_Disk_init) (defScope s_Disk_init) .none kV_Disk_init dc_Disk_init pm_Disk_init an_Disk_init cd_Disk_init ct_Disk_init), sl_Disk_init⟩)
    (hd_Disk_init : PySem.W.codeIn K cd_Disk_init "Disk.__init__" = true)
    (hk_Disk_init : PySem.W.keepIn K (.ref f_Disk_init) = true)
    (hl_Disk_limit : K.lookup f_Disk_limit = some ⟨oc_Disk_limit, od_Disk_limit, .func (PySem.W.fnOf "limit" "Disk.limit" (defArgs s_Disk_limit) (defBody s_Disk_limit) (defScope s_Disk_limit) .none kV_Disk_limit dc_Disk_limit pm_Disk_limit an_Disk_limit cd_Disk_limit ct_Disk_limit), sl_Disk_limit⟩)
    (hd_Disk_limit : PySem.W.codeIn K cd_Disk_limit "Disk.limit" = true)
    (hk_Disk_limit : PySem.W.keepIn K (.ref f_Disk_limit) = true)
    (hl_Disk_limitS : K.lookup f_Disk_limitS = some ⟨oc_Disk_limitS, od_Disk_limitS, .func (PySem.W.fnOf "limit" "Disk.limit" (defArgs s_Disk_limitS) (defBody s_Disk_limitS) (defScope s_Disk_limitS) .none kV_Disk_limitS dc_Disk_limitS pm_Disk_limitS an_Disk_limitS cd_Disk_limitS ct_Disk_limitS), sl_Disk_limitS⟩)
    (hd_Disk_limitS : PySem.W.codeIn K cd_Disk_limitS "Disk.limit" = true)
    (hk_Disk_limitS : PySem.W.keepIn K (.ref f_Disk_limitS) = true)
    (ha_Disk_set_limit : PySem.W.findIn K (.ref c_Disk) "set_limit" = some (some (.ref f_Disk_set_limit)))
    (hi_Disk_set_limit : PySem.W.isFn K (.ref f_Disk_set_limit) = true)
    (hl_Disk_set_limit : K.lookup f_Disk_set_limit = some ⟨oc_Disk_set_limit, od_Disk_set_limit, .func (PySem.W.fnOf "set_limit" "Disk.set_limit" (defArgs s_Disk_set_limit) (defBody s_Disk_set_limit) (defScope s_Disk_set_limit) .none kV_Disk_set_limit dc_Disk_set_limit pm_Disk_set_limit an_Disk_set_limit cd_Disk_set_limit ct_Disk_set_limit), sl_Disk_set_limit⟩)
    (hd_Disk_set_limit : PySem.W.codeIn K cd_Disk_set_limit "Disk.set_limit" = true)
    (hk_Disk_set_limit : PySem.W.keepIn K (.ref f_Disk_set_limit) = true)
    (ha_Disk_need_file : PySem.W.findIn K (.ref c_Disk) "need_file" = some (some (.ref f_Disk_need_file)))
    (hi_Disk_need_file : PySem.W.isFn K (.ref f_Disk_need_file) = true)
    (hl_Disk_need_file : K.lookup f_Disk_need_file = some ⟨oc_Disk_need_file, od_Disk_need_file, .func (PySem.W.fnOf "need_file" "Disk.need_file" (defArgs s_Disk_need_file) (defBody s_Disk_need_file) (defScope s_Disk_need_file) .none kV_Disk_need_file dc_Disk_need_file pm_Disk_need_file an_Disk_need_file cd_Disk_need_file ct_Disk_need_file), sl_Disk_need_file⟩)
    (hd_Disk_need_file : PySem.W.codeIn K cd_Disk_need_file "Disk.need_file" = true)
    (hk_Disk_need_file : PySem.W.keepIn K (.ref f_Disk_need_file) = true)
    (ha_Disk_take_step : PySem.W.findIn K (.ref c_Disk) "take_step" = some (some (.ref f_Disk_take_step)))
    (hi_Disk_take_step : PySem.W.isFn K (.ref f_Disk_take_step) = true)
    (hl_Disk_take_step : K.lookup f_Disk_take_step = some ⟨oc_Disk_take_step, od_Disk_take_step, .func (PySem.W.fnOf "take_step" "Disk.take_step" (defArgs s_Disk_take_step) (defBody s_Disk_take_step) (defScope s_Disk_take_step) .none kV_Disk_take_step dc_Disk_take_step pm_Disk_take_step an_Disk_take_step cd_Disk_take_step ct_Disk_take_step), sl_Disk_take_step⟩)
    (hd_Disk_take_step : PySem.W.codeIn K cd_Disk_take_step "Disk.take_step" = true)
    (hk_Disk_take_step : PySem.W.keepIn K (.ref f_Disk_take_step) = true)
    (ha_Disk_put : PySem.W.findIn K (.ref c_Disk) "put" = some (some (.ref f_Disk_put)))
    (hi_Disk_put : PySem.W.isFn K (.ref f_Disk_put) = true)
    (hl_Disk_put : K.lookup f_Disk_put = some ⟨oc_Disk_put, od_Disk_put, .func (PySem.W.fnOf "put" "Disk.put" (defArgs s_Disk_put) (defBody s_Disk_put) (defScope s_Disk_put) .none kV_Disk_put dc_Disk_put pm_Disk_put an_Disk_put cd_Disk_put ct_Disk_put), sl_Disk_put⟩)
    (hd_Disk_put : PySem.W.codeIn K cd_Disk_put "Disk.put" = true)
    (hk_Disk_put : PySem.W.keepIn K (.ref f_Disk_put) = true)
    (ha_Disk_sync : PySem.W.findIn K (.ref c_Disk) "sync" = some (some (.ref f_Disk_sync)))
    (hi_Disk_sync : PySem.W.isFn K (.ref f_Disk_sync) = true)
    (hl_Disk_sync : K.lookup f_Disk_sync = some ⟨oc_Disk_sync, od_Disk_sync, .func (PySem.W.fnOf "sync" "Disk.sync" (defArgs s_Disk_sync) (defBody s_Disk_sync) (defScope s_Disk_sync) .none kV_Disk_sync dc_Disk_sync pm_Disk_sync an_Disk_sync cd_Disk_sync ct_Disk_sync), sl_Disk_sync⟩)
    (hd_Disk_sync : PySem.W.codeIn K cd_Disk_sync "Disk.sync" = true)
    (hk_Disk_sync : PySem.W.keepIn K (.ref f_Disk_sync) = true)
    (ha_Disk_strike : PySem.W.findIn K (.ref c_Disk) "strike" = some (some (.ref f_Disk_strike)))
    (hi_Disk_strike : PySem.W.isFn K (.ref f_Disk_strike) = true)
    (hl_Disk_strike : K.lookup f_Disk_strike = some ⟨oc_Disk_strike, od_Disk_strike, .func (PySem.W.fnOf "strike" "Disk.strike" (defArgs s_Disk_strike) (defBody s_Disk_strike) (defScope s_Disk_strike) .none kV_Disk_strike dc_Disk_strike pm_Disk_strike an_Disk_strike cd_Disk_strike ct_Disk_strike), sl_Disk_strike⟩)
    (hd_Disk_strike : PySem.W.codeIn K cd_Disk_strike "Disk.strike" = true)
    (hk_Disk_strike : PySem.W.keepIn K (.ref f_Disk_strike) = true)
    (ha_Disk_cut : PySem.W.findIn K (.ref c_Disk) "cut" = some (some (.ref f_Disk_cut)))
    (hi_Disk_cut : PySem.W.isFn K (.ref f_Disk_cut) = true)
    (hl_Disk_cut : K.lookup f_Disk_cut = some ⟨oc_Disk_cut, od_Disk_cut, .func (PySem.W.fnOf "cut" "Disk.cut" (defArgs s_Disk_cut) (defBody s_Disk_cut) (defScope s_Disk_cut) .none kV_Disk_cut dc_Disk_cut pm_Disk_cut an_Disk_cut cd_Disk_cut ct_Disk_cut), sl_Disk_cut⟩)
    (hd_Disk_cut : PySem.W.codeIn K cd_Disk_cut "Disk.cut" = true)
    (hk_Disk_cut : PySem.W.keepIn K (.ref f_Disk_cut) = true)
    (ha_Disk_read : PySem.W.findIn K (.ref c_Disk) "read" = some (some (.ref f_Disk_read)))
    (hi_Disk_read : PySem.W.isFn K (.ref f_Disk_read) = true)
    (hl_Disk_read : K.lookup f_Disk_read = some ⟨oc_Disk_read, od_Disk_read, .func (PySem.W.fnOf "read" "Disk.read" (defArgs s_Disk_read) (defBody s_Disk_read) (defScope s_Disk_read) .none kV_Disk_read dc_Disk_read pm_Disk_read an_Disk_read cd_Disk_read ct_Disk_read), sl_Disk_read⟩)
    (hd_Disk_read : PySem.W.codeIn K cd_Disk_read "Disk.read" = true)
    (hk_Disk_read : PySem.W.keepIn K (.ref f_Disk_read) = true)
    (ha_Disk_length : PySem.W.findIn K (.ref c_Disk) "length" = some (some (.ref f_Disk_length)))
    (hi_Disk_length : PySem.W.isFn K (.ref f_Disk_length) = true)
    (hl_Disk_length : K.lookup f_Disk_length = some ⟨oc_Disk_length, od_Disk_length, .func (PySem.W.fnOf "length" "Disk.length" (defArgs s_Disk_length) (defBody s_Disk_length) (defScope s_Disk_length) .none kV_Disk_length dc_Disk_length pm_Disk_length an_Disk_length cd_Disk_length ct_Disk_length), sl_Disk_length⟩)
    (hd_Disk_length : PySem.W.codeIn K cd_Disk_length "Disk.length" = true)
    (hk_Disk_length : PySem.W.keepIn K (.ref f_Disk_length) = true)
    (ha_Disk_synced : PySem.W.findIn K (.ref c_Disk) "synced" = some (some (.ref f_Disk_synced)))
    (hi_Disk_synced : PySem.W.isFn K (.ref f_Disk_synced) = true)
    (hl_Disk_synced : K.lookup f_Disk_synced = some ⟨oc_Disk_synced, od_Disk_synced, .func (PySem.W.fnOf "synced" "Disk.synced" (defArgs s_Disk_synced) (defBody s_Disk_synced) (defScope s_Disk_synced) .none kV_Disk_synced dc_Disk_synced pm_Disk_synced an_Disk_synced cd_Disk_synced ct_Disk_synced), sl_Disk_synced⟩)
    (hd_Disk_synced : PySem.W.codeIn K cd_Disk_synced "Disk.synced" = true)
    (hk_Disk_synced : PySem.W.keepIn K (.ref f_Disk_synced) = true)
    (ha_Disk_all_files : PySem.W.findIn K (.ref c_Disk) "all_files" = some (some (.ref f_Disk_all_files)))
    (hi_Disk_all_files : PySem.W.isFn K (.ref f_Disk_all_files) = true)
    (hl_Disk_all_files : K.lookup f_Disk_all_files = some ⟨oc_Disk_all_files, od_Disk_all_files, .func (PySem.W.fnOf "all_files" "Disk.all_files" (defArgs s_Disk_all_files) (defBody s_Disk_all_files) (defScope s_Disk_all_files) .none kV_Disk_all_files dc_Disk_all_files pm_Disk_all_files an_Disk_all_files cd_Disk_all_files ct_Disk_all_files), sl_Disk_all_files⟩)
    (hd_Disk_all_files : PySem.W.codeIn K cd_Disk_all_files "Disk.all_files" = true)
    (hk_Disk_all_files : PySem.W.keepIn K (.ref f_Disk_all_files) = true)
    (ha_Disk_fall : PySem.W.findIn K (.ref c_Disk) "fall" = some (some (.ref f_Disk_fall)))
    (hi_Disk_fall : PySem.W.isFn K (.ref f_Disk_fall) = true)
    (hl_Disk_fall : K.lookup f_Disk_fall = some ⟨oc_Disk_fall, od_Disk_fall, .func (PySem.W.fnOf "fall" "Disk.fall" (defArgs s_Disk_fall) (defBody s_Disk_fall) (defScope s_Disk_fall) .none kV_Disk_fall dc_Disk_fall pm_Disk_fall an_Disk_fall cd_Disk_fall ct_Disk_fall), sl_Disk_fall⟩)
    (hd_Disk_fall : PySem.W.codeIn K cd_Disk_fall "Disk.fall" = true)
    (hk_Disk_fall : PySem.W.keepIn K (.ref f_Disk_fall) = true)
    (ha_law_draw : PySem.W.nsIn K mainGlobals "_law_draw" = some (some (.ref f_law_draw)))
    (hl_law_draw : K.lookup f_law_draw = some ⟨oc_law_draw, od_law_draw, .func (PySem.W.fnOf "_law_draw" "_law_draw" (defArgs s_law_draw) (defBody s_law_draw) (defScope s_law_draw) .none kV_law_draw dc_law_draw pm_law_draw an_law_draw cd_law_draw ct_law_draw), sl_law_draw⟩)
    (hd_law_draw : PySem.W.codeIn K cd_law_draw "_law_draw" = true)
    (hk_law_draw : PySem.W.keepIn K (.ref f_law_draw) = true)
    (ha_law_files : PySem.W.nsIn K mainGlobals "_law_files" = some (some (.ref f_law_files)))
    (hl_law_files : K.lookup f_law_files = some ⟨oc_law_files, od_law_files, .func (PySem.W.fnOf "_law_files" "_law_files" (defArgs s_law_files) (defBody s_law_files) (defScope s_law_files) .none kV_law_files dc_law_files pm_law_files an_law_files cd_law_files ct_law_files), sl_law_files⟩)
    (hd_law_files : PySem.W.codeIn K cd_law_files "_law_files" = true)
    (hk_law_files : PySem.W.keepIn K (.ref f_law_files) = true)
    (ha_law_whole : PySem.W.nsIn K mainGlobals "_law_whole" = some (some (.ref f_law_whole)))
    (hl_law_whole : K.lookup f_law_whole = some ⟨oc_law_whole, od_law_whole, .func (PySem.W.fnOf "_law_whole" "_law_whole" (defArgs s_law_whole) (defBody s_law_whole) (defScope s_law_whole) .none kV_law_whole dc_law_whole pm_law_whole an_law_whole cd_law_whole ct_law_whole), sl_law_whole⟩)
    (hd_law_whole : PySem.W.codeIn K cd_law_whole "_law_whole" = true)
    (hk_law_whole : PySem.W.keepIn K (.ref f_law_whole) = true)
    (ha_law_tried : PySem.W.nsIn K mainGlobals "_law_tried" = some (some (.ref f_law_tried)))
    (hl_law_tried : K.lookup f_law_tried = some ⟨oc_law_tried, od_law_tried, .func (PySem.W.fnOf "_law_tried" "_law_tried" (defArgs s_law_tried) (defBody s_law_tried) (defScope s_law_tried) .none kV_law_tried dc_law_tried pm_law_tried an_law_tried cd_law_tried ct_law_tried), sl_law_tried⟩)
    (hd_law_tried : PySem.W.codeIn K cd_law_tried "_law_tried" = true)
    (hk_law_tried : PySem.W.keepIn K (.ref f_law_tried) = true)
    (ha_law_due : PySem.W.nsIn K mainGlobals "_law_due" = some (some (.ref f_law_due)))
    (hl_law_due : K.lookup f_law_due = some ⟨oc_law_due, od_law_due, .func (PySem.W.fnOf "_law_due" "_law_due" (defArgs s_law_due) (defBody s_law_due) (defScope s_law_due) .none kV_law_due dc_law_due pm_law_due an_law_due cd_law_due ct_law_due), sl_law_due⟩)
    (hd_law_due : PySem.W.codeIn K cd_law_due "_law_due" = true)
    (hk_law_due : PySem.W.keepIn K (.ref f_law_due) = true)
    (ha_law_asked : PySem.W.nsIn K mainGlobals "_law_asked" = some (some (.ref f_law_asked)))
    (hl_law_asked : K.lookup f_law_asked = some ⟨oc_law_asked, od_law_asked, .func (PySem.W.fnOf "_law_asked" "_law_asked" (defArgs s_law_asked) (defBody s_law_asked) (defScope s_law_asked) .none kV_law_asked dc_law_asked pm_law_asked an_law_asked cd_law_asked ct_law_asked), sl_law_asked⟩)
    (hd_law_asked : PySem.W.codeIn K cd_law_asked "_law_asked" = true)
    (hk_law_asked : PySem.W.keepIn K (.ref f_law_asked) = true)
    (ha_law_one : PySem.W.nsIn K mainGlobals "_law_one" = some (some (.ref f_law_one)))
    (hl_law_one : K.lookup f_law_one = some ⟨oc_law_one, od_law_one, .func (PySem.W.fnOf "_law_one" "_law_one" (defArgs s_law_one) (defBody s_law_one) (defScope s_law_one) .none kV_law_one dc_law_one pm_law_one an_law_one cd_law_one ct_law_one), sl_law_one⟩)
    (hd_law_one : PySem.W.codeIn K cd_law_one "_law_one" = true)
    (hk_law_one : PySem.W.keepIn K (.ref f_law_one) = true)
    (ha_law_as_due : PySem.W.nsIn K mainGlobals "_law_as_due" = some (some (.ref f_law_as_due)))
    (hl_law_as_due : K.lookup f_law_as_due = some ⟨oc_law_as_due, od_law_as_due, .func (PySem.W.fnOf "_law_as_due" "_law_as_due" (defArgs s_law_as_due) (defBody s_law_as_due) (defScope s_law_as_due) .none kV_law_as_due dc_law_as_due pm_law_as_due an_law_as_due cd_law_as_due ct_law_as_due), sl_law_as_due⟩)
    (hd_law_as_due : PySem.W.codeIn K cd_law_as_due "_law_as_due" = true)
    (hk_law_as_due : PySem.W.keepIn K (.ref f_law_as_due) = true)
    (ha_law_lengths : PySem.W.nsIn K mainGlobals "_law_lengths" = some (some (.ref f_law_lengths)))
    (hl_law_lengths : K.lookup f_law_lengths = some ⟨oc_law_lengths, od_law_lengths, .func (PySem.W.fnOf "_law_lengths" "_law_lengths" (defArgs s_law_lengths) (defBody s_law_lengths) (defScope s_law_lengths) .none kV_law_lengths dc_law_lengths pm_law_lengths an_law_lengths cd_law_lengths ct_law_lengths), sl_law_lengths⟩)
    (hd_law_lengths : PySem.W.codeIn K cd_law_lengths "_law_lengths" = true)
    (hk_law_lengths : PySem.W.keepIn K (.ref f_law_lengths) = true)
    (ha_law_left : PySem.W.nsIn K mainGlobals "_law_left" = some (some (.ref f_law_left)))
    (hl_law_left : K.lookup f_law_left = some ⟨oc_law_left, od_law_left, .func (PySem.W.fnOf "_law_left" "_law_left" (defArgs s_law_left) (defBody s_law_left) (defScope s_law_left) .none kV_law_left dc_law_left pm_law_left an_law_left cd_law_left ct_law_left), sl_law_left⟩)
    (hd_law_left : PySem.W.codeIn K cd_law_left "_law_left" = true)
    (hk_law_left : PySem.W.keepIn K (.ref f_law_left) = true)
    (ha_law_argument : PySem.W.nsIn K mainGlobals "_law_argument" = some (some (.ref f_law_argument)))
    (hl_law_argument : K.lookup f_law_argument = some ⟨oc_law_argument, od_law_argument, .func (PySem.W.fnOf "_law_argument" "_law_argument" (defArgs s_law_argument) (defBody s_law_argument) (defScope s_law_argument) .none kV_law_argument dc_law_argument pm_law_argument an_law_argument cd_law_argument ct_law_argument), sl_law_argument⟩)
    (hd_law_argument : PySem.W.codeIn K cd_law_argument "_law_argument" = true)
    (hk_law_argument : PySem.W.keepIn K (.ref f_law_argument) = true)
    (ha_law : PySem.W.nsIn K mainGlobals "law" = some (some (.ref f_law)))
    (hl_law : K.lookup f_law = some ⟨oc_law, od_law, .func (PySem.W.fnOf "law" "law" (defArgs s_law) (defBody s_law) (defScope s_law) .none kV_law dc_law pm_law an_law cd_law ct_law), sl_law⟩)
    (hd_law : PySem.W.codeIn K cd_law "law" = true)
    (hk_law : PySem.W.keepIn K (.ref f_law) = true)
    (hpg_Disk : PySem.W.plainGet K c_Disk Str.empty = true)
    (hhd_Disk : PySem.W.hasDictIn K c_Disk = true)
    (hpo_Disk : PySem.W.plainOver K c_Disk = true)
    (hsa_Disk : PySem.W.findIn K (.ref c_Disk) "__setattr__" = some (some (.builtin "object.__setattr__")))
    (hmk_Disk : PySem.W.makesIn K c_Disk = true)
    (hkc_Disk : PySem.W.keepIn K (.ref c_Disk) = true)
    (hn_Disk_contents : PySem.W.findIn K (.ref c_Disk) "contents" = some none)
    (hn_Disk_safe : PySem.W.findIn K (.ref c_Disk) "safe" = some none)
    (hn_Disk_steps : PySem.W.findIn K (.ref c_Disk) "steps" = some none)
    (hn_Disk_allowed : PySem.W.findIn K (.ref c_Disk) "allowed" = some none)
    (hxL_NoFile : K.lookup c_NoFile = some (excClassObj xn_NoFile xq_NoFile c_NoFile xN_NoFile xb_NoFile [.ref c_ColonnadeError, .type "ValueError", .type "Exception", .type "BaseException", .type "object"] true xs_NoFile xu_NoFile xa_NoFile xo_NoFile xd_NoFile x0_NoFile x1_NoFile x2_NoFile x3_NoFile x5_NoFile "ValueError.__new__"))
    (hxs_NoFile : PySem.W.findIn K (.ref c_NoFile) "__setattr__" = some (some (.builtin "object.__setattr__")))
    (hxe_NoFile : PySem.W.subIn K (.ref c_NoFile) (.type "BaseException") = some true)
    (hxt_NoFile : PySem.W.typeIn K (.ref c_NoFile) = some (.type "type"))
    (hxk_NoFile : PySem.W.keepIn K (.ref c_NoFile) = true)
    (hxg_NoFile : PySem.W.findIn K (.ref c_NoFile) "__getattribute__" = some (some (.builtin "BaseException.__getattribute__")))
    (hxh_NoFile : PySem.W.findIn K (.ref c_NoFile) "__getattr__" = some none)
    (hxd_NoFile : PySem.W.hasDictIn K c_NoFile = true)
    (hxc_NoFile : PySem.W.isClsIn K c_NoFile = true)
    (hxy_NoFile : PySem.W.findIn K (.ref c_NoFile) "__class__" = some (some (.builtin "object.__class__")))
    (hxm_NoFile : PySem.W.mroIn K c_NoFile (.type "object") = some true)
    (hxi_NoFile : PySem.W.typeIn K (.ref f_NoFile_init) = some (.type "function"))
    (hxn_NoFile_name : PySem.W.findIn K (.ref c_NoFile) "name" = some none)
    (hxL_BadLimit : K.lookup c_BadLimit = some (excClassObj xn_BadLimit xq_BadLimit c_BadLimit xN_BadLimit xb_BadLimit [.ref c_ColonnadeError, .type "ValueError", .type "Exception", .type "BaseException", .type "object"] true xs_BadLimit xu_BadLimit xa_BadLimit xo_BadLimit xd_BadLimit x0_BadLimit x1_BadLimit x2_BadLimit x3_BadLimit x5_BadLimit "ValueError.__new__"))
    (hxs_BadLimit : PySem.W.findIn K (.ref c_BadLimit) "__setattr__" = some (some (.builtin "object.__setattr__")))
    (hxe_BadLimit : PySem.W.subIn K (.ref c_BadLimit) (.type "BaseException") = some true)
    (hxt_BadLimit : PySem.W.typeIn K (.ref c_BadLimit) = some (.type "type"))
    (hxk_BadLimit : PySem.W.keepIn K (.ref c_BadLimit) = true)
    (hxg_BadLimit : PySem.W.findIn K (.ref c_BadLimit) "__getattribute__" = some (some (.builtin "BaseException.__getattribute__")))
    (hxh_BadLimit : PySem.W.findIn K (.ref c_BadLimit) "__getattr__" = some none)
    (hxd_BadLimit : PySem.W.hasDictIn K c_BadLimit = true)
    (hxc_BadLimit : PySem.W.isClsIn K c_BadLimit = true)
    (hxy_BadLimit : PySem.W.findIn K (.ref c_BadLimit) "__class__" = some (some (.builtin "object.__class__")))
    (hxm_BadLimit : PySem.W.mroIn K c_BadLimit (.type "object") = some true)
    (hxi_BadLimit : PySem.W.typeIn K (.ref f_BadLimit_init) = some (.type "function"))
    (hxn_BadLimit_limit : PySem.W.findIn K (.ref c_BadLimit) "limit" = some none)
    (hxL_Fallen : K.lookup c_Fallen = some (excClassObj xn_Fallen xq_Fallen c_Fallen xN_Fallen xb_Fallen [.ref c_ColonnadeError, .type "ValueError", .type "Exception", .type "BaseException", .type "object"] true xs_Fallen xu_Fallen xa_Fallen xo_Fallen xd_Fallen x0_Fallen x1_Fallen x2_Fallen x3_Fallen x5_Fallen "ValueError.__new__"))
    (hxs_Fallen : PySem.W.findIn K (.ref c_Fallen) "__setattr__" = some (some (.builtin "object.__setattr__")))
    (hxe_Fallen : PySem.W.subIn K (.ref c_Fallen) (.type "BaseException") = some true)
    (hxt_Fallen : PySem.W.typeIn K (.ref c_Fallen) = some (.type "type"))
    (hxk_Fallen : PySem.W.keepIn K (.ref c_Fallen) = true)
    (hxg_Fallen : PySem.W.findIn K (.ref c_Fallen) "__getattribute__" = some (some (.builtin "BaseException.__getattribute__")))
    (hxh_Fallen : PySem.W.findIn K (.ref c_Fallen) "__getattr__" = some none)
    (hxd_Fallen : PySem.W.hasDictIn K c_Fallen = true)
    (hxc_Fallen : PySem.W.isClsIn K c_Fallen = true)
    (hxy_Fallen : PySem.W.findIn K (.ref c_Fallen) "__class__" = some (some (.builtin "object.__class__")))
    (hxm_Fallen : PySem.W.mroIn K c_Fallen (.type "object") = some true)
    (hxi_Fallen : PySem.W.typeIn K (.ref f_Fallen_init) = some (.type "function"))
    (hxn_Fallen_steps : PySem.W.findIn K (.ref c_Fallen) "steps" = some none)
    (hx_get : PySem.W.specialIn K (.builtin "object.__class__") "__get__" = some (some (.builtin "getset_descriptor.__get__")))
    (hx_tak : PySem.W.takesIn K (.builtin "object.__class__") = some true)
    (hsub_NoFile_NoFile : PySem.W.subIn K (.ref c_NoFile) (.ref c_NoFile) = some true)
    (hsub_NoFile_Fallen : PySem.W.subIn K (.ref c_NoFile) (.ref c_Fallen) = some false)
    (hsub_NoFile_BadLimit : PySem.W.subIn K (.ref c_NoFile) (.ref c_BadLimit) = some false)
    (hsub_Fallen_NoFile : PySem.W.subIn K (.ref c_Fallen) (.ref c_NoFile) = some false)
    (hsub_Fallen_Fallen : PySem.W.subIn K (.ref c_Fallen) (.ref c_Fallen) = some true)
    (hsub_Fallen_BadLimit : PySem.W.subIn K (.ref c_Fallen) (.ref c_BadLimit) = some false)
    (hsub_BadLimit_NoFile : PySem.W.subIn K (.ref c_BadLimit) (.ref c_NoFile) = some false)
    (hsub_BadLimit_Fallen : PySem.W.subIn K (.ref c_BadLimit) (.ref c_Fallen) = some false)
    (hsub_BadLimit_BadLimit : PySem.W.subIn K (.ref c_BadLimit) (.ref c_BadLimit) = some true)
    (hxt_ColonnadeError : PySem.W.typeIn K (.ref c_ColonnadeError) = some (.type "type"))
    (hxc_ColonnadeError : PySem.W.isClsIn K c_ColonnadeError = true)
    (hsub_NoFile_ColonnadeError : PySem.W.subIn K (.ref c_NoFile) (.ref c_ColonnadeError) = some true)
    (hsub_Fallen_ColonnadeError : PySem.W.subIn K (.ref c_Fallen) (.ref c_ColonnadeError) = some true)
    (hsub_BadLimit_ColonnadeError : PySem.W.subIn K (.ref c_BadLimit) (.ref c_ColonnadeError) = some true)
    : ∃ fd : FuncData, (∀ (s : Shared) (v : Value), BindsTo s fd ⟨[v], []⟩ [("_law_script", v)]) ∧ ∀ base : Heap, K.In base → base.Ns mainGlobals mg → GnOk P w K mg base CX0 60 fa fd ["_law_script"] (sp_law K) := by
  have e := hfa.symm.trans (PySem.W.mg_of X G ha_law)
  cases e
  have T : Tx K mg ⟨c_ColonnadeError, c_NoFile, c_BadLimit, c_Fallen, c_Disk, f_NoFile_init, f_BadLimit_init, f_Fallen_init, f_Disk_init, f_Disk_limit, f_Disk_limitS, f_Disk_set_limit, f_Disk_need_file, f_Disk_take_step, f_Disk_put, f_Disk_sync, f_Disk_strike, f_Disk_cut, f_Disk_read, f_Disk_length, f_Disk_synced, f_Disk_all_files, f_Disk_fall, f_law_draw, f_law_files, f_law_whole, f_law_tried, f_law_due, f_law_asked, f_law_one, f_law_as_due, f_law_lengths, f_law_left, f_law_argument, fa, p_Disk_limit⟩ ⟨PySem.W.fnOf "__init__" "NoFile.__init__" (defArgs s_NoFile_init) (defBody s_NoFile_init) (defScope s_NoFile_init) .none kV_NoFile_init dc_NoFile_init pm_NoFile_init an_NoFile_init cd_NoFile_init ct_NoFile_init, PySem.W.fnOf "__init__" "BadLimit.__init__" (defArgs s_BadLimit_init) (defBody s_BadLimit_init) (defScope s_BadLimit_init) .none kV_BadLimit_init dc_BadLimit_init pm_BadLimit_init an_BadLimit_init cd_BadLimit_init ct_BadLimit_init, PySem.W.fnOf "__init__" "Fallen.__init__" (defArgs s_Fallen_init) (defBody s_Fallen_init) (defScope s_Fallen_init) .none kV_Fallen_init dc_Fallen_init pm_Fallen_init an_Fallen_init cd_Fallen_init ct_Fallen_init, PySem.W.fnOf "__init__" "Disk.__init__" (defArgs s_Disk_init) (defBody s_Disk_init) (defScope s_Disk_init) .none kV_Disk_init dc_Disk_init pm_Disk_init an_Disk_init cd_Disk_init ct_Disk_init, PySem.W.fnOf "limit" "Disk.limit" (defArgs s_Disk_limit) (defBody s_Disk_limit) (defScope s_Disk_limit) .none kV_Disk_limit dc_Disk_limit pm_Disk_limit an_Disk_limit cd_Disk_limit ct_Disk_limit, PySem.W.fnOf "limit" "Disk.limit" (defArgs s_Disk_limitS) (defBody s_Disk_limitS) (defScope s_Disk_limitS) .none kV_Disk_limitS dc_Disk_limitS pm_Disk_limitS an_Disk_limitS cd_Disk_limitS ct_Disk_limitS, PySem.W.fnOf "set_limit" "Disk.set_limit" (defArgs s_Disk_set_limit) (defBody s_Disk_set_limit) (defScope s_Disk_set_limit) .none kV_Disk_set_limit dc_Disk_set_limit pm_Disk_set_limit an_Disk_set_limit cd_Disk_set_limit ct_Disk_set_limit, PySem.W.fnOf "need_file" "Disk.need_file" (defArgs s_Disk_need_file) (defBody s_Disk_need_file) (defScope s_Disk_need_file) .none kV_Disk_need_file dc_Disk_need_file pm_Disk_need_file an_Disk_need_file cd_Disk_need_file ct_Disk_need_file, PySem.W.fnOf "take_step" "Disk.take_step" (defArgs s_Disk_take_step) (defBody s_Disk_take_step) (defScope s_Disk_take_step) .none kV_Disk_take_step dc_Disk_take_step pm_Disk_take_step an_Disk_take_step cd_Disk_take_step ct_Disk_take_step, PySem.W.fnOf "put" "Disk.put" (defArgs s_Disk_put) (defBody s_Disk_put) (defScope s_Disk_put) .none kV_Disk_put dc_Disk_put pm_Disk_put an_Disk_put cd_Disk_put ct_Disk_put, PySem.W.fnOf "sync" "Disk.sync" (defArgs s_Disk_sync) (defBody s_Disk_sync) (defScope s_Disk_sync) .none kV_Disk_sync dc_Disk_sync pm_Disk_sync an_Disk_sync cd_Disk_sync ct_Disk_sync, PySem.W.fnOf "strike" "Disk.strike" (defArgs s_Disk_strike) (defBody s_Disk_strike) (defScope s_Disk_strike) .none kV_Disk_strike dc_Disk_strike pm_Disk_strike an_Disk_strike cd_Disk_strike ct_Disk_strike, PySem.W.fnOf "cut" "Disk.cut" (defArgs s_Disk_cut) (defBody s_Disk_cut) (defScope s_Disk_cut) .none kV_Disk_cut dc_Disk_cut pm_Disk_cut an_Disk_cut cd_Disk_cut ct_Disk_cut, PySem.W.fnOf "read" "Disk.read" (defArgs s_Disk_read) (defBody s_Disk_read) (defScope s_Disk_read) .none kV_Disk_read dc_Disk_read pm_Disk_read an_Disk_read cd_Disk_read ct_Disk_read, PySem.W.fnOf "length" "Disk.length" (defArgs s_Disk_length) (defBody s_Disk_length) (defScope s_Disk_length) .none kV_Disk_length dc_Disk_length pm_Disk_length an_Disk_length cd_Disk_length ct_Disk_length, PySem.W.fnOf "synced" "Disk.synced" (defArgs s_Disk_synced) (defBody s_Disk_synced) (defScope s_Disk_synced) .none kV_Disk_synced dc_Disk_synced pm_Disk_synced an_Disk_synced cd_Disk_synced ct_Disk_synced, PySem.W.fnOf "all_files" "Disk.all_files" (defArgs s_Disk_all_files) (defBody s_Disk_all_files) (defScope s_Disk_all_files) .none kV_Disk_all_files dc_Disk_all_files pm_Disk_all_files an_Disk_all_files cd_Disk_all_files ct_Disk_all_files, PySem.W.fnOf "fall" "Disk.fall" (defArgs s_Disk_fall) (defBody s_Disk_fall) (defScope s_Disk_fall) .none kV_Disk_fall dc_Disk_fall pm_Disk_fall an_Disk_fall cd_Disk_fall ct_Disk_fall, PySem.W.fnOf "_law_draw" "_law_draw" (defArgs s_law_draw) (defBody s_law_draw) (defScope s_law_draw) .none kV_law_draw dc_law_draw pm_law_draw an_law_draw cd_law_draw ct_law_draw, PySem.W.fnOf "_law_files" "_law_files" (defArgs s_law_files) (defBody s_law_files) (defScope s_law_files) .none kV_law_files dc_law_files pm_law_files an_law_files cd_law_files ct_law_files, PySem.W.fnOf "_law_whole" "_law_whole" (defArgs s_law_whole) (defBody s_law_whole) (defScope s_law_whole) .none kV_law_whole dc_law_whole pm_law_whole an_law_whole cd_law_whole ct_law_whole, PySem.W.fnOf "_law_tried" "_law_tried" (defArgs s_law_tried) (defBody s_law_tried) (defScope s_law_tried) .none kV_law_tried dc_law_tried pm_law_tried an_law_tried cd_law_tried ct_law_tried, PySem.W.fnOf "_law_due" "_law_due" (defArgs s_law_due) (defBody s_law_due) (defScope s_law_due) .none kV_law_due dc_law_due pm_law_due an_law_due cd_law_due ct_law_due, PySem.W.fnOf "_law_asked" "_law_asked" (defArgs s_law_asked) (defBody s_law_asked) (defScope s_law_asked) .none kV_law_asked dc_law_asked pm_law_asked an_law_asked cd_law_asked ct_law_asked, PySem.W.fnOf "_law_one" "_law_one" (defArgs s_law_one) (defBody s_law_one) (defScope s_law_one) .none kV_law_one dc_law_one pm_law_one an_law_one cd_law_one ct_law_one, PySem.W.fnOf "_law_as_due" "_law_as_due" (defArgs s_law_as_due) (defBody s_law_as_due) (defScope s_law_as_due) .none kV_law_as_due dc_law_as_due pm_law_as_due an_law_as_due cd_law_as_due ct_law_as_due, PySem.W.fnOf "_law_lengths" "_law_lengths" (defArgs s_law_lengths) (defBody s_law_lengths) (defScope s_law_lengths) .none kV_law_lengths dc_law_lengths pm_law_lengths an_law_lengths cd_law_lengths ct_law_lengths, PySem.W.fnOf "_law_left" "_law_left" (defArgs s_law_left) (defBody s_law_left) (defScope s_law_left) .none kV_law_left dc_law_left pm_law_left an_law_left cd_law_left ct_law_left, PySem.W.fnOf "_law_argument" "_law_argument" (defArgs s_law_argument) (defBody s_law_argument) (defScope s_law_argument) .none kV_law_argument dc_law_argument pm_law_argument an_law_argument cd_law_argument ct_law_argument, PySem.W.fnOf "law" "law" (defArgs s_law) (defBody s_law) (defScope s_law) .none kV_law dc_law pm_law an_law cd_law ct_law⟩ := by
    constructor
    · exact PySem.W.mg_none_of X G hb_isinstance
    · exact PySem.W.mg_none_of X G hb_int
    · exact PySem.W.mg_none_of X G hb_bool
    · exact PySem.W.mg_none_of X G hb_list
    · exact PySem.W.mg_none_of X G hb_len
    · exact PySem.W.mg_none_of X G hb_min
    · exact PySem.W.mg_none_of X G hb_max
    · exact PySem.W.mg_none_of X G hb_sorted
    · exact PySem.W.mg_none_of X G hb_repr
    · exact PySem.W.mg_none_of X G hb_range
    · exact PySem.W.mg_none_of X G hb_dict
    · exact PySem.W.mg_none_of X G hb_abs
    · exact PySem.W.mg_of X G hc_ColonnadeError
    · exact PySem.W.mg_of X G hc_NoFile
    · exact PySem.W.mg_of X G hc_BadLimit
    · exact PySem.W.mg_of X G hc_Fallen
    · exact PySem.W.mg_of X G hc_Disk
    · exact ⟨hp_Disk_limit, hpq_Disk_limit, hpt_Disk_limit, ⟨_, hpr_Disk_limit⟩⟩
    · exact ⟨by unfold PySem.W.takerIn; rw [hp_Disk_limit]; show (PySem.W.takesIn K (.ref p_Disk_limit)).map _ = _; rw [hpt_Disk_limit]; rfl, hpy_Disk_limit, ⟨_, _, hpr_Disk_limit⟩⟩
    · exact fun_mk (st := s_NoFile_init) hl_NoFile_init hd_NoFile_init hk_NoFile_init
    · exact fun_mk (st := s_BadLimit_init) hl_BadLimit_init hd_BadLimit_init hk_BadLimit_init
    · exact fun_mk (st := s_Fallen_init) hl_Fallen_init hd_Fallen_init hk_Fallen_init
    · exact fun_mk (st := s_Disk_init) hl_Disk_init hd_Disk_init hk_Disk_init
    · exact fun_mk (st := s_Disk_limit) hl_Disk_limit hd_Disk_limit hk_Disk_limit
    · exact fun_mk (st := s_Disk_limitS) hl_Disk_limitS hd_Disk_limitS hk_Disk_limitS
    · exact fun_mk (st := s_Disk_set_limit) hl_Disk_set_limit hd_Disk_set_limit hk_Disk_set_limit
    · exact ⟨ha_Disk_set_limit, hi_Disk_set_limit, hk_Disk_set_limit⟩
    · exact fun_mk (st := s_Disk_need_file) hl_Disk_need_file hd_Disk_need_file hk_Disk_need_file
    · exact ⟨ha_Disk_need_file, hi_Disk_need_file, hk_Disk_need_file⟩
    · exact fun_mk (st := s_Disk_take_step) hl_Disk_take_step hd_Disk_take_step hk_Disk_take_step
    · exact ⟨ha_Disk_take_step, hi_Disk_take_step, hk_Disk_take_step⟩
    · exact fun_mk (st := s_Disk_put) hl_Disk_put hd_Disk_put hk_Disk_put
    · exact ⟨ha_Disk_put, hi_Disk_put, hk_Disk_put⟩
    · exact fun_mk (st := s_Disk_sync) hl_Disk_sync hd_Disk_sync hk_Disk_sync
    · exact ⟨ha_Disk_sync, hi_Disk_sync, hk_Disk_sync⟩
    · exact fun_mk (st := s_Disk_strike) hl_Disk_strike hd_Disk_strike hk_Disk_strike
    · exact ⟨ha_Disk_strike, hi_Disk_strike, hk_Disk_strike⟩
    · exact fun_mk (st := s_Disk_cut) hl_Disk_cut hd_Disk_cut hk_Disk_cut
    · exact ⟨ha_Disk_cut, hi_Disk_cut, hk_Disk_cut⟩
    · exact fun_mk (st := s_Disk_read) hl_Disk_read hd_Disk_read hk_Disk_read
    · exact ⟨ha_Disk_read, hi_Disk_read, hk_Disk_read⟩
    · exact fun_mk (st := s_Disk_length) hl_Disk_length hd_Disk_length hk_Disk_length
    · exact ⟨ha_Disk_length, hi_Disk_length, hk_Disk_length⟩
    · exact fun_mk (st := s_Disk_synced) hl_Disk_synced hd_Disk_synced hk_Disk_synced
    · exact ⟨ha_Disk_synced, hi_Disk_synced, hk_Disk_synced⟩
    · exact fun_mk (st := s_Disk_all_files) hl_Disk_all_files hd_Disk_all_files hk_Disk_all_files
    · exact ⟨ha_Disk_all_files, hi_Disk_all_files, hk_Disk_all_files⟩
    · exact fun_mk (st := s_Disk_fall) hl_Disk_fall hd_Disk_fall hk_Disk_fall
    · exact ⟨ha_Disk_fall, hi_Disk_fall, hk_Disk_fall⟩
    · exact PySem.W.mg_of X G ha_law_draw
    · exact fun_mk (st := s_law_draw) hl_law_draw hd_law_draw hk_law_draw
    · exact PySem.W.mg_of X G ha_law_files
    · exact fun_mk (st := s_law_files) hl_law_files hd_law_files hk_law_files
    · exact PySem.W.mg_of X G ha_law_whole
    · exact fun_mk (st := s_law_whole) hl_law_whole hd_law_whole hk_law_whole
    · exact PySem.W.mg_of X G ha_law_tried
    · exact fun_mk (st := s_law_tried) hl_law_tried hd_law_tried hk_law_tried
    · exact PySem.W.mg_of X G ha_law_due
    · exact fun_mk (st := s_law_due) hl_law_due hd_law_due hk_law_due
    · exact PySem.W.mg_of X G ha_law_asked
    · exact fun_mk (st := s_law_asked) hl_law_asked hd_law_asked hk_law_asked
    · exact PySem.W.mg_of X G ha_law_one
    · exact fun_mk (st := s_law_one) hl_law_one hd_law_one hk_law_one
    · exact PySem.W.mg_of X G ha_law_as_due
    · exact fun_mk (st := s_law_as_due) hl_law_as_due hd_law_as_due hk_law_as_due
    · exact PySem.W.mg_of X G ha_law_lengths
    · exact fun_mk (st := s_law_lengths) hl_law_lengths hd_law_lengths hk_law_lengths
    · exact PySem.W.mg_of X G ha_law_left
    · exact fun_mk (st := s_law_left) hl_law_left hd_law_left hk_law_left
    · exact PySem.W.mg_of X G ha_law_argument
    · exact fun_mk (st := s_law_argument) hl_law_argument hd_law_argument hk_law_argument
    · exact PySem.W.mg_of X G ha_law
    · exact fun_mk (st := s_law) hl_law hd_law hk_law
    · exact ⟨hpg_Disk, hhd_Disk, hpo_Disk, hsa_Disk⟩
    · exact ⟨hmk_Disk, ha_Disk_init, hi_Disk_init, hkc_Disk⟩
    · exact hn_Disk_contents
    · exact hn_Disk_safe
    · exact hn_Disk_steps
    · exact hn_Disk_allowed
    · exact ⟨⟨xn_NoFile, xq_NoFile, xN_NoFile, xb_NoFile, _, xs_NoFile, xu_NoFile, xa_NoFile, xo_NoFile, xd_NoFile, x0_NoFile, x1_NoFile, x2_NoFile, x3_NoFile, x5_NoFile, hxL_NoFile, rfl⟩, hxs_NoFile, hxe_NoFile, hxt_NoFile, hxk_NoFile⟩
    · exact ha_NoFile_init
    · exact hxi_NoFile
    · exact ⟨hxg_NoFile, hxh_NoFile, hxe_NoFile, hxd_NoFile⟩
    · exact ⟨hxc_NoFile, hxg_NoFile, hxh_NoFile, hxe_NoFile, hxy_NoFile, hx_get, hx_tak, hxm_NoFile⟩
    · exact hxn_NoFile_name
    · exact ⟨⟨xn_BadLimit, xq_BadLimit, xN_BadLimit, xb_BadLimit, _, xs_BadLimit, xu_BadLimit, xa_BadLimit, xo_BadLimit, xd_BadLimit, x0_BadLimit, x1_BadLimit, x2_BadLimit, x3_BadLimit, x5_BadLimit, hxL_BadLimit, rfl⟩, hxs_BadLimit, hxe_BadLimit, hxt_BadLimit, hxk_BadLimit⟩
    · exact ha_BadLimit_init
    · exact hxi_BadLimit
    · exact ⟨hxg_BadLimit, hxh_BadLimit, hxe_BadLimit, hxd_BadLimit⟩
    · exact ⟨hxc_BadLimit, hxg_BadLimit, hxh_BadLimit, hxe_BadLimit, hxy_BadLimit, hx_get, hx_tak, hxm_BadLimit⟩
    · exact hxn_BadLimit_limit
    · exact ⟨⟨xn_Fallen, xq_Fallen, xN_Fallen, xb_Fallen, _, xs_Fallen, xu_Fallen, xa_Fallen, xo_Fallen, xd_Fallen, x0_Fallen, x1_Fallen, x2_Fallen, x3_Fallen, x5_Fallen, hxL_Fallen, rfl⟩, hxs_Fallen, hxe_Fallen, hxt_Fallen, hxk_Fallen⟩
    · exact ha_Fallen_init
    · exact hxi_Fallen
    · exact ⟨hxg_Fallen, hxh_Fallen, hxe_Fallen, hxd_Fallen⟩
    · exact ⟨hxc_Fallen, hxg_Fallen, hxh_Fallen, hxe_Fallen, hxy_Fallen, hx_get, hx_tak, hxm_Fallen⟩
    · exact hxn_Fallen_steps
    · exact PySem.W.exm_ref hxe_NoFile hxd_NoFile hxt_NoFile hsub_NoFile_NoFile
    · exact PySem.W.exm_ref hxe_Fallen hxd_Fallen hxt_Fallen hsub_NoFile_Fallen
    · exact PySem.W.exm_ref hxe_BadLimit hxd_BadLimit hxt_BadLimit hsub_NoFile_BadLimit
    · exact PySem.W.exm_ref hxe_NoFile hxd_NoFile hxt_NoFile hsub_Fallen_NoFile
    · exact PySem.W.exm_ref hxe_Fallen hxd_Fallen hxt_Fallen hsub_Fallen_Fallen
    · exact PySem.W.exm_ref hxe_BadLimit hxd_BadLimit hxt_BadLimit hsub_Fallen_BadLimit
    · exact PySem.W.exm_ref hxe_NoFile hxd_NoFile hxt_NoFile hsub_BadLimit_NoFile
    · exact PySem.W.exm_ref hxe_Fallen hxd_Fallen hxt_Fallen hsub_BadLimit_Fallen
    · exact PySem.W.exm_ref hxe_BadLimit hxd_BadLimit hxt_BadLimit hsub_BadLimit_BadLimit
    · exact kit_yes hxc_ColonnadeError hxt_ColonnadeError hsub_NoFile_ColonnadeError
    · exact kitAny_cons (kit_no hxc_Fallen hxt_Fallen hsub_NoFile_Fallen hsub_Fallen_Fallen) (fun _ => kitAny_cons (kit_no hxc_BadLimit hxt_BadLimit hsub_NoFile_BadLimit hsub_BadLimit_BadLimit) (fun _ => rfl) (fun z => z)) (fun z => by cases z)
    · exact kit_yes hxc_ColonnadeError hxt_ColonnadeError hsub_Fallen_ColonnadeError
    · exact kitAny_cons (kit_no hxc_NoFile hxt_NoFile hsub_Fallen_NoFile hsub_NoFile_NoFile) (fun _ => kitAny_cons (kit_no hxc_BadLimit hxt_BadLimit hsub_Fallen_BadLimit hsub_BadLimit_BadLimit) (fun _ => rfl) (fun z => z)) (fun z => by cases z)
    · exact kit_yes hxc_ColonnadeError hxt_ColonnadeError hsub_BadLimit_ColonnadeError
    · exact kitAny_cons (kit_no hxc_NoFile hxt_NoFile hsub_BadLimit_NoFile hsub_NoFile_NoFile) (fun _ => kitAny_cons (kit_no hxc_Fallen hxt_Fallen hsub_BadLimit_Fallen hsub_Fallen_Fallen) (fun _ => rfl) (fun z => z)) (fun z => by cases z)
  exact ⟨_, fun s v => .of_eq rfl, fun base _ _ => ok_law T⟩
end L2.Kd
open PySem PySem.W PyProof.Rows
set_option maxRecDepth 100000 in
set_option maxHeartbeats 0 in
theorem PySem.Challenge.cw_colonnade_k76_disks_holds : PySem.Challenge.rw_colonnade_k76_disks.Holds := by
  w_on; o_law; k_head; (case hw => w_witness2)
  k_fill
  refine L2.Ex.walk_g (l := PySem.Challenge.rw_colonnade_k76_disks) (n := 63) (k := 60) (x := "_law_script") (CX := fun _ => L2.CX0) (sp := fun w => L2.Kd.sp_law _) rfl (by decide) rfl ⟨rfl, by decide, by decide⟩ (fun w h Y => PySem.W.kIn_of Y) ?F (fun _ _ a ns hl _ hS => ⟨a, ns, rfl, hS, hl, fun _ => rfl⟩) fun _ _ _ _ _ z => z
  case F =>
    intro w mg fa h KX G hmg
    refine' L2.Kd.all_mk KX G hmg ?hb_isinstance ?hb_int ?hb_bool ?hb_list ?hb_len ?hb_min ?hb_max ?hb_sorted ?hb_repr ?hb_range ?hb_dict ?hb_abs ?hc_ColonnadeError ?hc_NoFile ?hc_BadLimit ?hc_Fallen ?hc_Disk ?hp_Disk_limit ?hpq_Disk_limit ?hpt_Disk_limit ?hpy_Disk_limit ?hpr_Disk_limit ?ha_NoFile_init ?hl_NoFile_init ?hd_NoFile_init ?hk_NoFile_init ?ha_BadLimit_init ?hl_BadLimit_init ?hd_BadLimit_init ?hk_BadLimit_init ?ha_Fallen_init ?hl_Fallen_init ?hd_Fallen_init ?hk_Fallen_init ?ha_Disk_init ?hi_Disk_init ?hl_Disk_init ?hd_Disk_init ?hk_Disk_init ?hl_Disk_limit ?hd_Disk_limit ?hk_Disk_limit ?hl_Disk_limitS ?hd_Disk_limitS ?hk_Disk_limitS ?ha_Disk_set_limit ?hi_Disk_set_limit ?hl_Disk_set_limit ?hd_Disk_set_limit ?hk_Disk_set_limit ?ha_Disk_need_file ?hi_Disk_need_file ?hl_Disk_need_file ?hd_Disk_need_file ?hk_Disk_need_file ?ha_Disk_take_step ?hi_Disk_take_step ?hl_Disk_take_step ?hd_Disk_take_step ?hk_Disk_take_step ?ha_Disk_put ?hi_Disk_put ?hl_Disk_put ?hd_Disk_put ?hk_Disk_put ?ha_Disk_sync ?hi_Disk_sync ?hl_Disk_sync ?hd_Disk_sync ?hk_Disk_sync ?ha_Disk_strike ?hi_Disk_strike ?hl_Disk_strike ?hd_Disk_strike ?hk_Disk_strike ?ha_Disk_cut ?hi_Disk_cut ?hl_Disk_cut ?hd_Disk_cut ?hk_Disk_cut ?ha_Disk_read ?hi_Disk_read ?hl_Disk_read ?hd_Disk_read ?hk_Disk_read ?ha_Disk_length ?hi_Disk_length ?hl_Disk_length ?hd_Disk_length ?hk_Disk_length ?ha_Disk_synced ?hi_Disk_synced ?hl_Disk_synced ?hd_Disk_synced ?hk_Disk_synced ?ha_Disk_all_files ?hi_Disk_all_files ?hl_Disk_all_files ?hd_Disk_all_files ?hk_Disk_all_files ?ha_Disk_fall ?hi_Disk_fall ?hl_Disk_fall ?hd_Disk_fall ?hk_Disk_fall ?ha_law_draw ?hl_law_draw ?hd_law_draw ?hk_law_draw ?ha_law_files ?hl_law_files ?hd_law_files ?hk_law_files ?ha_law_whole ?hl_law_whole ?hd_law_whole ?hk_law_whole ?ha_law_tried ?hl_law_tried ?hd_law_tried ?hk_law_tried ?ha_law_due ?hl_law_due ?hd_law_due ?hk_law_due ?ha_law_asked ?hl_law_asked ?hd_law_asked ?hk_law_asked ?ha_law_one ?hl_law_one ?hd_law_one ?hk_law_one ?ha_law_as_due ?hl_law_as_due ?hd_law_as_due ?hk_law_as_due ?ha_law_lengths ?hl_law_lengths ?hd_law_lengths ?hk_law_lengths ?ha_law_left ?hl_law_left ?hd_law_left ?hk_law_left ?ha_law_argument ?hl_law_argument ?hd_law_argument ?hk_law_argument ?ha_law ?hl_law ?hd_law ?hk_law ?hpg_Disk ?hhd_Disk ?hpo_Disk ?hsa_Disk ?hmk_Disk ?hkc_Disk ?hn_Disk_contents ?hn_Disk_safe ?hn_Disk_steps ?hn_Disk_allowed ?hxL_NoFile ?hxs_NoFile ?hxe_NoFile ?hxt_NoFile ?hxk_NoFile ?hxg_NoFile ?hxh_NoFile ?hxd_NoFile ?hxc_NoFile ?hxy_NoFile ?hxm_NoFile ?hxi_NoFile ?hxn_NoFile_name ?hxL_BadLimit ?hxs_BadLimit ?hxe_BadLimit ?hxt_BadLimit ?hxk_BadLimit ?hxg_BadLimit ?hxh_BadLimit ?hxd_BadLimit ?hxc_BadLimit ?hxy_BadLimit ?hxm_BadLimit ?hxi_BadLimit ?hxn_BadLimit_limit ?hxL_Fallen ?hxs_Fallen ?hxe_Fallen ?hxt_Fallen ?hxk_Fallen ?hxg_Fallen ?hxh_Fallen ?hxd_Fallen ?hxc_Fallen ?hxy_Fallen ?hxm_Fallen ?hxi_Fallen ?hxn_Fallen_steps ?hx_get ?hx_tak ?hsub_NoFile_NoFile ?hsub_NoFile_Fallen ?hsub_NoFile_BadLimit ?hsub_Fallen_NoFile ?hsub_Fallen_Fallen ?hsub_Fallen_BadLimit ?hsub_BadLimit_NoFile ?hsub_BadLimit_Fallen ?hsub_BadLimit_BadLimit ?hxt_ColonnadeError ?hxc_ColonnadeError ?hsub_NoFile_ColonnadeError ?hsub_Fallen_ColonnadeError ?hsub_BadLimit_ColonnadeError
    (case hb_isinstance => k_is)
    (case hb_int => k_is)
    (case hb_bool => k_is)
    (case hb_list => k_is)
    (case hb_len => k_is)
    (case hb_min => k_is)
    (case hb_max => k_is)
    (case hb_sorted => k_is)
    (case hb_repr => k_is)
    (case hb_range => k_is)
    (case hb_dict => k_is)
    (case hb_abs => k_is)
    (case hc_ColonnadeError => k_is)
    (case hc_NoFile => k_is)
    (case hc_BadLimit => k_is)
    (case hc_Fallen => k_is)
    (case hc_Disk => k_is)
    (case hp_Disk_limit => k_is)
    (case hpq_Disk_limit => k_is)
    (case hpt_Disk_limit => k_is)
    (case hpy_Disk_limit => k_is)
    (case hpr_Disk_limit => k_is)
    (case ha_NoFile_init => k_is)
    (case hl_NoFile_init => k_is)
    (case hd_NoFile_init => k_is)
    (case hk_NoFile_init => k_is)
    (case ha_BadLimit_init => k_is)
    (case hl_BadLimit_init => k_is)
    (case hd_BadLimit_init => k_is)
    (case hk_BadLimit_init => k_is)
    (case ha_Fallen_init => k_is)
    (case hl_Fallen_init => k_is)
    (case hd_Fallen_init => k_is)
    (case hk_Fallen_init => k_is)
    (case ha_Disk_init => k_is)
    (case hi_Disk_init => k_is)
    (case hl_Disk_init => k_is)
    (case hd_Disk_init => k_is)
    (case hk_Disk_init => k_is)
    (case hl_Disk_limit => k_is)
    (case hd_Disk_limit => k_is)
    (case hk_Disk_limit => k_is)
    (case hl_Disk_limitS => k_is)
    (case hd_Disk_limitS => k_is)
    (case hk_Disk_limitS => k_is)
    (case ha_Disk_set_limit => k_is)
    (case hi_Disk_set_limit => k_is)
    (case hl_Disk_set_limit => k_is)
    (case hd_Disk_set_limit => k_is)
    (case hk_Disk_set_limit => k_is)
    (case ha_Disk_need_file => k_is)
    (case hi_Disk_need_file => k_is)
    (case hl_Disk_need_file => k_is)
    (case hd_Disk_need_file => k_is)
    (case hk_Disk_need_file => k_is)
    (case ha_Disk_take_step => k_is)
    (case hi_Disk_take_step => k_is)
    (case hl_Disk_take_step => k_is)
    (case hd_Disk_take_step => k_is)
    (case hk_Disk_take_step => k_is)
    (case ha_Disk_put => k_is)
    (case hi_Disk_put => k_is)
    (case hl_Disk_put => k_is)
    (case hd_Disk_put => k_is)
    (case hk_Disk_put => k_is)
    (case ha_Disk_sync => k_is)
    (case hi_Disk_sync => k_is)
    (case hl_Disk_sync => k_is)
    (case hd_Disk_sync => k_is)
    (case hk_Disk_sync => k_is)
    (case ha_Disk_strike => k_is)
    (case hi_Disk_strike => k_is)
    (case hl_Disk_strike => k_is)
    (case hd_Disk_strike => k_is)
    (case hk_Disk_strike => k_is)
    (case ha_Disk_cut => k_is)
    (case hi_Disk_cut => k_is)
    (case hl_Disk_cut => k_is)
    (case hd_Disk_cut => k_is)
    (case hk_Disk_cut => k_is)
    (case ha_Disk_read => k_is)
    (case hi_Disk_read => k_is)
    (case hl_Disk_read => k_is)
    (case hd_Disk_read => k_is)
    (case hk_Disk_read => k_is)
    (case ha_Disk_length => k_is)
    (case hi_Disk_length => k_is)
    (case hl_Disk_length => k_is)
    (case hd_Disk_length => k_is)
    (case hk_Disk_length => k_is)
    (case ha_Disk_synced => k_is)
    (case hi_Disk_synced => k_is)
    (case hl_Disk_synced => k_is)
    (case hd_Disk_synced => k_is)
    (case hk_Disk_synced => k_is)
    (case ha_Disk_all_files => k_is)
    (case hi_Disk_all_files => k_is)
    (case hl_Disk_all_files => k_is)
    (case hd_Disk_all_files => k_is)
    (case hk_Disk_all_files => k_is)
    (case ha_Disk_fall => k_is)
    (case hi_Disk_fall => k_is)
    (case hl_Disk_fall => k_is)
    (case hd_Disk_fall => k_is)
    (case hk_Disk_fall => k_is)
    (case ha_law_draw => k_is)
    (case hl_law_draw => k_is)
    (case hd_law_draw => k_is)
    (case hk_law_draw => k_is)
    (case ha_law_files => k_is)
    (case hl_law_files => k_is)
    (case hd_law_files => k_is)
    (case hk_law_files => k_is)
    (case ha_law_whole => k_is)
    (case hl_law_whole => k_is)
    (case hd_law_whole => k_is)
    (case hk_law_whole => k_is)
    (case ha_law_tried => k_is)
    (case hl_law_tried => k_is)
    (case hd_law_tried => k_is)
    (case hk_law_tried => k_is)
    (case ha_law_due => k_is)
    (case hl_law_due => k_is)
    (case hd_law_due => k_is)
    (case hk_law_due => k_is)
    (case ha_law_asked => k_is)
    (case hl_law_asked => k_is)
    (case hd_law_asked => k_is)
    (case hk_law_asked => k_is)
    (case ha_law_one => k_is)
    (case hl_law_one => k_is)
    (case hd_law_one => k_is)
    (case hk_law_one => k_is)
    (case ha_law_as_due => k_is)
    (case hl_law_as_due => k_is)
    (case hd_law_as_due => k_is)
    (case hk_law_as_due => k_is)
    (case ha_law_lengths => k_is)
    (case hl_law_lengths => k_is)
    (case hd_law_lengths => k_is)
    (case hk_law_lengths => k_is)
    (case ha_law_left => k_is)
    (case hl_law_left => k_is)
    (case hd_law_left => k_is)
    (case hk_law_left => k_is)
    (case ha_law_argument => k_is)
    (case hl_law_argument => k_is)
    (case hd_law_argument => k_is)
    (case hk_law_argument => k_is)
    (case ha_law => k_is)
    (case hl_law => k_is)
    (case hd_law => k_is)
    (case hk_law => k_is)
    (case hpg_Disk => k_is)
    (case hhd_Disk => k_is)
    (case hpo_Disk => k_is)
    (case hsa_Disk => k_is)
    (case hmk_Disk => k_is)
    (case hkc_Disk => k_is)
    (case hn_Disk_contents => k_is)
    (case hn_Disk_safe => k_is)
    (case hn_Disk_steps => k_is)
    (case hn_Disk_allowed => k_is)
    (case hxL_NoFile => k_is)
    (case hxs_NoFile => k_is)
    (case hxe_NoFile => k_is)
    (case hxt_NoFile => k_is)
    (case hxk_NoFile => k_is)
    (case hxg_NoFile => k_is)
    (case hxh_NoFile => k_is)
    (case hxd_NoFile => k_is)
    (case hxc_NoFile => k_is)
    (case hxy_NoFile => k_is)
    (case hxm_NoFile => k_is)
    (case hxi_NoFile => k_is)
    (case hxn_NoFile_name => k_is)
    (case hxL_BadLimit => k_is)
    (case hxs_BadLimit => k_is)
    (case hxe_BadLimit => k_is)
    (case hxt_BadLimit => k_is)
    (case hxk_BadLimit => k_is)
    (case hxg_BadLimit => k_is)
    (case hxh_BadLimit => k_is)
    (case hxd_BadLimit => k_is)
    (case hxc_BadLimit => k_is)
    (case hxy_BadLimit => k_is)
    (case hxm_BadLimit => k_is)
    (case hxi_BadLimit => k_is)
    (case hxn_BadLimit_limit => k_is)
    (case hxL_Fallen => k_is)
    (case hxs_Fallen => k_is)
    (case hxe_Fallen => k_is)
    (case hxt_Fallen => k_is)
    (case hxk_Fallen => k_is)
    (case hxg_Fallen => k_is)
    (case hxh_Fallen => k_is)
    (case hxd_Fallen => k_is)
    (case hxc_Fallen => k_is)
    (case hxy_Fallen => k_is)
    (case hxm_Fallen => k_is)
    (case hxi_Fallen => k_is)
    (case hxn_Fallen_steps => k_is)
    (case hx_get => k_is)
    (case hx_tak => k_is)
    (case hsub_NoFile_NoFile => k_is)
    (case hsub_NoFile_Fallen => k_is)
    (case hsub_NoFile_BadLimit => k_is)
    (case hsub_Fallen_NoFile => k_is)
    (case hsub_Fallen_Fallen => k_is)
    (case hsub_Fallen_BadLimit => k_is)
    (case hsub_BadLimit_NoFile => k_is)
    (case hsub_BadLimit_Fallen => k_is)
    (case hsub_BadLimit_BadLimit => k_is)
    (case hxt_ColonnadeError => k_is)
    (case hxc_ColonnadeError => k_is)
    (case hsub_NoFile_ColonnadeError => k_is)
    (case hsub_Fallen_ColonnadeError => k_is)
    (case hsub_BadLimit_ColonnadeError => k_is)
#print axioms PySem.Challenge.cw_colonnade_k76_disks_holds
