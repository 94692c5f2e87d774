import PyProof.Rows.All
import Wide.All
import OpenK.AllK
import Wide.FinOn
import HandS.ForMost
import HandS.ForExc
import HandS.Defaults
import HandS.More
import HandS.Flow
import HandS.IsInst
import HandS.Property
import HandS.TryMany
import HandS.ExcField
import HandS.ExcIs
import HandS.MakeKw
import HandS.MakeKwOnly
import HandS.ClsMeth
import HandS.RaiseMore
import HandS.ExcInit
import HandS.TupMul
import HandS.StrMore
import HandS.FStr
import HandS.Wide
import HandS.HeadHook2
import KE.KExcIs
import HandS.Ends
import HandS.HeadEnd
import HandS.HeadHook1
import OpenK.KCell
import KE.KSuper
import HandS.Nested
import HandS.Text
import PyProof.StrLawsRepr
import PyProof.FitsInt
import PyProof.Rows.StrFin3
import HandS.Style
import KE.GoesEnumKw
import HandS.Iter
import HandS.Comp
import PyProof.P3Eq
import PyProof.InstEq
import PyProof.InstNe
import PyProof.Rows.EqMixed
import KE.KStateDown
import HandS.Base
import HandS.Call
import HandS.Words
import HandS.WordsExc
import HandS.Head0
import HandS.Head1
import HandS.Head2
import PySem.Challenge.RW_coverstore_k91_disks
set_option Elab.async false
set_option linter.all false
set_option maxRecDepth 100000
set_option maxHeartbeats 0
open PySem PySem.W PySem.Calls PyProof.Rows in
theorem Gd.law_said (h : (OpenLaw.row PySem.Challenge.rw_coverstore_k91_disks).wellSaid = true → (OpenLaw.row PySem.Challenge.rw_coverstore_k91_disks).Holds) : PySem.Challenge.rw_coverstore_k91_disks.Holds := by
  w_on; o_law
  exact h (by assumption)
/-! ### defs that know that no repr runs around them (repr asks that) -/
namespace Gd
open PySem PySem.Spec PyProof.Rows L2
/-- as FnOk, for calls that stand in no repr -/
structure FnG (P : Program) (w : World) (K : PySem.W.Frag) (mg : Str → Option Value) (base : Heap) (CX : CXT) (k : Nat) (f : Addr) (fd : FuncData) (ps : List Str) (sp : Sp) : Prop where
  len : ∀ vs H Q E, sp vs H Q E → vs.length = ps.length
  run : ∀ (A : Around) (outer : List Env) (s : Shared) (H : Hp) (args : Args) (us : List Value) (vs : List V) (Q : VK) (E : XK), A.guards = some [] → Room k A → Env0 P w K mg base A outer s H → BindsTo s fd args (ps.zip us) → Vals vs us → sp vs H Q E →
    codeAny (model P w) A (.call (.ref f) args) (CR CX outer P w H s Q E) s
/-- no repr runs around the body -/
abbrev NoG (X : Cx) : Prop := X.A.guards = some []
section
variable {P : Program} {w : World} {K : PySem.W.Frag} {mg : Str → Option Value} {base : Heap} {x qual : Str} {params : Arguments} {body : List Stmt} {scope : Scope} {dvs : List V} {kws : List (Str × V)} {f : Addr} {fd : FuncData}
theorem fnG {CX : CXT} {N ps : List Str} {k : Nat} {sp : Sp} (F : FunD K x qual params body scope dvs kws f fd) (S : FnScope N ps scope) (len : ∀ vs H Q E, sp vs H Q E → vs.length = ps.length)
    (hbody : ∀ (cdv : Value) (A : Around) (outer : List Env) (s : Shared) (H : Hp) (vs : List V) (Q : VK) (E : XK), NoG (cxOf CX P w K mg base N qual scope f cdv A outer s H E) → Room k (A.deeper (envOfC qual scope s.heap.objs.size f cdv)) → sp vs H Q E →
      ∃ t, PSs (cxOf CX P w K mg base N qual scope f cdv A outer s H E) body t ∧ t { nx := fun _ H' => Q .non H', rt := Q } (start N vs) H) : FnG P w K mg base CX (k + 1) f fd ps sp := by
  obtain ⟨oc, od, dV, kV, doc, pm, an, cdv, ct, osl, rfl, lk, hcd, _, _⟩ := F.ex
  refine ⟨len, fun A outer s H args us vs Q E hg hr e0 hb r hsp => ?_⟩
  have inS : K.In s.heap := e0.mod.kin.keeps fun b o e => (e0.bs b o e).1
  have kinds : ∀ y ∈ ps.zip us, scope.names.lookup y.1 = some .local ∨ (scope.names.lookup y.1 = some .cell ∧ ((cellsFrom (s.heap.objs.size + 1) scope.names []).lookup y.1).isSome = true) := by
    rintro ⟨n, v⟩ hy
    exact (S.par n (List.of_mem_zip hy).1).imp id fun q => ⟨q, PySem.W.cellsFrom_some _ _ _ (.inl q)⟩
  refine codeAny_call_function hr.depth (inS _ _ lk) rfl S.co S.gen rfl (PySem.W.codeRec_of inS hcd) (hb _ _ _ _ ?_)
  refine wpAny_newFunctionEnv_cells S.kind kinds fun env he s1 y => ?_
  subst he
  have lim : s.heap.NoLimit := e0.mod.nolimit.keeps fun b o e => (e0.bs b o e).1
  refine ⟨lim.keeps y.toInCall.keep, codeAny_func ?_⟩
  obtain ⟨t, ht, hq⟩ := hbody cdv A outer s H vs Q E hg (hr.deeper _) hsp
  have I := inv_start (CX := CX) (N := N) (E := E) S hr.hd e0 (len _ _ _ _ hsp) r y
  refine wpAny_mono (ht.run [] s1 _ H _ I hq) (fun fl s' hs => ?_) fun _ _ z => z
  have done : ∀ {σ' : L2.St} {H' : Hp} {v : V} {u : Value}, Inv (cxOf CX P w K mg base N qual scope f cdv A outer s H E) [] σ' H' s' → RelV v u → Q v H' → CE outer P w H s Q u s' :=
    fun J rv q => ⟨_, _, J.os, J.bare, J.base, J.hok, rv, q⟩
  cases fl with
  | ret u => obtain ⟨v, σ', H', J, rv, q⟩ := hs; exact done J rv q
  | next => obtain ⟨σ', H', J, q⟩ := hs; exact done (v := V.non) (u := Value.none) J rfl q
  | brk => obtain ⟨_, _, _, q⟩ := hs; exact q.elim
  | cont => obtain ⟨_, _, _, q⟩ := hs; exact q.elim
end
section
variable {X : Cx} {CX : CXT} {k : Nat} {f : Addr} {fd : FuncData} {ps : List Str} {sp : Sp} {E : XK} {x : Str} {p pos : Pos} {e : Expr} {es : List Expr} {t : TA}
theorem run_fnG {pins : List (Addr × Obj)} {σ : L2.St} {H : Hp} {s : Shared} {Q : VK} {us : List Value} {vs : List V} (F : FnG X.prog X.w X.K X.mg X.base CX k f fd ps sp) (hg : NoG X) (hr : Room k X.A) (hb : Binds X.K fd ps []) (hx : Passes CX X E)
    (I : Inv X pins σ H s) (r : Vals vs us) (h : sp vs H Q E) : wpAny (model X.prog X.w) X.A (call (.ref f) us) (EP X pins σ Q) X.xe s := by
  have hl : us.length = ps.length := by rw [← r.length]; exact F.len _ _ _ _ h
  have hb' : BindsTo s fd ⟨us, []⟩ (ps.zip us) := by
    have q := hb s us I.kIn (by rw [List.append_nil]; exact hl)
    rw [List.append_nil] at q
    exact q
  refine wpAny_call (codeAny_mono (F.run X.A X.stack s H ⟨us, []⟩ us vs Q E hg hr I.env0 hb' r h) fun rr s' hq => ?_)
  match rr, hq with
  | .error e, hq => exact hx pins σ H s e s' I hq
  | .ok (.ret u), hq => exact I.after hq
/-- f(e, ..), f a def that asks that no repr runs around it -/
theorem pe_callG (F : FnG X.prog X.w X.K X.mg X.base CX k f fd ps sp) (gg : NoG X) (hr : Room k X.A) (hg : Gl X x) (hm : X.mg x = some (.ref f)) (hk : PySem.W.keepIn X.K (.ref f) = true) (hb : Binds X.K fd ps []) (hx : Passes CX X E)
    (ha : PA X (e :: es) t) (hdb : (x == ("__debug__" : Str)) = false := by decide) (he : starEach (e :: es) X.env = (false, eval e X.env) :: starEach es X.env := by rfl) (hpl : (backTo pos (starEach es X.env)).any (·.1) = false := by rfl) :
    PE X (.Call (.Name x p) (e :: es) [] pos) (tCall sp [] E t) := by
  refine ⟨fun pins s σ H Q I h => ?_⟩
  refine wpAny_Call_Name_kw (ld_glob I hg hm ?_ hdb)
  refine PySem.W.callWith_K (h₀ := X.base) I.ok.mod.kin hk (thn (ha.run pos pins s σ H _ I h) fun us s1 hh => ?_) he hpl
  obtain ⟨vs, H1, I1, r, q⟩ := hh
  rw [List.append_nil] at q
  exact ⟨I1.kIn, run_fnG F gg hr hb hx I1 r q⟩
end
/-! ### repr of data -/
section
variable {X : Cx}
/-- repr(x), x a datum: its text -/
def rRepr (K : PySem.W.Frag) : List V → Hp → VK → Prop := fun xs H Q => ∃ x d, xs = [x] ∧ Dp K H x d ∧ d.showable = true ∧ d.hasDict = false ∧ d.depth ≤ 20 ∧ d.shown.length ≤ sizeLine ∧ Q (.str d.shown) H
theorem call_repr {k : Nat} (hg : NoG X) (hr : Room k X.A) : CallR X (.builtin "repr") (rRepr X.K) := by
  intro pins s σ H xs us Q I r h
  obtain ⟨x, d, rfl, hd, hsh, hnd, hdp, hz, q⟩ := h
  obtain ⟨u, rfl, ru⟩ := vals1 r
  have hu := hr.units
  obtain ⟨as, rd⟩ := Dp.reads I d x u hd ru
  cases hd with
  | non => cases (show u = Value.none from ru); exact PySem.P.repr_of_none ⟨.str _, H, I.tok _, ⟨_, rfl⟩, q⟩
  | bl b => cases (show u = Value.bool b from ru); exact PySem.P.repr_of_bool ⟨.str _, H, I.tok _, ⟨_, rfl⟩, q⟩
  | int i => obtain ⟨t, e⟩ := (show ∃ t, u = Value.int i t from ru); subst e; exact PySem.P.repr_of_int (of_decide_eq_true hsh) ⟨.str _, H, I.tok _, ⟨_, rfl⟩, q⟩
  | str y => obtain ⟨t, e⟩ := (show ∃ t, u = Value.str y t from ru); subst e; exact PySem.P.repr_of_str ⟨.str _, H, I.tok _, ⟨_, rfl⟩, q⟩ hz
  | lst h1 h2 =>
    cases (show u = Value.ref _ from ru)
    exact repr_of_reads' rd hsh (fun z => by rw [hnd] at z; cases z) hg (by omega) (fun _ _ e => e) (fun h' u tk hk => ⟨.str _, H, (I.kept (t' := tk) hk), ⟨_, rfl⟩, q⟩) hz
  | tup h1 h2 =>
    cases (show u = Value.ref _ from ru)
    exact repr_of_reads' rd hsh (fun z => by rw [hnd] at z; cases z) hg (by omega) (fun _ _ e => e) (fun h' u tk hk => ⟨.str _, H, (I.kept (t' := tk) hk), ⟨_, rfl⟩, q⟩) hz
end
/-! ### calls by keywords alone -/
/-- a def without defaults, called with n values and the keywords ks: g puts them in the parameters' order -/
theorem kbn_of {K : PySem.W.Frag} {x qual : Str} {params : Arguments} {body : List Stmt} {scope : Scope} {f : Addr} {fd : FuncData} {ps : List Str} (F : FunD K x qual params body scope [] [] f fd) (n : Nat) (ks : List Str) (g : {α : Type} → List α → List α → List α)
    (hrel : ∀ {vs zs : List V} {us ws : List Value}, Vals vs us → Vals zs ws → Vals (g vs zs) (g us ws))
    (h : ∀ (kV doc pm : Value) (an : Option Addr) (cdv ct : Value) (us ws : List Value), us.length = n → ws.length = ks.length → bindArgs (PySem.W.fnOf x qual params body scope .none kV doc pm an cdv ct) ⟨us, ks.zip ws⟩ = pure (ps.zip (g us ws))) :
    KBn K fd ps n ks (fun us ws => g us ws) (fun vs zs => g vs zs) := by
  obtain ⟨oc, od, dV, kV, doc, pm, an, cdv, ct, osl, rfl, lk, hcd, hD, hK⟩ := F.ex
  rcases hD with ⟨_, rfl⟩ | ⟨e, _⟩
  · exact ⟨fun s us ws X l1 l2 => .of_eq (h kV doc pm an cdv ct us ws l1 l2), fun r1 r2 => hrel r1 r2⟩
  · exact absurd rfl e
section
variable {X : Cx} {CX : CXT} {k n : Nat} {f C : Addr} {fd : FuncData} {ps ks : List Str} {sp : Sp} {E : XK} {x m : Str} {p pos apos : Pos} {o : Expr} {kws : List Keyword} {ta : TE} {tk : TA} {g : List Value → List Value → List Value} {gV : List V → List V → List V}
/-- f(k = v, ..) -/
theorem pe_callK0 (F : FnOk X.prog X.w X.K X.mg X.base CX k f fd ps sp) (hr : Room k X.A) (hg : Gl X x) (hm : X.mg x = some (.ref f)) (hk : PySem.W.keepIn X.K (.ref f) = true) (hb : KBn X.K fd ps 0 ks g gV) (hx : Passes CX X E) (hkw : PK X kws tk)
    (hall : (backToKw pos (keywordEach kws X.env)).all (·.1.isSome) = true := by rfl) (hks : (backToKw pos (keywordEach kws X.env)).filterMap (·.1) = ks := by rfl) (hdb : (x == ("__debug__" : Str)) = false := by decide)
    (hpl : ((backTo pos (starEach [] X.env)).any (·.1) || (backToKw pos (keywordEach kws X.env)).any (·.1.isNone)) = false := by rfl) :
    PE X (.Call (.Name x p) [] kws pos) (tCallN 0 ks.length sp gV E tNil tk) := by
  refine ⟨fun pins s σ H Q I h => ?_⟩
  refine wpAny_Call_Name_kw (ld_glob I hg hm ?_ hdb)
  refine PySem.W.callWith_KW0 (h₀ := X.base) I.ok.mod.kin hk hall ?_ hpl
  refine thn (hkw.run pos pins s σ H _ I h) fun ws s2 hh => ?_
  obtain ⟨zs, H2, I2, rz, l1, l2, q2⟩ := hh
  refine ⟨I2.kIn, ?_⟩
  rw [hks]
  exact run_fnN (us := []) (vs := []) F hr hb hx I2 .nil rz rfl l2 q2
/-- o.m(k = v, ..): the reading -/
def tMethK (C : Addr) (m : Str) (mm : Nat) (sp : Sp) (gV : List V → List V → List V) (E : XK) (ta : TE) (tk : TA) : TE := fun σ H Q => ta σ H fun y H1 => ∃ a dx fs, y = .ref a ∧ H1 a = some (.ins C dx fs) ∧ fs.lookup m = none ∧
  tk σ H1 fun zs H2 => zs.length = mm ∧ sp (gV [.ref a] zs) H2 Q E
theorem pe_methK {pl : Sem Bool} (he : PE X o ta) (c : Cls X.K C) (hm : Meth X.K C m f) (F : FnOk X.prog X.w X.K X.mg X.base CX k f fd ps sp) (hr : Room k X.A) (hb : KBn X.K fd ps 1 ks g gV) (hx : Passes CX X E) (hkw : PK X kws tk)
    (hall : (backToKw pos (keywordEach kws X.env)).all (·.1.isSome) = true := by rfl) (hks : (backToKw pos (keywordEach kws X.env)).filterMap (·.1) = ks := by rfl)
    (hpl : ((backTo pos (starEach [] X.env)).any (·.1) || (backToKw pos (keywordEach kws X.env)).any (·.1.isNone)) = false := by rfl)
    (ht : eval (.Call (.Attribute o m apos) [] kws pos) X.env = (do
      let ov ← eval o X.env
      standAt apos.atName
      let (f, first) ← holding [ov] (getMethod ov m pl)
      callWith pos f first (backTo pos (starEach [] X.env)) (backToKw pos (keywordEach kws X.env))) := by rfl) :
    PE X (.Call (.Attribute o m apos) [] kws pos) (tMethK C m ks.length sp gV E ta tk) := by
  refine ⟨fun pins s σ H Q I h => ?_⟩
  refine PySem.W.methodCall_KW (pl := pl) (thn (he.run pins s σ H _ I h) fun u s1 hh => ?_) ht
  obtain ⟨y, H1, I1, rx, a, dx, fs, ex, ea, l, q⟩ := hh
  subst ex
  obtain rfl : u = Value.ref a := rx
  refine getmeth_ok I1 ea c hm l ?_
  refine PySem.W.callWith_KW0 (first := [.ref a]) (h₀ := X.base) I.ok.mod.kin hm.kp hall ?_ hpl
  refine thn (hkw.run pos pins s1 σ H1 _ I1 q) fun ws s2 hh => ?_
  obtain ⟨zs, H2, I2, rz, l2, q2⟩ := hh
  refine ⟨I2.kIn, ?_⟩
  rw [hks]
  exact run_fnN (us := [.ref a]) (vs := [.ref a]) F hr hb hx I2 (.cons rfl .nil) rz rfl l2 q2
end
/-! ### D.__init__(self, ..) in the __init__ of an exception class below D, D one of ours over ValueError -/
section
variable {X : Cx} {e : Expr} {es : List Expr} {ta : TA} {D : Addr} {nm : Str} {p1 p2 pos : Pos}
theorem pe_xinit {pl : Sem Bool} (hg : Gl X nm) (hm : X.mg nm = some (.ref D)) (r : ClX.CRead X.K D (.type "type")) (hv : PySem.W.findCls X.K (.ref D) (.type "type") "__init__" = some (.val (.builtin "ValueError.__init__"))) (ha : PA X (e :: es) ta)
    (hd : (nm == ("__debug__" : Str)) = false := by decide)
    (hc : eval (.Call (.Attribute (.Name nm p1) "__init__" p2) (e :: es) [] pos) X.env = (do
      let ov ← eval (.Name nm p1) X.env
      standAt p2.atName
      let (f, first) ← holding [ov] (getMethod ov "__init__" pl)
      callWith pos f first (backTo pos (starEach (e :: es) X.env)) (backToKw pos (keywordEach [] X.env))) := by rfl)
    (he : starEach (e :: es) X.env = (false, eval e X.env) :: starEach es X.env := by rfl) (hpl : (backTo pos (starEach es X.env)).any (·.1) = false := by rfl) :
    PE X (.Call (.Attribute (.Name nm p1) "__init__" p2) (e :: es) [] pos) (tVeI X.K ta) := by
  refine ⟨fun pins s σ H Q I h => ?_⟩
  refine PySem.W.methodCall_KW (ld_glob I hg hm ?_ hd) hc
  refine PySem.W.method_cls I.kIn r.ga (PySem.W.cls_value I.kIn r.rd hv rfl ?_)
  show wpAny _ _ (callWith pos (Value.builtin "ValueError.__init__") [] (backTo pos (starEach (e :: es) X.env)) []) _ _ _
  refine PyProof.Rows.callWith_method1 (thn (ha.run pos pins _ σ H _ (I.tok _) h) fun us s1 hh => ?_) he hpl
  obtain ⟨vs, H1, I1, r1, a, C, ws, ev, hl, T, ea, q⟩ := hh
  subst ev
  cases r1 with
  | @cons _ u0 _ ur ra rw' =>
    obtain rfl : u0 = Value.ref a := ra
    have hlen : ur.length ≤ sizeLine := by
      rw [← Paired.length rw', sizeLine_eq]
      omega
    exact oinit_ok T I1 ea hlen fun s' J => ⟨.non, H1, J, rfl, q⟩
end
/-! ### == and != of objects that have no own __eq__ -/
/-- a class that compares by identity -/
def CmpC (K : PySem.W.Frag) (C : Addr) : Prop := ∃ (nm q : Str) (N : Addr) (bs : List Value) (hdct : Bool) (sn : List Str) (sub : List Value) (ab : Bool) (col : Option Bool) (dd : Option Addr) (k0 k1 k2 k3 k5 : Option Value) (newId : String) (oN : Obj) (es : Array DictEntry) (ep : Nat),
  K.lookup C = some (excClassObj nm q C N bs [.type "object"] hdct sn sub ab col dd k0 k1 k2 k3 k5 newId) ∧ K.lookup N = some oN ∧ ∀ h : Heap, h.get? N = some oN → ∃ mN, h.Ns N mN ∧ mN "__eq__" = none ∧ mN "__ne__" = none
section
variable {X : Cx}
theorem cmp_inst {pins : List (Addr × Obj)} {σ : L2.St} {H : Hp} {s : Shared} {a C dx : Addr} {fs : List (Str × V)} (I : Inv X pins σ H s) (ea : H a = some (.ins C dx fs)) (hC : CmpC X.K C) : s.heap.CmpInst a C [.type "object"] := by
  obtain ⟨nm, q, N, bs, hdct, sn, sub, ab, col, dd, k0, k1, k2, k3, k5, newId, oN, es, ep, h1, h2, h3⟩ := hC
  obtain ⟨mN, hn, e1, e2⟩ := h3 s.heap (I.kIn _ _ h2)
  obtain ⟨_, _, _, e, _⟩ := (show ObjOk X.prog X.w H s.heap a (.ins C dx fs) from I.hok a _ ea)
  exact ⟨_, nm, q, N, bs, hdct, sn, sub, ab, col, dd, k0, k1, k2, k3, k5, newId, mN, e, rfl, I.kIn _ _ h1, hn, e1, e2⟩
def rEqId (K : PySem.W.Frag) : R2 := fun x y H Q => ∃ a b C dx dy fs gs, x = .ref a ∧ y = .ref b ∧ H a = some (.ins C dx fs) ∧ H b = some (.ins C dy gs) ∧ CmpC K C ∧ Q (.bl (decide (a = b))) H
theorem op_eqId {k : Nat} (hr : Room k X.A) : OpR X (compareOp .Eq) (rEqId X.K) := by
  intro pins s σ H x y v u Q I rx ry h
  obtain ⟨a, b, C, dx, dy, fs, gs, rfl, rfl, ea, eb, hC, q⟩ := h
  obtain rfl : v = Value.ref a := rx
  obtain rfl : u = Value.ref b := ry
  have ca := cmp_inst I ea hC
  have cb := cmp_inst I eb hC
  obtain ⟨hh, g, d, t, os⟩ := s
  by_cases e : a = b
  · subst e
    exact compareOp_eq_same F.cmp_object ca hr.units0 ⟨.bl _, H, I, by rw [decide_eq_true rfl]; rfl, q⟩
  · exact compareOp_eq_other F.cmp_object F.cmp_object ca cb e hr.units0 ⟨.bl _, H, I, by rw [decide_eq_false e]; rfl, q⟩
end
/-! ### a module's constants -/
section
variable {X : Cx} {x : Str} {pos : Pos}
theorem pe_gint {i : Int} (hm : ∃ t, X.mg x = some (.int i t)) (hg : Gl X x := by rfl) (hd : (x == ("__debug__" : Str)) = false := by decide) : PE X (.Name x pos) (tC (.int i)) := by
  obtain ⟨t, h⟩ := hm
  exact pe_glob hg h ⟨t, rfl⟩ hd
theorem pe_gstr {y : Str} (hm : ∃ t, X.mg x = some (.str y t)) (hg : Gl X x := by rfl) (hd : (x == ("__debug__" : Str)) = false := by decide) : PE X (.Name x pos) (tC (.str y)) := by
  obtain ⟨t, h⟩ := hm
  exact pe_glob hg h ⟨t, rfl⟩ hd
end
/-! ### a text, repeated -/
section
variable {X : Cx}
def rRepS : R2 := fun x y H Q => ∃ (z : Str) (n : Int), x = .str z ∧ y = .int n ∧ 1 < n ∧ n < 1000 ∧ 0 < z.length ∧ z.length < 1000 ∧ Str.length ⟨(List.replicate n.toNat z.cps).foldl (· ++ ·) #[]⟩ ≤ sizeLine ∧ Q (.str ⟨(List.replicate n.toNat z.cps).foldl (· ++ ·) #[]⟩) H
theorem op_repS : OpR X (binaryOp .Mult) rRepS := by
  intro pins s σ H x y v u Q I rx ry h
  obtain ⟨z, n, rfl, rfl, n1, n2, z1, z2, zl, q⟩ := h
  obtain ⟨t, rfl⟩ := rx
  obtain ⟨t', rfl⟩ := ry
  have hz : z.length * n.toNat < 1000000 := by
    have a1 : z.length * n.toNat ≤ 999 * n.toNat := Nat.mul_le_mul_right _ (by omega)
    have a2 : n.toNat ≤ 999 := by omega
    omega
  refine PySem.P.mul_str (by rw [decide_eq_false (by omega), decide_eq_false (by omega)]; rfl) (fun _ _ hh => ?_) (fun _ _ => ?_) ?_
  · have h3 : (2 ^ 63 - 1 : Int) / n ≥ 1000 := Int.le_ediv_of_mul_le (by omega) (by omega)
    omega
  · exact decide_eq_false (by rw [sizeLine_eq]; omega)
  · rw [if_neg (by omega), if_neg (by
      intro hh
      rcases Bool.or_eq_true_iff.mp hh with e | e
      · have := eq_of_beq e; omega
      · have := eq_of_beq e; omega)]
    exact ⟨zl, .str _, H, I.tok _, ⟨_, rfl⟩, q⟩
end
end Gd
/-! ### a Hook that tells written objects -/
namespace Gd
open PySem PySem.Spec PyProof.Rows L2
theorem lookup_told {g : Addr → Option Obj} : ∀ {K : PySem.W.Frag}, (K.map (·.1)).map g = K.map (fun p => some p.2) → ∀ a o, K.lookup a = some o → g a = some o
  | [], _, _, _, h => nomatch (show (none : Option Obj) = _ from h)
  | (b, u) :: r, e, a, o, h => by
    have e' : g b :: (r.map (·.1)).map g = some u :: r.map (fun p => some p.2) := e
    obtain ⟨h1, h2⟩ := List.cons.inj e'
    have h' : (match a == b with | true => some u | false => List.lookup a r) = some o := h
    cases q : (a == b) with
    | true =>
      rw [q] at h'
      rw [beq_iff_eq.mp q, h1]
      exact h'
    | false =>
      rw [q] at h'
      exact lookup_told h2 a o h'
/-- the hook: at the addresses adr stand the objects of KL -/
def hookK (KL : World → PySem.W.Frag) (adr : List Addr) (ha : ∀ w, (KL w).map (·.1) = adr) : PySem.W.Hook where
  α := List (Option Obj)
  obs := fun s => adr.map s.heap.get?
  val := fun w => (KL w).map fun p => some p.2
  says := fun w h => (KL w).In h
  of := fun w s e => lookup_told (by rw [ha w]; exact e)
  keeps := fun _ _ _ hK k => PySem.W.Frag.In.keeps hK k
end Gd
/-! ### tablesWhole, some statements at a time -/
namespace Gd
open PySem PySem.TablesWhole
theorem holds_split {top : Scope} {cx : TablesWhole.Ctx} {sc : Scope} : ∀ (n : Nat) (l : List Stmt), wSs holds top cx sc (l.take n) = true → wSs holds top cx sc (l.drop n) = true → wSs holds top cx sc l = true
  | 0, _, _, h => h
  | _ + 1, [], _, h => h
  | n + 1, s :: r, h1, h2 => by
    rw [List.take_succ_cons, wSs] at h1
    rw [List.drop_succ_cons] at h2
    rw [wSs]
    obtain ⟨a, b⟩ := Bool.and_eq_true_iff.mp (show (wS holds top cx sc s && wSs holds top cx sc (r.take n)) = true from h1)
    show (wS holds top cx sc s && wSs holds top cx sc r) = true
    rw [a, holds_split n r b h2] <;> rfl
theorem gather_split {top : Scope} {cx : TablesWhole.Ctx} {sc : Scope} : ∀ (n : Nat) (l : List Stmt), wSs gather top cx sc (l.take n) = [] → wSs gather top cx sc (l.drop n) = [] → wSs gather top cx sc l = []
  | 0, _, _, h => h
  | _ + 1, [], _, h => h
  | n + 1, s :: r, h1, h2 => by
    rw [List.take_succ_cons, wSs] at h1
    rw [List.drop_succ_cons] at h2
    rw [wSs]
    obtain ⟨a, b⟩ := List.append_eq_nil_iff.mp (show wS gather top cx sc s ++ wSs gather top cx sc (r.take n) = [] from h1)
    show wS gather top cx sc s ++ wSs gather top cx sc r = []
    rw [a, gather_split n r b h2] <;> rfl
theorem whole_of {p : Program} (h0 : p.modules = []) (h1 : p.parses = []) (h2 : p.harvested = []) (hg : wSs gather p.main.scope ⟨p.main.scope, [], [], [], none⟩ p.main.scope p.main.body = []) (hn : noTwice p.main.scope = true)
    (hb : wSs holds p.main.scope ⟨p.main.scope, [], [], [], none⟩ p.main.scope p.main.body = true) : p.tablesWhole = true := by
  have m : wModule holds p.main = true := by
    unfold wModule
    rw [hg]
    show (true && (noTwice p.main.scope && (wSs holds p.main.scope ⟨p.main.scope, [], [], [], none⟩ p.main.scope p.main.body && true))) = true
    rw [hn, hb] <;> rfl
  unfold Program.tablesWhole wProgram
  rw [h0, h1, h2]
  show (wModule holds p.main && (true && (true && (true && true)))) = true
  rw [m] <;> rfl
end Gd
/-! ### the head: a long top, run by the kernel in two parts with a written state between them -/
namespace Hd
noncomputable section
open PySem PySem.W PySem.Calls PyProof.Rows HandSHeadRun
section
variable (st : SharedT → Thread → Option (SharedT × Thread)) (nn : Nat) (ann : Option Value)
/-- some statements of the top, to their end -/
def segF : Nat → SharedT → Thread → Option (Flow × SharedT × Code × Pos)
  | 0, _, _ => none
  | m + 1, s, t => match endAt 1 t with
    | some f => some (f, s, t.code, t.pos)
    | none => match stepOk nn ann t with
      | false => none
      | true => match st s t with
        | some (s', t') => frS s' fun x => segF m x t'
        | none => none
/-- the first steps, ahead of the body -/
def preF : Nat → SharedT → Thread → Option (SharedT × Thread)
  | 0, s, t => some (s, t)
  | m + 1, s, t => match through t with
    | true => none
    | false => match stepOk nn ann t with
      | false => none
      | true => match st s t with
        | some (s', t') => frS s' fun x => preF m x t'
        | none => none
end
section
variable {tb : String → Option Builtin} {p : Program} {w : World} {nn : Nat} {ann : Option Value}
theorem segF_ok : ∀ {m : Nat} {s : SharedT} {t : Thread} {r : Flow × SharedT × Code × Pos}, segF (stepT (denote tb) p w) nn ann m s t = some r → segRunT tb p w nn ann 1 m s t = some r
  | 0, _, _, _, h => by cases h
  | m + 1, s, t, r, h => by
    unfold segRunT
    unfold segF at h
    cases he : endAt 1 t with
    | some f => rw [he] at h; exact h
    | none =>
      rw [he] at h
      cases hk : stepOk nn ann t with
      | false => rw [hk] at h; cases h
      | true =>
        rw [hk] at h
        cases hs : stepT (denote tb) p w s t with
        | none => rw [hs] at h; cases h
        | some y =>
          obtain ⟨s2, t2⟩ := y
          rw [hs] at h
          have h2 : (frS s2 fun x => segF (stepT (denote tb) p w) nn ann m x t2) = some r := h
          rw [frS_eq] at h2
          exact segF_ok h2
theorem preF_ok : ∀ {m : Nat} {s s' : SharedT} {t t' : Thread}, preF (stepT (denote tb) p w) nn ann m s t = some (s', t') → topGo tb p w nn ann m s.abs t = some (s'.abs, t')
  | 0, _, _, _, _, h => by cases h; rfl
  | m + 1, s, s', t, t', h => by
    unfold topGo
    unfold preF at h
    cases he : through t with
    | true => rw [he] at h; cases h
    | false =>
      rw [he] at h
      cases hk : stepOk nn ann t with
      | false => rw [hk] at h; cases h
      | true =>
        rw [hk] at h
        cases hs : stepT (denote tb) p w s t with
        | none => rw [hs] at h; cases h
        | some y =>
          obtain ⟨s2, t2⟩ := y
          rw [hs] at h
          have h2 : (frS s2 fun x => preF (stepT (denote tb) p w) nn ann m x t2) = some (s', t') := h
          rw [frS_eq] at h2
          rw [stepT_spec hs]
          exact preF_ok h2
end
/-- a tree of objects, laid one after another -/
def lay : List Obj → PySem.W.BT → Nat → PySem.W.BT
  | [], t, _ => t
  | o :: r, t, n => lay r (t.ins n o) (n + 1)
/-- the state behind the boot -/
def bootS (w : World) (os : OsState) : SharedT := ⟨lay (boot_heap w.params).objs.toList .nil 0, 11, (boot_heap w.params).life, #[], boot_drawn, boot_toks, os⟩
theorem bootS_eq (w : World) (os : OsState) : (bootS w os).abs = ⟨boot_heap w.params, #[], boot_drawn, boot_toks, os⟩ := by kernel_rfl
theorem boot_size (w : World) : (boot_heap w.params).objs.size = 11 := by kernel_rfl
theorem boot_ann (w : World) : bootAnn w = some (.ref 6) := by kernel_rfl
/-- the step function by the library's twins -/
abbrev stQ (p : Program) (w : World) : SharedT → Thread → Option (SharedT × Thread) := stepQ (denQ tabQ) p w
theorem stQ_eq (p : Program) (w : World) : stepT (denote treeTable) p w = stQ p w := by
  show stepT (denote treeTable) p w = stepQ (denQ tabQ) p w
  rw [stepQ_eq, denQ_eq, tabQ_eq]
/-- the body's environment -/
def envM (p : Program) (cv : Value) (fr : Addr) : Env := { scope := p.main.scope, locals := mainNs, globals := mainNs, cells := [], code := cv, frame := some fr }
section
variable {p q : Program} {loose : List Str} {Xt : Shared → Bool} {α : Type} {Yf : Shared → α} {Ya : World → α} {N nP n m k j : Nat} {cv : Value} {fr : Addr} {pA pB pQ : Pos} {SA SB : World → OsState → SharedT}
/-- what is left of the top, from a state on -/
abbrev RunT (p : Program) (w : World) (cv : Value) (fr : Addr) (pQ : Pos) (m k : Nat) (pB : Pos) (s : SharedT) (r : Shared) : Prop :=
  topRun treeTable p w 11 (some (.ref 6)) m s.abs (restOf ((behindTheImports p).drop k) (envM p cv fr) (.body (behindTheImports p) (envM p cv fr)) pB [topFrame pQ]) = some r
/-- the statements from k on, j of them: from one written state to the next -/
abbrev SegT (p : Program) (w : World) (cv : Value) (fr : Addr) (pQ : Pos) (n k j : Nat) (pA pB : Pos) (sa sb : SharedT) : Prop :=
  segF (stQ p w) 11 (some (.ref 6)) n sa (piecesOf (((behindTheImports p).drop k).take j) (envM p cv fr) (.body (behindTheImports p) (envM p cv fr)) pA [topFrame pQ]) = some (.next, sb, .body (behindTheImports p) (envM p cv fr), pB)
theorem run_seg {w : World} {sa sb : SharedT} {r : Shared} (ha : SegT p w cv fr pQ n k j pA pB sa sb) (h : RunT p w cv fr pQ m (k + j) pB sb r) : RunT p w cv fr pQ (n + m) k pA sa r := by
  have a2 := ha
  unfold SegT at a2
  rw [← stQ_eq] at a2
  have h2 : topRun treeTable p w 11 (some (.ref 6)) m sb.abs (restOf (((behindTheImports p).drop k).drop j) (envM p cv fr) (.body (behindTheImports p) (envM p cv fr)) pB [topFrame pQ]) = some r := by
    rw [List.drop_drop]
    exact h
  have h3 := piece_app (rest := ((behindTheImports p).drop k).drop j) (segRun_of (segF_ok a2)) h2
  rw [List.take_append_drop] at h3
  exact h3
theorem run_end {w : World} {sa s : SharedT} (hr : goF (stQ p w) 11 (some (.ref 6)) m sa (restOf ((behindTheImports p).drop k) (envM p cv fr) (.body (behindTheImports p) (envM p cv fr)) pA [topFrame pQ]) = some s) : RunT p w cv fr pQ m k pA sa s.abs := by
  rw [← stQ_eq] at hr
  exact goF_ok hr
theorem run_pre {w : World} {os : OsState} {sa : SharedT} {r : Shared}
    (hp : preF (stQ p w) 11 (some (.ref 6)) nP (bootS w os) (topStub p) = some (sa, ⟨denQ tabQ (.body (behindTheImports p) (envM p cv fr)), .body (behindTheImports p) (envM p cv fr), pA, [topFrame pQ]⟩))
    (hb : segRunT treeTable p w 11 (some (.ref 6)) 1 1 sa (blockOf (behindTheImports p) (envM p cv fr) (.body (behindTheImports p) (envM p cv fr)) pA [topFrame pQ]) = some (.next, sa, .body (behindTheImports p) (envM p cv fr), pA))
    (h : RunT p w cv fr pQ m 0 pA sa r) :
    topRun treeTable p w (boot_heap w.params).objs.size (bootAnn w) (nP + (1 + m)) ⟨boot_heap w.params, #[], boot_drawn, boot_toks, os⟩ (topStub p) = some r := by
  rw [boot_size, boot_ann, ← bootS_eq]
  rw [← stQ_eq, ← denQ_eq, ← tabQ_eq] at hp
  exact go_top (preF_ok hp) (piece_block (segRun_of hb) h)
theorem left_run (e : opening p = plainProg p.main.scope.names) (f : ∀ s, fenceModules? p s = some s) (le : Nat.ble m N = true) (hN : Nat.ble 600 N = true)
    (run : ∀ (w : World) (os : OsState), ∃ s : SharedT, topRun treeTable p w (boot_heap w.params).objs.size (bootAnn w) m ⟨boot_heap w.params, #[], boot_drawn, boot_toks, os⟩ (topStub p) = some s.abs ∧
      (looksF p (boot_heap w.params) s.abs, openSeen q loose (importedModules p.main.body) Xt true s.abs, Yf s.abs) = (true, openGood q loose, Ya w)) :
    LeftO p q loose Xt Yf Ya N true := fun w => by
  obtain ⟨⟨h, gs, d, kk, os⟩, a, a'⟩ := Option.map_eq_some_iff.mp (boot_open e hN f w)
  obtain ⟨rfl, rfl, rfl, rfl⟩ : h = boot_heap w.params ∧ gs = Array.mk [] ∧ d = boot_drawn ∧ kk = boot_toks := by simpa using a'
  obtain ⟨s, hs, hv⟩ := run w os
  obtain ⟨l1, l2, l3⟩ : _ ∧ _ ∧ _ := by simpa only [Prod.mk.injEq] using hv
  have r := topRun_mono (N - m) _ _ _ _ hs
  rw [show m + (N - m) = N by have := Nat.le_of_ble_eq_true le; omega] at r
  have l1' : (staticsOk (importedModules p.main.body) (boot_heap w.params) s.abs.heap && namesBound p s.abs.heap && gensDone s.abs && laidKept (boot_heap w.params) s.abs.heap) = true := l1
  have t : topFrom treeTable p w N ⟨boot_heap w.params, Array.mk [], boot_drawn, boot_toks, os⟩ = some s.abs := by
    unfold topFrom
    dsimp only
    rw [boot_ns]
    show (topRun treeTable p w (boot_heap w.params).objs.size (bootAnn w) N ⟨boot_heap w.params, #[], boot_drawn, boot_toks, os⟩ (topStub p)).bind _ = _
    rw [r]
    show (match staticsOk (importedModules p.main.body) (boot_heap w.params) s.abs.heap && namesBound p s.abs.heap && gensDone s.abs && laidKept (boot_heap w.params) s.abs.heap with | true => some s.abs | false => none) = _
    rw [l1']
  unfold openEnds
  rw [a]
  show (topFrom treeTable p w N _).map _ = _
  rw [t]
  exact congrArg some (Prod.ext l2 l3)
end
/-! ### short words for the written state -/
def vN : Value := .none
def vT : Value := .bool true
def vF : Value := .bool false
def vi (i : Int) (t : Nat) : Value := .int i t
def vs (x : PySem.Str) (t : Nat) : Value := .str x t
def vr (a : Addr) : Value := .ref a
def vt (n : String) : Value := .type n
def vb (n : String) : Value := .builtin n
def de (P : Params) (x : PySem.Str) (t : Nat) (v : Value) : DictEntry := ⟨PyData.keyHash P x, .str x t, v⟩
def sq (l : List Value) (n : Nat) : Data := .seq l.toArray n
def di (l : List DictEntry) (n : Nat) : Data := .dict l.toArray n
def fi (l : List Value) : Data := .fields l.toArray
def ob (c : Value) (d : Option Addr) (x : Data) (s : List (Option Value)) : Obj := ⟨c, d, x, s.toArray⟩
def fu (s : Stmt) (n qn : PySem.Str) (g : Addr) (cl : List (PySem.Str × Addr)) (d kd doc pm : Value) (an : Option Addr) (cd ct : Value) (bl : Addr) : FuncData := ⟨n, qn, L2.defArgs s, .stmts (L2.defBody s), L2.defScope s, g, cl, d, kd, doc, pm, an, cd, ct, bl⟩
end
end Hd
namespace Hd
noncomputable section
open PySem PySem.W PySem.Calls PyProof.Rows HandSHeadRun L2
abbrev PW : Program := PySem.Challenge.pw_coverstore_k91_disks
def top (i : Nat) : Stmt := PW.main.body.getD i (.Pass ⟨0, 0, 0, 0⟩)
def o0_0 (P : Params) : List Obj := [
  boot_o_0 P,
  boot_o_1 P,
  boot_o_2 P,
  boot_o_3 P,
  boot_o_4 P,
  boot_o_5 P,
  boot_o_6 P,
  boot_o_7 P,
  boot_o_8 P,
  boot_o_9 P,
  boot_o_10 P,
  (ob (vt "tuple") none (sq [] 0) []),
  (ob vN none (fi []) []),
  (ob (vt "code") none (fi [(vs "<module>" 182), (vs "<module>" 183), (vs "/claim/cut.py" 184), (vi 1 0), (vi 0 0), (vi 0 0), (vi 0 0), (vi 0 0), (vr 11), vF, (vi 181 0), (vr 12), vN, vN, vN, vN, (vi 185 0), (vi 1 0), (vs "/claim/cut.py" 186)]) []),
  (ob (vt "frame") none .plain [(some (vr 13)), (some (vr 3)), (some (vr 3)), none, (some (vs "__main__" 164)), none, (some (vr 0))])]
def o0 (P : Params) : List Obj := o0_0 P
def S0 (w : World) (os : OsState) : SharedT := ⟨lay (o0 w.params) .nil 0, 15, {}, #[], {}, 187, os⟩
def pos0 : Pos := ⟨0, 0, 0, 0⟩
def posQ : Pos := ⟨0, 0, 0, 0⟩
def codeV : Value := (vr 13)
def frameA : Addr := 14
def nPre : Nat := 12
def o1_0 (P : Params) : List Obj := [
  boot_o_0 P,
  boot_o_1 P,
  boot_o_2 P,
  (ob (vt "dict") none (di [de P "__name__" 165 (vs "coverstore.errors" 194), de P "__doc__" 166 vN, de P "__package__" 167 vN, de P "__loader__" 168 (vb "__main__.__loader__#opaque"), de P "__spec__" 169 vN, de P "__annotations__" 170 (vr 6), de P "__builtins__" 171 (vr 4), de P "__file__" 173 (vs "/claim/cut.py" 172), de P "__cached__" 174 vN, de P "_wall" 193 (vr 21), de P "CoverError" 213 (vr 31), de P "InvalidBits" 238 (vr 51), de P "InvalidValue" 263 (vr 70), de P "InvalidRange" 288 (vr 89), de P "InvalidBox" 313 (vr 108), de P "InvalidPlace" 338 (vr 127), de P "InvalidCount" 363 (vr 146), de P "InvalidName" 388 (vr 165), de P "InvalidColumns" 413 (vr 184), de P "InvalidOrder" 438 (vr 203), de P "InvalidKey" 463 (vr 222), de P "InvalidWrite" 488 (vr 241), de P "InvalidQuery" 515 (vr 260), de P "InvalidText" 540 (vr 279), de P "InvalidPaper" 565 (vr 298), de P "InvalidLimit" 590 (vr 317), de P "InvalidPage" 615 (vr 336), de P "UnknownTable" 642 (vr 355), de P "UnknownVersion" 669 (vr 375), de P "TooOld" 696 (vr 395), de P "UnknownName" 723 (vr 415), de P "NameTaken" 750 (vr 435), de P "KeyTaken" 779 (vr 455), de P "NoSuchRow" 808 (vr 475), de P "Unlike" 826 (vr 488), de P "NoHalf" 853 (vr 508), de P "NotJoined" 880 (vr 528), de P "NotAPoint" 898 (vr 541), de P "WrongColumns" 925 (vr 561), de P "NotEmpty" 952 (vr 581), de P "Ended" 970 (vr 594), de P "Changed" 999 (vr 614), de P "Violated" 1028 (vr 634), de P "Crashed" 1046 (vr 647)] 44) []),
  boot_o_4 P,
  boot_o_5 P,
  boot_o_6 P,
  boot_o_7 P,
  boot_o_8 P,
  boot_o_9 P,
  boot_o_10 P,
  (ob (vt "tuple") none (sq [] 0) []),
  (ob vN none (fi [(vi 1 0), (vi 0 0), (vr 20), (vi 5 0), (vi 0 0), (vr 27), (vi 7 0), (vi 0 0), (vr 40), (vi 12 0), (vi 0 0), (vr 59), (vi 17 0), (vi 0 0), (vr 78), (vi 22 0), (vi 0 0), (vr 97), (vi 27 0), (vi 0 0), (vr 116), (vi 32 0), (vi 0 0), (vr 135), (vi 37 0), (vi 0 0), (vr 154), (vi 42 0), (vi 0 0), (vr 173), (vi 47 0), (vi 0 0), (vr 192), (vi 52 0), (vi 0 0), (vr 211), (vi 57 0), (vi 0 0), (vr 230), (vi 62 0), (vi 0 0), (vr 249), (vi 68 0), (vi 0 0), (vr 268), (vi 73 0), (vi 0 0), (vr 287), (vi 78 0), (vi 0 0), (vr 306), (vi 83 0), (vi 0 0), (vr 325), (vi 88 0), (vi 0 0), (vr 344), (vi 93 0), (vi 0 0), (vr 364), (vi 98 0), (vi 0 0), (vr 384), (vi 103 0), (vi 0 0), (vr 404), (vi 108 0), (vi 0 0), (vr 424), (vi 113 0), (vi 0 0), (vr 444), (vi 119 0), (vi 0 0), (vr 464), (vi 125 0), (vi 0 0), (vr 484), (vi 127 0), (vi 0 0), (vr 497), (vi 132 0), (vi 0 0), (vr 517), (vi 137 0), (vi 0 0), (vr 537), (vi 139 0), (vi 0 0), (vr 550), (vi 144 0), (vi 0 0), (vr 570), (vi 149 0), (vi 0 0), (vr 590), (vi 151 0), (vi 0 0), (vr 603), (vi 157 0), (vi 0 0), (vr 623), (vi 163 0), (vi 0 0), (vr 643)]) []),
  (ob (vt "code") none (fi [(vs "<module>" 182), (vs "<module>" 183), (vs "/claim/cut.py" 184), (vi 1 0), (vi 0 0), (vi 0 0), (vi 0 0), (vi 0 0), (vr 11), vF, (vi 181 0), (vr 12), vN, vN, vN, vN, (vi 185 0), (vi 1 0), (vs "/claim/cut.py" 186)]) []),
  (ob (vt "frame") none .plain [(some (vr 13)), (some (vr 3)), (some (vr 3)), none, (some (vs "__main__" 164)), none, (some (vr 0))]),
  (ob (vt "tuple") none (sq [] 0) [])]
def o1_1 (P : Params) : List Obj := [
  (ob vN none (fi []) []),
  (ob (vt "tuple") none (sq [(vs "k" 190)] 0) []),
  (ob (vt "tuple") none (sq [] 0) []),
  (ob vN none (.func (fu (top 0) "_wall" "_wall" 0 [] vN vN vN vN none vN vN 0)) []),
  (ob (vt "code") none (fi [(vs "_wall" 187), (vs "_wall" 188), (vs "/claim/cut.py" 189), (vi 1 0), (vi 1 0), (vi 0 0), (vi 0 0), (vi 3 0), (vr 15), vT, (vi 181 0), (vr 16), vN, (vr 17), (vr 18), (vr 19), (vi 191 0), (vi 1 0), (vs "/claim/cut.py" 192)]) []),
  (ob (vt "function") none (.func (fu (top 0) "_wall" "_wall" 3 [] vN vN vN (vs "__main__" 164) none (vr 20) vN 0)) []),
  (ob (vt "tuple") none (sq [(vt "ValueError")] 0) []),
  (ob (vt "builtin_function_or_method") none (fi [(vb "type.__prepare__"), (vt "type")]) []),
  (ob (vt "dict") none (di [de P "__module__" 203 (vs "coverstore.errors" 194), de P "__qualname__" 205 (vs "CoverError" 204), de P "__firstlineno__" 207 (vi 5 206), de P "__static_attributes__" 208 (vr 29)] 4) []),
  (ob (vt "tuple") none (sq [] 0) []),
  (ob vN none (fi []) []),
  (ob (vt "code") none (fi [(vs "CoverError" 198), (vs "CoverError" 199), (vs "/claim/cut.py" 200), (vi 5 0), (vi 0 0), (vi 0 0), (vi 0 0), (vi 0 0), (vr 25), vF, (vi 181 0), (vr 26), vN, vN, vN, vN, (vi 201 0), (vi 5 0), (vs "/claim/cut.py" 202)]) []),
  (ob (vt "frame") none .plain [(some (vr 27)), (some (vr 3)), (some (vr 24)), none, (some (vs "coverstore.errors" 194)), none, (some (vr 0))]),
  (ob (vt "tuple") none (sq [] 0) []),
  (ob (vt "dict") none (di [de P "__module__" 203 (vs "coverstore.errors" 194), de P "__firstlineno__" 207 (vi 5 206), de P "__static_attributes__" 208 (vr 29), de P "__weakref__" 210 (vr 32), de P "__doc__" 211 vN] 3) []),
  (ob (vt "type") none (.cls ⟨"CoverError", [(vt "ValueError")], [(vr 31), (vt "ValueError"), (vt "Exception"), (vt "BaseException"), (vt "object")], 30, "CoverError", true, [], [(vr 51), (vr 70), (vr 89), (vr 108), (vr 127), (vr 146), (vr 165), (vr 184), (vr 203), (vr 222), (vr 241), (vr 260), (vr 279), (vr 298), (vr 317), (vr 336)], false, none, false⟩) [(some (vr 22)), none, (some (vs "CoverError" 196)), (some (vs "CoverError" 204)), (some (vb "ValueError.__new__")), (some vT)])]
def o1_2 (P : Params) : List Obj := [
  (ob (vt "getset_descriptor") none (fi [(vs "__weakref__" 209), (vr 31), (vb "ExceptionGroup.__weakref__"), vN]) []),
  (ob (vt "super") none (fi [(vr 31), (vr 31), (vr 31)]) []),
  (ob (vt "builtin_function_or_method") none (fi [(vb "object.__init_subclass__"), (vr 31)]) []),
  (ob (vt "tuple") none (sq [(vr 31)] 0) []),
  (ob (vt "builtin_function_or_method") none (fi [(vb "type.__prepare__"), (vt "type")]) []),
  (ob (vt "dict") none (di [de P "__module__" 221 (vs "coverstore.errors" 194), de P "__qualname__" 223 (vs "InvalidBits" 222), de P "__firstlineno__" 225 (vi 7 224), de P "__init__" 233 (vr 48), de P "__static_attributes__" 235 (vr 49)] 5) []),
  (ob (vt "tuple") none (sq [] 0) []),
  (ob vN none (fi [(vi 9 0), (vi 4 0), (vr 47)]) []),
  (ob (vt "code") none (fi [(vs "InvalidBits" 216), (vs "InvalidBits" 217), (vs "/claim/cut.py" 218), (vi 7 0), (vi 0 0), (vi 0 0), (vi 0 0), (vi 0 0), (vr 38), vF, (vi 181 0), (vr 39), vN, vN, vN, vN, (vi 219 0), (vi 7 0), (vs "/claim/cut.py" 220)]) []),
  (ob (vt "frame") none .plain [(some (vr 40)), (some (vr 3)), (some (vr 37)), none, (some (vs "coverstore.errors" 194)), none, (some (vr 0))]),
  (ob (vt "tuple") none (sq [] 0) []),
  (ob vN none (fi []) []),
  (ob (vt "tuple") none (sq [(vs "self" 229), (vs "value" 230)] 0) []),
  (ob (vt "tuple") none (sq [] 0) []),
  (ob vN none (.func (fu (inClass (top 3) 0) "__init__" "InvalidBits.__init__" 0 [] vN vN vN vN none vN vN 0)) []),
  (ob (vt "code") none (fi [(vs "__init__" 226), (vs "InvalidBits.__init__" 227), (vs "/claim/cut.py" 228), (vi 9 0), (vi 2 0), (vi 0 0), (vi 0 0), (vi 3 0), (vr 42), vT, (vi 181 0), (vr 43), vN, (vr 44), (vr 45), (vr 46), (vi 231 0), (vi 9 0), (vs "/claim/cut.py" 232)]) [])]
def o1_3 (P : Params) : List Obj := [
  (ob (vt "function") none (.func (fu (inClass (top 3) 0) "__init__" "InvalidBits.__init__" 3 [] vN vN vN (vs "coverstore.errors" 194) none (vr 47) vN 0)) []),
  (ob (vt "tuple") none (sq [(vs "value" 234)] 0) []),
  (ob (vt "dict") none (di [de P "__module__" 221 (vs "coverstore.errors" 194), de P "__firstlineno__" 225 (vi 7 224), de P "__init__" 233 (vr 48), de P "__static_attributes__" 235 (vr 49), de P "__doc__" 236 vN] 2) []),
  (ob (vt "type") none (.cls ⟨"InvalidBits", [(vr 31)], [(vr 51), (vr 31), (vt "ValueError"), (vt "Exception"), (vt "BaseException"), (vt "object")], 50, "InvalidBits", true, [], [], false, none, false⟩) [(some (vr 35)), none, (some (vs "InvalidBits" 214)), (some (vs "InvalidBits" 222)), (some (vb "ValueError.__new__")), (some vT)]),
  (ob (vt "super") none (fi [(vr 51), (vr 51), (vr 51)]) []),
  (ob (vt "builtin_function_or_method") none (fi [(vb "object.__init_subclass__"), (vr 51)]) []),
  (ob (vt "tuple") none (sq [(vr 31)] 0) []),
  (ob (vt "builtin_function_or_method") none (fi [(vb "type.__prepare__"), (vt "type")]) []),
  (ob (vt "dict") none (di [de P "__module__" 246 (vs "coverstore.errors" 194), de P "__qualname__" 248 (vs "InvalidValue" 247), de P "__firstlineno__" 250 (vi 12 249), de P "__init__" 258 (vr 67), de P "__static_attributes__" 260 (vr 68)] 5) []),
  (ob (vt "tuple") none (sq [] 0) []),
  (ob vN none (fi [(vi 14 0), (vi 4 0), (vr 66)]) []),
  (ob (vt "code") none (fi [(vs "InvalidValue" 241), (vs "InvalidValue" 242), (vs "/claim/cut.py" 243), (vi 12 0), (vi 0 0), (vi 0 0), (vi 0 0), (vi 0 0), (vr 57), vF, (vi 181 0), (vr 58), vN, vN, vN, vN, (vi 244 0), (vi 12 0), (vs "/claim/cut.py" 245)]) []),
  (ob (vt "frame") none .plain [(some (vr 59)), (some (vr 3)), (some (vr 56)), none, (some (vs "coverstore.errors" 194)), none, (some (vr 0))]),
  (ob (vt "tuple") none (sq [] 0) []),
  (ob vN none (fi []) []),
  (ob (vt "tuple") none (sq [(vs "self" 254), (vs "value" 255)] 0) [])]
def o1_4 (P : Params) : List Obj := [
  (ob (vt "tuple") none (sq [] 0) []),
  (ob vN none (.func (fu (inClass (top 4) 0) "__init__" "InvalidValue.__init__" 0 [] vN vN vN vN none vN vN 0)) []),
  (ob (vt "code") none (fi [(vs "__init__" 251), (vs "InvalidValue.__init__" 252), (vs "/claim/cut.py" 253), (vi 14 0), (vi 2 0), (vi 0 0), (vi 0 0), (vi 3 0), (vr 61), vT, (vi 181 0), (vr 62), vN, (vr 63), (vr 64), (vr 65), (vi 256 0), (vi 14 0), (vs "/claim/cut.py" 257)]) []),
  (ob (vt "function") none (.func (fu (inClass (top 4) 0) "__init__" "InvalidValue.__init__" 3 [] vN vN vN (vs "coverstore.errors" 194) none (vr 66) vN 0)) []),
  (ob (vt "tuple") none (sq [(vs "value" 259)] 0) []),
  (ob (vt "dict") none (di [de P "__module__" 246 (vs "coverstore.errors" 194), de P "__firstlineno__" 250 (vi 12 249), de P "__init__" 258 (vr 67), de P "__static_attributes__" 260 (vr 68), de P "__doc__" 261 vN] 2) []),
  (ob (vt "type") none (.cls ⟨"InvalidValue", [(vr 31)], [(vr 70), (vr 31), (vt "ValueError"), (vt "Exception"), (vt "BaseException"), (vt "object")], 69, "InvalidValue", true, [], [], false, none, false⟩) [(some (vr 54)), none, (some (vs "InvalidValue" 239)), (some (vs "InvalidValue" 247)), (some (vb "ValueError.__new__")), (some vT)]),
  (ob (vt "super") none (fi [(vr 70), (vr 70), (vr 70)]) []),
  (ob (vt "builtin_function_or_method") none (fi [(vb "object.__init_subclass__"), (vr 70)]) []),
  (ob (vt "tuple") none (sq [(vr 31)] 0) []),
  (ob (vt "builtin_function_or_method") none (fi [(vb "type.__prepare__"), (vt "type")]) []),
  (ob (vt "dict") none (di [de P "__module__" 271 (vs "coverstore.errors" 194), de P "__qualname__" 273 (vs "InvalidRange" 272), de P "__firstlineno__" 275 (vi 17 274), de P "__init__" 283 (vr 86), de P "__static_attributes__" 285 (vr 87)] 5) []),
  (ob (vt "tuple") none (sq [] 0) []),
  (ob vN none (fi [(vi 19 0), (vi 4 0), (vr 85)]) []),
  (ob (vt "code") none (fi [(vs "InvalidRange" 266), (vs "InvalidRange" 267), (vs "/claim/cut.py" 268), (vi 17 0), (vi 0 0), (vi 0 0), (vi 0 0), (vi 0 0), (vr 76), vF, (vi 181 0), (vr 77), vN, vN, vN, vN, (vi 269 0), (vi 17 0), (vs "/claim/cut.py" 270)]) []),
  (ob (vt "frame") none .plain [(some (vr 78)), (some (vr 3)), (some (vr 75)), none, (some (vs "coverstore.errors" 194)), none, (some (vr 0))])]
def o1_5 (P : Params) : List Obj := [
  (ob (vt "tuple") none (sq [] 0) []),
  (ob vN none (fi []) []),
  (ob (vt "tuple") none (sq [(vs "self" 279), (vs "value" 280)] 0) []),
  (ob (vt "tuple") none (sq [] 0) []),
  (ob vN none (.func (fu (inClass (top 5) 0) "__init__" "InvalidRange.__init__" 0 [] vN vN vN vN none vN vN 0)) []),
  (ob (vt "code") none (fi [(vs "__init__" 276), (vs "InvalidRange.__init__" 277), (vs "/claim/cut.py" 278), (vi 19 0), (vi 2 0), (vi 0 0), (vi 0 0), (vi 3 0), (vr 80), vT, (vi 181 0), (vr 81), vN, (vr 82), (vr 83), (vr 84), (vi 281 0), (vi 19 0), (vs "/claim/cut.py" 282)]) []),
  (ob (vt "function") none (.func (fu (inClass (top 5) 0) "__init__" "InvalidRange.__init__" 3 [] vN vN vN (vs "coverstore.errors" 194) none (vr 85) vN 0)) []),
  (ob (vt "tuple") none (sq [(vs "value" 284)] 0) []),
  (ob (vt "dict") none (di [de P "__module__" 271 (vs "coverstore.errors" 194), de P "__firstlineno__" 275 (vi 17 274), de P "__init__" 283 (vr 86), de P "__static_attributes__" 285 (vr 87), de P "__doc__" 286 vN] 2) []),
  (ob (vt "type") none (.cls ⟨"InvalidRange", [(vr 31)], [(vr 89), (vr 31), (vt "ValueError"), (vt "Exception"), (vt "BaseException"), (vt "object")], 88, "InvalidRange", true, [], [], false, none, false⟩) [(some (vr 73)), none, (some (vs "InvalidRange" 264)), (some (vs "InvalidRange" 272)), (some (vb "ValueError.__new__")), (some vT)]),
  (ob (vt "super") none (fi [(vr 89), (vr 89), (vr 89)]) []),
  (ob (vt "builtin_function_or_method") none (fi [(vb "object.__init_subclass__"), (vr 89)]) []),
  (ob (vt "tuple") none (sq [(vr 31)] 0) []),
  (ob (vt "builtin_function_or_method") none (fi [(vb "type.__prepare__"), (vt "type")]) []),
  (ob (vt "dict") none (di [de P "__module__" 296 (vs "coverstore.errors" 194), de P "__qualname__" 298 (vs "InvalidBox" 297), de P "__firstlineno__" 300 (vi 22 299), de P "__init__" 308 (vr 105), de P "__static_attributes__" 310 (vr 106)] 5) []),
  (ob (vt "tuple") none (sq [] 0) [])]
def o1_6 (P : Params) : List Obj := [
  (ob vN none (fi [(vi 24 0), (vi 4 0), (vr 104)]) []),
  (ob (vt "code") none (fi [(vs "InvalidBox" 291), (vs "InvalidBox" 292), (vs "/claim/cut.py" 293), (vi 22 0), (vi 0 0), (vi 0 0), (vi 0 0), (vi 0 0), (vr 95), vF, (vi 181 0), (vr 96), vN, vN, vN, vN, (vi 294 0), (vi 22 0), (vs "/claim/cut.py" 295)]) []),
  (ob (vt "frame") none .plain [(some (vr 97)), (some (vr 3)), (some (vr 94)), none, (some (vs "coverstore.errors" 194)), none, (some (vr 0))]),
  (ob (vt "tuple") none (sq [] 0) []),
  (ob vN none (fi []) []),
  (ob (vt "tuple") none (sq [(vs "self" 304), (vs "position" 305)] 0) []),
  (ob (vt "tuple") none (sq [] 0) []),
  (ob vN none (.func (fu (inClass (top 6) 0) "__init__" "InvalidBox.__init__" 0 [] vN vN vN vN none vN vN 0)) []),
  (ob (vt "code") none (fi [(vs "__init__" 301), (vs "InvalidBox.__init__" 302), (vs "/claim/cut.py" 303), (vi 24 0), (vi 2 0), (vi 0 0), (vi 0 0), (vi 3 0), (vr 99), vT, (vi 181 0), (vr 100), vN, (vr 101), (vr 102), (vr 103), (vi 306 0), (vi 24 0), (vs "/claim/cut.py" 307)]) []),
  (ob (vt "function") none (.func (fu (inClass (top 6) 0) "__init__" "InvalidBox.__init__" 3 [] vN vN vN (vs "coverstore.errors" 194) none (vr 104) vN 0)) []),
  (ob (vt "tuple") none (sq [(vs "position" 309)] 0) []),
  (ob (vt "dict") none (di [de P "__module__" 296 (vs "coverstore.errors" 194), de P "__firstlineno__" 300 (vi 22 299), de P "__init__" 308 (vr 105), de P "__static_attributes__" 310 (vr 106), de P "__doc__" 311 vN] 2) []),
  (ob (vt "type") none (.cls ⟨"InvalidBox", [(vr 31)], [(vr 108), (vr 31), (vt "ValueError"), (vt "Exception"), (vt "BaseException"), (vt "object")], 107, "InvalidBox", true, [], [], false, none, false⟩) [(some (vr 92)), none, (some (vs "InvalidBox" 289)), (some (vs "InvalidBox" 297)), (some (vb "ValueError.__new__")), (some vT)]),
  (ob (vt "super") none (fi [(vr 108), (vr 108), (vr 108)]) []),
  (ob (vt "builtin_function_or_method") none (fi [(vb "object.__init_subclass__"), (vr 108)]) []),
  (ob (vt "tuple") none (sq [(vr 31)] 0) [])]
def o1_7 (P : Params) : List Obj := [
  (ob (vt "builtin_function_or_method") none (fi [(vb "type.__prepare__"), (vt "type")]) []),
  (ob (vt "dict") none (di [de P "__module__" 321 (vs "coverstore.errors" 194), de P "__qualname__" 323 (vs "InvalidPlace" 322), de P "__firstlineno__" 325 (vi 27 324), de P "__init__" 333 (vr 124), de P "__static_attributes__" 335 (vr 125)] 5) []),
  (ob (vt "tuple") none (sq [] 0) []),
  (ob vN none (fi [(vi 29 0), (vi 4 0), (vr 123)]) []),
  (ob (vt "code") none (fi [(vs "InvalidPlace" 316), (vs "InvalidPlace" 317), (vs "/claim/cut.py" 318), (vi 27 0), (vi 0 0), (vi 0 0), (vi 0 0), (vi 0 0), (vr 114), vF, (vi 181 0), (vr 115), vN, vN, vN, vN, (vi 319 0), (vi 27 0), (vs "/claim/cut.py" 320)]) []),
  (ob (vt "frame") none .plain [(some (vr 116)), (some (vr 3)), (some (vr 113)), none, (some (vs "coverstore.errors" 194)), none, (some (vr 0))]),
  (ob (vt "tuple") none (sq [] 0) []),
  (ob vN none (fi []) []),
  (ob (vt "tuple") none (sq [(vs "self" 329), (vs "value" 330)] 0) []),
  (ob (vt "tuple") none (sq [] 0) []),
  (ob vN none (.func (fu (inClass (top 7) 0) "__init__" "InvalidPlace.__init__" 0 [] vN vN vN vN none vN vN 0)) []),
  (ob (vt "code") none (fi [(vs "__init__" 326), (vs "InvalidPlace.__init__" 327), (vs "/claim/cut.py" 328), (vi 29 0), (vi 2 0), (vi 0 0), (vi 0 0), (vi 3 0), (vr 118), vT, (vi 181 0), (vr 119), vN, (vr 120), (vr 121), (vr 122), (vi 331 0), (vi 29 0), (vs "/claim/cut.py" 332)]) []),
  (ob (vt "function") none (.func (fu (inClass (top 7) 0) "__init__" "InvalidPlace.__init__" 3 [] vN vN vN (vs "coverstore.errors" 194) none (vr 123) vN 0)) []),
  (ob (vt "tuple") none (sq [(vs "value" 334)] 0) []),
  (ob (vt "dict") none (di [de P "__module__" 321 (vs "coverstore.errors" 194), de P "__firstlineno__" 325 (vi 27 324), de P "__init__" 333 (vr 124), de P "__static_attributes__" 335 (vr 125), de P "__doc__" 336 vN] 2) []),
  (ob (vt "type") none (.cls ⟨"InvalidPlace", [(vr 31)], [(vr 127), (vr 31), (vt "ValueError"), (vt "Exception"), (vt "BaseException"), (vt "object")], 126, "InvalidPlace", true, [], [], false, none, false⟩) [(some (vr 111)), none, (some (vs "InvalidPlace" 314)), (some (vs "InvalidPlace" 322)), (some (vb "ValueError.__new__")), (some vT)])]
def o1_8 (P : Params) : List Obj := [
  (ob (vt "super") none (fi [(vr 127), (vr 127), (vr 127)]) []),
  (ob (vt "builtin_function_or_method") none (fi [(vb "object.__init_subclass__"), (vr 127)]) []),
  (ob (vt "tuple") none (sq [(vr 31)] 0) []),
  (ob (vt "builtin_function_or_method") none (fi [(vb "type.__prepare__"), (vt "type")]) []),
  (ob (vt "dict") none (di [de P "__module__" 346 (vs "coverstore.errors" 194), de P "__qualname__" 348 (vs "InvalidCount" 347), de P "__firstlineno__" 350 (vi 32 349), de P "__init__" 358 (vr 143), de P "__static_attributes__" 360 (vr 144)] 5) []),
  (ob (vt "tuple") none (sq [] 0) []),
  (ob vN none (fi [(vi 34 0), (vi 4 0), (vr 142)]) []),
  (ob (vt "code") none (fi [(vs "InvalidCount" 341), (vs "InvalidCount" 342), (vs "/claim/cut.py" 343), (vi 32 0), (vi 0 0), (vi 0 0), (vi 0 0), (vi 0 0), (vr 133), vF, (vi 181 0), (vr 134), vN, vN, vN, vN, (vi 344 0), (vi 32 0), (vs "/claim/cut.py" 345)]) []),
  (ob (vt "frame") none .plain [(some (vr 135)), (some (vr 3)), (some (vr 132)), none, (some (vs "coverstore.errors" 194)), none, (some (vr 0))]),
  (ob (vt "tuple") none (sq [] 0) []),
  (ob vN none (fi []) []),
  (ob (vt "tuple") none (sq [(vs "self" 354), (vs "value" 355)] 0) []),
  (ob (vt "tuple") none (sq [] 0) []),
  (ob vN none (.func (fu (inClass (top 8) 0) "__init__" "InvalidCount.__init__" 0 [] vN vN vN vN none vN vN 0)) []),
  (ob (vt "code") none (fi [(vs "__init__" 351), (vs "InvalidCount.__init__" 352), (vs "/claim/cut.py" 353), (vi 34 0), (vi 2 0), (vi 0 0), (vi 0 0), (vi 3 0), (vr 137), vT, (vi 181 0), (vr 138), vN, (vr 139), (vr 140), (vr 141), (vi 356 0), (vi 34 0), (vs "/claim/cut.py" 357)]) []),
  (ob (vt "function") none (.func (fu (inClass (top 8) 0) "__init__" "InvalidCount.__init__" 3 [] vN vN vN (vs "coverstore.errors" 194) none (vr 142) vN 0)) [])]
def o1_9 (P : Params) : List Obj := [
  (ob (vt "tuple") none (sq [(vs "value" 359)] 0) []),
  (ob (vt "dict") none (di [de P "__module__" 346 (vs "coverstore.errors" 194), de P "__firstlineno__" 350 (vi 32 349), de P "__init__" 358 (vr 143), de P "__static_attributes__" 360 (vr 144), de P "__doc__" 361 vN] 2) []),
  (ob (vt "type") none (.cls ⟨"InvalidCount", [(vr 31)], [(vr 146), (vr 31), (vt "ValueError"), (vt "Exception"), (vt "BaseException"), (vt "object")], 145, "InvalidCount", true, [], [], false, none, false⟩) [(some (vr 130)), none, (some (vs "InvalidCount" 339)), (some (vs "InvalidCount" 347)), (some (vb "ValueError.__new__")), (some vT)]),
  (ob (vt "super") none (fi [(vr 146), (vr 146), (vr 146)]) []),
  (ob (vt "builtin_function_or_method") none (fi [(vb "object.__init_subclass__"), (vr 146)]) []),
  (ob (vt "tuple") none (sq [(vr 31)] 0) []),
  (ob (vt "builtin_function_or_method") none (fi [(vb "type.__prepare__"), (vt "type")]) []),
  (ob (vt "dict") none (di [de P "__module__" 371 (vs "coverstore.errors" 194), de P "__qualname__" 373 (vs "InvalidName" 372), de P "__firstlineno__" 375 (vi 37 374), de P "__init__" 383 (vr 162), de P "__static_attributes__" 385 (vr 163)] 5) []),
  (ob (vt "tuple") none (sq [] 0) []),
  (ob vN none (fi [(vi 39 0), (vi 4 0), (vr 161)]) []),
  (ob (vt "code") none (fi [(vs "InvalidName" 366), (vs "InvalidName" 367), (vs "/claim/cut.py" 368), (vi 37 0), (vi 0 0), (vi 0 0), (vi 0 0), (vi 0 0), (vr 152), vF, (vi 181 0), (vr 153), vN, vN, vN, vN, (vi 369 0), (vi 37 0), (vs "/claim/cut.py" 370)]) []),
  (ob (vt "frame") none .plain [(some (vr 154)), (some (vr 3)), (some (vr 151)), none, (some (vs "coverstore.errors" 194)), none, (some (vr 0))]),
  (ob (vt "tuple") none (sq [] 0) []),
  (ob vN none (fi []) []),
  (ob (vt "tuple") none (sq [(vs "self" 379), (vs "value" 380)] 0) []),
  (ob (vt "tuple") none (sq [] 0) [])]
def o1_10 (P : Params) : List Obj := [
  (ob vN none (.func (fu (inClass (top 9) 0) "__init__" "InvalidName.__init__" 0 [] vN vN vN vN none vN vN 0)) []),
  (ob (vt "code") none (fi [(vs "__init__" 376), (vs "InvalidName.__init__" 377), (vs "/claim/cut.py" 378), (vi 39 0), (vi 2 0), (vi 0 0), (vi 0 0), (vi 3 0), (vr 156), vT, (vi 181 0), (vr 157), vN, (vr 158), (vr 159), (vr 160), (vi 381 0), (vi 39 0), (vs "/claim/cut.py" 382)]) []),
  (ob (vt "function") none (.func (fu (inClass (top 9) 0) "__init__" "InvalidName.__init__" 3 [] vN vN vN (vs "coverstore.errors" 194) none (vr 161) vN 0)) []),
  (ob (vt "tuple") none (sq [(vs "value" 384)] 0) []),
  (ob (vt "dict") none (di [de P "__module__" 371 (vs "coverstore.errors" 194), de P "__firstlineno__" 375 (vi 37 374), de P "__init__" 383 (vr 162), de P "__static_attributes__" 385 (vr 163), de P "__doc__" 386 vN] 2) []),
  (ob (vt "type") none (.cls ⟨"InvalidName", [(vr 31)], [(vr 165), (vr 31), (vt "ValueError"), (vt "Exception"), (vt "BaseException"), (vt "object")], 164, "InvalidName", true, [], [], false, none, false⟩) [(some (vr 149)), none, (some (vs "InvalidName" 364)), (some (vs "InvalidName" 372)), (some (vb "ValueError.__new__")), (some vT)]),
  (ob (vt "super") none (fi [(vr 165), (vr 165), (vr 165)]) []),
  (ob (vt "builtin_function_or_method") none (fi [(vb "object.__init_subclass__"), (vr 165)]) []),
  (ob (vt "tuple") none (sq [(vr 31)] 0) []),
  (ob (vt "builtin_function_or_method") none (fi [(vb "type.__prepare__"), (vt "type")]) []),
  (ob (vt "dict") none (di [de P "__module__" 396 (vs "coverstore.errors" 194), de P "__qualname__" 398 (vs "InvalidColumns" 397), de P "__firstlineno__" 400 (vi 42 399), de P "__init__" 408 (vr 181), de P "__static_attributes__" 410 (vr 182)] 5) []),
  (ob (vt "tuple") none (sq [] 0) []),
  (ob vN none (fi [(vi 44 0), (vi 4 0), (vr 180)]) []),
  (ob (vt "code") none (fi [(vs "InvalidColumns" 391), (vs "InvalidColumns" 392), (vs "/claim/cut.py" 393), (vi 42 0), (vi 0 0), (vi 0 0), (vi 0 0), (vi 0 0), (vr 171), vF, (vi 181 0), (vr 172), vN, vN, vN, vN, (vi 394 0), (vi 42 0), (vs "/claim/cut.py" 395)]) []),
  (ob (vt "frame") none .plain [(some (vr 173)), (some (vr 3)), (some (vr 170)), none, (some (vs "coverstore.errors" 194)), none, (some (vr 0))]),
  (ob (vt "tuple") none (sq [] 0) [])]
def o1_11 (P : Params) : List Obj := [
  (ob vN none (fi []) []),
  (ob (vt "tuple") none (sq [(vs "self" 404), (vs "value" 405)] 0) []),
  (ob (vt "tuple") none (sq [] 0) []),
  (ob vN none (.func (fu (inClass (top 10) 0) "__init__" "InvalidColumns.__init__" 0 [] vN vN vN vN none vN vN 0)) []),
  (ob (vt "code") none (fi [(vs "__init__" 401), (vs "InvalidColumns.__init__" 402), (vs "/claim/cut.py" 403), (vi 44 0), (vi 2 0), (vi 0 0), (vi 0 0), (vi 3 0), (vr 175), vT, (vi 181 0), (vr 176), vN, (vr 177), (vr 178), (vr 179), (vi 406 0), (vi 44 0), (vs "/claim/cut.py" 407)]) []),
  (ob (vt "function") none (.func (fu (inClass (top 10) 0) "__init__" "InvalidColumns.__init__" 3 [] vN vN vN (vs "coverstore.errors" 194) none (vr 180) vN 0)) []),
  (ob (vt "tuple") none (sq [(vs "value" 409)] 0) []),
  (ob (vt "dict") none (di [de P "__module__" 396 (vs "coverstore.errors" 194), de P "__firstlineno__" 400 (vi 42 399), de P "__init__" 408 (vr 181), de P "__static_attributes__" 410 (vr 182), de P "__doc__" 411 vN] 2) []),
  (ob (vt "type") none (.cls ⟨"InvalidColumns", [(vr 31)], [(vr 184), (vr 31), (vt "ValueError"), (vt "Exception"), (vt "BaseException"), (vt "object")], 183, "InvalidColumns", true, [], [], false, none, false⟩) [(some (vr 168)), none, (some (vs "InvalidColumns" 389)), (some (vs "InvalidColumns" 397)), (some (vb "ValueError.__new__")), (some vT)]),
  (ob (vt "super") none (fi [(vr 184), (vr 184), (vr 184)]) []),
  (ob (vt "builtin_function_or_method") none (fi [(vb "object.__init_subclass__"), (vr 184)]) []),
  (ob (vt "tuple") none (sq [(vr 31)] 0) []),
  (ob (vt "builtin_function_or_method") none (fi [(vb "type.__prepare__"), (vt "type")]) []),
  (ob (vt "dict") none (di [de P "__module__" 421 (vs "coverstore.errors" 194), de P "__qualname__" 423 (vs "InvalidOrder" 422), de P "__firstlineno__" 425 (vi 47 424), de P "__init__" 433 (vr 200), de P "__static_attributes__" 435 (vr 201)] 5) []),
  (ob (vt "tuple") none (sq [] 0) []),
  (ob vN none (fi [(vi 49 0), (vi 4 0), (vr 199)]) [])]
def o1_12 (P : Params) : List Obj := [
  (ob (vt "code") none (fi [(vs "InvalidOrder" 416), (vs "InvalidOrder" 417), (vs "/claim/cut.py" 418), (vi 47 0), (vi 0 0), (vi 0 0), (vi 0 0), (vi 0 0), (vr 190), vF, (vi 181 0), (vr 191), vN, vN, vN, vN, (vi 419 0), (vi 47 0), (vs "/claim/cut.py" 420)]) []),
  (ob (vt "frame") none .plain [(some (vr 192)), (some (vr 3)), (some (vr 189)), none, (some (vs "coverstore.errors" 194)), none, (some (vr 0))]),
  (ob (vt "tuple") none (sq [] 0) []),
  (ob vN none (fi []) []),
  (ob (vt "tuple") none (sq [(vs "self" 429), (vs "position" 430)] 0) []),
  (ob (vt "tuple") none (sq [] 0) []),
  (ob vN none (.func (fu (inClass (top 11) 0) "__init__" "InvalidOrder.__init__" 0 [] vN vN vN vN none vN vN 0)) []),
  (ob (vt "code") none (fi [(vs "__init__" 426), (vs "InvalidOrder.__init__" 427), (vs "/claim/cut.py" 428), (vi 49 0), (vi 2 0), (vi 0 0), (vi 0 0), (vi 3 0), (vr 194), vT, (vi 181 0), (vr 195), vN, (vr 196), (vr 197), (vr 198), (vi 431 0), (vi 49 0), (vs "/claim/cut.py" 432)]) []),
  (ob (vt "function") none (.func (fu (inClass (top 11) 0) "__init__" "InvalidOrder.__init__" 3 [] vN vN vN (vs "coverstore.errors" 194) none (vr 199) vN 0)) []),
  (ob (vt "tuple") none (sq [(vs "position" 434)] 0) []),
  (ob (vt "dict") none (di [de P "__module__" 421 (vs "coverstore.errors" 194), de P "__firstlineno__" 425 (vi 47 424), de P "__init__" 433 (vr 200), de P "__static_attributes__" 435 (vr 201), de P "__doc__" 436 vN] 2) []),
  (ob (vt "type") none (.cls ⟨"InvalidOrder", [(vr 31)], [(vr 203), (vr 31), (vt "ValueError"), (vt "Exception"), (vt "BaseException"), (vt "object")], 202, "InvalidOrder", true, [], [], false, none, false⟩) [(some (vr 187)), none, (some (vs "InvalidOrder" 414)), (some (vs "InvalidOrder" 422)), (some (vb "ValueError.__new__")), (some vT)]),
  (ob (vt "super") none (fi [(vr 203), (vr 203), (vr 203)]) []),
  (ob (vt "builtin_function_or_method") none (fi [(vb "object.__init_subclass__"), (vr 203)]) []),
  (ob (vt "tuple") none (sq [(vr 31)] 0) []),
  (ob (vt "builtin_function_or_method") none (fi [(vb "type.__prepare__"), (vt "type")]) [])]
def o1_13 (P : Params) : List Obj := [
  (ob (vt "dict") none (di [de P "__module__" 446 (vs "coverstore.errors" 194), de P "__qualname__" 448 (vs "InvalidKey" 447), de P "__firstlineno__" 450 (vi 52 449), de P "__init__" 458 (vr 219), de P "__static_attributes__" 460 (vr 220)] 5) []),
  (ob (vt "tuple") none (sq [] 0) []),
  (ob vN none (fi [(vi 54 0), (vi 4 0), (vr 218)]) []),
  (ob (vt "code") none (fi [(vs "InvalidKey" 441), (vs "InvalidKey" 442), (vs "/claim/cut.py" 443), (vi 52 0), (vi 0 0), (vi 0 0), (vi 0 0), (vi 0 0), (vr 209), vF, (vi 181 0), (vr 210), vN, vN, vN, vN, (vi 444 0), (vi 52 0), (vs "/claim/cut.py" 445)]) []),
  (ob (vt "frame") none .plain [(some (vr 211)), (some (vr 3)), (some (vr 208)), none, (some (vs "coverstore.errors" 194)), none, (some (vr 0))]),
  (ob (vt "tuple") none (sq [] 0) []),
  (ob vN none (fi []) []),
  (ob (vt "tuple") none (sq [(vs "self" 454), (vs "value" 455)] 0) []),
  (ob (vt "tuple") none (sq [] 0) []),
  (ob vN none (.func (fu (inClass (top 12) 0) "__init__" "InvalidKey.__init__" 0 [] vN vN vN vN none vN vN 0)) []),
  (ob (vt "code") none (fi [(vs "__init__" 451), (vs "InvalidKey.__init__" 452), (vs "/claim/cut.py" 453), (vi 54 0), (vi 2 0), (vi 0 0), (vi 0 0), (vi 3 0), (vr 213), vT, (vi 181 0), (vr 214), vN, (vr 215), (vr 216), (vr 217), (vi 456 0), (vi 54 0), (vs "/claim/cut.py" 457)]) []),
  (ob (vt "function") none (.func (fu (inClass (top 12) 0) "__init__" "InvalidKey.__init__" 3 [] vN vN vN (vs "coverstore.errors" 194) none (vr 218) vN 0)) []),
  (ob (vt "tuple") none (sq [(vs "value" 459)] 0) []),
  (ob (vt "dict") none (di [de P "__module__" 446 (vs "coverstore.errors" 194), de P "__firstlineno__" 450 (vi 52 449), de P "__init__" 458 (vr 219), de P "__static_attributes__" 460 (vr 220), de P "__doc__" 461 vN] 2) []),
  (ob (vt "type") none (.cls ⟨"InvalidKey", [(vr 31)], [(vr 222), (vr 31), (vt "ValueError"), (vt "Exception"), (vt "BaseException"), (vt "object")], 221, "InvalidKey", true, [], [], false, none, false⟩) [(some (vr 206)), none, (some (vs "InvalidKey" 439)), (some (vs "InvalidKey" 447)), (some (vb "ValueError.__new__")), (some vT)]),
  (ob (vt "super") none (fi [(vr 222), (vr 222), (vr 222)]) [])]
def o1_14 (P : Params) : List Obj := [
  (ob (vt "builtin_function_or_method") none (fi [(vb "object.__init_subclass__"), (vr 222)]) []),
  (ob (vt "tuple") none (sq [(vr 31)] 0) []),
  (ob (vt "builtin_function_or_method") none (fi [(vb "type.__prepare__"), (vt "type")]) []),
  (ob (vt "dict") none (di [de P "__module__" 471 (vs "coverstore.errors" 194), de P "__qualname__" 473 (vs "InvalidWrite" 472), de P "__firstlineno__" 475 (vi 57 474), de P "__init__" 483 (vr 238), de P "__static_attributes__" 485 (vr 239)] 5) []),
  (ob (vt "tuple") none (sq [] 0) []),
  (ob vN none (fi [(vi 59 0), (vi 4 0), (vr 237)]) []),
  (ob (vt "code") none (fi [(vs "InvalidWrite" 466), (vs "InvalidWrite" 467), (vs "/claim/cut.py" 468), (vi 57 0), (vi 0 0), (vi 0 0), (vi 0 0), (vi 0 0), (vr 228), vF, (vi 181 0), (vr 229), vN, vN, vN, vN, (vi 469 0), (vi 57 0), (vs "/claim/cut.py" 470)]) []),
  (ob (vt "frame") none .plain [(some (vr 230)), (some (vr 3)), (some (vr 227)), none, (some (vs "coverstore.errors" 194)), none, (some (vr 0))]),
  (ob (vt "tuple") none (sq [] 0) []),
  (ob vN none (fi []) []),
  (ob (vt "tuple") none (sq [(vs "self" 479), (vs "position" 480)] 0) []),
  (ob (vt "tuple") none (sq [] 0) []),
  (ob vN none (.func (fu (inClass (top 13) 0) "__init__" "InvalidWrite.__init__" 0 [] vN vN vN vN none vN vN 0)) []),
  (ob (vt "code") none (fi [(vs "__init__" 476), (vs "InvalidWrite.__init__" 477), (vs "/claim/cut.py" 478), (vi 59 0), (vi 2 0), (vi 0 0), (vi 0 0), (vi 3 0), (vr 232), vT, (vi 181 0), (vr 233), vN, (vr 234), (vr 235), (vr 236), (vi 481 0), (vi 59 0), (vs "/claim/cut.py" 482)]) []),
  (ob (vt "function") none (.func (fu (inClass (top 13) 0) "__init__" "InvalidWrite.__init__" 3 [] vN vN vN (vs "coverstore.errors" 194) none (vr 237) vN 0)) []),
  (ob (vt "tuple") none (sq [(vs "position" 484)] 0) [])]
def o1_15 (P : Params) : List Obj := [
  (ob (vt "dict") none (di [de P "__module__" 471 (vs "coverstore.errors" 194), de P "__firstlineno__" 475 (vi 57 474), de P "__init__" 483 (vr 238), de P "__static_attributes__" 485 (vr 239), de P "__doc__" 486 vN] 2) []),
  (ob (vt "type") none (.cls ⟨"InvalidWrite", [(vr 31)], [(vr 241), (vr 31), (vt "ValueError"), (vt "Exception"), (vt "BaseException"), (vt "object")], 240, "InvalidWrite", true, [], [], false, none, false⟩) [(some (vr 225)), none, (some (vs "InvalidWrite" 464)), (some (vs "InvalidWrite" 472)), (some (vb "ValueError.__new__")), (some vT)]),
  (ob (vt "super") none (fi [(vr 241), (vr 241), (vr 241)]) []),
  (ob (vt "builtin_function_or_method") none (fi [(vb "object.__init_subclass__"), (vr 241)]) []),
  (ob (vt "tuple") none (sq [(vr 31)] 0) []),
  (ob (vt "builtin_function_or_method") none (fi [(vb "type.__prepare__"), (vt "type")]) []),
  (ob (vt "dict") none (di [de P "__module__" 496 (vs "coverstore.errors" 194), de P "__qualname__" 498 (vs "InvalidQuery" 497), de P "__firstlineno__" 500 (vi 62 499), de P "__init__" 509 (vr 257), de P "__static_attributes__" 512 (vr 258)] 5) []),
  (ob (vt "tuple") none (sq [] 0) []),
  (ob vN none (fi [(vi 64 0), (vi 4 0), (vr 256)]) []),
  (ob (vt "code") none (fi [(vs "InvalidQuery" 491), (vs "InvalidQuery" 492), (vs "/claim/cut.py" 493), (vi 62 0), (vi 0 0), (vi 0 0), (vi 0 0), (vi 0 0), (vr 247), vF, (vi 181 0), (vr 248), vN, vN, vN, vN, (vi 494 0), (vi 62 0), (vs "/claim/cut.py" 495)]) []),
  (ob (vt "frame") none .plain [(some (vr 249)), (some (vr 3)), (some (vr 246)), none, (some (vs "coverstore.errors" 194)), none, (some (vr 0))]),
  (ob (vt "tuple") none (sq [] 0) []),
  (ob vN none (fi []) []),
  (ob (vt "tuple") none (sq [(vs "self" 504), (vs "problem" 505), (vs "position" 506)] 0) []),
  (ob (vt "tuple") none (sq [] 0) []),
  (ob vN none (.func (fu (inClass (top 14) 0) "__init__" "InvalidQuery.__init__" 0 [] vN vN vN vN none vN vN 0)) [])]
def o1_16 (P : Params) : List Obj := [
  (ob (vt "code") none (fi [(vs "__init__" 501), (vs "InvalidQuery.__init__" 502), (vs "/claim/cut.py" 503), (vi 64 0), (vi 3 0), (vi 0 0), (vi 0 0), (vi 3 0), (vr 251), vT, (vi 181 0), (vr 252), vN, (vr 253), (vr 254), (vr 255), (vi 507 0), (vi 64 0), (vs "/claim/cut.py" 508)]) []),
  (ob (vt "function") none (.func (fu (inClass (top 14) 0) "__init__" "InvalidQuery.__init__" 3 [] vN vN vN (vs "coverstore.errors" 194) none (vr 256) vN 0)) []),
  (ob (vt "tuple") none (sq [(vs "position" 510), (vs "problem" 511)] 0) []),
  (ob (vt "dict") none (di [de P "__module__" 496 (vs "coverstore.errors" 194), de P "__firstlineno__" 500 (vi 62 499), de P "__init__" 509 (vr 257), de P "__static_attributes__" 512 (vr 258), de P "__doc__" 513 vN] 2) []),
  (ob (vt "type") none (.cls ⟨"InvalidQuery", [(vr 31)], [(vr 260), (vr 31), (vt "ValueError"), (vt "Exception"), (vt "BaseException"), (vt "object")], 259, "InvalidQuery", true, [], [], false, none, false⟩) [(some (vr 244)), none, (some (vs "InvalidQuery" 489)), (some (vs "InvalidQuery" 497)), (some (vb "ValueError.__new__")), (some vT)]),
  (ob (vt "super") none (fi [(vr 260), (vr 260), (vr 260)]) []),
  (ob (vt "builtin_function_or_method") none (fi [(vb "object.__init_subclass__"), (vr 260)]) []),
  (ob (vt "tuple") none (sq [(vr 31)] 0) []),
  (ob (vt "builtin_function_or_method") none (fi [(vb "type.__prepare__"), (vt "type")]) []),
  (ob (vt "dict") none (di [de P "__module__" 523 (vs "coverstore.errors" 194), de P "__qualname__" 525 (vs "InvalidText" 524), de P "__firstlineno__" 527 (vi 68 526), de P "__init__" 535 (vr 276), de P "__static_attributes__" 537 (vr 277)] 5) []),
  (ob (vt "tuple") none (sq [] 0) []),
  (ob vN none (fi [(vi 70 0), (vi 4 0), (vr 275)]) []),
  (ob (vt "code") none (fi [(vs "InvalidText" 518), (vs "InvalidText" 519), (vs "/claim/cut.py" 520), (vi 68 0), (vi 0 0), (vi 0 0), (vi 0 0), (vi 0 0), (vr 266), vF, (vi 181 0), (vr 267), vN, vN, vN, vN, (vi 521 0), (vi 68 0), (vs "/claim/cut.py" 522)]) []),
  (ob (vt "frame") none .plain [(some (vr 268)), (some (vr 3)), (some (vr 265)), none, (some (vs "coverstore.errors" 194)), none, (some (vr 0))]),
  (ob (vt "tuple") none (sq [] 0) []),
  (ob vN none (fi []) [])]
def o1_17 (P : Params) : List Obj := [
  (ob (vt "tuple") none (sq [(vs "self" 531), (vs "value" 532)] 0) []),
  (ob (vt "tuple") none (sq [] 0) []),
  (ob vN none (.func (fu (inClass (top 15) 0) "__init__" "InvalidText.__init__" 0 [] vN vN vN vN none vN vN 0)) []),
  (ob (vt "code") none (fi [(vs "__init__" 528), (vs "InvalidText.__init__" 529), (vs "/claim/cut.py" 530), (vi 70 0), (vi 2 0), (vi 0 0), (vi 0 0), (vi 3 0), (vr 270), vT, (vi 181 0), (vr 271), vN, (vr 272), (vr 273), (vr 274), (vi 533 0), (vi 70 0), (vs "/claim/cut.py" 534)]) []),
  (ob (vt "function") none (.func (fu (inClass (top 15) 0) "__init__" "InvalidText.__init__" 3 [] vN vN vN (vs "coverstore.errors" 194) none (vr 275) vN 0)) []),
  (ob (vt "tuple") none (sq [(vs "value" 536)] 0) []),
  (ob (vt "dict") none (di [de P "__module__" 523 (vs "coverstore.errors" 194), de P "__firstlineno__" 527 (vi 68 526), de P "__init__" 535 (vr 276), de P "__static_attributes__" 537 (vr 277), de P "__doc__" 538 vN] 2) []),
  (ob (vt "type") none (.cls ⟨"InvalidText", [(vr 31)], [(vr 279), (vr 31), (vt "ValueError"), (vt "Exception"), (vt "BaseException"), (vt "object")], 278, "InvalidText", true, [], [], false, none, false⟩) [(some (vr 263)), none, (some (vs "InvalidText" 516)), (some (vs "InvalidText" 524)), (some (vb "ValueError.__new__")), (some vT)]),
  (ob (vt "super") none (fi [(vr 279), (vr 279), (vr 279)]) []),
  (ob (vt "builtin_function_or_method") none (fi [(vb "object.__init_subclass__"), (vr 279)]) []),
  (ob (vt "tuple") none (sq [(vr 31)] 0) []),
  (ob (vt "builtin_function_or_method") none (fi [(vb "type.__prepare__"), (vt "type")]) []),
  (ob (vt "dict") none (di [de P "__module__" 548 (vs "coverstore.errors" 194), de P "__qualname__" 550 (vs "InvalidPaper" 549), de P "__firstlineno__" 552 (vi 73 551), de P "__init__" 560 (vr 295), de P "__static_attributes__" 562 (vr 296)] 5) []),
  (ob (vt "tuple") none (sq [] 0) []),
  (ob vN none (fi [(vi 75 0), (vi 4 0), (vr 294)]) []),
  (ob (vt "code") none (fi [(vs "InvalidPaper" 543), (vs "InvalidPaper" 544), (vs "/claim/cut.py" 545), (vi 73 0), (vi 0 0), (vi 0 0), (vi 0 0), (vi 0 0), (vr 285), vF, (vi 181 0), (vr 286), vN, vN, vN, vN, (vi 546 0), (vi 73 0), (vs "/claim/cut.py" 547)]) [])]
def o1_18 (P : Params) : List Obj := [
  (ob (vt "frame") none .plain [(some (vr 287)), (some (vr 3)), (some (vr 284)), none, (some (vs "coverstore.errors" 194)), none, (some (vr 0))]),
  (ob (vt "tuple") none (sq [] 0) []),
  (ob vN none (fi []) []),
  (ob (vt "tuple") none (sq [(vs "self" 556), (vs "position" 557)] 0) []),
  (ob (vt "tuple") none (sq [] 0) []),
  (ob vN none (.func (fu (inClass (top 16) 0) "__init__" "InvalidPaper.__init__" 0 [] vN vN vN vN none vN vN 0)) []),
  (ob (vt "code") none (fi [(vs "__init__" 553), (vs "InvalidPaper.__init__" 554), (vs "/claim/cut.py" 555), (vi 75 0), (vi 2 0), (vi 0 0), (vi 0 0), (vi 3 0), (vr 289), vT, (vi 181 0), (vr 290), vN, (vr 291), (vr 292), (vr 293), (vi 558 0), (vi 75 0), (vs "/claim/cut.py" 559)]) []),
  (ob (vt "function") none (.func (fu (inClass (top 16) 0) "__init__" "InvalidPaper.__init__" 3 [] vN vN vN (vs "coverstore.errors" 194) none (vr 294) vN 0)) []),
  (ob (vt "tuple") none (sq [(vs "position" 561)] 0) []),
  (ob (vt "dict") none (di [de P "__module__" 548 (vs "coverstore.errors" 194), de P "__firstlineno__" 552 (vi 73 551), de P "__init__" 560 (vr 295), de P "__static_attributes__" 562 (vr 296), de P "__doc__" 563 vN] 2) []),
  (ob (vt "type") none (.cls ⟨"InvalidPaper", [(vr 31)], [(vr 298), (vr 31), (vt "ValueError"), (vt "Exception"), (vt "BaseException"), (vt "object")], 297, "InvalidPaper", true, [], [], false, none, false⟩) [(some (vr 282)), none, (some (vs "InvalidPaper" 541)), (some (vs "InvalidPaper" 549)), (some (vb "ValueError.__new__")), (some vT)]),
  (ob (vt "super") none (fi [(vr 298), (vr 298), (vr 298)]) []),
  (ob (vt "builtin_function_or_method") none (fi [(vb "object.__init_subclass__"), (vr 298)]) []),
  (ob (vt "tuple") none (sq [(vr 31)] 0) []),
  (ob (vt "builtin_function_or_method") none (fi [(vb "type.__prepare__"), (vt "type")]) []),
  (ob (vt "dict") none (di [de P "__module__" 573 (vs "coverstore.errors" 194), de P "__qualname__" 575 (vs "InvalidLimit" 574), de P "__firstlineno__" 577 (vi 78 576), de P "__init__" 585 (vr 314), de P "__static_attributes__" 587 (vr 315)] 5) [])]
def o1_19 (P : Params) : List Obj := [
  (ob (vt "tuple") none (sq [] 0) []),
  (ob vN none (fi [(vi 80 0), (vi 4 0), (vr 313)]) []),
  (ob (vt "code") none (fi [(vs "InvalidLimit" 568), (vs "InvalidLimit" 569), (vs "/claim/cut.py" 570), (vi 78 0), (vi 0 0), (vi 0 0), (vi 0 0), (vi 0 0), (vr 304), vF, (vi 181 0), (vr 305), vN, vN, vN, vN, (vi 571 0), (vi 78 0), (vs "/claim/cut.py" 572)]) []),
  (ob (vt "frame") none .plain [(some (vr 306)), (some (vr 3)), (some (vr 303)), none, (some (vs "coverstore.errors" 194)), none, (some (vr 0))]),
  (ob (vt "tuple") none (sq [] 0) []),
  (ob vN none (fi []) []),
  (ob (vt "tuple") none (sq [(vs "self" 581), (vs "value" 582)] 0) []),
  (ob (vt "tuple") none (sq [] 0) []),
  (ob vN none (.func (fu (inClass (top 17) 0) "__init__" "InvalidLimit.__init__" 0 [] vN vN vN vN none vN vN 0)) []),
  (ob (vt "code") none (fi [(vs "__init__" 578), (vs "InvalidLimit.__init__" 579), (vs "/claim/cut.py" 580), (vi 80 0), (vi 2 0), (vi 0 0), (vi 0 0), (vi 3 0), (vr 308), vT, (vi 181 0), (vr 309), vN, (vr 310), (vr 311), (vr 312), (vi 583 0), (vi 80 0), (vs "/claim/cut.py" 584)]) []),
  (ob (vt "function") none (.func (fu (inClass (top 17) 0) "__init__" "InvalidLimit.__init__" 3 [] vN vN vN (vs "coverstore.errors" 194) none (vr 313) vN 0)) []),
  (ob (vt "tuple") none (sq [(vs "value" 586)] 0) []),
  (ob (vt "dict") none (di [de P "__module__" 573 (vs "coverstore.errors" 194), de P "__firstlineno__" 577 (vi 78 576), de P "__init__" 585 (vr 314), de P "__static_attributes__" 587 (vr 315), de P "__doc__" 588 vN] 2) []),
  (ob (vt "type") none (.cls ⟨"InvalidLimit", [(vr 31)], [(vr 317), (vr 31), (vt "ValueError"), (vt "Exception"), (vt "BaseException"), (vt "object")], 316, "InvalidLimit", true, [], [], false, none, false⟩) [(some (vr 301)), none, (some (vs "InvalidLimit" 566)), (some (vs "InvalidLimit" 574)), (some (vb "ValueError.__new__")), (some vT)]),
  (ob (vt "super") none (fi [(vr 317), (vr 317), (vr 317)]) []),
  (ob (vt "builtin_function_or_method") none (fi [(vb "object.__init_subclass__"), (vr 317)]) [])]
def o1_20 (P : Params) : List Obj := [
  (ob (vt "tuple") none (sq [(vr 31)] 0) []),
  (ob (vt "builtin_function_or_method") none (fi [(vb "type.__prepare__"), (vt "type")]) []),
  (ob (vt "dict") none (di [de P "__module__" 598 (vs "coverstore.errors" 194), de P "__qualname__" 600 (vs "InvalidPage" 599), de P "__firstlineno__" 602 (vi 83 601), de P "__init__" 610 (vr 333), de P "__static_attributes__" 612 (vr 334)] 5) []),
  (ob (vt "tuple") none (sq [] 0) []),
  (ob vN none (fi [(vi 85 0), (vi 4 0), (vr 332)]) []),
  (ob (vt "code") none (fi [(vs "InvalidPage" 593), (vs "InvalidPage" 594), (vs "/claim/cut.py" 595), (vi 83 0), (vi 0 0), (vi 0 0), (vi 0 0), (vi 0 0), (vr 323), vF, (vi 181 0), (vr 324), vN, vN, vN, vN, (vi 596 0), (vi 83 0), (vs "/claim/cut.py" 597)]) []),
  (ob (vt "frame") none .plain [(some (vr 325)), (some (vr 3)), (some (vr 322)), none, (some (vs "coverstore.errors" 194)), none, (some (vr 0))]),
  (ob (vt "tuple") none (sq [] 0) []),
  (ob vN none (fi []) []),
  (ob (vt "tuple") none (sq [(vs "self" 606), (vs "value" 607)] 0) []),
  (ob (vt "tuple") none (sq [] 0) []),
  (ob vN none (.func (fu (inClass (top 18) 0) "__init__" "InvalidPage.__init__" 0 [] vN vN vN vN none vN vN 0)) []),
  (ob (vt "code") none (fi [(vs "__init__" 603), (vs "InvalidPage.__init__" 604), (vs "/claim/cut.py" 605), (vi 85 0), (vi 2 0), (vi 0 0), (vi 0 0), (vi 3 0), (vr 327), vT, (vi 181 0), (vr 328), vN, (vr 329), (vr 330), (vr 331), (vi 608 0), (vi 85 0), (vs "/claim/cut.py" 609)]) []),
  (ob (vt "function") none (.func (fu (inClass (top 18) 0) "__init__" "InvalidPage.__init__" 3 [] vN vN vN (vs "coverstore.errors" 194) none (vr 332) vN 0)) []),
  (ob (vt "tuple") none (sq [(vs "value" 611)] 0) []),
  (ob (vt "dict") none (di [de P "__module__" 598 (vs "coverstore.errors" 194), de P "__firstlineno__" 602 (vi 83 601), de P "__init__" 610 (vr 333), de P "__static_attributes__" 612 (vr 334), de P "__doc__" 613 vN] 2) [])]
def o1_21 (P : Params) : List Obj := [
  (ob (vt "type") none (.cls ⟨"InvalidPage", [(vr 31)], [(vr 336), (vr 31), (vt "ValueError"), (vt "Exception"), (vt "BaseException"), (vt "object")], 335, "InvalidPage", true, [], [], false, none, false⟩) [(some (vr 320)), none, (some (vs "InvalidPage" 591)), (some (vs "InvalidPage" 599)), (some (vb "ValueError.__new__")), (some vT)]),
  (ob (vt "super") none (fi [(vr 336), (vr 336), (vr 336)]) []),
  (ob (vt "builtin_function_or_method") none (fi [(vb "object.__init_subclass__"), (vr 336)]) []),
  (ob (vt "tuple") none (sq [(vt "LookupError")] 0) []),
  (ob (vt "builtin_function_or_method") none (fi [(vb "type.__prepare__"), (vt "type")]) []),
  (ob (vt "dict") none (di [de P "__module__" 623 (vs "coverstore.errors" 194), de P "__qualname__" 625 (vs "UnknownTable" 624), de P "__firstlineno__" 627 (vi 88 626), de P "__init__" 635 (vr 352), de P "__static_attributes__" 637 (vr 353)] 5) []),
  (ob (vt "tuple") none (sq [] 0) []),
  (ob vN none (fi [(vi 90 0), (vi 4 0), (vr 351)]) []),
  (ob (vt "code") none (fi [(vs "UnknownTable" 618), (vs "UnknownTable" 619), (vs "/claim/cut.py" 620), (vi 88 0), (vi 0 0), (vi 0 0), (vi 0 0), (vi 0 0), (vr 342), vF, (vi 181 0), (vr 343), vN, vN, vN, vN, (vi 621 0), (vi 88 0), (vs "/claim/cut.py" 622)]) []),
  (ob (vt "frame") none .plain [(some (vr 344)), (some (vr 3)), (some (vr 341)), none, (some (vs "coverstore.errors" 194)), none, (some (vr 0))]),
  (ob (vt "tuple") none (sq [] 0) []),
  (ob vN none (fi []) []),
  (ob (vt "tuple") none (sq [(vs "self" 631), (vs "value" 632)] 0) []),
  (ob (vt "tuple") none (sq [] 0) []),
  (ob vN none (.func (fu (inClass (top 19) 0) "__init__" "UnknownTable.__init__" 0 [] vN vN vN vN none vN vN 0)) []),
  (ob (vt "code") none (fi [(vs "__init__" 628), (vs "UnknownTable.__init__" 629), (vs "/claim/cut.py" 630), (vi 90 0), (vi 2 0), (vi 0 0), (vi 0 0), (vi 3 0), (vr 346), vT, (vi 181 0), (vr 347), vN, (vr 348), (vr 349), (vr 350), (vi 633 0), (vi 90 0), (vs "/claim/cut.py" 634)]) [])]
def o1_22 (P : Params) : List Obj := [
  (ob (vt "function") none (.func (fu (inClass (top 19) 0) "__init__" "UnknownTable.__init__" 3 [] vN vN vN (vs "coverstore.errors" 194) none (vr 351) vN 0)) []),
  (ob (vt "tuple") none (sq [(vs "value" 636)] 0) []),
  (ob (vt "dict") none (di [de P "__module__" 623 (vs "coverstore.errors" 194), de P "__firstlineno__" 627 (vi 88 626), de P "__init__" 635 (vr 352), de P "__static_attributes__" 637 (vr 353), de P "__weakref__" 639 (vr 356), de P "__doc__" 640 vN] 3) []),
  (ob (vt "type") none (.cls ⟨"UnknownTable", [(vt "LookupError")], [(vr 355), (vt "LookupError"), (vt "Exception"), (vt "BaseException"), (vt "object")], 354, "UnknownTable", true, [], [], false, none, false⟩) [(some (vr 339)), none, (some (vs "UnknownTable" 616)), (some (vs "UnknownTable" 624)), (some (vb "LookupError.__new__")), (some vT)]),
  (ob (vt "getset_descriptor") none (fi [(vs "__weakref__" 638), (vr 355), (vb "ExceptionGroup.__weakref__"), vN]) []),
  (ob (vt "super") none (fi [(vr 355), (vr 355), (vr 355)]) []),
  (ob (vt "builtin_function_or_method") none (fi [(vb "object.__init_subclass__"), (vr 355)]) []),
  (ob (vt "tuple") none (sq [(vt "LookupError")] 0) []),
  (ob (vt "builtin_function_or_method") none (fi [(vb "type.__prepare__"), (vt "type")]) []),
  (ob (vt "dict") none (di [de P "__module__" 650 (vs "coverstore.errors" 194), de P "__qualname__" 652 (vs "UnknownVersion" 651), de P "__firstlineno__" 654 (vi 93 653), de P "__init__" 662 (vr 372), de P "__static_attributes__" 664 (vr 373)] 5) []),
  (ob (vt "tuple") none (sq [] 0) []),
  (ob vN none (fi [(vi 95 0), (vi 4 0), (vr 371)]) []),
  (ob (vt "code") none (fi [(vs "UnknownVersion" 645), (vs "UnknownVersion" 646), (vs "/claim/cut.py" 647), (vi 93 0), (vi 0 0), (vi 0 0), (vi 0 0), (vi 0 0), (vr 362), vF, (vi 181 0), (vr 363), vN, vN, vN, vN, (vi 648 0), (vi 93 0), (vs "/claim/cut.py" 649)]) []),
  (ob (vt "frame") none .plain [(some (vr 364)), (some (vr 3)), (some (vr 361)), none, (some (vs "coverstore.errors" 194)), none, (some (vr 0))]),
  (ob (vt "tuple") none (sq [] 0) []),
  (ob vN none (fi []) [])]
def o1_23 (P : Params) : List Obj := [
  (ob (vt "tuple") none (sq [(vs "self" 658), (vs "value" 659)] 0) []),
  (ob (vt "tuple") none (sq [] 0) []),
  (ob vN none (.func (fu (inClass (top 20) 0) "__init__" "UnknownVersion.__init__" 0 [] vN vN vN vN none vN vN 0)) []),
  (ob (vt "code") none (fi [(vs "__init__" 655), (vs "UnknownVersion.__init__" 656), (vs "/claim/cut.py" 657), (vi 95 0), (vi 2 0), (vi 0 0), (vi 0 0), (vi 3 0), (vr 366), vT, (vi 181 0), (vr 367), vN, (vr 368), (vr 369), (vr 370), (vi 660 0), (vi 95 0), (vs "/claim/cut.py" 661)]) []),
  (ob (vt "function") none (.func (fu (inClass (top 20) 0) "__init__" "UnknownVersion.__init__" 3 [] vN vN vN (vs "coverstore.errors" 194) none (vr 371) vN 0)) []),
  (ob (vt "tuple") none (sq [(vs "value" 663)] 0) []),
  (ob (vt "dict") none (di [de P "__module__" 650 (vs "coverstore.errors" 194), de P "__firstlineno__" 654 (vi 93 653), de P "__init__" 662 (vr 372), de P "__static_attributes__" 664 (vr 373), de P "__weakref__" 666 (vr 376), de P "__doc__" 667 vN] 3) []),
  (ob (vt "type") none (.cls ⟨"UnknownVersion", [(vt "LookupError")], [(vr 375), (vt "LookupError"), (vt "Exception"), (vt "BaseException"), (vt "object")], 374, "UnknownVersion", true, [], [], false, none, false⟩) [(some (vr 359)), none, (some (vs "UnknownVersion" 643)), (some (vs "UnknownVersion" 651)), (some (vb "LookupError.__new__")), (some vT)]),
  (ob (vt "getset_descriptor") none (fi [(vs "__weakref__" 665), (vr 375), (vb "ExceptionGroup.__weakref__"), vN]) []),
  (ob (vt "super") none (fi [(vr 375), (vr 375), (vr 375)]) []),
  (ob (vt "builtin_function_or_method") none (fi [(vb "object.__init_subclass__"), (vr 375)]) []),
  (ob (vt "tuple") none (sq [(vt "LookupError")] 0) []),
  (ob (vt "builtin_function_or_method") none (fi [(vb "type.__prepare__"), (vt "type")]) []),
  (ob (vt "dict") none (di [de P "__module__" 677 (vs "coverstore.errors" 194), de P "__qualname__" 679 (vs "TooOld" 678), de P "__firstlineno__" 681 (vi 98 680), de P "__init__" 689 (vr 392), de P "__static_attributes__" 691 (vr 393)] 5) []),
  (ob (vt "tuple") none (sq [] 0) []),
  (ob vN none (fi [(vi 100 0), (vi 4 0), (vr 391)]) [])]
def o1_24 (P : Params) : List Obj := [
  (ob (vt "code") none (fi [(vs "TooOld" 672), (vs "TooOld" 673), (vs "/claim/cut.py" 674), (vi 98 0), (vi 0 0), (vi 0 0), (vi 0 0), (vi 0 0), (vr 382), vF, (vi 181 0), (vr 383), vN, vN, vN, vN, (vi 675 0), (vi 98 0), (vs "/claim/cut.py" 676)]) []),
  (ob (vt "frame") none .plain [(some (vr 384)), (some (vr 3)), (some (vr 381)), none, (some (vs "coverstore.errors" 194)), none, (some (vr 0))]),
  (ob (vt "tuple") none (sq [] 0) []),
  (ob vN none (fi []) []),
  (ob (vt "tuple") none (sq [(vs "self" 685), (vs "least" 686)] 0) []),
  (ob (vt "tuple") none (sq [] 0) []),
  (ob vN none (.func (fu (inClass (top 21) 0) "__init__" "TooOld.__init__" 0 [] vN vN vN vN none vN vN 0)) []),
  (ob (vt "code") none (fi [(vs "__init__" 682), (vs "TooOld.__init__" 683), (vs "/claim/cut.py" 684), (vi 100 0), (vi 2 0), (vi 0 0), (vi 0 0), (vi 3 0), (vr 386), vT, (vi 181 0), (vr 387), vN, (vr 388), (vr 389), (vr 390), (vi 687 0), (vi 100 0), (vs "/claim/cut.py" 688)]) []),
  (ob (vt "function") none (.func (fu (inClass (top 21) 0) "__init__" "TooOld.__init__" 3 [] vN vN vN (vs "coverstore.errors" 194) none (vr 391) vN 0)) []),
  (ob (vt "tuple") none (sq [(vs "least" 690)] 0) []),
  (ob (vt "dict") none (di [de P "__module__" 677 (vs "coverstore.errors" 194), de P "__firstlineno__" 681 (vi 98 680), de P "__init__" 689 (vr 392), de P "__static_attributes__" 691 (vr 393), de P "__weakref__" 693 (vr 396), de P "__doc__" 694 vN] 3) []),
  (ob (vt "type") none (.cls ⟨"TooOld", [(vt "LookupError")], [(vr 395), (vt "LookupError"), (vt "Exception"), (vt "BaseException"), (vt "object")], 394, "TooOld", true, [], [], false, none, false⟩) [(some (vr 379)), none, (some (vs "TooOld" 670)), (some (vs "TooOld" 678)), (some (vb "LookupError.__new__")), (some vT)]),
  (ob (vt "getset_descriptor") none (fi [(vs "__weakref__" 692), (vr 395), (vb "ExceptionGroup.__weakref__"), vN]) []),
  (ob (vt "super") none (fi [(vr 395), (vr 395), (vr 395)]) []),
  (ob (vt "builtin_function_or_method") none (fi [(vb "object.__init_subclass__"), (vr 395)]) []),
  (ob (vt "tuple") none (sq [(vt "LookupError")] 0) [])]
def o1_25 (P : Params) : List Obj := [
  (ob (vt "builtin_function_or_method") none (fi [(vb "type.__prepare__"), (vt "type")]) []),
  (ob (vt "dict") none (di [de P "__module__" 704 (vs "coverstore.errors" 194), de P "__qualname__" 706 (vs "UnknownName" 705), de P "__firstlineno__" 708 (vi 103 707), de P "__init__" 716 (vr 412), de P "__static_attributes__" 718 (vr 413)] 5) []),
  (ob (vt "tuple") none (sq [] 0) []),
  (ob vN none (fi [(vi 105 0), (vi 4 0), (vr 411)]) []),
  (ob (vt "code") none (fi [(vs "UnknownName" 699), (vs "UnknownName" 700), (vs "/claim/cut.py" 701), (vi 103 0), (vi 0 0), (vi 0 0), (vi 0 0), (vi 0 0), (vr 402), vF, (vi 181 0), (vr 403), vN, vN, vN, vN, (vi 702 0), (vi 103 0), (vs "/claim/cut.py" 703)]) []),
  (ob (vt "frame") none .plain [(some (vr 404)), (some (vr 3)), (some (vr 401)), none, (some (vs "coverstore.errors" 194)), none, (some (vr 0))]),
  (ob (vt "tuple") none (sq [] 0) []),
  (ob vN none (fi []) []),
  (ob (vt "tuple") none (sq [(vs "self" 712), (vs "value" 713)] 0) []),
  (ob (vt "tuple") none (sq [] 0) []),
  (ob vN none (.func (fu (inClass (top 22) 0) "__init__" "UnknownName.__init__" 0 [] vN vN vN vN none vN vN 0)) []),
  (ob (vt "code") none (fi [(vs "__init__" 709), (vs "UnknownName.__init__" 710), (vs "/claim/cut.py" 711), (vi 105 0), (vi 2 0), (vi 0 0), (vi 0 0), (vi 3 0), (vr 406), vT, (vi 181 0), (vr 407), vN, (vr 408), (vr 409), (vr 410), (vi 714 0), (vi 105 0), (vs "/claim/cut.py" 715)]) []),
  (ob (vt "function") none (.func (fu (inClass (top 22) 0) "__init__" "UnknownName.__init__" 3 [] vN vN vN (vs "coverstore.errors" 194) none (vr 411) vN 0)) []),
  (ob (vt "tuple") none (sq [(vs "value" 717)] 0) []),
  (ob (vt "dict") none (di [de P "__module__" 704 (vs "coverstore.errors" 194), de P "__firstlineno__" 708 (vi 103 707), de P "__init__" 716 (vr 412), de P "__static_attributes__" 718 (vr 413), de P "__weakref__" 720 (vr 416), de P "__doc__" 721 vN] 3) []),
  (ob (vt "type") none (.cls ⟨"UnknownName", [(vt "LookupError")], [(vr 415), (vt "LookupError"), (vt "Exception"), (vt "BaseException"), (vt "object")], 414, "UnknownName", true, [], [], false, none, false⟩) [(some (vr 399)), none, (some (vs "UnknownName" 697)), (some (vs "UnknownName" 705)), (some (vb "LookupError.__new__")), (some vT)])]
def o1_26 (P : Params) : List Obj := [
  (ob (vt "getset_descriptor") none (fi [(vs "__weakref__" 719), (vr 415), (vb "ExceptionGroup.__weakref__"), vN]) []),
  (ob (vt "super") none (fi [(vr 415), (vr 415), (vr 415)]) []),
  (ob (vt "builtin_function_or_method") none (fi [(vb "object.__init_subclass__"), (vr 415)]) []),
  (ob (vt "tuple") none (sq [(vt "RuntimeError")] 0) []),
  (ob (vt "builtin_function_or_method") none (fi [(vb "type.__prepare__"), (vt "type")]) []),
  (ob (vt "dict") none (di [de P "__module__" 731 (vs "coverstore.errors" 194), de P "__qualname__" 733 (vs "NameTaken" 732), de P "__firstlineno__" 735 (vi 108 734), de P "__init__" 743 (vr 432), de P "__static_attributes__" 745 (vr 433)] 5) []),
  (ob (vt "tuple") none (sq [] 0) []),
  (ob vN none (fi [(vi 110 0), (vi 4 0), (vr 431)]) []),
  (ob (vt "code") none (fi [(vs "NameTaken" 726), (vs "NameTaken" 727), (vs "/claim/cut.py" 728), (vi 108 0), (vi 0 0), (vi 0 0), (vi 0 0), (vi 0 0), (vr 422), vF, (vi 181 0), (vr 423), vN, vN, vN, vN, (vi 729 0), (vi 108 0), (vs "/claim/cut.py" 730)]) []),
  (ob (vt "frame") none .plain [(some (vr 424)), (some (vr 3)), (some (vr 421)), none, (some (vs "coverstore.errors" 194)), none, (some (vr 0))]),
  (ob (vt "tuple") none (sq [] 0) []),
  (ob vN none (fi []) []),
  (ob (vt "tuple") none (sq [(vs "self" 739), (vs "name" 740)] 0) []),
  (ob (vt "tuple") none (sq [] 0) []),
  (ob vN none (.func (fu (inClass (top 23) 0) "__init__" "NameTaken.__init__" 0 [] vN vN vN vN none vN vN 0)) []),
  (ob (vt "code") none (fi [(vs "__init__" 736), (vs "NameTaken.__init__" 737), (vs "/claim/cut.py" 738), (vi 110 0), (vi 2 0), (vi 0 0), (vi 0 0), (vi 3 0), (vr 426), vT, (vi 181 0), (vr 427), vN, (vr 428), (vr 429), (vr 430), (vi 741 0), (vi 110 0), (vs "/claim/cut.py" 742)]) [])]
def o1_27 (P : Params) : List Obj := [
  (ob (vt "function") none (.func (fu (inClass (top 23) 0) "__init__" "NameTaken.__init__" 3 [] vN vN vN (vs "coverstore.errors" 194) none (vr 431) vN 0)) []),
  (ob (vt "tuple") none (sq [(vs "name" 744)] 0) []),
  (ob (vt "dict") none (di [de P "__module__" 731 (vs "coverstore.errors" 194), de P "__firstlineno__" 735 (vi 108 734), de P "__init__" 743 (vr 432), de P "__static_attributes__" 745 (vr 433), de P "__weakref__" 747 (vr 436), de P "__doc__" 748 vN] 3) []),
  (ob (vt "type") none (.cls ⟨"NameTaken", [(vt "RuntimeError")], [(vr 435), (vt "RuntimeError"), (vt "Exception"), (vt "BaseException"), (vt "object")], 434, "NameTaken", true, [], [], false, none, false⟩) [(some (vr 419)), none, (some (vs "NameTaken" 724)), (some (vs "NameTaken" 732)), (some (vb "RuntimeError.__new__")), (some vT)]),
  (ob (vt "getset_descriptor") none (fi [(vs "__weakref__" 746), (vr 435), (vb "ExceptionGroup.__weakref__"), vN]) []),
  (ob (vt "super") none (fi [(vr 435), (vr 435), (vr 435)]) []),
  (ob (vt "builtin_function_or_method") none (fi [(vb "object.__init_subclass__"), (vr 435)]) []),
  (ob (vt "tuple") none (sq [(vt "RuntimeError")] 0) []),
  (ob (vt "builtin_function_or_method") none (fi [(vb "type.__prepare__"), (vt "type")]) []),
  (ob (vt "dict") none (di [de P "__module__" 758 (vs "coverstore.errors" 194), de P "__qualname__" 760 (vs "KeyTaken" 759), de P "__firstlineno__" 762 (vi 113 761), de P "__init__" 771 (vr 452), de P "__static_attributes__" 774 (vr 453)] 5) []),
  (ob (vt "tuple") none (sq [] 0) []),
  (ob vN none (fi [(vi 115 0), (vi 4 0), (vr 451)]) []),
  (ob (vt "code") none (fi [(vs "KeyTaken" 753), (vs "KeyTaken" 754), (vs "/claim/cut.py" 755), (vi 113 0), (vi 0 0), (vi 0 0), (vi 0 0), (vi 0 0), (vr 442), vF, (vi 181 0), (vr 443), vN, vN, vN, vN, (vi 756 0), (vi 113 0), (vs "/claim/cut.py" 757)]) []),
  (ob (vt "frame") none .plain [(some (vr 444)), (some (vr 3)), (some (vr 441)), none, (some (vs "coverstore.errors" 194)), none, (some (vr 0))]),
  (ob (vt "tuple") none (sq [] 0) []),
  (ob vN none (fi []) [])]
def o1_28 (P : Params) : List Obj := [
  (ob (vt "tuple") none (sq [(vs "self" 766), (vs "table" 767), (vs "key" 768)] 0) []),
  (ob (vt "tuple") none (sq [] 0) []),
  (ob vN none (.func (fu (inClass (top 24) 0) "__init__" "KeyTaken.__init__" 0 [] vN vN vN vN none vN vN 0)) []),
  (ob (vt "code") none (fi [(vs "__init__" 763), (vs "KeyTaken.__init__" 764), (vs "/claim/cut.py" 765), (vi 115 0), (vi 3 0), (vi 0 0), (vi 0 0), (vi 3 0), (vr 446), vT, (vi 181 0), (vr 447), vN, (vr 448), (vr 449), (vr 450), (vi 769 0), (vi 115 0), (vs "/claim/cut.py" 770)]) []),
  (ob (vt "function") none (.func (fu (inClass (top 24) 0) "__init__" "KeyTaken.__init__" 3 [] vN vN vN (vs "coverstore.errors" 194) none (vr 451) vN 0)) []),
  (ob (vt "tuple") none (sq [(vs "key" 772), (vs "table" 773)] 0) []),
  (ob (vt "dict") none (di [de P "__module__" 758 (vs "coverstore.errors" 194), de P "__firstlineno__" 762 (vi 113 761), de P "__init__" 771 (vr 452), de P "__static_attributes__" 774 (vr 453), de P "__weakref__" 776 (vr 456), de P "__doc__" 777 vN] 3) []),
  (ob (vt "type") none (.cls ⟨"KeyTaken", [(vt "RuntimeError")], [(vr 455), (vt "RuntimeError"), (vt "Exception"), (vt "BaseException"), (vt "object")], 454, "KeyTaken", true, [], [], false, none, false⟩) [(some (vr 439)), none, (some (vs "KeyTaken" 751)), (some (vs "KeyTaken" 759)), (some (vb "RuntimeError.__new__")), (some vT)]),
  (ob (vt "getset_descriptor") none (fi [(vs "__weakref__" 775), (vr 455), (vb "ExceptionGroup.__weakref__"), vN]) []),
  (ob (vt "super") none (fi [(vr 455), (vr 455), (vr 455)]) []),
  (ob (vt "builtin_function_or_method") none (fi [(vb "object.__init_subclass__"), (vr 455)]) []),
  (ob (vt "tuple") none (sq [(vt "RuntimeError")] 0) []),
  (ob (vt "builtin_function_or_method") none (fi [(vb "type.__prepare__"), (vt "type")]) []),
  (ob (vt "dict") none (di [de P "__module__" 787 (vs "coverstore.errors" 194), de P "__qualname__" 789 (vs "NoSuchRow" 788), de P "__firstlineno__" 791 (vi 119 790), de P "__init__" 800 (vr 472), de P "__static_attributes__" 803 (vr 473)] 5) []),
  (ob (vt "tuple") none (sq [] 0) []),
  (ob vN none (fi [(vi 121 0), (vi 4 0), (vr 471)]) [])]
def o1_29 (P : Params) : List Obj := [
  (ob (vt "code") none (fi [(vs "NoSuchRow" 782), (vs "NoSuchRow" 783), (vs "/claim/cut.py" 784), (vi 119 0), (vi 0 0), (vi 0 0), (vi 0 0), (vi 0 0), (vr 462), vF, (vi 181 0), (vr 463), vN, vN, vN, vN, (vi 785 0), (vi 119 0), (vs "/claim/cut.py" 786)]) []),
  (ob (vt "frame") none .plain [(some (vr 464)), (some (vr 3)), (some (vr 461)), none, (some (vs "coverstore.errors" 194)), none, (some (vr 0))]),
  (ob (vt "tuple") none (sq [] 0) []),
  (ob vN none (fi []) []),
  (ob (vt "tuple") none (sq [(vs "self" 795), (vs "table" 796), (vs "key" 797)] 0) []),
  (ob (vt "tuple") none (sq [] 0) []),
  (ob vN none (.func (fu (inClass (top 25) 0) "__init__" "NoSuchRow.__init__" 0 [] vN vN vN vN none vN vN 0)) []),
  (ob (vt "code") none (fi [(vs "__init__" 792), (vs "NoSuchRow.__init__" 793), (vs "/claim/cut.py" 794), (vi 121 0), (vi 3 0), (vi 0 0), (vi 0 0), (vi 3 0), (vr 466), vT, (vi 181 0), (vr 467), vN, (vr 468), (vr 469), (vr 470), (vi 798 0), (vi 121 0), (vs "/claim/cut.py" 799)]) []),
  (ob (vt "function") none (.func (fu (inClass (top 25) 0) "__init__" "NoSuchRow.__init__" 3 [] vN vN vN (vs "coverstore.errors" 194) none (vr 471) vN 0)) []),
  (ob (vt "tuple") none (sq [(vs "key" 801), (vs "table" 802)] 0) []),
  (ob (vt "dict") none (di [de P "__module__" 787 (vs "coverstore.errors" 194), de P "__firstlineno__" 791 (vi 119 790), de P "__init__" 800 (vr 472), de P "__static_attributes__" 803 (vr 473), de P "__weakref__" 805 (vr 476), de P "__doc__" 806 vN] 3) []),
  (ob (vt "type") none (.cls ⟨"NoSuchRow", [(vt "RuntimeError")], [(vr 475), (vt "RuntimeError"), (vt "Exception"), (vt "BaseException"), (vt "object")], 474, "NoSuchRow", true, [], [], false, none, false⟩) [(some (vr 459)), none, (some (vs "NoSuchRow" 780)), (some (vs "NoSuchRow" 788)), (some (vb "RuntimeError.__new__")), (some vT)]),
  (ob (vt "getset_descriptor") none (fi [(vs "__weakref__" 804), (vr 475), (vb "ExceptionGroup.__weakref__"), vN]) []),
  (ob (vt "super") none (fi [(vr 475), (vr 475), (vr 475)]) []),
  (ob (vt "builtin_function_or_method") none (fi [(vb "object.__init_subclass__"), (vr 475)]) []),
  (ob (vt "tuple") none (sq [(vt "RuntimeError")] 0) [])]
def o1_30 (P : Params) : List Obj := [
  (ob (vt "builtin_function_or_method") none (fi [(vb "type.__prepare__"), (vt "type")]) []),
  (ob (vt "dict") none (di [de P "__module__" 816 (vs "coverstore.errors" 194), de P "__qualname__" 818 (vs "Unlike" 817), de P "__firstlineno__" 820 (vi 125 819), de P "__static_attributes__" 821 (vr 486)] 4) []),
  (ob (vt "tuple") none (sq [] 0) []),
  (ob vN none (fi []) []),
  (ob (vt "code") none (fi [(vs "Unlike" 811), (vs "Unlike" 812), (vs "/claim/cut.py" 813), (vi 125 0), (vi 0 0), (vi 0 0), (vi 0 0), (vi 0 0), (vr 482), vF, (vi 181 0), (vr 483), vN, vN, vN, vN, (vi 814 0), (vi 125 0), (vs "/claim/cut.py" 815)]) []),
  (ob (vt "frame") none .plain [(some (vr 484)), (some (vr 3)), (some (vr 481)), none, (some (vs "coverstore.errors" 194)), none, (some (vr 0))]),
  (ob (vt "tuple") none (sq [] 0) []),
  (ob (vt "dict") none (di [de P "__module__" 816 (vs "coverstore.errors" 194), de P "__firstlineno__" 820 (vi 125 819), de P "__static_attributes__" 821 (vr 486), de P "__weakref__" 823 (vr 489), de P "__doc__" 824 vN] 3) []),
  (ob (vt "type") none (.cls ⟨"Unlike", [(vt "RuntimeError")], [(vr 488), (vt "RuntimeError"), (vt "Exception"), (vt "BaseException"), (vt "object")], 487, "Unlike", true, [], [], false, none, false⟩) [(some (vr 479)), none, (some (vs "Unlike" 809)), (some (vs "Unlike" 817)), (some (vb "RuntimeError.__new__")), (some vT)]),
  (ob (vt "getset_descriptor") none (fi [(vs "__weakref__" 822), (vr 488), (vb "ExceptionGroup.__weakref__"), vN]) []),
  (ob (vt "super") none (fi [(vr 488), (vr 488), (vr 488)]) []),
  (ob (vt "builtin_function_or_method") none (fi [(vb "object.__init_subclass__"), (vr 488)]) []),
  (ob (vt "tuple") none (sq [(vt "RuntimeError")] 0) []),
  (ob (vt "builtin_function_or_method") none (fi [(vb "type.__prepare__"), (vt "type")]) []),
  (ob (vt "dict") none (di [de P "__module__" 834 (vs "coverstore.errors" 194), de P "__qualname__" 836 (vs "NoHalf" 835), de P "__firstlineno__" 838 (vi 127 837), de P "__init__" 846 (vr 505), de P "__static_attributes__" 848 (vr 506)] 5) []),
  (ob (vt "tuple") none (sq [] 0) [])]
def o1_31 (P : Params) : List Obj := [
  (ob vN none (fi [(vi 129 0), (vi 4 0), (vr 504)]) []),
  (ob (vt "code") none (fi [(vs "NoHalf" 829), (vs "NoHalf" 830), (vs "/claim/cut.py" 831), (vi 127 0), (vi 0 0), (vi 0 0), (vi 0 0), (vi 0 0), (vr 495), vF, (vi 181 0), (vr 496), vN, vN, vN, vN, (vi 832 0), (vi 127 0), (vs "/claim/cut.py" 833)]) []),
  (ob (vt "frame") none .plain [(some (vr 497)), (some (vr 3)), (some (vr 494)), none, (some (vs "coverstore.errors" 194)), none, (some (vr 0))]),
  (ob (vt "tuple") none (sq [] 0) []),
  (ob vN none (fi []) []),
  (ob (vt "tuple") none (sq [(vs "self" 842), (vs "place" 843)] 0) []),
  (ob (vt "tuple") none (sq [] 0) []),
  (ob vN none (.func (fu (inClass (top 27) 0) "__init__" "NoHalf.__init__" 0 [] vN vN vN vN none vN vN 0)) []),
  (ob (vt "code") none (fi [(vs "__init__" 839), (vs "NoHalf.__init__" 840), (vs "/claim/cut.py" 841), (vi 129 0), (vi 2 0), (vi 0 0), (vi 0 0), (vi 3 0), (vr 499), vT, (vi 181 0), (vr 500), vN, (vr 501), (vr 502), (vr 503), (vi 844 0), (vi 129 0), (vs "/claim/cut.py" 845)]) []),
  (ob (vt "function") none (.func (fu (inClass (top 27) 0) "__init__" "NoHalf.__init__" 3 [] vN vN vN (vs "coverstore.errors" 194) none (vr 504) vN 0)) []),
  (ob (vt "tuple") none (sq [(vs "place" 847)] 0) []),
  (ob (vt "dict") none (di [de P "__module__" 834 (vs "coverstore.errors" 194), de P "__firstlineno__" 838 (vi 127 837), de P "__init__" 846 (vr 505), de P "__static_attributes__" 848 (vr 506), de P "__weakref__" 850 (vr 509), de P "__doc__" 851 vN] 3) []),
  (ob (vt "type") none (.cls ⟨"NoHalf", [(vt "RuntimeError")], [(vr 508), (vt "RuntimeError"), (vt "Exception"), (vt "BaseException"), (vt "object")], 507, "NoHalf", true, [], [], false, none, false⟩) [(some (vr 492)), none, (some (vs "NoHalf" 827)), (some (vs "NoHalf" 835)), (some (vb "RuntimeError.__new__")), (some vT)]),
  (ob (vt "getset_descriptor") none (fi [(vs "__weakref__" 849), (vr 508), (vb "ExceptionGroup.__weakref__"), vN]) []),
  (ob (vt "super") none (fi [(vr 508), (vr 508), (vr 508)]) []),
  (ob (vt "builtin_function_or_method") none (fi [(vb "object.__init_subclass__"), (vr 508)]) [])]
def o1_32 (P : Params) : List Obj := [
  (ob (vt "tuple") none (sq [(vt "RuntimeError")] 0) []),
  (ob (vt "builtin_function_or_method") none (fi [(vb "type.__prepare__"), (vt "type")]) []),
  (ob (vt "dict") none (di [de P "__module__" 861 (vs "coverstore.errors" 194), de P "__qualname__" 863 (vs "NotJoined" 862), de P "__firstlineno__" 865 (vi 132 864), de P "__init__" 873 (vr 525), de P "__static_attributes__" 875 (vr 526)] 5) []),
  (ob (vt "tuple") none (sq [] 0) []),
  (ob vN none (fi [(vi 134 0), (vi 4 0), (vr 524)]) []),
  (ob (vt "code") none (fi [(vs "NotJoined" 856), (vs "NotJoined" 857), (vs "/claim/cut.py" 858), (vi 132 0), (vi 0 0), (vi 0 0), (vi 0 0), (vi 0 0), (vr 515), vF, (vi 181 0), (vr 516), vN, vN, vN, vN, (vi 859 0), (vi 132 0), (vs "/claim/cut.py" 860)]) []),
  (ob (vt "frame") none .plain [(some (vr 517)), (some (vr 3)), (some (vr 514)), none, (some (vs "coverstore.errors" 194)), none, (some (vr 0))]),
  (ob (vt "tuple") none (sq [] 0) []),
  (ob vN none (fi []) []),
  (ob (vt "tuple") none (sq [(vs "self" 869), (vs "place" 870)] 0) []),
  (ob (vt "tuple") none (sq [] 0) []),
  (ob vN none (.func (fu (inClass (top 28) 0) "__init__" "NotJoined.__init__" 0 [] vN vN vN vN none vN vN 0)) []),
  (ob (vt "code") none (fi [(vs "__init__" 866), (vs "NotJoined.__init__" 867), (vs "/claim/cut.py" 868), (vi 134 0), (vi 2 0), (vi 0 0), (vi 0 0), (vi 3 0), (vr 519), vT, (vi 181 0), (vr 520), vN, (vr 521), (vr 522), (vr 523), (vi 871 0), (vi 134 0), (vs "/claim/cut.py" 872)]) []),
  (ob (vt "function") none (.func (fu (inClass (top 28) 0) "__init__" "NotJoined.__init__" 3 [] vN vN vN (vs "coverstore.errors" 194) none (vr 524) vN 0)) []),
  (ob (vt "tuple") none (sq [(vs "place" 874)] 0) []),
  (ob (vt "dict") none (di [de P "__module__" 861 (vs "coverstore.errors" 194), de P "__firstlineno__" 865 (vi 132 864), de P "__init__" 873 (vr 525), de P "__static_attributes__" 875 (vr 526), de P "__weakref__" 877 (vr 529), de P "__doc__" 878 vN] 3) [])]
def o1_33 (P : Params) : List Obj := [
  (ob (vt "type") none (.cls ⟨"NotJoined", [(vt "RuntimeError")], [(vr 528), (vt "RuntimeError"), (vt "Exception"), (vt "BaseException"), (vt "object")], 527, "NotJoined", true, [], [], false, none, false⟩) [(some (vr 512)), none, (some (vs "NotJoined" 854)), (some (vs "NotJoined" 862)), (some (vb "RuntimeError.__new__")), (some vT)]),
  (ob (vt "getset_descriptor") none (fi [(vs "__weakref__" 876), (vr 528), (vb "ExceptionGroup.__weakref__"), vN]) []),
  (ob (vt "super") none (fi [(vr 528), (vr 528), (vr 528)]) []),
  (ob (vt "builtin_function_or_method") none (fi [(vb "object.__init_subclass__"), (vr 528)]) []),
  (ob (vt "tuple") none (sq [(vt "RuntimeError")] 0) []),
  (ob (vt "builtin_function_or_method") none (fi [(vb "type.__prepare__"), (vt "type")]) []),
  (ob (vt "dict") none (di [de P "__module__" 888 (vs "coverstore.errors" 194), de P "__qualname__" 890 (vs "NotAPoint" 889), de P "__firstlineno__" 892 (vi 137 891), de P "__static_attributes__" 893 (vr 539)] 4) []),
  (ob (vt "tuple") none (sq [] 0) []),
  (ob vN none (fi []) []),
  (ob (vt "code") none (fi [(vs "NotAPoint" 883), (vs "NotAPoint" 884), (vs "/claim/cut.py" 885), (vi 137 0), (vi 0 0), (vi 0 0), (vi 0 0), (vi 0 0), (vr 535), vF, (vi 181 0), (vr 536), vN, vN, vN, vN, (vi 886 0), (vi 137 0), (vs "/claim/cut.py" 887)]) []),
  (ob (vt "frame") none .plain [(some (vr 537)), (some (vr 3)), (some (vr 534)), none, (some (vs "coverstore.errors" 194)), none, (some (vr 0))]),
  (ob (vt "tuple") none (sq [] 0) []),
  (ob (vt "dict") none (di [de P "__module__" 888 (vs "coverstore.errors" 194), de P "__firstlineno__" 892 (vi 137 891), de P "__static_attributes__" 893 (vr 539), de P "__weakref__" 895 (vr 542), de P "__doc__" 896 vN] 3) []),
  (ob (vt "type") none (.cls ⟨"NotAPoint", [(vt "RuntimeError")], [(vr 541), (vt "RuntimeError"), (vt "Exception"), (vt "BaseException"), (vt "object")], 540, "NotAPoint", true, [], [], false, none, false⟩) [(some (vr 532)), none, (some (vs "NotAPoint" 881)), (some (vs "NotAPoint" 889)), (some (vb "RuntimeError.__new__")), (some vT)]),
  (ob (vt "getset_descriptor") none (fi [(vs "__weakref__" 894), (vr 541), (vb "ExceptionGroup.__weakref__"), vN]) []),
  (ob (vt "super") none (fi [(vr 541), (vr 541), (vr 541)]) [])]
def o1_34 (P : Params) : List Obj := [
  (ob (vt "builtin_function_or_method") none (fi [(vb "object.__init_subclass__"), (vr 541)]) []),
  (ob (vt "tuple") none (sq [(vt "RuntimeError")] 0) []),
  (ob (vt "builtin_function_or_method") none (fi [(vb "type.__prepare__"), (vt "type")]) []),
  (ob (vt "dict") none (di [de P "__module__" 906 (vs "coverstore.errors" 194), de P "__qualname__" 908 (vs "WrongColumns" 907), de P "__firstlineno__" 910 (vi 139 909), de P "__init__" 918 (vr 558), de P "__static_attributes__" 920 (vr 559)] 5) []),
  (ob (vt "tuple") none (sq [] 0) []),
  (ob vN none (fi [(vi 141 0), (vi 4 0), (vr 557)]) []),
  (ob (vt "code") none (fi [(vs "WrongColumns" 901), (vs "WrongColumns" 902), (vs "/claim/cut.py" 903), (vi 139 0), (vi 0 0), (vi 0 0), (vi 0 0), (vi 0 0), (vr 548), vF, (vi 181 0), (vr 549), vN, vN, vN, vN, (vi 904 0), (vi 139 0), (vs "/claim/cut.py" 905)]) []),
  (ob (vt "frame") none .plain [(some (vr 550)), (some (vr 3)), (some (vr 547)), none, (some (vs "coverstore.errors" 194)), none, (some (vr 0))]),
  (ob (vt "tuple") none (sq [] 0) []),
  (ob vN none (fi []) []),
  (ob (vt "tuple") none (sq [(vs "self" 914), (vs "position" 915)] 0) []),
  (ob (vt "tuple") none (sq [] 0) []),
  (ob vN none (.func (fu (inClass (top 30) 0) "__init__" "WrongColumns.__init__" 0 [] vN vN vN vN none vN vN 0)) []),
  (ob (vt "code") none (fi [(vs "__init__" 911), (vs "WrongColumns.__init__" 912), (vs "/claim/cut.py" 913), (vi 141 0), (vi 2 0), (vi 0 0), (vi 0 0), (vi 3 0), (vr 552), vT, (vi 181 0), (vr 553), vN, (vr 554), (vr 555), (vr 556), (vi 916 0), (vi 141 0), (vs "/claim/cut.py" 917)]) []),
  (ob (vt "function") none (.func (fu (inClass (top 30) 0) "__init__" "WrongColumns.__init__" 3 [] vN vN vN (vs "coverstore.errors" 194) none (vr 557) vN 0)) []),
  (ob (vt "tuple") none (sq [(vs "position" 919)] 0) [])]
def o1_35 (P : Params) : List Obj := [
  (ob (vt "dict") none (di [de P "__module__" 906 (vs "coverstore.errors" 194), de P "__firstlineno__" 910 (vi 139 909), de P "__init__" 918 (vr 558), de P "__static_attributes__" 920 (vr 559), de P "__weakref__" 922 (vr 562), de P "__doc__" 923 vN] 3) []),
  (ob (vt "type") none (.cls ⟨"WrongColumns", [(vt "RuntimeError")], [(vr 561), (vt "RuntimeError"), (vt "Exception"), (vt "BaseException"), (vt "object")], 560, "WrongColumns", true, [], [], false, none, false⟩) [(some (vr 545)), none, (some (vs "WrongColumns" 899)), (some (vs "WrongColumns" 907)), (some (vb "RuntimeError.__new__")), (some vT)]),
  (ob (vt "getset_descriptor") none (fi [(vs "__weakref__" 921), (vr 561), (vb "ExceptionGroup.__weakref__"), vN]) []),
  (ob (vt "super") none (fi [(vr 561), (vr 561), (vr 561)]) []),
  (ob (vt "builtin_function_or_method") none (fi [(vb "object.__init_subclass__"), (vr 561)]) []),
  (ob (vt "tuple") none (sq [(vt "RuntimeError")] 0) []),
  (ob (vt "builtin_function_or_method") none (fi [(vb "type.__prepare__"), (vt "type")]) []),
  (ob (vt "dict") none (di [de P "__module__" 933 (vs "coverstore.errors" 194), de P "__qualname__" 935 (vs "NotEmpty" 934), de P "__firstlineno__" 937 (vi 144 936), de P "__init__" 945 (vr 578), de P "__static_attributes__" 947 (vr 579)] 5) []),
  (ob (vt "tuple") none (sq [] 0) []),
  (ob vN none (fi [(vi 146 0), (vi 4 0), (vr 577)]) []),
  (ob (vt "code") none (fi [(vs "NotEmpty" 928), (vs "NotEmpty" 929), (vs "/claim/cut.py" 930), (vi 144 0), (vi 0 0), (vi 0 0), (vi 0 0), (vi 0 0), (vr 568), vF, (vi 181 0), (vr 569), vN, vN, vN, vN, (vi 931 0), (vi 144 0), (vs "/claim/cut.py" 932)]) []),
  (ob (vt "frame") none .plain [(some (vr 570)), (some (vr 3)), (some (vr 567)), none, (some (vs "coverstore.errors" 194)), none, (some (vr 0))]),
  (ob (vt "tuple") none (sq [] 0) []),
  (ob vN none (fi []) []),
  (ob (vt "tuple") none (sq [(vs "self" 941), (vs "point" 942)] 0) []),
  (ob (vt "tuple") none (sq [] 0) [])]
def o1_36 (P : Params) : List Obj := [
  (ob vN none (.func (fu (inClass (top 31) 0) "__init__" "NotEmpty.__init__" 0 [] vN vN vN vN none vN vN 0)) []),
  (ob (vt "code") none (fi [(vs "__init__" 938), (vs "NotEmpty.__init__" 939), (vs "/claim/cut.py" 940), (vi 146 0), (vi 2 0), (vi 0 0), (vi 0 0), (vi 3 0), (vr 572), vT, (vi 181 0), (vr 573), vN, (vr 574), (vr 575), (vr 576), (vi 943 0), (vi 146 0), (vs "/claim/cut.py" 944)]) []),
  (ob (vt "function") none (.func (fu (inClass (top 31) 0) "__init__" "NotEmpty.__init__" 3 [] vN vN vN (vs "coverstore.errors" 194) none (vr 577) vN 0)) []),
  (ob (vt "tuple") none (sq [(vs "point" 946)] 0) []),
  (ob (vt "dict") none (di [de P "__module__" 933 (vs "coverstore.errors" 194), de P "__firstlineno__" 937 (vi 144 936), de P "__init__" 945 (vr 578), de P "__static_attributes__" 947 (vr 579), de P "__weakref__" 949 (vr 582), de P "__doc__" 950 vN] 3) []),
  (ob (vt "type") none (.cls ⟨"NotEmpty", [(vt "RuntimeError")], [(vr 581), (vt "RuntimeError"), (vt "Exception"), (vt "BaseException"), (vt "object")], 580, "NotEmpty", true, [], [], false, none, false⟩) [(some (vr 565)), none, (some (vs "NotEmpty" 926)), (some (vs "NotEmpty" 934)), (some (vb "RuntimeError.__new__")), (some vT)]),
  (ob (vt "getset_descriptor") none (fi [(vs "__weakref__" 948), (vr 581), (vb "ExceptionGroup.__weakref__"), vN]) []),
  (ob (vt "super") none (fi [(vr 581), (vr 581), (vr 581)]) []),
  (ob (vt "builtin_function_or_method") none (fi [(vb "object.__init_subclass__"), (vr 581)]) []),
  (ob (vt "tuple") none (sq [(vt "RuntimeError")] 0) []),
  (ob (vt "builtin_function_or_method") none (fi [(vb "type.__prepare__"), (vt "type")]) []),
  (ob (vt "dict") none (di [de P "__module__" 960 (vs "coverstore.errors" 194), de P "__qualname__" 962 (vs "Ended" 961), de P "__firstlineno__" 964 (vi 149 963), de P "__static_attributes__" 965 (vr 592)] 4) []),
  (ob (vt "tuple") none (sq [] 0) []),
  (ob vN none (fi []) []),
  (ob (vt "code") none (fi [(vs "Ended" 955), (vs "Ended" 956), (vs "/claim/cut.py" 957), (vi 149 0), (vi 0 0), (vi 0 0), (vi 0 0), (vi 0 0), (vr 588), vF, (vi 181 0), (vr 589), vN, vN, vN, vN, (vi 958 0), (vi 149 0), (vs "/claim/cut.py" 959)]) []),
  (ob (vt "frame") none .plain [(some (vr 590)), (some (vr 3)), (some (vr 587)), none, (some (vs "coverstore.errors" 194)), none, (some (vr 0))])]
def o1_37 (P : Params) : List Obj := [
  (ob (vt "tuple") none (sq [] 0) []),
  (ob (vt "dict") none (di [de P "__module__" 960 (vs "coverstore.errors" 194), de P "__firstlineno__" 964 (vi 149 963), de P "__static_attributes__" 965 (vr 592), de P "__weakref__" 967 (vr 595), de P "__doc__" 968 vN] 3) []),
  (ob (vt "type") none (.cls ⟨"Ended", [(vt "RuntimeError")], [(vr 594), (vt "RuntimeError"), (vt "Exception"), (vt "BaseException"), (vt "object")], 593, "Ended", true, [], [], false, none, false⟩) [(some (vr 585)), none, (some (vs "Ended" 953)), (some (vs "Ended" 961)), (some (vb "RuntimeError.__new__")), (some vT)]),
  (ob (vt "getset_descriptor") none (fi [(vs "__weakref__" 966), (vr 594), (vb "ExceptionGroup.__weakref__"), vN]) []),
  (ob (vt "super") none (fi [(vr 594), (vr 594), (vr 594)]) []),
  (ob (vt "builtin_function_or_method") none (fi [(vb "object.__init_subclass__"), (vr 594)]) []),
  (ob (vt "tuple") none (sq [(vt "RuntimeError")] 0) []),
  (ob (vt "builtin_function_or_method") none (fi [(vb "type.__prepare__"), (vt "type")]) []),
  (ob (vt "dict") none (di [de P "__module__" 978 (vs "coverstore.errors" 194), de P "__qualname__" 980 (vs "Changed" 979), de P "__firstlineno__" 982 (vi 151 981), de P "__init__" 991 (vr 611), de P "__static_attributes__" 994 (vr 612)] 5) []),
  (ob (vt "tuple") none (sq [] 0) []),
  (ob vN none (fi [(vi 153 0), (vi 4 0), (vr 610)]) []),
  (ob (vt "code") none (fi [(vs "Changed" 973), (vs "Changed" 974), (vs "/claim/cut.py" 975), (vi 151 0), (vi 0 0), (vi 0 0), (vi 0 0), (vi 0 0), (vr 601), vF, (vi 181 0), (vr 602), vN, vN, vN, vN, (vi 976 0), (vi 151 0), (vs "/claim/cut.py" 977)]) []),
  (ob (vt "frame") none .plain [(some (vr 603)), (some (vr 3)), (some (vr 600)), none, (some (vs "coverstore.errors" 194)), none, (some (vr 0))]),
  (ob (vt "tuple") none (sq [] 0) []),
  (ob vN none (fi []) []),
  (ob (vt "tuple") none (sq [(vs "self" 986), (vs "act" 987), (vs "item" 988)] 0) [])]
def o1_38 (P : Params) : List Obj := [
  (ob (vt "tuple") none (sq [] 0) []),
  (ob vN none (.func (fu (inClass (top 33) 0) "__init__" "Changed.__init__" 0 [] vN vN vN vN none vN vN 0)) []),
  (ob (vt "code") none (fi [(vs "__init__" 983), (vs "Changed.__init__" 984), (vs "/claim/cut.py" 985), (vi 153 0), (vi 3 0), (vi 0 0), (vi 0 0), (vi 3 0), (vr 605), vT, (vi 181 0), (vr 606), vN, (vr 607), (vr 608), (vr 609), (vi 989 0), (vi 153 0), (vs "/claim/cut.py" 990)]) []),
  (ob (vt "function") none (.func (fu (inClass (top 33) 0) "__init__" "Changed.__init__" 3 [] vN vN vN (vs "coverstore.errors" 194) none (vr 610) vN 0)) []),
  (ob (vt "tuple") none (sq [(vs "act" 992), (vs "item" 993)] 0) []),
  (ob (vt "dict") none (di [de P "__module__" 978 (vs "coverstore.errors" 194), de P "__firstlineno__" 982 (vi 151 981), de P "__init__" 991 (vr 611), de P "__static_attributes__" 994 (vr 612), de P "__weakref__" 996 (vr 615), de P "__doc__" 997 vN] 3) []),
  (ob (vt "type") none (.cls ⟨"Changed", [(vt "RuntimeError")], [(vr 614), (vt "RuntimeError"), (vt "Exception"), (vt "BaseException"), (vt "object")], 613, "Changed", true, [], [], false, none, false⟩) [(some (vr 598)), none, (some (vs "Changed" 971)), (some (vs "Changed" 979)), (some (vb "RuntimeError.__new__")), (some vT)]),
  (ob (vt "getset_descriptor") none (fi [(vs "__weakref__" 995), (vr 614), (vb "ExceptionGroup.__weakref__"), vN]) []),
  (ob (vt "super") none (fi [(vr 614), (vr 614), (vr 614)]) []),
  (ob (vt "builtin_function_or_method") none (fi [(vb "object.__init_subclass__"), (vr 614)]) []),
  (ob (vt "tuple") none (sq [(vt "RuntimeError")] 0) []),
  (ob (vt "builtin_function_or_method") none (fi [(vb "type.__prepare__"), (vt "type")]) []),
  (ob (vt "dict") none (di [de P "__module__" 1007 (vs "coverstore.errors" 194), de P "__qualname__" 1009 (vs "Violated" 1008), de P "__firstlineno__" 1011 (vi 157 1010), de P "__init__" 1020 (vr 631), de P "__static_attributes__" 1023 (vr 632)] 5) []),
  (ob (vt "tuple") none (sq [] 0) []),
  (ob vN none (fi [(vi 159 0), (vi 4 0), (vr 630)]) []),
  (ob (vt "code") none (fi [(vs "Violated" 1002), (vs "Violated" 1003), (vs "/claim/cut.py" 1004), (vi 157 0), (vi 0 0), (vi 0 0), (vi 0 0), (vi 0 0), (vr 621), vF, (vi 181 0), (vr 622), vN, vN, vN, vN, (vi 1005 0), (vi 157 0), (vs "/claim/cut.py" 1006)]) [])]
def o1_39 (P : Params) : List Obj := [
  (ob (vt "frame") none .plain [(some (vr 623)), (some (vr 3)), (some (vr 620)), none, (some (vs "coverstore.errors" 194)), none, (some (vr 0))]),
  (ob (vt "tuple") none (sq [] 0) []),
  (ob vN none (fi []) []),
  (ob (vt "tuple") none (sq [(vs "self" 1015), (vs "name" 1016), (vs "point" 1017)] 0) []),
  (ob (vt "tuple") none (sq [] 0) []),
  (ob vN none (.func (fu (inClass (top 34) 0) "__init__" "Violated.__init__" 0 [] vN vN vN vN none vN vN 0)) []),
  (ob (vt "code") none (fi [(vs "__init__" 1012), (vs "Violated.__init__" 1013), (vs "/claim/cut.py" 1014), (vi 159 0), (vi 3 0), (vi 0 0), (vi 0 0), (vi 3 0), (vr 625), vT, (vi 181 0), (vr 626), vN, (vr 627), (vr 628), (vr 629), (vi 1018 0), (vi 159 0), (vs "/claim/cut.py" 1019)]) []),
  (ob (vt "function") none (.func (fu (inClass (top 34) 0) "__init__" "Violated.__init__" 3 [] vN vN vN (vs "coverstore.errors" 194) none (vr 630) vN 0)) []),
  (ob (vt "tuple") none (sq [(vs "name" 1021), (vs "point" 1022)] 0) []),
  (ob (vt "dict") none (di [de P "__module__" 1007 (vs "coverstore.errors" 194), de P "__firstlineno__" 1011 (vi 157 1010), de P "__init__" 1020 (vr 631), de P "__static_attributes__" 1023 (vr 632), de P "__weakref__" 1025 (vr 635), de P "__doc__" 1026 vN] 3) []),
  (ob (vt "type") none (.cls ⟨"Violated", [(vt "RuntimeError")], [(vr 634), (vt "RuntimeError"), (vt "Exception"), (vt "BaseException"), (vt "object")], 633, "Violated", true, [], [], false, none, false⟩) [(some (vr 618)), none, (some (vs "Violated" 1000)), (some (vs "Violated" 1008)), (some (vb "RuntimeError.__new__")), (some vT)]),
  (ob (vt "getset_descriptor") none (fi [(vs "__weakref__" 1024), (vr 634), (vb "ExceptionGroup.__weakref__"), vN]) []),
  (ob (vt "super") none (fi [(vr 634), (vr 634), (vr 634)]) []),
  (ob (vt "builtin_function_or_method") none (fi [(vb "object.__init_subclass__"), (vr 634)]) []),
  (ob (vt "tuple") none (sq [(vt "RuntimeError")] 0) []),
  (ob (vt "builtin_function_or_method") none (fi [(vb "type.__prepare__"), (vt "type")]) [])]
def o1_40 (P : Params) : List Obj := [
  (ob (vt "dict") none (di [de P "__module__" 1036 (vs "coverstore.errors" 194), de P "__qualname__" 1038 (vs "Crashed" 1037), de P "__firstlineno__" 1040 (vi 163 1039), de P "__static_attributes__" 1041 (vr 645)] 4) []),
  (ob (vt "tuple") none (sq [] 0) []),
  (ob vN none (fi []) []),
  (ob (vt "code") none (fi [(vs "Crashed" 1031), (vs "Crashed" 1032), (vs "/claim/cut.py" 1033), (vi 163 0), (vi 0 0), (vi 0 0), (vi 0 0), (vi 0 0), (vr 641), vF, (vi 181 0), (vr 642), vN, vN, vN, vN, (vi 1034 0), (vi 163 0), (vs "/claim/cut.py" 1035)]) []),
  (ob (vt "frame") none .plain [(some (vr 643)), (some (vr 3)), (some (vr 640)), none, (some (vs "coverstore.errors" 194)), none, (some (vr 0))]),
  (ob (vt "tuple") none (sq [] 0) []),
  (ob (vt "dict") none (di [de P "__module__" 1036 (vs "coverstore.errors" 194), de P "__firstlineno__" 1040 (vi 163 1039), de P "__static_attributes__" 1041 (vr 645), de P "__weakref__" 1043 (vr 648), de P "__doc__" 1044 vN] 3) []),
  (ob (vt "type") none (.cls ⟨"Crashed", [(vt "RuntimeError")], [(vr 647), (vt "RuntimeError"), (vt "Exception"), (vt "BaseException"), (vt "object")], 646, "Crashed", true, [], [], false, none, false⟩) [(some (vr 638)), none, (some (vs "Crashed" 1029)), (some (vs "Crashed" 1037)), (some (vb "RuntimeError.__new__")), (some vT)]),
  (ob (vt "getset_descriptor") none (fi [(vs "__weakref__" 1042), (vr 647), (vb "ExceptionGroup.__weakref__"), vN]) []),
  (ob (vt "super") none (fi [(vr 647), (vr 647), (vr 647)]) []),
  (ob (vt "builtin_function_or_method") none (fi [(vb "object.__init_subclass__"), (vr 647)]) [])]
def o1 (P : Params) : List Obj := o1_0 P ++ (o1_1 P ++ (o1_2 P ++ (o1_3 P ++ (o1_4 P ++ (o1_5 P ++ (o1_6 P ++ (o1_7 P ++ (o1_8 P ++ (o1_9 P ++ (o1_10 P ++ (o1_11 P ++ (o1_12 P ++ (o1_13 P ++ (o1_14 P ++ (o1_15 P ++ (o1_16 P ++ (o1_17 P ++ (o1_18 P ++ (o1_19 P ++ (o1_20 P ++ (o1_21 P ++ (o1_22 P ++ (o1_23 P ++ (o1_24 P ++ (o1_25 P ++ (o1_26 P ++ (o1_27 P ++ (o1_28 P ++ (o1_29 P ++ (o1_30 P ++ (o1_31 P ++ (o1_32 P ++ (o1_33 P ++ (o1_34 P ++ (o1_35 P ++ (o1_36 P ++ (o1_37 P ++ (o1_38 P ++ (o1_39 P ++ (o1_40 P))))))))))))))))))))))))))))))))))))))))
def S1 (w : World) (os : OsState) : SharedT := ⟨lay (o1 w.params) .nil 0, 651, {}, #[], {}, 1047, os⟩
def pos1 : Pos := ⟨163, 0, 164, 8⟩
def n1 : Nat := 7733
def o2_0 (P : Params) : List Obj := [
  boot_o_0 P,
  boot_o_1 P,
  (ob vN none (di [de P "type.__subclasses__.ArithmeticError.0" 1110 (vi 693 0), de P "type.__subclasses__.ArithmeticError.n" 1111 (vi 1 0)] 2) []),
  (ob (vt "dict") none (di [de P "__name__" 165 (vs "coverstore.boxes" 1331), de P "__doc__" 166 vN, de P "__package__" 167 vN, de P "__loader__" 168 (vb "__main__.__loader__#opaque"), de P "__spec__" 169 vN, de P "__annotations__" 170 (vr 6), de P "__builtins__" 171 (vr 4), de P "__file__" 173 (vs "/claim/cut.py" 172), de P "__cached__" 174 vN, de P "_wall" 193 (vr 21), de P "CoverError" 213 (vr 31), de P "InvalidBits" 238 (vr 51), de P "InvalidValue" 263 (vr 70), de P "InvalidRange" 288 (vr 89), de P "InvalidBox" 313 (vr 108), de P "InvalidPlace" 338 (vr 127), de P "InvalidCount" 363 (vr 146), de P "InvalidName" 388 (vr 165), de P "InvalidColumns" 413 (vr 184), de P "InvalidOrder" 438 (vr 203), de P "InvalidKey" 463 (vr 222), de P "InvalidWrite" 488 (vr 241), de P "InvalidQuery" 515 (vr 260), de P "InvalidText" 540 (vr 279), de P "InvalidPaper" 565 (vr 298), de P "InvalidLimit" 590 (vr 317), de P "InvalidPage" 615 (vr 336), de P "UnknownTable" 642 (vr 355), de P "UnknownVersion" 669 (vr 375), de P "TooOld" 696 (vr 395), de P "UnknownName" 723 (vr 415), de P "NameTaken" 750 (vr 435), de P "KeyTaken" 779 (vr 455), de P "NoSuchRow" 808 (vr 475), de P "Unlike" 826 (vr 488), de P "NoHalf" 853 (vr 508), de P "NotJoined" 880 (vr 528), de P "NotAPoint" 898 (vr 541), de P "WrongColumns" 925 (vr 561), de P "NotEmpty" 952 (vr 581), de P "Ended" 970 (vr 594), de P "Changed" 999 (vr 614), de P "Violated" 1028 (vr 634), de P "Crashed" 1046 (vr 647), de P "DiskInUse" 1064 (vr 660), de P "NoStore" 1082 (vr 673), de P "TooMany" 1113 (vr 693), de P "MAX_BITS" 1117 (vi 10 1116), de P "DIGITS_ranges" 1119 (vs "01" 1118), de P "is_integer" 1126 (vr 703), de P "is_bits" 1133 (vr 710), de P "is_value" 1141 (vr 717), de P "is_range" 1147 (vr 722), de P "require_bits" 1154 (vr 729), de P "require_value" 1162 (vr 736), de P "require_range" 1170 (vr 743), de P "number_of" 1179 (vr 750), de P "range_of" 1185 (vr 755), de P "bounds" 1195 (vr 762), de P "common_range" 1204 (vr 769), de P "common_length" 1213 (vr 776), de P "widest_range" 1225 (vr 785), de P "PAGE_SIZE" 1229 (vi 32 1228), de P "require_page" 1236 (vr 792), de P "Disk" 1330 (vr 866), de P "MOST_RANGES" 1334 (vi 5 1333), de P "ALL" 1336 (vs "*" 1335), de P "NO_RANGES" 1338 (vs "-" 1337), de P "COMMA_boxes" 1340 (vs "," 1339), de P "require_ranges" 1350 (vr 877), de P "ranges_text" 1356 (vr 882), de P "ranges_in" 1362 (vr 887), de P "Box" 1643 (vr 1096)] 73) []),
  boot_o_4 P,
  boot_o_5 P,
  boot_o_6 P,
  boot_o_7 P,
  boot_o_8 P,
  boot_o_9 P,
  boot_o_10 P,
  (ob (vt "tuple") none (sq [] 0) []),
  (ob vN none (fi [(vi 1 0), (vi 0 0), (vr 20), (vi 5 0), (vi 0 0), (vr 27), (vi 7 0), (vi 0 0), (vr 40), (vi 12 0), (vi 0 0), (vr 59), (vi 17 0), (vi 0 0), (vr 78), (vi 22 0), (vi 0 0), (vr 97), (vi 27 0), (vi 0 0), (vr 116), (vi 32 0), (vi 0 0), (vr 135), (vi 37 0), (vi 0 0), (vr 154), (vi 42 0), (vi 0 0), (vr 173), (vi 47 0), (vi 0 0), (vr 192), (vi 52 0), (vi 0 0), (vr 211), (vi 57 0), (vi 0 0), (vr 230), (vi 62 0), (vi 0 0), (vr 249), (vi 68 0), (vi 0 0), (vr 268), (vi 73 0), (vi 0 0), (vr 287), (vi 78 0), (vi 0 0), (vr 306), (vi 83 0), (vi 0 0), (vr 325), (vi 88 0), (vi 0 0), (vr 344), (vi 93 0), (vi 0 0), (vr 364), (vi 98 0), (vi 0 0), (vr 384), (vi 103 0), (vi 0 0), (vr 404), (vi 108 0), (vi 0 0), (vr 424), (vi 113 0), (vi 0 0), (vr 444), (vi 119 0), (vi 0 0), (vr 464), (vi 125 0), (vi 0 0), (vr 484), (vi 127 0), (vi 0 0), (vr 497), (vi 132 0), (vi 0 0), (vr 517), (vi 137 0), (vi 0 0), (vr 537), (vi 139 0), (vi 0 0), (vr 550), (vi 144 0), (vi 0 0), (vr 570), (vi 149 0), (vi 0 0), (vr 590), (vi 151 0), (vi 0 0), (vr 603), (vi 157 0), (vi 0 0), (vr 623), (vi 163 0), (vi 0 0), (vr 643), (vi 165 0), (vi 0 0), (vr 656), (vi 167 0), (vi 0 0), (vr 669), (vi 169 0), (vi 0 0), (vr 682), (vi 178 0), (vi 0 0), (vr 702), (vi 180 0), (vi 0 0), (vr 709), (vi 182 0), (vi 0 0), (vr 716), (vi 184 0), (vi 0 0), (vr 721), (vi 188 0), (vi 0 0), (vr 728), (vi 191 0), (vi 0 0), (vr 735), (vi 194 0), (vi 0 0), (vr 742), (vi 197 0), (vi 0 0), (vr 749), (vi 202 0), (vi 0 0), (vr 754), (vi 206 0), (vi 0 0), (vr 761), (vi 212 0), (vi 0 0), (vr 768), (vi 219 0), (vi 0 0), (vr 775), (vi 224 0), (vi 0 0), (vr 784), (vi 234 0), (vi 0 0), (vr 791), (vi 237 0), (vi 0 0), (vr 798), (vi 286 0), (vi 0 0), (vr 876), (vi 292 0), (vi 0 0), (vr 881), (vi 296 0), (vi 0 0), (vr 886), (vi 306 0), (vi 0 0), (vr 893)]) []),
  (ob (vt "code") none (fi [(vs "<module>" 182), (vs "<module>" 183), (vs "/claim/cut.py" 184), (vi 1 0), (vi 0 0), (vi 0 0), (vi 0 0), (vi 0 0), (vr 11), vF, (vi 181 0), (vr 12), vN, vN, vN, vN, (vi 185 0), (vi 1 0), (vs "/claim/cut.py" 186)]) []),
  (ob (vt "frame") none .plain [(some (vr 13)), (some (vr 3)), (some (vr 3)), none, (some (vs "__main__" 164)), none, (some (vr 0))]),
  (ob (vt "tuple") none (sq [] 0) [])]
def o2_40 (P : Params) : List Obj := [
  (ob (vt "dict") none (di [de P "__module__" 1036 (vs "coverstore.errors" 194), de P "__qualname__" 1038 (vs "Crashed" 1037), de P "__firstlineno__" 1040 (vi 163 1039), de P "__static_attributes__" 1041 (vr 645)] 4) []),
  (ob (vt "tuple") none (sq [] 0) []),
  (ob vN none (fi []) []),
  (ob (vt "code") none (fi [(vs "Crashed" 1031), (vs "Crashed" 1032), (vs "/claim/cut.py" 1033), (vi 163 0), (vi 0 0), (vi 0 0), (vi 0 0), (vi 0 0), (vr 641), vF, (vi 181 0), (vr 642), vN, vN, vN, vN, (vi 1034 0), (vi 163 0), (vs "/claim/cut.py" 1035)]) []),
  (ob (vt "frame") none .plain [(some (vr 643)), (some (vr 3)), (some (vr 640)), none, (some (vs "coverstore.errors" 194)), none, (some (vr 0))]),
  (ob (vt "tuple") none (sq [] 0) []),
  (ob (vt "dict") none (di [de P "__module__" 1036 (vs "coverstore.errors" 194), de P "__firstlineno__" 1040 (vi 163 1039), de P "__static_attributes__" 1041 (vr 645), de P "__weakref__" 1043 (vr 648), de P "__doc__" 1044 vN] 3) []),
  (ob (vt "type") none (.cls ⟨"Crashed", [(vt "RuntimeError")], [(vr 647), (vt "RuntimeError"), (vt "Exception"), (vt "BaseException"), (vt "object")], 646, "Crashed", true, [], [], false, none, false⟩) [(some (vr 638)), none, (some (vs "Crashed" 1029)), (some (vs "Crashed" 1037)), (some (vb "RuntimeError.__new__")), (some vT)]),
  (ob (vt "getset_descriptor") none (fi [(vs "__weakref__" 1042), (vr 647), (vb "ExceptionGroup.__weakref__"), vN]) []),
  (ob (vt "super") none (fi [(vr 647), (vr 647), (vr 647)]) []),
  (ob (vt "builtin_function_or_method") none (fi [(vb "object.__init_subclass__"), (vr 647)]) []),
  (ob (vt "tuple") none (sq [(vt "RuntimeError")] 0) []),
  (ob (vt "builtin_function_or_method") none (fi [(vb "type.__prepare__"), (vt "type")]) []),
  (ob (vt "dict") none (di [de P "__module__" 1054 (vs "coverstore.errors" 194), de P "__qualname__" 1056 (vs "DiskInUse" 1055), de P "__firstlineno__" 1058 (vi 165 1057), de P "__static_attributes__" 1059 (vr 658)] 4) []),
  (ob (vt "tuple") none (sq [] 0) []),
  (ob vN none (fi []) [])]
def o2_41 (P : Params) : List Obj := [
  (ob (vt "code") none (fi [(vs "DiskInUse" 1049), (vs "DiskInUse" 1050), (vs "/claim/cut.py" 1051), (vi 165 0), (vi 0 0), (vi 0 0), (vi 0 0), (vi 0 0), (vr 654), vF, (vi 181 0), (vr 655), vN, vN, vN, vN, (vi 1052 0), (vi 165 0), (vs "/claim/cut.py" 1053)]) []),
  (ob (vt "frame") none .plain [(some (vr 656)), (some (vr 3)), (some (vr 653)), none, (some (vs "coverstore.errors" 194)), none, (some (vr 0))]),
  (ob (vt "tuple") none (sq [] 0) []),
  (ob (vt "dict") none (di [de P "__module__" 1054 (vs "coverstore.errors" 194), de P "__firstlineno__" 1058 (vi 165 1057), de P "__static_attributes__" 1059 (vr 658), de P "__weakref__" 1061 (vr 661), de P "__doc__" 1062 vN] 3) []),
  (ob (vt "type") none (.cls ⟨"DiskInUse", [(vt "RuntimeError")], [(vr 660), (vt "RuntimeError"), (vt "Exception"), (vt "BaseException"), (vt "object")], 659, "DiskInUse", true, [], [], false, none, false⟩) [(some (vr 651)), none, (some (vs "DiskInUse" 1047)), (some (vs "DiskInUse" 1055)), (some (vb "RuntimeError.__new__")), (some vT)]),
  (ob (vt "getset_descriptor") none (fi [(vs "__weakref__" 1060), (vr 660), (vb "ExceptionGroup.__weakref__"), vN]) []),
  (ob (vt "super") none (fi [(vr 660), (vr 660), (vr 660)]) []),
  (ob (vt "builtin_function_or_method") none (fi [(vb "object.__init_subclass__"), (vr 660)]) []),
  (ob (vt "tuple") none (sq [(vt "RuntimeError")] 0) []),
  (ob (vt "builtin_function_or_method") none (fi [(vb "type.__prepare__"), (vt "type")]) []),
  (ob (vt "dict") none (di [de P "__module__" 1072 (vs "coverstore.errors" 194), de P "__qualname__" 1074 (vs "NoStore" 1073), de P "__firstlineno__" 1076 (vi 167 1075), de P "__static_attributes__" 1077 (vr 671)] 4) []),
  (ob (vt "tuple") none (sq [] 0) []),
  (ob vN none (fi []) []),
  (ob (vt "code") none (fi [(vs "NoStore" 1067), (vs "NoStore" 1068), (vs "/claim/cut.py" 1069), (vi 167 0), (vi 0 0), (vi 0 0), (vi 0 0), (vi 0 0), (vr 667), vF, (vi 181 0), (vr 668), vN, vN, vN, vN, (vi 1070 0), (vi 167 0), (vs "/claim/cut.py" 1071)]) []),
  (ob (vt "frame") none .plain [(some (vr 669)), (some (vr 3)), (some (vr 666)), none, (some (vs "coverstore.errors" 194)), none, (some (vr 0))]),
  (ob (vt "tuple") none (sq [] 0) [])]
def o2_42 (P : Params) : List Obj := [
  (ob (vt "dict") none (di [de P "__module__" 1072 (vs "coverstore.errors" 194), de P "__firstlineno__" 1076 (vi 167 1075), de P "__static_attributes__" 1077 (vr 671), de P "__weakref__" 1079 (vr 674), de P "__doc__" 1080 vN] 3) []),
  (ob (vt "type") none (.cls ⟨"NoStore", [(vt "RuntimeError")], [(vr 673), (vt "RuntimeError"), (vt "Exception"), (vt "BaseException"), (vt "object")], 672, "NoStore", true, [], [], false, none, false⟩) [(some (vr 664)), none, (some (vs "NoStore" 1065)), (some (vs "NoStore" 1073)), (some (vb "RuntimeError.__new__")), (some vT)]),
  (ob (vt "getset_descriptor") none (fi [(vs "__weakref__" 1078), (vr 673), (vb "ExceptionGroup.__weakref__"), vN]) []),
  (ob (vt "super") none (fi [(vr 673), (vr 673), (vr 673)]) []),
  (ob (vt "builtin_function_or_method") none (fi [(vb "object.__init_subclass__"), (vr 673)]) []),
  (ob (vt "tuple") none (sq [(vt "ArithmeticError")] 0) []),
  (ob (vt "builtin_function_or_method") none (fi [(vb "type.__prepare__"), (vt "type")]) []),
  (ob (vt "dict") none (di [de P "__module__" 1090 (vs "coverstore.errors" 194), de P "__qualname__" 1092 (vs "TooMany" 1091), de P "__firstlineno__" 1094 (vi 169 1093), de P "__init__" 1103 (vr 690), de P "__static_attributes__" 1106 (vr 691)] 5) []),
  (ob (vt "tuple") none (sq [] 0) []),
  (ob vN none (fi [(vi 171 0), (vi 4 0), (vr 689)]) []),
  (ob (vt "code") none (fi [(vs "TooMany" 1085), (vs "TooMany" 1086), (vs "/claim/cut.py" 1087), (vi 169 0), (vi 0 0), (vi 0 0), (vi 0 0), (vi 0 0), (vr 680), vF, (vi 181 0), (vr 681), vN, vN, vN, vN, (vi 1088 0), (vi 169 0), (vs "/claim/cut.py" 1089)]) []),
  (ob (vt "frame") none .plain [(some (vr 682)), (some (vr 3)), (some (vr 679)), none, (some (vs "coverstore.errors" 194)), none, (some (vr 0))]),
  (ob (vt "tuple") none (sq [] 0) []),
  (ob vN none (fi []) []),
  (ob (vt "tuple") none (sq [(vs "self" 1098), (vs "kind" 1099), (vs "limit" 1100)] 0) []),
  (ob (vt "tuple") none (sq [] 0) [])]
def o2_43 (P : Params) : List Obj := [
  (ob vN none (.func (fu (inClass (top 38) 0) "__init__" "TooMany.__init__" 0 [] vN vN vN vN none vN vN 0)) []),
  (ob (vt "code") none (fi [(vs "__init__" 1095), (vs "TooMany.__init__" 1096), (vs "/claim/cut.py" 1097), (vi 171 0), (vi 3 0), (vi 0 0), (vi 0 0), (vi 3 0), (vr 684), vT, (vi 181 0), (vr 685), vN, (vr 686), (vr 687), (vr 688), (vi 1101 0), (vi 171 0), (vs "/claim/cut.py" 1102)]) []),
  (ob (vt "function") none (.func (fu (inClass (top 38) 0) "__init__" "TooMany.__init__" 3 [] vN vN vN (vs "coverstore.errors" 194) none (vr 689) vN 0)) []),
  (ob (vt "tuple") none (sq [(vs "kind" 1104), (vs "limit" 1105)] 0) []),
  (ob (vt "dict") none (di [de P "__module__" 1090 (vs "coverstore.errors" 194), de P "__firstlineno__" 1094 (vi 169 1093), de P "__init__" 1103 (vr 690), de P "__static_attributes__" 1106 (vr 691), de P "__weakref__" 1108 (vr 694), de P "__doc__" 1109 vN] 3) []),
  (ob (vt "type") none (.cls ⟨"TooMany", [(vt "ArithmeticError")], [(vr 693), (vt "ArithmeticError"), (vt "Exception"), (vt "BaseException"), (vt "object")], 692, "TooMany", true, [], [], false, none, false⟩) [(some (vr 677)), none, (some (vs "TooMany" 1083)), (some (vs "TooMany" 1091)), (some (vb "ArithmeticError.__new__")), (some vT)]),
  (ob (vt "getset_descriptor") none (fi [(vs "__weakref__" 1107), (vr 693), (vb "ExceptionGroup.__weakref__"), vN]) []),
  (ob (vt "super") none (fi [(vr 693), (vr 693), (vr 693)]) []),
  (ob (vt "builtin_function_or_method") none (fi [(vb "object.__init_subclass__"), (vr 693)]) []),
  (ob (vt "tuple") none (sq [] 0) []),
  (ob vN none (fi []) []),
  (ob (vt "tuple") none (sq [(vs "value" 1123)] 0) []),
  (ob (vt "tuple") none (sq [] 0) []),
  (ob vN none (.func (fu (top 42) "is_integer" "is_integer" 0 [] vN vN vN vN none vN vN 0)) []),
  (ob (vt "code") none (fi [(vs "is_integer" 1120), (vs "is_integer" 1121), (vs "/claim/cut.py" 1122), (vi 178 0), (vi 1 0), (vi 0 0), (vi 0 0), (vi 3 0), (vr 697), vT, (vi 181 0), (vr 698), vN, (vr 699), (vr 700), (vr 701), (vi 1124 0), (vi 178 0), (vs "/claim/cut.py" 1125)]) []),
  (ob (vt "function") none (.func (fu (top 42) "is_integer" "is_integer" 3 [] vN vN vN (vs "coverstore.ranges" 1114) none (vr 702) vN 0)) [])]
def o2_44 (P : Params) : List Obj := [
  (ob (vt "tuple") none (sq [] 0) []),
  (ob vN none (fi []) []),
  (ob (vt "tuple") none (sq [(vs "value" 1130)] 0) []),
  (ob (vt "tuple") none (sq [] 0) []),
  (ob vN none (.func (fu (top 43) "is_bits" "is_bits" 0 [] vN vN vN vN none vN vN 0)) []),
  (ob (vt "code") none (fi [(vs "is_bits" 1127), (vs "is_bits" 1128), (vs "/claim/cut.py" 1129), (vi 180 0), (vi 1 0), (vi 0 0), (vi 0 0), (vi 3 0), (vr 704), vT, (vi 181 0), (vr 705), vN, (vr 706), (vr 707), (vr 708), (vi 1131 0), (vi 180 0), (vs "/claim/cut.py" 1132)]) []),
  (ob (vt "function") none (.func (fu (top 43) "is_bits" "is_bits" 3 [] vN vN vN (vs "coverstore.ranges" 1114) none (vr 709) vN 0)) []),
  (ob (vt "tuple") none (sq [] 0) []),
  (ob vN none (fi []) []),
  (ob (vt "tuple") none (sq [(vs "value" 1137), (vs "bits" 1138)] 0) []),
  (ob (vt "tuple") none (sq [] 0) []),
  (ob vN none (.func (fu (top 44) "is_value" "is_value" 0 [] vN vN vN vN none vN vN 0)) []),
  (ob (vt "code") none (fi [(vs "is_value" 1134), (vs "is_value" 1135), (vs "/claim/cut.py" 1136), (vi 182 0), (vi 2 0), (vi 0 0), (vi 0 0), (vi 3 0), (vr 711), vT, (vi 181 0), (vr 712), vN, (vr 713), (vr 714), (vr 715), (vi 1139 0), (vi 182 0), (vs "/claim/cut.py" 1140)]) []),
  (ob (vt "function") none (.func (fu (top 44) "is_value" "is_value" 3 [] vN vN vN (vs "coverstore.ranges" 1114) none (vr 716) vN 0)) []),
  (ob (vt "tuple") none (sq [] 0) []),
  (ob vN none (fi []) [])]
def o2_45 (P : Params) : List Obj := [
  (ob vN none (.func (fu (top 45) "is_range" "is_range" 0 [] vN vN vN vN none vN vN 0)) []),
  (ob (vt "code") none (fi [(vs "is_range" 1142), (vs "is_range" 1143), (vs "/claim/cut.py" 1144), (vi 184 0), (vi 2 0), (vi 0 0), (vi 0 0), (vi 3 0), (vr 718), vT, (vi 181 0), (vr 719), vN, vN, vN, (vr 720), (vi 1145 0), (vi 184 0), (vs "/claim/cut.py" 1146)]) []),
  (ob (vt "function") none (.func (fu (top 45) "is_range" "is_range" 3 [] vN vN vN (vs "coverstore.ranges" 1114) none (vr 721) vN 0)) []),
  (ob (vt "tuple") none (sq [] 0) []),
  (ob vN none (fi []) []),
  (ob (vt "tuple") none (sq [(vs "bits" 1151)] 0) []),
  (ob (vt "tuple") none (sq [] 0) []),
  (ob vN none (.func (fu (top 46) "require_bits" "require_bits" 0 [] vN vN vN vN none vN vN 0)) []),
  (ob (vt "code") none (fi [(vs "require_bits" 1148), (vs "require_bits" 1149), (vs "/claim/cut.py" 1150), (vi 188 0), (vi 1 0), (vi 0 0), (vi 0 0), (vi 3 0), (vr 723), vT, (vi 181 0), (vr 724), vN, (vr 725), (vr 726), (vr 727), (vi 1152 0), (vi 188 0), (vs "/claim/cut.py" 1153)]) []),
  (ob (vt "function") none (.func (fu (top 46) "require_bits" "require_bits" 3 [] vN vN vN (vs "coverstore.ranges" 1114) none (vr 728) vN 0)) []),
  (ob (vt "tuple") none (sq [] 0) []),
  (ob vN none (fi []) []),
  (ob (vt "tuple") none (sq [(vs "value" 1158), (vs "bits" 1159)] 0) []),
  (ob (vt "tuple") none (sq [] 0) []),
  (ob vN none (.func (fu (top 47) "require_value" "require_value" 0 [] vN vN vN vN none vN vN 0)) []),
  (ob (vt "code") none (fi [(vs "require_value" 1155), (vs "require_value" 1156), (vs "/claim/cut.py" 1157), (vi 191 0), (vi 2 0), (vi 0 0), (vi 0 0), (vi 3 0), (vr 730), vT, (vi 181 0), (vr 731), vN, (vr 732), (vr 733), (vr 734), (vi 1160 0), (vi 191 0), (vs "/claim/cut.py" 1161)]) [])]
def o2_46 (P : Params) : List Obj := [
  (ob (vt "function") none (.func (fu (top 47) "require_value" "require_value" 3 [] vN vN vN (vs "coverstore.ranges" 1114) none (vr 735) vN 0)) []),
  (ob (vt "tuple") none (sq [] 0) []),
  (ob vN none (fi []) []),
  (ob (vt "tuple") none (sq [(vs "value" 1166), (vs "bits" 1167)] 0) []),
  (ob (vt "tuple") none (sq [] 0) []),
  (ob vN none (.func (fu (top 48) "require_range" "require_range" 0 [] vN vN vN vN none vN vN 0)) []),
  (ob (vt "code") none (fi [(vs "require_range" 1163), (vs "require_range" 1164), (vs "/claim/cut.py" 1165), (vi 194 0), (vi 2 0), (vi 0 0), (vi 0 0), (vi 3 0), (vr 737), vT, (vi 181 0), (vr 738), vN, (vr 739), (vr 740), (vr 741), (vi 1168 0), (vi 194 0), (vs "/claim/cut.py" 1169)]) []),
  (ob (vt "function") none (.func (fu (top 48) "require_range" "require_range" 3 [] vN vN vN (vs "coverstore.ranges" 1114) none (vr 742) vN 0)) []),
  (ob (vt "tuple") none (sq [] 0) []),
  (ob vN none (fi []) []),
  (ob (vt "tuple") none (sq [(vs "digits" 1174), (vs "number" 1175), (vs "digit" 1176)] 0) []),
  (ob (vt "tuple") none (sq [] 0) []),
  (ob vN none (.func (fu (top 49) "number_of" "number_of" 0 [] vN vN vN vN none vN vN 0)) []),
  (ob (vt "code") none (fi [(vs "number_of" 1171), (vs "number_of" 1172), (vs "/claim/cut.py" 1173), (vi 197 0), (vi 1 0), (vi 0 0), (vi 0 0), (vi 3 0), (vr 744), vT, (vi 181 0), (vr 745), vN, (vr 746), (vr 747), (vr 748), (vi 1177 0), (vi 197 0), (vs "/claim/cut.py" 1178)]) []),
  (ob (vt "function") none (.func (fu (top 49) "number_of" "number_of" 3 [] vN vN vN (vs "coverstore.ranges" 1114) none (vr 749) vN 0)) []),
  (ob (vt "tuple") none (sq [] 0) [])]
def o2_47 (P : Params) : List Obj := [
  (ob vN none (fi []) []),
  (ob vN none (.func (fu (top 50) "range_of" "range_of" 0 [] vN vN vN vN none vN vN 0)) []),
  (ob (vt "code") none (fi [(vs "range_of" 1180), (vs "range_of" 1181), (vs "/claim/cut.py" 1182), (vi 202 0), (vi 2 0), (vi 0 0), (vi 0 0), (vi 3 0), (vr 751), vT, (vi 181 0), (vr 752), vN, vN, vN, (vr 753), (vi 1183 0), (vi 202 0), (vs "/claim/cut.py" 1184)]) []),
  (ob (vt "function") none (.func (fu (top 50) "range_of" "range_of" 3 [] vN vN vN (vs "coverstore.ranges" 1114) none (vr 754) vN 0)) []),
  (ob (vt "tuple") none (sq [] 0) []),
  (ob vN none (fi []) []),
  (ob (vt "tuple") none (sq [(vs "prefix" 1189), (vs "bits" 1190), (vs "free" 1191), (vs "least" 1192)] 0) []),
  (ob (vt "tuple") none (sq [] 0) []),
  (ob vN none (.func (fu (top 51) "bounds" "bounds" 0 [] vN vN vN vN none vN vN 0)) []),
  (ob (vt "code") none (fi [(vs "bounds" 1186), (vs "bounds" 1187), (vs "/claim/cut.py" 1188), (vi 206 0), (vi 2 0), (vi 0 0), (vi 0 0), (vi 3 0), (vr 756), vT, (vi 181 0), (vr 757), vN, (vr 758), (vr 759), (vr 760), (vi 1193 0), (vi 206 0), (vs "/claim/cut.py" 1194)]) []),
  (ob (vt "function") none (.func (fu (top 51) "bounds" "bounds" 3 [] vN vN vN (vs "coverstore.ranges" 1114) none (vr 761) vN 0)) []),
  (ob (vt "tuple") none (sq [] 0) []),
  (ob vN none (fi []) []),
  (ob (vt "tuple") none (sq [(vs "one" 1199), (vs "other" 1200), (vs "bits" 1201)] 0) []),
  (ob (vt "tuple") none (sq [] 0) []),
  (ob vN none (.func (fu (top 52) "common_range" "common_range" 0 [] vN vN vN vN none vN vN 0)) [])]
def o2_48 (P : Params) : List Obj := [
  (ob (vt "code") none (fi [(vs "common_range" 1196), (vs "common_range" 1197), (vs "/claim/cut.py" 1198), (vi 212 0), (vi 3 0), (vi 0 0), (vi 0 0), (vi 3 0), (vr 763), vT, (vi 181 0), (vr 764), vN, (vr 765), (vr 766), (vr 767), (vi 1202 0), (vi 212 0), (vs "/claim/cut.py" 1203)]) []),
  (ob (vt "function") none (.func (fu (top 52) "common_range" "common_range" 3 [] vN vN vN (vs "coverstore.ranges" 1114) none (vr 768) vN 0)) []),
  (ob (vt "tuple") none (sq [] 0) []),
  (ob vN none (fi []) []),
  (ob (vt "tuple") none (sq [(vs "one" 1208), (vs "other" 1209), (vs "length" 1210)] 0) []),
  (ob (vt "tuple") none (sq [] 0) []),
  (ob vN none (.func (fu (top 53) "common_length" "common_length" 0 [] vN vN vN vN none vN vN 0)) []),
  (ob (vt "code") none (fi [(vs "common_length" 1205), (vs "common_length" 1206), (vs "/claim/cut.py" 1207), (vi 219 0), (vi 2 0), (vi 0 0), (vi 0 0), (vi 3 0), (vr 770), vT, (vi 181 0), (vr 771), vN, (vr 772), (vr 773), (vr 774), (vi 1211 0), (vi 219 0), (vs "/claim/cut.py" 1212)]) []),
  (ob (vt "function") none (.func (fu (top 53) "common_length" "common_length" 3 [] vN vN vN (vs "coverstore.ranges" 1114) none (vr 775) vN 0)) []),
  (ob (vt "tuple") none (sq [] 0) []),
  (ob (vt "tuple") none (sq [(vr 777)] 0) []),
  (ob (vt "tuple") none (sq [] 0) []),
  (ob vN none (fi []) []),
  (ob (vt "tuple") none (sq [(vs "value" 1217), (vs "bits" 1218), (vs "barred" 1219), (vs "digits" 1220), (vs "length" 1221), (vs "other" 1222)] 0) []),
  (ob (vt "tuple") none (sq [] 0) []),
  (ob vN none (.func (fu (top 54) "widest_range" "widest_range" 0 [] vN vN vN vN none vN vN 0)) [])]
def o2_49 (P : Params) : List Obj := [
  (ob (vt "code") none (fi [(vs "widest_range" 1214), (vs "widest_range" 1215), (vs "/claim/cut.py" 1216), (vi 224 0), (vi 3 0), (vi 0 0), (vi 0 0), (vi 3 0), (vr 779), vT, (vi 181 0), (vr 780), vN, (vr 781), (vr 782), (vr 783), (vi 1223 0), (vi 224 0), (vs "/claim/cut.py" 1224)]) []),
  (ob (vt "function") none (.func (fu (top 54) "widest_range" "widest_range" 3 [] (vr 778) vN vN (vs "coverstore.ranges" 1114) none (vr 784) vN 0)) []),
  (ob (vt "tuple") none (sq [] 0) []),
  (ob vN none (fi []) []),
  (ob (vt "tuple") none (sq [(vs "value" 1233)] 0) []),
  (ob (vt "tuple") none (sq [] 0) []),
  (ob vN none (.func (fu (top 57) "require_page" "require_page" 0 [] vN vN vN vN none vN vN 0)) []),
  (ob (vt "code") none (fi [(vs "require_page" 1230), (vs "require_page" 1231), (vs "/claim/cut.py" 1232), (vi 234 0), (vi 1 0), (vi 0 0), (vi 0 0), (vi 3 0), (vr 786), vT, (vi 181 0), (vr 787), vN, (vr 788), (vr 789), (vr 790), (vi 1234 0), (vi 234 0), (vs "/claim/cut.py" 1235)]) []),
  (ob (vt "function") none (.func (fu (top 57) "require_page" "require_page" 3 [] vN vN vN (vs "coverstore.disks" 1226) none (vr 791) vN 0)) []),
  (ob (vt "tuple") none (sq [] 0) []),
  (ob (vt "builtin_function_or_method") none (fi [(vb "type.__prepare__"), (vt "type")]) []),
  (ob (vt "dict") none (di [de P "__module__" 1244 (vs "coverstore.disks" 1226), de P "__qualname__" 1246 (vs "Disk" 1245), de P "__firstlineno__" 1248 (vi 237 1247), de P "PAGE" 1250 (vi 32 1249), de P "__init__" 1257 (vr 806), de P "__len__" 1264 (vr 813), de P "has_crashed" 1272 (vr 821), de P "pages" 1279 (vr 828), de P "write" 1287 (vr 835), de P "crash_after" 1295 (vr 842), de P "restarted" 1303 (vr 849), de P "spoil" 1312 (vr 856), de P "keep_first" 1320 (vr 863), de P "__static_attributes__" 1323 (vr 864)] 14) []),
  (ob (vt "tuple") none (sq [] 0) []),
  (ob vN none (fi [(vi 240 0), (vi 4 0), (vr 805), (vi 244 0), (vi 4 0), (vr 812), (vi 248 0), (vi 4 0), (vr 819), (vi 251 0), (vi 4 0), (vr 827), (vi 254 0), (vi 4 0), (vr 834), (vi 262 0), (vi 4 0), (vr 841), (vi 268 0), (vi 4 0), (vr 848), (vi 273 0), (vi 4 0), (vr 855), (vi 279 0), (vi 4 0), (vr 862)]) []),
  (ob (vt "code") none (fi [(vs "Disk" 1239), (vs "Disk" 1240), (vs "/claim/cut.py" 1241), (vi 237 0), (vi 0 0), (vi 0 0), (vi 0 0), (vi 0 0), (vr 796), vF, (vi 181 0), (vr 797), vN, vN, vN, vN, (vi 1242 0), (vi 237 0), (vs "/claim/cut.py" 1243)]) []),
  (ob (vt "frame") none .plain [(some (vr 798)), (some (vr 3)), (some (vr 795)), none, (some (vs "coverstore.disks" 1226)), none, (some (vr 0))])]
def o2_50 (P : Params) : List Obj := [
  (ob (vt "tuple") none (sq [] 0) []),
  (ob vN none (fi []) []),
  (ob (vt "tuple") none (sq [(vs "self" 1254)] 0) []),
  (ob (vt "tuple") none (sq [] 0) []),
  (ob vN none (.func (fu (inClass (top 58) 1) "__init__" "Disk.__init__" 0 [] vN vN vN vN none vN vN 0)) []),
  (ob (vt "code") none (fi [(vs "__init__" 1251), (vs "Disk.__init__" 1252), (vs "/claim/cut.py" 1253), (vi 240 0), (vi 1 0), (vi 0 0), (vi 0 0), (vi 3 0), (vr 800), vT, (vi 181 0), (vr 801), vN, (vr 802), (vr 803), (vr 804), (vi 1255 0), (vi 240 0), (vs "/claim/cut.py" 1256)]) []),
  (ob (vt "function") none (.func (fu (inClass (top 58) 1) "__init__" "Disk.__init__" 3 [] vN vN vN (vs "coverstore.disks" 1226) none (vr 805) vN 0)) []),
  (ob (vt "tuple") none (sq [] 0) []),
  (ob vN none (fi []) []),
  (ob (vt "tuple") none (sq [(vs "self" 1261)] 0) []),
  (ob (vt "tuple") none (sq [] 0) []),
  (ob vN none (.func (fu (inClass (top 58) 2) "__len__" "Disk.__len__" 0 [] vN vN vN vN none vN vN 0)) []),
  (ob (vt "code") none (fi [(vs "__len__" 1258), (vs "Disk.__len__" 1259), (vs "/claim/cut.py" 1260), (vi 244 0), (vi 1 0), (vi 0 0), (vi 0 0), (vi 3 0), (vr 807), vT, (vi 181 0), (vr 808), vN, (vr 809), (vr 810), (vr 811), (vi 1262 0), (vi 244 0), (vs "/claim/cut.py" 1263)]) []),
  (ob (vt "function") none (.func (fu (inClass (top 58) 2) "__len__" "Disk.__len__" 3 [] vN vN vN (vs "coverstore.disks" 1226) none (vr 812) vN 0)) []),
  (ob (vt "tuple") none (sq [] 0) []),
  (ob vN none (fi []) [])]
def o2_51 (P : Params) : List Obj := [
  (ob (vt "tuple") none (sq [(vs "self" 1268)] 0) []),
  (ob (vt "tuple") none (sq [] 0) []),
  (ob vN none (.func (fu (inClass (top 58) 3) "has_crashed" "Disk.has_crashed" 0 [] vN vN vN vN none vN vN 0)) []),
  (ob (vt "code") none (fi [(vs "has_crashed" 1265), (vs "Disk.has_crashed" 1266), (vs "/claim/cut.py" 1267), (vi 247 0), (vi 1 0), (vi 0 0), (vi 0 0), (vi 3 0), (vr 814), vT, (vi 181 0), (vr 815), vN, (vr 816), (vr 817), (vr 818), (vi 1269 0), (vi 247 0), (vs "/claim/cut.py" 1270)]) []),
  (ob (vt "function") none (.func (fu (inClass (top 58) 3) "has_crashed" "Disk.has_crashed" 3 [] vN vN vN (vs "coverstore.disks" 1226) none (vr 819) vN 0)) []),
  (ob (vt "property") none (fi [(vr 820), vN, vN, vN, (vs "has_crashed" 1272), vF]) []),
  (ob (vt "tuple") none (sq [] 0) []),
  (ob vN none (fi []) []),
  (ob (vt "tuple") none (sq [(vs "self" 1276)] 0) []),
  (ob (vt "tuple") none (sq [] 0) []),
  (ob vN none (.func (fu (inClass (top 58) 4) "pages" "Disk.pages" 0 [] vN vN vN vN none vN vN 0)) []),
  (ob (vt "code") none (fi [(vs "pages" 1273), (vs "Disk.pages" 1274), (vs "/claim/cut.py" 1275), (vi 251 0), (vi 1 0), (vi 0 0), (vi 0 0), (vi 3 0), (vr 822), vT, (vi 181 0), (vr 823), vN, (vr 824), (vr 825), (vr 826), (vi 1277 0), (vi 251 0), (vs "/claim/cut.py" 1278)]) []),
  (ob (vt "function") none (.func (fu (inClass (top 58) 4) "pages" "Disk.pages" 3 [] vN vN vN (vs "coverstore.disks" 1226) none (vr 827) vN 0)) []),
  (ob (vt "tuple") none (sq [] 0) []),
  (ob vN none (fi []) []),
  (ob (vt "tuple") none (sq [(vs "self" 1283), (vs "page" 1284)] 0) [])]
def o2_52 (P : Params) : List Obj := [
  (ob (vt "tuple") none (sq [] 0) []),
  (ob vN none (.func (fu (inClass (top 58) 5) "write" "Disk.write" 0 [] vN vN vN vN none vN vN 0)) []),
  (ob (vt "code") none (fi [(vs "write" 1280), (vs "Disk.write" 1281), (vs "/claim/cut.py" 1282), (vi 254 0), (vi 2 0), (vi 0 0), (vi 0 0), (vi 3 0), (vr 829), vT, (vi 181 0), (vr 830), vN, (vr 831), (vr 832), (vr 833), (vi 1285 0), (vi 254 0), (vs "/claim/cut.py" 1286)]) []),
  (ob (vt "function") none (.func (fu (inClass (top 58) 5) "write" "Disk.write" 3 [] vN vN vN (vs "coverstore.disks" 1226) none (vr 834) vN 0)) []),
  (ob (vt "tuple") none (sq [] 0) []),
  (ob vN none (fi []) []),
  (ob (vt "tuple") none (sq [(vs "self" 1291), (vs "count" 1292)] 0) []),
  (ob (vt "tuple") none (sq [] 0) []),
  (ob vN none (.func (fu (inClass (top 58) 6) "crash_after" "Disk.crash_after" 0 [] vN vN vN vN none vN vN 0)) []),
  (ob (vt "code") none (fi [(vs "crash_after" 1288), (vs "Disk.crash_after" 1289), (vs "/claim/cut.py" 1290), (vi 262 0), (vi 2 0), (vi 0 0), (vi 0 0), (vi 3 0), (vr 836), vT, (vi 181 0), (vr 837), vN, (vr 838), (vr 839), (vr 840), (vi 1293 0), (vi 262 0), (vs "/claim/cut.py" 1294)]) []),
  (ob (vt "function") none (.func (fu (inClass (top 58) 6) "crash_after" "Disk.crash_after" 3 [] vN vN vN (vs "coverstore.disks" 1226) none (vr 841) vN 0)) []),
  (ob (vt "tuple") none (sq [] 0) []),
  (ob vN none (fi []) []),
  (ob (vt "tuple") none (sq [(vs "self" 1299), (vs "found" 1300)] 0) []),
  (ob (vt "tuple") none (sq [] 0) []),
  (ob vN none (.func (fu (inClass (top 58) 7) "restarted" "Disk.restarted" 0 [] vN vN vN vN none vN vN 0)) [])]
def o2_53 (P : Params) : List Obj := [
  (ob (vt "code") none (fi [(vs "restarted" 1296), (vs "Disk.restarted" 1297), (vs "/claim/cut.py" 1298), (vi 268 0), (vi 1 0), (vi 0 0), (vi 0 0), (vi 3 0), (vr 843), vT, (vi 181 0), (vr 844), vN, (vr 845), (vr 846), (vr 847), (vi 1301 0), (vi 268 0), (vs "/claim/cut.py" 1302)]) []),
  (ob (vt "function") none (.func (fu (inClass (top 58) 7) "restarted" "Disk.restarted" 3 [] vN vN vN (vs "coverstore.disks" 1226) none (vr 848) vN 0)) []),
  (ob (vt "tuple") none (sq [] 0) []),
  (ob vN none (fi []) []),
  (ob (vt "tuple") none (sq [(vs "self" 1307), (vs "number" 1308), (vs "page" 1309)] 0) []),
  (ob (vt "tuple") none (sq [] 0) []),
  (ob vN none (.func (fu (inClass (top 58) 8) "spoil" "Disk.spoil" 0 [] vN vN vN vN none vN vN 0)) []),
  (ob (vt "code") none (fi [(vs "spoil" 1304), (vs "Disk.spoil" 1305), (vs "/claim/cut.py" 1306), (vi 273 0), (vi 3 0), (vi 0 0), (vi 0 0), (vi 3 0), (vr 850), vT, (vi 181 0), (vr 851), vN, (vr 852), (vr 853), (vr 854), (vi 1310 0), (vi 273 0), (vs "/claim/cut.py" 1311)]) []),
  (ob (vt "function") none (.func (fu (inClass (top 58) 8) "spoil" "Disk.spoil" 3 [] vN vN vN (vs "coverstore.disks" 1226) none (vr 855) vN 0)) []),
  (ob (vt "tuple") none (sq [] 0) []),
  (ob vN none (fi []) []),
  (ob (vt "tuple") none (sq [(vs "self" 1316), (vs "count" 1317)] 0) []),
  (ob (vt "tuple") none (sq [] 0) []),
  (ob vN none (.func (fu (inClass (top 58) 9) "keep_first" "Disk.keep_first" 0 [] vN vN vN vN none vN vN 0)) []),
  (ob (vt "code") none (fi [(vs "keep_first" 1313), (vs "Disk.keep_first" 1314), (vs "/claim/cut.py" 1315), (vi 279 0), (vi 2 0), (vi 0 0), (vi 0 0), (vi 3 0), (vr 857), vT, (vi 181 0), (vr 858), vN, (vr 859), (vr 860), (vr 861), (vi 1318 0), (vi 279 0), (vs "/claim/cut.py" 1319)]) []),
  (ob (vt "function") none (.func (fu (inClass (top 58) 9) "keep_first" "Disk.keep_first" 3 [] vN vN vN (vs "coverstore.disks" 1226) none (vr 862) vN 0)) [])]
def o2_54 (P : Params) : List Obj := [
  (ob (vt "tuple") none (sq [(vs "own_pages" 1321), (vs "pages_left" 1322)] 0) []),
  (ob (vt "dict") none (di [de P "__module__" 1244 (vs "coverstore.disks" 1226), de P "__firstlineno__" 1248 (vi 237 1247), de P "PAGE" 1250 (vi 32 1249), de P "__init__" 1257 (vr 806), de P "__len__" 1264 (vr 813), de P "has_crashed" 1272 (vr 821), de P "pages" 1279 (vr 828), de P "write" 1287 (vr 835), de P "crash_after" 1295 (vr 842), de P "restarted" 1303 (vr 849), de P "spoil" 1312 (vr 856), de P "keep_first" 1320 (vr 863), de P "__static_attributes__" 1323 (vr 864), de P "__dict__" 1325 (vr 867), de P "__weakref__" 1327 (vr 868), de P "__doc__" 1328 vN] 4) []),
  (ob (vt "type") none (.cls ⟨"Disk", [(vt "object")], [(vr 866), (vt "object")], 865, "Disk", true, [], [], false, none, false⟩) [none, none, (some (vs "Disk" 1237)), (some (vs "Disk" 1245)), (some (vb "object.__new__")), (some vT)]),
  (ob (vt "getset_descriptor") none (fi [(vs "__dict__" 1324), (vr 866), (vb "function.__dict__"), (vb "function.__dict__#set")]) []),
  (ob (vt "getset_descriptor") none (fi [(vs "__weakref__" 1326), (vr 866), (vb "ExceptionGroup.__weakref__"), vN]) []),
  (ob (vt "super") none (fi [(vr 866), (vr 866), (vr 866)]) []),
  (ob (vt "builtin_function_or_method") none (fi [(vb "object.__init_subclass__"), (vr 866)]) []),
  (ob (vt "tuple") none (sq [] 0) []),
  (ob vN none (fi []) []),
  (ob (vt "tuple") none (sq [(vs "ranges" 1344), (vs "bits" 1345), (vs "position" 1346), (vs "one" 1347)] 0) []),
  (ob (vt "tuple") none (sq [] 0) []),
  (ob vN none (.func (fu (top 64) "require_ranges" "require_ranges" 0 [] vN vN vN vN none vN vN 0)) []),
  (ob (vt "code") none (fi [(vs "require_ranges" 1341), (vs "require_ranges" 1342), (vs "/claim/cut.py" 1343), (vi 286 0), (vi 2 0), (vi 0 0), (vi 0 0), (vi 3 0), (vr 871), vT, (vi 181 0), (vr 872), vN, (vr 873), (vr 874), (vr 875), (vi 1348 0), (vi 286 0), (vs "/claim/cut.py" 1349)]) []),
  (ob (vt "function") none (.func (fu (top 64) "require_ranges" "require_ranges" 3 [] vN vN vN (vs "coverstore.boxes" 1331) none (vr 876) vN 0)) []),
  (ob (vt "tuple") none (sq [] 0) []),
  (ob vN none (fi []) [])]
def o2_55 (P : Params) : List Obj := [
  (ob vN none (.func (fu (top 65) "ranges_text" "ranges_text" 0 [] vN vN vN vN none vN vN 0)) []),
  (ob (vt "code") none (fi [(vs "ranges_text" 1351), (vs "ranges_text" 1352), (vs "/claim/cut.py" 1353), (vi 292 0), (vi 1 0), (vi 0 0), (vi 0 0), (vi 3 0), (vr 878), vT, (vi 181 0), (vr 879), vN, vN, vN, (vr 880), (vi 1354 0), (vi 292 0), (vs "/claim/cut.py" 1355)]) []),
  (ob (vt "function") none (.func (fu (top 65) "ranges_text" "ranges_text" 3 [] vN vN vN (vs "coverstore.boxes" 1331) none (vr 881) vN 0)) []),
  (ob (vt "tuple") none (sq [] 0) []),
  (ob vN none (fi []) []),
  (ob vN none (.func (fu (top 66) "ranges_in" "ranges_in" 0 [] vN vN vN vN none vN vN 0)) []),
  (ob (vt "code") none (fi [(vs "ranges_in" 1357), (vs "ranges_in" 1358), (vs "/claim/cut.py" 1359), (vi 296 0), (vi 2 0), (vi 0 0), (vi 0 0), (vi 3 0), (vr 883), vT, (vi 181 0), (vr 884), vN, vN, vN, (vr 885), (vi 1360 0), (vi 296 0), (vs "/claim/cut.py" 1361)]) []),
  (ob (vt "function") none (.func (fu (top 66) "ranges_in" "ranges_in" 3 [] vN vN vN (vs "coverstore.boxes" 1331) none (vr 886) vN 0)) []),
  (ob (vt "tuple") none (sq [] 0) []),
  (ob (vt "builtin_function_or_method") none (fi [(vb "type.__prepare__"), (vt "type")]) []),
  (ob (vt "dict") none (di [de P "__module__" 1370 (vs "coverstore.boxes" 1331), de P "__qualname__" 1372 (vs "Box" 1371), de P "__firstlineno__" 1374 (vi 306 1373), de P "MAX_RANGES" 1376 (vi 5 1375), de P "__init__" 1385 (vr 903), de P "whole" 1406 (vr 912), de P "at" 1424 (vr 920), de P "read" 1446 (vr 930), de P "bits" 1454 (vr 939), de P "ranges" 1462 (vr 947), de P "size" 1472 (vr 955), de P "is_point" 1479 (vr 961), de P "__len__" 1486 (vr 968), de P "__eq__" 1494 (vr 975), de P "__str__" 1501 (vr 982), de P "__repr__" 1508 (vr 989), de P "require_place" 1516 (vr 996), de P "is_like" 1524 (vr 1003), de P "require_like" 1532 (vr 1010), de P "__getitem__" 1540 (vr 1017), de P "__iter__" 1547 (vr 1024), de P "__contains__" 1553 (vr 1029), de P "common" 1559 (vr 1034), de P "__and__" 1568 (vr 1041), de P "meets" 1576 (vr 1048), de P "holds" 1582 (vr 1053), de P "only_point" 1588 (vr 1058), de P "with_range" 1597 (vr 1065), de P "half" 1606 (vr 1072), de P "joined" 1617 (vr 1079), de P "point_number" 1625 (vr 1086), de P "each_point" 1632 (vr 1093), de P "__static_attributes__" 1635 (vr 1094)] 33) []),
  (ob (vt "tuple") none (sq [] 0) []),
  (ob vN none (fi [(vi 309 0), (vi 4 0), (vr 902), (vi 316 0), (vi 4 0), (vr 909), (vi 323 0), (vi 4 0), (vr 917), (vi 333 0), (vi 4 0), (vr 927), (vi 341 0), (vi 4 0), (vr 937), (vi 345 0), (vi 4 0), (vr 945), (vi 349 0), (vi 4 0), (vr 953), (vi 356 0), (vi 4 0), (vr 959), (vi 359 0), (vi 4 0), (vr 967), (vi 362 0), (vi 4 0), (vr 974), (vi 365 0), (vi 4 0), (vr 981), (vi 368 0), (vi 4 0), (vr 988), (vi 371 0), (vi 4 0), (vr 995), (vi 375 0), (vi 4 0), (vr 1002), (vi 378 0), (vi 4 0), (vr 1009), (vi 382 0), (vi 4 0), (vr 1016), (vi 386 0), (vi 4 0), (vr 1023), (vi 389 0), (vi 4 0), (vr 1028), (vi 394 0), (vi 4 0), (vr 1033), (vi 397 0), (vi 4 0), (vr 1040), (vi 402 0), (vi 4 0), (vr 1047), (vi 405 0), (vi 4 0), (vr 1052), (vi 413 0), (vi 4 0), (vr 1057), (vi 418 0), (vi 4 0), (vr 1064), (vi 421 0), (vi 4 0), (vr 1071), (vi 429 0), (vi 4 0), (vr 1078), (vi 441 0), (vi 4 0), (vr 1085), (vi 444 0), (vi 4 0), (vr 1092)]) []),
  (ob (vt "code") none (fi [(vs "Box" 1365), (vs "Box" 1366), (vs "/claim/cut.py" 1367), (vi 306 0), (vi 0 0), (vi 0 0), (vi 0 0), (vi 0 0), (vr 891), vF, (vi 181 0), (vr 892), vN, vN, vN, vN, (vi 1368 0), (vi 306 0), (vs "/claim/cut.py" 1369)]) []),
  (ob (vt "frame") none .plain [(some (vr 893)), (some (vr 3)), (some (vr 890)), none, (some (vs "coverstore.boxes" 1331)), none, (some (vr 0))]),
  (ob (vt "tuple") none (sq [] 0) [])]
def o2_56 (P : Params) : List Obj := [
  (ob (vt "tuple") none (sq [(vr 895)] 0) []),
  (ob (vt "tuple") none (sq [] 0) []),
  (ob vN none (fi []) []),
  (ob (vt "tuple") none (sq [(vs "self" 1380), (vs "bits" 1381), (vs "ranges" 1382)] 0) []),
  (ob (vt "tuple") none (sq [] 0) []),
  (ob vN none (.func (fu (inClass (top 67) 1) "__init__" "Box.__init__" 0 [] vN vN vN vN none vN vN 0)) []),
  (ob (vt "code") none (fi [(vs "__init__" 1377), (vs "Box.__init__" 1378), (vs "/claim/cut.py" 1379), (vi 309 0), (vi 3 0), (vi 0 0), (vi 0 0), (vi 3 0), (vr 897), vT, (vi 181 0), (vr 898), vN, (vr 899), (vr 900), (vr 901), (vi 1383 0), (vi 309 0), (vs "/claim/cut.py" 1384)]) []),
  (ob (vt "function") none (.func (fu (inClass (top 67) 1) "__init__" "Box.__init__" 3 [] (vr 896) vN vN (vs "coverstore.boxes" 1331) none (vr 902) vN 0)) []),
  (ob (vt "tuple") none (sq [] 0) []),
  (ob vN none (fi []) []),
  (ob (vt "tuple") none (sq [(vs "cls" 1389), (vs "bits" 1390), (vs "length" 1391)] 0) []),
  (ob (vt "tuple") none (sq [] 0) []),
  (ob vN none (.func (fu (inClass (top 67) 2) "whole" "Box.whole" 0 [] vN vN vN vN none vN vN 0)) []),
  (ob (vt "code") none (fi [(vs "whole" 1386), (vs "Box.whole" 1387), (vs "/claim/cut.py" 1388), (vi 315 0), (vi 3 0), (vi 0 0), (vi 0 0), (vi 3 0), (vr 904), vT, (vi 181 0), (vr 905), vN, (vr 906), (vr 907), (vr 908), (vi 1392 0), (vi 315 0), (vs "/claim/cut.py" 1393)]) []),
  (ob (vt "function") none (.func (fu (inClass (top 67) 2) "whole" "Box.whole" 3 [] vN vN vN (vs "coverstore.boxes" 1331) (some 913) (vr 909) vN 0)) []),
  (ob (vt "dict") none (di [de P "__module__" 1395 (vs "coverstore.boxes" 1331), de P "__name__" 1398 (vs "whole" 1397), de P "__qualname__" 1401 (vs "Box.whole" 1400), de P "__doc__" 1403 vN, de P "__annotations__" 1405 (vr 913)] 5) [])]
def o2_57 (P : Params) : List Obj := [
  (ob (vt "classmethod") (some 911) (fi [(vr 910), vF]) []),
  (ob (vt "dict") none (di [] 0) []),
  (ob (vt "tuple") none (sq [] 0) []),
  (ob vN none (fi []) []),
  (ob vN none (.func (fu (inClass (top 67) 3) "at" "Box.at" 0 [] vN vN vN vN none vN vN 0)) []),
  (ob (vt "code") none (fi [(vs "at" 1407), (vs "Box.at" 1408), (vs "/claim/cut.py" 1409), (vi 322 0), (vi 2 0), (vi 0 0), (vi 0 0), (vi 7 0), (vr 914), vT, (vi 181 0), (vr 915), vN, vN, vN, (vr 916), (vi 1410 0), (vi 322 0), (vs "/claim/cut.py" 1411)]) []),
  (ob (vt "function") none (.func (fu (inClass (top 67) 3) "at" "Box.at" 3 [] vN vN vN (vs "coverstore.boxes" 1331) (some 921) (vr 917) vN 0)) []),
  (ob (vt "dict") none (di [de P "__module__" 1413 (vs "coverstore.boxes" 1331), de P "__name__" 1416 (vs "at" 1415), de P "__qualname__" 1419 (vs "Box.at" 1418), de P "__doc__" 1421 vN, de P "__annotations__" 1423 (vr 921)] 5) []),
  (ob (vt "classmethod") (some 919) (fi [(vr 918), vF]) []),
  (ob (vt "dict") none (di [] 0) []),
  (ob (vt "tuple") none (sq [] 0) []),
  (ob vN none (fi []) []),
  (ob (vt "tuple") none (sq [(vs "cls" 1428), (vs "bits" 1429), (vs "text" 1430), (vs "ranges" 1431)] 0) []),
  (ob (vt "tuple") none (sq [] 0) []),
  (ob vN none (.func (fu (inClass (top 67) 4) "read" "Box.read" 0 [] vN vN vN vN none vN vN 0)) []),
  (ob (vt "code") none (fi [(vs "read" 1425), (vs "Box.read" 1426), (vs "/claim/cut.py" 1427), (vi 332 0), (vi 3 0), (vi 0 0), (vi 0 0), (vi 3 0), (vr 922), vT, (vi 181 0), (vr 923), vN, (vr 924), (vr 925), (vr 926), (vi 1432 0), (vi 332 0), (vs "/claim/cut.py" 1433)]) [])]
def o2_58 (P : Params) : List Obj := [
  (ob (vt "function") none (.func (fu (inClass (top 67) 4) "read" "Box.read" 3 [] vN vN vN (vs "coverstore.boxes" 1331) (some 931) (vr 927) vN 0)) []),
  (ob (vt "dict") none (di [de P "__module__" 1435 (vs "coverstore.boxes" 1331), de P "__name__" 1438 (vs "read" 1437), de P "__qualname__" 1441 (vs "Box.read" 1440), de P "__doc__" 1443 vN, de P "__annotations__" 1445 (vr 931)] 5) []),
  (ob (vt "classmethod") (some 929) (fi [(vr 928), vF]) []),
  (ob (vt "dict") none (di [] 0) []),
  (ob (vt "tuple") none (sq [] 0) []),
  (ob vN none (fi []) []),
  (ob (vt "tuple") none (sq [(vs "self" 1450)] 0) []),
  (ob (vt "tuple") none (sq [] 0) []),
  (ob vN none (.func (fu (inClass (top 67) 5) "bits" "Box.bits" 0 [] vN vN vN vN none vN vN 0)) []),
  (ob (vt "code") none (fi [(vs "bits" 1447), (vs "Box.bits" 1448), (vs "/claim/cut.py" 1449), (vi 340 0), (vi 1 0), (vi 0 0), (vi 0 0), (vi 3 0), (vr 932), vT, (vi 181 0), (vr 933), vN, (vr 934), (vr 935), (vr 936), (vi 1451 0), (vi 340 0), (vs "/claim/cut.py" 1452)]) []),
  (ob (vt "function") none (.func (fu (inClass (top 67) 5) "bits" "Box.bits" 3 [] vN vN vN (vs "coverstore.boxes" 1331) none (vr 937) vN 0)) []),
  (ob (vt "property") none (fi [(vr 938), vN, vN, vN, (vs "bits" 1454), vF]) []),
  (ob (vt "tuple") none (sq [] 0) []),
  (ob vN none (fi []) []),
  (ob (vt "tuple") none (sq [(vs "self" 1458)] 0) []),
  (ob (vt "tuple") none (sq [] 0) [])]
def o2_59 (P : Params) : List Obj := [
  (ob vN none (.func (fu (inClass (top 67) 6) "ranges" "Box.ranges" 0 [] vN vN vN vN none vN vN 0)) []),
  (ob (vt "code") none (fi [(vs "ranges" 1455), (vs "Box.ranges" 1456), (vs "/claim/cut.py" 1457), (vi 344 0), (vi 1 0), (vi 0 0), (vi 0 0), (vi 3 0), (vr 940), vT, (vi 181 0), (vr 941), vN, (vr 942), (vr 943), (vr 944), (vi 1459 0), (vi 344 0), (vs "/claim/cut.py" 1460)]) []),
  (ob (vt "function") none (.func (fu (inClass (top 67) 6) "ranges" "Box.ranges" 3 [] vN vN vN (vs "coverstore.boxes" 1331) none (vr 945) vN 0)) []),
  (ob (vt "property") none (fi [(vr 946), vN, vN, vN, (vs "ranges" 1462), vF]) []),
  (ob (vt "tuple") none (sq [] 0) []),
  (ob vN none (fi []) []),
  (ob (vt "tuple") none (sq [(vs "self" 1466), (vs "size" 1467), (vs "one" 1468)] 0) []),
  (ob (vt "tuple") none (sq [] 0) []),
  (ob vN none (.func (fu (inClass (top 67) 7) "size" "Box.size" 0 [] vN vN vN vN none vN vN 0)) []),
  (ob (vt "code") none (fi [(vs "size" 1463), (vs "Box.size" 1464), (vs "/claim/cut.py" 1465), (vi 348 0), (vi 1 0), (vi 0 0), (vi 0 0), (vi 3 0), (vr 948), vT, (vi 181 0), (vr 949), vN, (vr 950), (vr 951), (vr 952), (vi 1469 0), (vi 348 0), (vs "/claim/cut.py" 1470)]) []),
  (ob (vt "function") none (.func (fu (inClass (top 67) 7) "size" "Box.size" 3 [] vN vN vN (vs "coverstore.boxes" 1331) none (vr 953) vN 0)) []),
  (ob (vt "property") none (fi [(vr 954), vN, vN, vN, (vs "size" 1472), vF]) []),
  (ob (vt "tuple") none (sq [] 0) []),
  (ob vN none (fi []) []),
  (ob vN none (.func (fu (inClass (top 67) 8) "is_point" "Box.is_point" 0 [] vN vN vN vN none vN vN 0)) []),
  (ob (vt "code") none (fi [(vs "is_point" 1473), (vs "Box.is_point" 1474), (vs "/claim/cut.py" 1475), (vi 355 0), (vi 1 0), (vi 0 0), (vi 0 0), (vi 3 0), (vr 956), vT, (vi 181 0), (vr 957), vN, vN, vN, (vr 958), (vi 1476 0), (vi 355 0), (vs "/claim/cut.py" 1477)]) [])]
def o2_60 (P : Params) : List Obj := [
  (ob (vt "function") none (.func (fu (inClass (top 67) 8) "is_point" "Box.is_point" 3 [] vN vN vN (vs "coverstore.boxes" 1331) none (vr 959) vN 0)) []),
  (ob (vt "property") none (fi [(vr 960), vN, vN, vN, (vs "is_point" 1479), vF]) []),
  (ob (vt "tuple") none (sq [] 0) []),
  (ob vN none (fi []) []),
  (ob (vt "tuple") none (sq [(vs "self" 1483)] 0) []),
  (ob (vt "tuple") none (sq [] 0) []),
  (ob vN none (.func (fu (inClass (top 67) 9) "__len__" "Box.__len__" 0 [] vN vN vN vN none vN vN 0)) []),
  (ob (vt "code") none (fi [(vs "__len__" 1480), (vs "Box.__len__" 1481), (vs "/claim/cut.py" 1482), (vi 359 0), (vi 1 0), (vi 0 0), (vi 0 0), (vi 3 0), (vr 962), vT, (vi 181 0), (vr 963), vN, (vr 964), (vr 965), (vr 966), (vi 1484 0), (vi 359 0), (vs "/claim/cut.py" 1485)]) []),
  (ob (vt "function") none (.func (fu (inClass (top 67) 9) "__len__" "Box.__len__" 3 [] vN vN vN (vs "coverstore.boxes" 1331) none (vr 967) vN 0)) []),
  (ob (vt "tuple") none (sq [] 0) []),
  (ob vN none (fi []) []),
  (ob (vt "tuple") none (sq [(vs "self" 1490), (vs "other" 1491)] 0) []),
  (ob (vt "tuple") none (sq [] 0) []),
  (ob vN none (.func (fu (inClass (top 67) 10) "__eq__" "Box.__eq__" 0 [] vN vN vN vN none vN vN 0)) []),
  (ob (vt "code") none (fi [(vs "__eq__" 1487), (vs "Box.__eq__" 1488), (vs "/claim/cut.py" 1489), (vi 362 0), (vi 2 0), (vi 0 0), (vi 0 0), (vi 3 0), (vr 969), vT, (vi 181 0), (vr 970), vN, (vr 971), (vr 972), (vr 973), (vi 1492 0), (vi 362 0), (vs "/claim/cut.py" 1493)]) []),
  (ob (vt "function") none (.func (fu (inClass (top 67) 10) "__eq__" "Box.__eq__" 3 [] vN vN vN (vs "coverstore.boxes" 1331) none (vr 974) vN 0)) [])]
def o2_61 (P : Params) : List Obj := [
  (ob (vt "tuple") none (sq [] 0) []),
  (ob vN none (fi []) []),
  (ob (vt "tuple") none (sq [(vs "self" 1498)] 0) []),
  (ob (vt "tuple") none (sq [] 0) []),
  (ob vN none (.func (fu (inClass (top 67) 11) "__str__" "Box.__str__" 0 [] vN vN vN vN none vN vN 0)) []),
  (ob (vt "code") none (fi [(vs "__str__" 1495), (vs "Box.__str__" 1496), (vs "/claim/cut.py" 1497), (vi 365 0), (vi 1 0), (vi 0 0), (vi 0 0), (vi 3 0), (vr 976), vT, (vi 181 0), (vr 977), vN, (vr 978), (vr 979), (vr 980), (vi 1499 0), (vi 365 0), (vs "/claim/cut.py" 1500)]) []),
  (ob (vt "function") none (.func (fu (inClass (top 67) 11) "__str__" "Box.__str__" 3 [] vN vN vN (vs "coverstore.boxes" 1331) none (vr 981) vN 0)) []),
  (ob (vt "tuple") none (sq [] 0) []),
  (ob vN none (fi []) []),
  (ob (vt "tuple") none (sq [(vs "self" 1505)] 0) []),
  (ob (vt "tuple") none (sq [] 0) []),
  (ob vN none (.func (fu (inClass (top 67) 12) "__repr__" "Box.__repr__" 0 [] vN vN vN vN none vN vN 0)) []),
  (ob (vt "code") none (fi [(vs "__repr__" 1502), (vs "Box.__repr__" 1503), (vs "/claim/cut.py" 1504), (vi 368 0), (vi 1 0), (vi 0 0), (vi 0 0), (vi 3 0), (vr 983), vT, (vi 181 0), (vr 984), vN, (vr 985), (vr 986), (vr 987), (vi 1506 0), (vi 368 0), (vs "/claim/cut.py" 1507)]) []),
  (ob (vt "function") none (.func (fu (inClass (top 67) 12) "__repr__" "Box.__repr__" 3 [] vN vN vN (vs "coverstore.boxes" 1331) none (vr 988) vN 0)) []),
  (ob (vt "tuple") none (sq [] 0) []),
  (ob vN none (fi []) [])]
def o2_62 (P : Params) : List Obj := [
  (ob (vt "tuple") none (sq [(vs "self" 1512), (vs "place" 1513)] 0) []),
  (ob (vt "tuple") none (sq [] 0) []),
  (ob vN none (.func (fu (inClass (top 67) 13) "require_place" "Box.require_place" 0 [] vN vN vN vN none vN vN 0)) []),
  (ob (vt "code") none (fi [(vs "require_place" 1509), (vs "Box.require_place" 1510), (vs "/claim/cut.py" 1511), (vi 371 0), (vi 2 0), (vi 0 0), (vi 0 0), (vi 3 0), (vr 990), vT, (vi 181 0), (vr 991), vN, (vr 992), (vr 993), (vr 994), (vi 1514 0), (vi 371 0), (vs "/claim/cut.py" 1515)]) []),
  (ob (vt "function") none (.func (fu (inClass (top 67) 13) "require_place" "Box.require_place" 3 [] vN vN vN (vs "coverstore.boxes" 1331) none (vr 995) vN 0)) []),
  (ob (vt "tuple") none (sq [] 0) []),
  (ob vN none (fi []) []),
  (ob (vt "tuple") none (sq [(vs "self" 1520), (vs "other" 1521)] 0) []),
  (ob (vt "tuple") none (sq [] 0) []),
  (ob vN none (.func (fu (inClass (top 67) 14) "is_like" "Box.is_like" 0 [] vN vN vN vN none vN vN 0)) []),
  (ob (vt "code") none (fi [(vs "is_like" 1517), (vs "Box.is_like" 1518), (vs "/claim/cut.py" 1519), (vi 375 0), (vi 2 0), (vi 0 0), (vi 0 0), (vi 3 0), (vr 997), vT, (vi 181 0), (vr 998), vN, (vr 999), (vr 1000), (vr 1001), (vi 1522 0), (vi 375 0), (vs "/claim/cut.py" 1523)]) []),
  (ob (vt "function") none (.func (fu (inClass (top 67) 14) "is_like" "Box.is_like" 3 [] vN vN vN (vs "coverstore.boxes" 1331) none (vr 1002) vN 0)) []),
  (ob (vt "tuple") none (sq [] 0) []),
  (ob vN none (fi []) []),
  (ob (vt "tuple") none (sq [(vs "self" 1528), (vs "other" 1529)] 0) []),
  (ob (vt "tuple") none (sq [] 0) [])]
def o2_63 (P : Params) : List Obj := [
  (ob vN none (.func (fu (inClass (top 67) 15) "require_like" "Box.require_like" 0 [] vN vN vN vN none vN vN 0)) []),
  (ob (vt "code") none (fi [(vs "require_like" 1525), (vs "Box.require_like" 1526), (vs "/claim/cut.py" 1527), (vi 378 0), (vi 2 0), (vi 0 0), (vi 0 0), (vi 3 0), (vr 1004), vT, (vi 181 0), (vr 1005), vN, (vr 1006), (vr 1007), (vr 1008), (vi 1530 0), (vi 378 0), (vs "/claim/cut.py" 1531)]) []),
  (ob (vt "function") none (.func (fu (inClass (top 67) 15) "require_like" "Box.require_like" 3 [] vN vN vN (vs "coverstore.boxes" 1331) none (vr 1009) vN 0)) []),
  (ob (vt "tuple") none (sq [] 0) []),
  (ob vN none (fi []) []),
  (ob (vt "tuple") none (sq [(vs "self" 1536), (vs "place" 1537)] 0) []),
  (ob (vt "tuple") none (sq [] 0) []),
  (ob vN none (.func (fu (inClass (top 67) 16) "__getitem__" "Box.__getitem__" 0 [] vN vN vN vN none vN vN 0)) []),
  (ob (vt "code") none (fi [(vs "__getitem__" 1533), (vs "Box.__getitem__" 1534), (vs "/claim/cut.py" 1535), (vi 382 0), (vi 2 0), (vi 0 0), (vi 0 0), (vi 3 0), (vr 1011), vT, (vi 181 0), (vr 1012), vN, (vr 1013), (vr 1014), (vr 1015), (vi 1538 0), (vi 382 0), (vs "/claim/cut.py" 1539)]) []),
  (ob (vt "function") none (.func (fu (inClass (top 67) 16) "__getitem__" "Box.__getitem__" 3 [] vN vN vN (vs "coverstore.boxes" 1331) none (vr 1016) vN 0)) []),
  (ob (vt "tuple") none (sq [] 0) []),
  (ob vN none (fi []) []),
  (ob (vt "tuple") none (sq [(vs "self" 1544)] 0) []),
  (ob (vt "tuple") none (sq [] 0) []),
  (ob vN none (.func (fu (inClass (top 67) 17) "__iter__" "Box.__iter__" 0 [] vN vN vN vN none vN vN 0)) []),
  (ob (vt "code") none (fi [(vs "__iter__" 1541), (vs "Box.__iter__" 1542), (vs "/claim/cut.py" 1543), (vi 386 0), (vi 1 0), (vi 0 0), (vi 0 0), (vi 3 0), (vr 1018), vT, (vi 181 0), (vr 1019), vN, (vr 1020), (vr 1021), (vr 1022), (vi 1545 0), (vi 386 0), (vs "/claim/cut.py" 1546)]) [])]
def o2_64 (P : Params) : List Obj := [
  (ob (vt "function") none (.func (fu (inClass (top 67) 17) "__iter__" "Box.__iter__" 3 [] vN vN vN (vs "coverstore.boxes" 1331) none (vr 1023) vN 0)) []),
  (ob (vt "tuple") none (sq [] 0) []),
  (ob vN none (fi []) []),
  (ob vN none (.func (fu (inClass (top 67) 18) "__contains__" "Box.__contains__" 0 [] vN vN vN vN none vN vN 0)) []),
  (ob (vt "code") none (fi [(vs "__contains__" 1548), (vs "Box.__contains__" 1549), (vs "/claim/cut.py" 1550), (vi 389 0), (vi 2 0), (vi 0 0), (vi 0 0), (vi 3 0), (vr 1025), vT, (vi 181 0), (vr 1026), vN, vN, vN, (vr 1027), (vi 1551 0), (vi 389 0), (vs "/claim/cut.py" 1552)]) []),
  (ob (vt "function") none (.func (fu (inClass (top 67) 18) "__contains__" "Box.__contains__" 3 [] vN vN vN (vs "coverstore.boxes" 1331) none (vr 1028) vN 0)) []),
  (ob (vt "tuple") none (sq [] 0) []),
  (ob vN none (fi []) []),
  (ob vN none (.func (fu (inClass (top 67) 19) "common" "Box.common" 0 [] vN vN vN vN none vN vN 0)) []),
  (ob (vt "code") none (fi [(vs "common" 1554), (vs "Box.common" 1555), (vs "/claim/cut.py" 1556), (vi 394 0), (vi 2 0), (vi 0 0), (vi 0 0), (vi 3 0), (vr 1030), vT, (vi 181 0), (vr 1031), vN, vN, vN, (vr 1032), (vi 1557 0), (vi 394 0), (vs "/claim/cut.py" 1558)]) []),
  (ob (vt "function") none (.func (fu (inClass (top 67) 19) "common" "Box.common" 3 [] vN vN vN (vs "coverstore.boxes" 1331) none (vr 1033) vN 0)) []),
  (ob (vt "tuple") none (sq [] 0) []),
  (ob vN none (fi []) []),
  (ob (vt "tuple") none (sq [(vs "self" 1563), (vs "other" 1564), (vs "common" 1565)] 0) []),
  (ob (vt "tuple") none (sq [] 0) []),
  (ob vN none (.func (fu (inClass (top 67) 20) "__and__" "Box.__and__" 0 [] vN vN vN vN none vN vN 0)) [])]
def o2_65 (P : Params) : List Obj := [
  (ob (vt "code") none (fi [(vs "__and__" 1560), (vs "Box.__and__" 1561), (vs "/claim/cut.py" 1562), (vi 397 0), (vi 2 0), (vi 0 0), (vi 0 0), (vi 3 0), (vr 1035), vT, (vi 181 0), (vr 1036), vN, (vr 1037), (vr 1038), (vr 1039), (vi 1566 0), (vi 397 0), (vs "/claim/cut.py" 1567)]) []),
  (ob (vt "function") none (.func (fu (inClass (top 67) 20) "__and__" "Box.__and__" 3 [] vN vN vN (vs "coverstore.boxes" 1331) none (vr 1040) vN 0)) []),
  (ob (vt "tuple") none (sq [] 0) []),
  (ob vN none (fi []) []),
  (ob (vt "tuple") none (sq [(vs "self" 1572), (vs "other" 1573)] 0) []),
  (ob (vt "tuple") none (sq [] 0) []),
  (ob vN none (.func (fu (inClass (top 67) 21) "meets" "Box.meets" 0 [] vN vN vN vN none vN vN 0)) []),
  (ob (vt "code") none (fi [(vs "meets" 1569), (vs "Box.meets" 1570), (vs "/claim/cut.py" 1571), (vi 402 0), (vi 2 0), (vi 0 0), (vi 0 0), (vi 3 0), (vr 1042), vT, (vi 181 0), (vr 1043), vN, (vr 1044), (vr 1045), (vr 1046), (vi 1574 0), (vi 402 0), (vs "/claim/cut.py" 1575)]) []),
  (ob (vt "function") none (.func (fu (inClass (top 67) 21) "meets" "Box.meets" 3 [] vN vN vN (vs "coverstore.boxes" 1331) none (vr 1047) vN 0)) []),
  (ob (vt "tuple") none (sq [] 0) []),
  (ob vN none (fi []) []),
  (ob vN none (.func (fu (inClass (top 67) 22) "holds" "Box.holds" 0 [] vN vN vN vN none vN vN 0)) []),
  (ob (vt "code") none (fi [(vs "holds" 1577), (vs "Box.holds" 1578), (vs "/claim/cut.py" 1579), (vi 405 0), (vi 2 0), (vi 0 0), (vi 0 0), (vi 3 0), (vr 1049), vT, (vi 181 0), (vr 1050), vN, vN, vN, (vr 1051), (vi 1580 0), (vi 405 0), (vs "/claim/cut.py" 1581)]) []),
  (ob (vt "function") none (.func (fu (inClass (top 67) 22) "holds" "Box.holds" 3 [] vN vN vN (vs "coverstore.boxes" 1331) none (vr 1052) vN 0)) []),
  (ob (vt "tuple") none (sq [] 0) []),
  (ob vN none (fi []) [])]
def o2_66 (P : Params) : List Obj := [
  (ob vN none (.func (fu (inClass (top 67) 23) "only_point" "Box.only_point" 0 [] vN vN vN vN none vN vN 0)) []),
  (ob (vt "code") none (fi [(vs "only_point" 1583), (vs "Box.only_point" 1584), (vs "/claim/cut.py" 1585), (vi 413 0), (vi 1 0), (vi 0 0), (vi 0 0), (vi 3 0), (vr 1054), vT, (vi 181 0), (vr 1055), vN, vN, vN, (vr 1056), (vi 1586 0), (vi 413 0), (vs "/claim/cut.py" 1587)]) []),
  (ob (vt "function") none (.func (fu (inClass (top 67) 23) "only_point" "Box.only_point" 3 [] vN vN vN (vs "coverstore.boxes" 1331) none (vr 1057) vN 0)) []),
  (ob (vt "tuple") none (sq [] 0) []),
  (ob vN none (fi []) []),
  (ob (vt "tuple") none (sq [(vs "self" 1592), (vs "place" 1593), (vs "one" 1594)] 0) []),
  (ob (vt "tuple") none (sq [] 0) []),
  (ob vN none (.func (fu (inClass (top 67) 24) "with_range" "Box.with_range" 0 [] vN vN vN vN none vN vN 0)) []),
  (ob (vt "code") none (fi [(vs "with_range" 1589), (vs "Box.with_range" 1590), (vs "/claim/cut.py" 1591), (vi 418 0), (vi 3 0), (vi 0 0), (vi 0 0), (vi 3 0), (vr 1059), vT, (vi 181 0), (vr 1060), vN, (vr 1061), (vr 1062), (vr 1063), (vi 1595 0), (vi 418 0), (vs "/claim/cut.py" 1596)]) []),
  (ob (vt "function") none (.func (fu (inClass (top 67) 24) "with_range" "Box.with_range" 3 [] vN vN vN (vs "coverstore.boxes" 1331) none (vr 1064) vN 0)) []),
  (ob (vt "tuple") none (sq [] 0) []),
  (ob vN none (fi []) []),
  (ob (vt "tuple") none (sq [(vs "self" 1601), (vs "place" 1602), (vs "digit" 1603)] 0) []),
  (ob (vt "tuple") none (sq [] 0) []),
  (ob vN none (.func (fu (inClass (top 67) 25) "half" "Box.half" 0 [] vN vN vN vN none vN vN 0)) []),
  (ob (vt "code") none (fi [(vs "half" 1598), (vs "Box.half" 1599), (vs "/claim/cut.py" 1600), (vi 421 0), (vi 3 0), (vi 0 0), (vi 0 0), (vi 3 0), (vr 1066), vT, (vi 181 0), (vr 1067), vN, (vr 1068), (vr 1069), (vr 1070), (vi 1604 0), (vi 421 0), (vs "/claim/cut.py" 1605)]) [])]
def o2_67 (P : Params) : List Obj := [
  (ob (vt "function") none (.func (fu (inClass (top 67) 25) "half" "Box.half" 3 [] vN vN vN (vs "coverstore.boxes" 1331) none (vr 1071) vN 0)) []),
  (ob (vt "tuple") none (sq [] 0) []),
  (ob vN none (fi []) []),
  (ob (vt "tuple") none (sq [(vs "self" 1610), (vs "other" 1611), (vs "place" 1612), (vs "lower" 1613), (vs "common" 1614)] 0) []),
  (ob (vt "tuple") none (sq [] 0) []),
  (ob vN none (.func (fu (inClass (top 67) 26) "joined" "Box.joined" 0 [] vN vN vN vN none vN vN 0)) []),
  (ob (vt "code") none (fi [(vs "joined" 1607), (vs "Box.joined" 1608), (vs "/claim/cut.py" 1609), (vi 429 0), (vi 3 0), (vi 0 0), (vi 0 0), (vi 3 0), (vr 1073), vT, (vi 181 0), (vr 1074), vN, (vr 1075), (vr 1076), (vr 1077), (vi 1615 0), (vi 429 0), (vs "/claim/cut.py" 1616)]) []),
  (ob (vt "function") none (.func (fu (inClass (top 67) 26) "joined" "Box.joined" 3 [] vN vN vN (vs "coverstore.boxes" 1331) none (vr 1078) vN 0)) []),
  (ob (vt "tuple") none (sq [] 0) []),
  (ob vN none (fi []) []),
  (ob (vt "tuple") none (sq [(vs "self" 1621), (vs "number" 1622)] 0) []),
  (ob (vt "tuple") none (sq [] 0) []),
  (ob vN none (.func (fu (inClass (top 67) 27) "point_number" "Box.point_number" 0 [] vN vN vN vN none vN vN 0)) []),
  (ob (vt "code") none (fi [(vs "point_number" 1618), (vs "Box.point_number" 1619), (vs "/claim/cut.py" 1620), (vi 441 0), (vi 2 0), (vi 0 0), (vi 0 0), (vi 3 0), (vr 1080), vT, (vi 181 0), (vr 1081), vN, (vr 1082), (vr 1083), (vr 1084), (vi 1623 0), (vi 441 0), (vs "/claim/cut.py" 1624)]) []),
  (ob (vt "function") none (.func (fu (inClass (top 67) 27) "point_number" "Box.point_number" 3 [] vN vN vN (vs "coverstore.boxes" 1331) none (vr 1085) vN 0)) []),
  (ob (vt "tuple") none (sq [] 0) [])]
def o2_68 (P : Params) : List Obj := [
  (ob vN none (fi []) []),
  (ob (vt "tuple") none (sq [(vs "self" 1629)] 0) []),
  (ob (vt "tuple") none (sq [] 0) []),
  (ob vN none (.func (fu (inClass (top 67) 28) "each_point" "Box.each_point" 0 [] vN vN vN vN none vN vN 0)) []),
  (ob (vt "code") none (fi [(vs "each_point" 1626), (vs "Box.each_point" 1627), (vs "/claim/cut.py" 1628), (vi 444 0), (vi 1 0), (vi 0 0), (vi 0 0), (vi 3 0), (vr 1087), vT, (vi 181 0), (vr 1088), vN, (vr 1089), (vr 1090), (vr 1091), (vi 1630 0), (vi 444 0), (vs "/claim/cut.py" 1631)]) []),
  (ob (vt "function") none (.func (fu (inClass (top 67) 28) "each_point" "Box.each_point" 3 [] vN vN vN (vs "coverstore.boxes" 1331) none (vr 1092) vN 0)) []),
  (ob (vt "tuple") none (sq [(vs "own_bits" 1633), (vs "own_ranges" 1634)] 0) []),
  (ob (vt "dict") none (di [de P "__module__" 1370 (vs "coverstore.boxes" 1331), de P "__firstlineno__" 1374 (vi 306 1373), de P "MAX_RANGES" 1376 (vi 5 1375), de P "__init__" 1385 (vr 903), de P "whole" 1406 (vr 912), de P "at" 1424 (vr 920), de P "read" 1446 (vr 930), de P "bits" 1454 (vr 939), de P "ranges" 1462 (vr 947), de P "size" 1472 (vr 955), de P "is_point" 1479 (vr 961), de P "__len__" 1486 (vr 968), de P "__eq__" 1494 (vr 975), de P "__str__" 1501 (vr 982), de P "__repr__" 1508 (vr 989), de P "require_place" 1516 (vr 996), de P "is_like" 1524 (vr 1003), de P "require_like" 1532 (vr 1010), de P "__getitem__" 1540 (vr 1017), de P "__iter__" 1547 (vr 1024), de P "__contains__" 1553 (vr 1029), de P "common" 1559 (vr 1034), de P "__and__" 1568 (vr 1041), de P "meets" 1576 (vr 1048), de P "holds" 1582 (vr 1053), de P "only_point" 1588 (vr 1058), de P "with_range" 1597 (vr 1065), de P "half" 1606 (vr 1072), de P "joined" 1617 (vr 1079), de P "point_number" 1625 (vr 1086), de P "each_point" 1632 (vr 1093), de P "__static_attributes__" 1635 (vr 1094), de P "__dict__" 1637 (vr 1097), de P "__weakref__" 1639 (vr 1098), de P "__doc__" 1640 vN, de P "__hash__" 1641 vN] 5) []),
  (ob (vt "type") none (.cls ⟨"Box", [(vt "object")], [(vr 1096), (vt "object")], 1095, "Box", true, [], [], false, none, false⟩) [none, none, (some (vs "Box" 1363)), (some (vs "Box" 1371)), (some (vb "object.__new__")), (some vT)]),
  (ob (vt "getset_descriptor") none (fi [(vs "__dict__" 1636), (vr 1096), (vb "function.__dict__"), (vb "function.__dict__#set")]) []),
  (ob (vt "getset_descriptor") none (fi [(vs "__weakref__" 1638), (vr 1096), (vb "ExceptionGroup.__weakref__"), vN]) []),
  (ob (vt "super") none (fi [(vr 1096), (vr 1096), (vr 1096)]) []),
  (ob (vt "builtin_function_or_method") none (fi [(vb "object.__init_subclass__"), (vr 1096)]) [])]
def o2 (P : Params) : List Obj := o2_0 P ++ (o1_1 P ++ (o1_2 P ++ (o1_3 P ++ (o1_4 P ++ (o1_5 P ++ (o1_6 P ++ (o1_7 P ++ (o1_8 P ++ (o1_9 P ++ (o1_10 P ++ (o1_11 P ++ (o1_12 P ++ (o1_13 P ++ (o1_14 P ++ (o1_15 P ++ (o1_16 P ++ (o1_17 P ++ (o1_18 P ++ (o1_19 P ++ (o1_20 P ++ (o1_21 P ++ (o1_22 P ++ (o1_23 P ++ (o1_24 P ++ (o1_25 P ++ (o1_26 P ++ (o1_27 P ++ (o1_28 P ++ (o1_29 P ++ (o1_30 P ++ (o1_31 P ++ (o1_32 P ++ (o1_33 P ++ (o1_34 P ++ (o1_35 P ++ (o1_36 P ++ (o1_37 P ++ (o1_38 P ++ (o1_39 P ++ (o2_40 P ++ (o2_41 P ++ (o2_42 P ++ (o2_43 P ++ (o2_44 P ++ (o2_45 P ++ (o2_46 P ++ (o2_47 P ++ (o2_48 P ++ (o2_49 P ++ (o2_50 P ++ (o2_51 P ++ (o2_52 P ++ (o2_53 P ++ (o2_54 P ++ (o2_55 P ++ (o2_56 P ++ (o2_57 P ++ (o2_58 P ++ (o2_59 P ++ (o2_60 P ++ (o2_61 P ++ (o2_62 P ++ (o2_63 P ++ (o2_64 P ++ (o2_65 P ++ (o2_66 P ++ (o2_67 P ++ (o2_68 P))))))))))))))))))))))))))))))))))))))))))))))))))))))))))))))))))))
def S2 (w : World) (os : OsState) : SharedT := ⟨lay (o2 w.params) .nil 0, 1101, {}, #[], {}, 1644, os⟩
def pos2 : Pos := ⟨306, 0, 445, 16⟩
def n2 : Nat := 3455
def o3_0 (P : Params) : List Obj := [
  boot_o_0 P,
  boot_o_1 P,
  (ob vN none (di [de P "type.__subclasses__.ArithmeticError.0" 1110 (vi 693 0), de P "type.__subclasses__.ArithmeticError.n" 1111 (vi 1 0)] 2) []),
  (ob (vt "dict") none (di [de P "__name__" 165 (vs "coverstore.sources" 1644), de P "__doc__" 166 vN, de P "__package__" 167 vN, de P "__loader__" 168 (vb "__main__.__loader__#opaque"), de P "__spec__" 169 vN, de P "__annotations__" 170 (vr 6), de P "__builtins__" 171 (vr 4), de P "__file__" 173 (vs "/claim/cut.py" 172), de P "__cached__" 174 vN, de P "_wall" 193 (vr 21), de P "CoverError" 213 (vr 31), de P "InvalidBits" 238 (vr 51), de P "InvalidValue" 263 (vr 70), de P "InvalidRange" 288 (vr 89), de P "InvalidBox" 313 (vr 108), de P "InvalidPlace" 338 (vr 127), de P "InvalidCount" 363 (vr 146), de P "InvalidName" 388 (vr 165), de P "InvalidColumns" 413 (vr 184), de P "InvalidOrder" 438 (vr 203), de P "InvalidKey" 463 (vr 222), de P "InvalidWrite" 488 (vr 241), de P "InvalidQuery" 515 (vr 260), de P "InvalidText" 540 (vr 279), de P "InvalidPaper" 565 (vr 298), de P "InvalidLimit" 590 (vr 317), de P "InvalidPage" 615 (vr 336), de P "UnknownTable" 642 (vr 355), de P "UnknownVersion" 669 (vr 375), de P "TooOld" 696 (vr 395), de P "UnknownName" 723 (vr 415), de P "NameTaken" 750 (vr 435), de P "KeyTaken" 779 (vr 455), de P "NoSuchRow" 808 (vr 475), de P "Unlike" 826 (vr 488), de P "NoHalf" 853 (vr 508), de P "NotJoined" 880 (vr 528), de P "NotAPoint" 898 (vr 541), de P "WrongColumns" 925 (vr 561), de P "NotEmpty" 952 (vr 581), de P "Ended" 970 (vr 594), de P "Changed" 999 (vr 614), de P "Violated" 1028 (vr 634), de P "Crashed" 1046 (vr 647), de P "DiskInUse" 1064 (vr 660), de P "NoStore" 1082 (vr 673), de P "TooMany" 1113 (vr 693), de P "MAX_BITS" 1117 (vi 10 1116), de P "DIGITS_ranges" 1119 (vs "01" 1118), de P "is_integer" 1126 (vr 703), de P "is_bits" 1133 (vr 710), de P "is_value" 1141 (vr 717), de P "is_range" 1147 (vr 722), de P "require_bits" 1154 (vr 729), de P "require_value" 1162 (vr 736), de P "require_range" 1170 (vr 743), de P "number_of" 1179 (vr 750), de P "range_of" 1185 (vr 755), de P "bounds" 1195 (vr 762), de P "common_range" 1204 (vr 769), de P "common_length" 1213 (vr 776), de P "widest_range" 1225 (vr 785), de P "PAGE_SIZE" 1229 (vi 32 1228), de P "require_page" 1236 (vr 792), de P "Disk" 1330 (vr 866), de P "MOST_RANGES" 1334 (vi 5 1333), de P "ALL" 1336 (vs "*" 1335), de P "NO_RANGES" 1338 (vs "-" 1337), de P "COMMA_boxes" 1340 (vs "," 1339), de P "require_ranges" 1350 (vr 877), de P "ranges_text" 1356 (vr 882), de P "ranges_in" 1362 (vr 887), de P "Box" 1643 (vr 1096), de P "MOST_PAYLOAD" 1649 (vi 1000000000 1648), de P "INSERT" 1651 (vs "insert" 1650), de P "UPDATE" 1653 (vs "update" 1652), de P "DELETE" 1655 (vs "delete" 1654), de P "WRITE_SIZES" 1662 (vr 1101), de P "is_payload" 1669 (vr 1108), de P "is_table" 1677 (vr 1115), de P "is_key" 1683 (vr 1120), de P "require_table" 1691 (vr 1127)] 82) []),
  boot_o_4 P,
  boot_o_5 P,
  boot_o_6 P,
  boot_o_7 P,
  boot_o_8 P,
  boot_o_9 P,
  boot_o_10 P,
  (ob (vt "tuple") none (sq [] 0) []),
  (ob vN none (fi [(vi 1 0), (vi 0 0), (vr 20), (vi 5 0), (vi 0 0), (vr 27), (vi 7 0), (vi 0 0), (vr 40), (vi 12 0), (vi 0 0), (vr 59), (vi 17 0), (vi 0 0), (vr 78), (vi 22 0), (vi 0 0), (vr 97), (vi 27 0), (vi 0 0), (vr 116), (vi 32 0), (vi 0 0), (vr 135), (vi 37 0), (vi 0 0), (vr 154), (vi 42 0), (vi 0 0), (vr 173), (vi 47 0), (vi 0 0), (vr 192), (vi 52 0), (vi 0 0), (vr 211), (vi 57 0), (vi 0 0), (vr 230), (vi 62 0), (vi 0 0), (vr 249), (vi 68 0), (vi 0 0), (vr 268), (vi 73 0), (vi 0 0), (vr 287), (vi 78 0), (vi 0 0), (vr 306), (vi 83 0), (vi 0 0), (vr 325), (vi 88 0), (vi 0 0), (vr 344), (vi 93 0), (vi 0 0), (vr 364), (vi 98 0), (vi 0 0), (vr 384), (vi 103 0), (vi 0 0), (vr 404), (vi 108 0), (vi 0 0), (vr 424), (vi 113 0), (vi 0 0), (vr 444), (vi 119 0), (vi 0 0), (vr 464), (vi 125 0), (vi 0 0), (vr 484), (vi 127 0), (vi 0 0), (vr 497), (vi 132 0), (vi 0 0), (vr 517), (vi 137 0), (vi 0 0), (vr 537), (vi 139 0), (vi 0 0), (vr 550), (vi 144 0), (vi 0 0), (vr 570), (vi 149 0), (vi 0 0), (vr 590), (vi 151 0), (vi 0 0), (vr 603), (vi 157 0), (vi 0 0), (vr 623), (vi 163 0), (vi 0 0), (vr 643), (vi 165 0), (vi 0 0), (vr 656), (vi 167 0), (vi 0 0), (vr 669), (vi 169 0), (vi 0 0), (vr 682), (vi 178 0), (vi 0 0), (vr 702), (vi 180 0), (vi 0 0), (vr 709), (vi 182 0), (vi 0 0), (vr 716), (vi 184 0), (vi 0 0), (vr 721), (vi 188 0), (vi 0 0), (vr 728), (vi 191 0), (vi 0 0), (vr 735), (vi 194 0), (vi 0 0), (vr 742), (vi 197 0), (vi 0 0), (vr 749), (vi 202 0), (vi 0 0), (vr 754), (vi 206 0), (vi 0 0), (vr 761), (vi 212 0), (vi 0 0), (vr 768), (vi 219 0), (vi 0 0), (vr 775), (vi 224 0), (vi 0 0), (vr 784), (vi 234 0), (vi 0 0), (vr 791), (vi 237 0), (vi 0 0), (vr 798), (vi 286 0), (vi 0 0), (vr 876), (vi 292 0), (vi 0 0), (vr 881), (vi 296 0), (vi 0 0), (vr 886), (vi 306 0), (vi 0 0), (vr 893), (vi 452 0), (vi 0 0), (vr 1107), (vi 454 0), (vi 0 0), (vr 1114), (vi 456 0), (vi 0 0), (vr 1119), (vi 460 0), (vi 0 0), (vr 1126)]) []),
  (ob (vt "code") none (fi [(vs "<module>" 182), (vs "<module>" 183), (vs "/claim/cut.py" 184), (vi 1 0), (vi 0 0), (vi 0 0), (vi 0 0), (vi 0 0), (vr 11), vF, (vi 181 0), (vr 12), vN, vN, vN, vN, (vi 185 0), (vi 1 0), (vs "/claim/cut.py" 186)]) []),
  (ob (vt "frame") none .plain [(some (vr 13)), (some (vr 3)), (some (vr 3)), none, (some (vs "__main__" 164)), none, (some (vr 0))]),
  (ob (vt "tuple") none (sq [] 0) [])]
def o3_68 (P : Params) : List Obj := [
  (ob vN none (fi []) []),
  (ob (vt "tuple") none (sq [(vs "self" 1629)] 0) []),
  (ob (vt "tuple") none (sq [] 0) []),
  (ob vN none (.func (fu (inClass (top 67) 28) "each_point" "Box.each_point" 0 [] vN vN vN vN none vN vN 0)) []),
  (ob (vt "code") none (fi [(vs "each_point" 1626), (vs "Box.each_point" 1627), (vs "/claim/cut.py" 1628), (vi 444 0), (vi 1 0), (vi 0 0), (vi 0 0), (vi 3 0), (vr 1087), vT, (vi 181 0), (vr 1088), vN, (vr 1089), (vr 1090), (vr 1091), (vi 1630 0), (vi 444 0), (vs "/claim/cut.py" 1631)]) []),
  (ob (vt "function") none (.func (fu (inClass (top 67) 28) "each_point" "Box.each_point" 3 [] vN vN vN (vs "coverstore.boxes" 1331) none (vr 1092) vN 0)) []),
  (ob (vt "tuple") none (sq [(vs "own_bits" 1633), (vs "own_ranges" 1634)] 0) []),
  (ob (vt "dict") none (di [de P "__module__" 1370 (vs "coverstore.boxes" 1331), de P "__firstlineno__" 1374 (vi 306 1373), de P "MAX_RANGES" 1376 (vi 5 1375), de P "__init__" 1385 (vr 903), de P "whole" 1406 (vr 912), de P "at" 1424 (vr 920), de P "read" 1446 (vr 930), de P "bits" 1454 (vr 939), de P "ranges" 1462 (vr 947), de P "size" 1472 (vr 955), de P "is_point" 1479 (vr 961), de P "__len__" 1486 (vr 968), de P "__eq__" 1494 (vr 975), de P "__str__" 1501 (vr 982), de P "__repr__" 1508 (vr 989), de P "require_place" 1516 (vr 996), de P "is_like" 1524 (vr 1003), de P "require_like" 1532 (vr 1010), de P "__getitem__" 1540 (vr 1017), de P "__iter__" 1547 (vr 1024), de P "__contains__" 1553 (vr 1029), de P "common" 1559 (vr 1034), de P "__and__" 1568 (vr 1041), de P "meets" 1576 (vr 1048), de P "holds" 1582 (vr 1053), de P "only_point" 1588 (vr 1058), de P "with_range" 1597 (vr 1065), de P "half" 1606 (vr 1072), de P "joined" 1617 (vr 1079), de P "point_number" 1625 (vr 1086), de P "each_point" 1632 (vr 1093), de P "__static_attributes__" 1635 (vr 1094), de P "__dict__" 1637 (vr 1097), de P "__weakref__" 1639 (vr 1098), de P "__doc__" 1640 vN, de P "__hash__" 1641 vN] 5) []),
  (ob (vt "type") none (.cls ⟨"Box", [(vt "object")], [(vr 1096), (vt "object")], 1095, "Box", true, [], [], false, none, false⟩) [none, none, (some (vs "Box" 1363)), (some (vs "Box" 1371)), (some (vb "object.__new__")), (some vT)]),
  (ob (vt "getset_descriptor") none (fi [(vs "__dict__" 1636), (vr 1096), (vb "function.__dict__"), (vb "function.__dict__#set")]) []),
  (ob (vt "getset_descriptor") none (fi [(vs "__weakref__" 1638), (vr 1096), (vb "ExceptionGroup.__weakref__"), vN]) []),
  (ob (vt "super") none (fi [(vr 1096), (vr 1096), (vr 1096)]) []),
  (ob (vt "builtin_function_or_method") none (fi [(vb "object.__init_subclass__"), (vr 1096)]) []),
  (ob (vt "dict") none (di [de P "insert" 1650 (vi 4 1656), de P "update" 1652 (vi 4 1657), de P "delete" 1654 (vi 3 1658)] 3) []),
  (ob (vt "tuple") none (sq [] 0) []),
  (ob vN none (fi []) [])]
def o3_69 (P : Params) : List Obj := [
  (ob (vt "tuple") none (sq [(vs "value" 1666)] 0) []),
  (ob (vt "tuple") none (sq [] 0) []),
  (ob vN none (.func (fu (top 74) "is_payload" "is_payload" 0 [] vN vN vN vN none vN vN 0)) []),
  (ob (vt "code") none (fi [(vs "is_payload" 1663), (vs "is_payload" 1664), (vs "/claim/cut.py" 1665), (vi 452 0), (vi 1 0), (vi 0 0), (vi 0 0), (vi 3 0), (vr 1102), vT, (vi 181 0), (vr 1103), vN, (vr 1104), (vr 1105), (vr 1106), (vi 1667 0), (vi 452 0), (vs "/claim/cut.py" 1668)]) []),
  (ob (vt "function") none (.func (fu (top 74) "is_payload" "is_payload" 3 [] vN vN vN (vs "coverstore.sources" 1644) none (vr 1107) vN 0)) []),
  (ob (vt "tuple") none (sq [] 0) []),
  (ob vN none (fi []) []),
  (ob (vt "tuple") none (sq [(vs "source" 1673), (vs "value" 1674)] 0) []),
  (ob (vt "tuple") none (sq [] 0) []),
  (ob vN none (.func (fu (top 75) "is_table" "is_table" 0 [] vN vN vN vN none vN vN 0)) []),
  (ob (vt "code") none (fi [(vs "is_table" 1670), (vs "is_table" 1671), (vs "/claim/cut.py" 1672), (vi 454 0), (vi 2 0), (vi 0 0), (vi 0 0), (vi 3 0), (vr 1109), vT, (vi 181 0), (vr 1110), vN, (vr 1111), (vr 1112), (vr 1113), (vi 1675 0), (vi 454 0), (vs "/claim/cut.py" 1676)]) []),
  (ob (vt "function") none (.func (fu (top 75) "is_table" "is_table" 3 [] vN vN vN (vs "coverstore.sources" 1644) none (vr 1114) vN 0)) []),
  (ob (vt "tuple") none (sq [] 0) []),
  (ob vN none (fi []) []),
  (ob vN none (.func (fu (top 76) "is_key" "is_key" 0 [] vN vN vN vN none vN vN 0)) []),
  (ob (vt "code") none (fi [(vs "is_key" 1678), (vs "is_key" 1679), (vs "/claim/cut.py" 1680), (vi 456 0), (vi 3 0), (vi 0 0), (vi 0 0), (vi 3 0), (vr 1116), vT, (vi 181 0), (vr 1117), vN, vN, vN, (vr 1118), (vi 1681 0), (vi 456 0), (vs "/claim/cut.py" 1682)]) [])]
def o3_70 (P : Params) : List Obj := [
  (ob (vt "function") none (.func (fu (top 76) "is_key" "is_key" 3 [] vN vN vN (vs "coverstore.sources" 1644) none (vr 1119) vN 0)) []),
  (ob (vt "tuple") none (sq [] 0) []),
  (ob vN none (fi []) []),
  (ob (vt "tuple") none (sq [(vs "source" 1687), (vs "table" 1688)] 0) []),
  (ob (vt "tuple") none (sq [] 0) []),
  (ob vN none (.func (fu (top 77) "require_table" "require_table" 0 [] vN vN vN vN none vN vN 0)) []),
  (ob (vt "code") none (fi [(vs "require_table" 1684), (vs "require_table" 1685), (vs "/claim/cut.py" 1686), (vi 460 0), (vi 2 0), (vi 0 0), (vi 0 0), (vi 3 0), (vr 1121), vT, (vi 181 0), (vr 1122), vN, (vr 1123), (vr 1124), (vr 1125), (vi 1689 0), (vi 460 0), (vs "/claim/cut.py" 1690)]) []),
  (ob (vt "function") none (.func (fu (top 77) "require_table" "require_table" 3 [] vN vN vN (vs "coverstore.sources" 1644) none (vr 1126) vN 0)) [])]
def o3 (P : Params) : List Obj := o3_0 P ++ (o1_1 P ++ (o1_2 P ++ (o1_3 P ++ (o1_4 P ++ (o1_5 P ++ (o1_6 P ++ (o1_7 P ++ (o1_8 P ++ (o1_9 P ++ (o1_10 P ++ (o1_11 P ++ (o1_12 P ++ (o1_13 P ++ (o1_14 P ++ (o1_15 P ++ (o1_16 P ++ (o1_17 P ++ (o1_18 P ++ (o1_19 P ++ (o1_20 P ++ (o1_21 P ++ (o1_22 P ++ (o1_23 P ++ (o1_24 P ++ (o1_25 P ++ (o1_26 P ++ (o1_27 P ++ (o1_28 P ++ (o1_29 P ++ (o1_30 P ++ (o1_31 P ++ (o1_32 P ++ (o1_33 P ++ (o1_34 P ++ (o1_35 P ++ (o1_36 P ++ (o1_37 P ++ (o1_38 P ++ (o1_39 P ++ (o2_40 P ++ (o2_41 P ++ (o2_42 P ++ (o2_43 P ++ (o2_44 P ++ (o2_45 P ++ (o2_46 P ++ (o2_47 P ++ (o2_48 P ++ (o2_49 P ++ (o2_50 P ++ (o2_51 P ++ (o2_52 P ++ (o2_53 P ++ (o2_54 P ++ (o2_55 P ++ (o2_56 P ++ (o2_57 P ++ (o2_58 P ++ (o2_59 P ++ (o2_60 P ++ (o2_61 P ++ (o2_62 P ++ (o2_63 P ++ (o2_64 P ++ (o2_65 P ++ (o2_66 P ++ (o2_67 P ++ (o3_68 P ++ (o3_69 P ++ (o3_70 P))))))))))))))))))))))))))))))))))))))))))))))))))))))))))))))))))))))
def S3 (w : World) (os : OsState) : SharedT := ⟨lay (o3 w.params) .nil 0, 1128, {}, #[], {}, 1692, os⟩
def pos3 : Pos := ⟨460, 0, 462, 33⟩
def n3 : Nat := 225
def o4_0 (P : Params) : List Obj := [
  boot_o_0 P,
  boot_o_1 P,
  (ob vN none (di [de P "type.__subclasses__.ArithmeticError.0" 1110 (vi 693 0), de P "type.__subclasses__.ArithmeticError.n" 1111 (vi 1 0)] 2) []),
  (ob (vt "dict") none (di [de P "__name__" 165 (vs "coverstore.bases" 1979), de P "__doc__" 166 vN, de P "__package__" 167 vN, de P "__loader__" 168 (vb "__main__.__loader__#opaque"), de P "__spec__" 169 vN, de P "__annotations__" 170 (vr 6), de P "__builtins__" 171 (vr 4), de P "__file__" 173 (vs "/claim/cut.py" 172), de P "__cached__" 174 vN, de P "_wall" 193 (vr 21), de P "CoverError" 213 (vr 31), de P "InvalidBits" 238 (vr 51), de P "InvalidValue" 263 (vr 70), de P "InvalidRange" 288 (vr 89), de P "InvalidBox" 313 (vr 108), de P "InvalidPlace" 338 (vr 127), de P "InvalidCount" 363 (vr 146), de P "InvalidName" 388 (vr 165), de P "InvalidColumns" 413 (vr 184), de P "InvalidOrder" 438 (vr 203), de P "InvalidKey" 463 (vr 222), de P "InvalidWrite" 488 (vr 241), de P "InvalidQuery" 515 (vr 260), de P "InvalidText" 540 (vr 279), de P "InvalidPaper" 565 (vr 298), de P "InvalidLimit" 590 (vr 317), de P "InvalidPage" 615 (vr 336), de P "UnknownTable" 642 (vr 355), de P "UnknownVersion" 669 (vr 375), de P "TooOld" 696 (vr 395), de P "UnknownName" 723 (vr 415), de P "NameTaken" 750 (vr 435), de P "KeyTaken" 779 (vr 455), de P "NoSuchRow" 808 (vr 475), de P "Unlike" 826 (vr 488), de P "NoHalf" 853 (vr 508), de P "NotJoined" 880 (vr 528), de P "NotAPoint" 898 (vr 541), de P "WrongColumns" 925 (vr 561), de P "NotEmpty" 952 (vr 581), de P "Ended" 970 (vr 594), de P "Changed" 999 (vr 614), de P "Violated" 1028 (vr 634), de P "Crashed" 1046 (vr 647), de P "DiskInUse" 1064 (vr 660), de P "NoStore" 1082 (vr 673), de P "TooMany" 1113 (vr 693), de P "MAX_BITS" 1117 (vi 10 1116), de P "DIGITS_ranges" 1119 (vs "01" 1118), de P "is_integer" 1126 (vr 703), de P "is_bits" 1133 (vr 710), de P "is_value" 1141 (vr 717), de P "is_range" 1147 (vr 722), de P "require_bits" 1154 (vr 729), de P "require_value" 1162 (vr 736), de P "require_range" 1170 (vr 743), de P "number_of" 1179 (vr 750), de P "range_of" 1185 (vr 755), de P "bounds" 1195 (vr 762), de P "common_range" 1204 (vr 769), de P "common_length" 1213 (vr 776), de P "widest_range" 1225 (vr 785), de P "PAGE_SIZE" 1229 (vi 32 1228), de P "require_page" 1236 (vr 792), de P "Disk" 1330 (vr 866), de P "MOST_RANGES" 1334 (vi 5 1333), de P "ALL" 1336 (vs "*" 1335), de P "NO_RANGES" 1338 (vs "-" 1337), de P "COMMA_boxes" 1340 (vs "," 1339), de P "require_ranges" 1350 (vr 877), de P "ranges_text" 1356 (vr 882), de P "ranges_in" 1362 (vr 887), de P "Box" 1643 (vr 1096), de P "MOST_PAYLOAD" 1649 (vi 1000000000 1648), de P "INSERT" 1651 (vs "insert" 1650), de P "UPDATE" 1653 (vs "update" 1652), de P "DELETE" 1655 (vs "delete" 1654), de P "WRITE_SIZES" 1662 (vr 1101), de P "is_payload" 1669 (vr 1108), de P "is_table" 1677 (vr 1115), de P "is_key" 1683 (vr 1120), de P "require_table" 1691 (vr 1127), de P "require_key" 1700 (vr 1134), de P "require_box" 1709 (vr 1141), de P "is_write" 1715 (vr 1146), de P "require_writes" 1725 (vr 1153), de P "rows_after" 1740 (vr 1160), de P "alike_columns" 1750 (vr 1167), de P "gap_between" 1756 (vr 1172), de P "Source" 1811 (vr 1209), de P "Snapshot" 1895 (vr 1282), de P "Overlay" 1978 (vr 1349), de P "LETTERS" 1982 (vs "abcdefghijklmnopqrstuvwxyz" 1981), de P "MOST_LETTERS" 1984 (vi 8 1983), de P "RESERVED" 1987 (vr 1352), de P "MOST_TABLES" 1989 (vi 8 1988), de P "MOST_COLUMNS" 1991 (vi 4 1990), de P "MOST_OTHER_ORDERS" 1993 (vi 2 1992), de P "is_name" 1999 (vr 1357), de P "require_name" 2007 (vr 1364), de P "is_order" 2013 (vr 1369), de P "is_order_bases" 2014 (vr 1369), de P "require_orders" 2025 (vr 1376), de P "Table" 2126 (vr 1445)] 104) []),
  boot_o_4 P,
  boot_o_5 P,
  boot_o_6 P,
  boot_o_7 P,
  boot_o_8 P,
  boot_o_9 P,
  boot_o_10 P,
  (ob (vt "tuple") none (sq [] 0) []),
  (ob vN none (fi [(vi 1 0), (vi 0 0), (vr 20), (vi 5 0), (vi 0 0), (vr 27), (vi 7 0), (vi 0 0), (vr 40), (vi 12 0), (vi 0 0), (vr 59), (vi 17 0), (vi 0 0), (vr 78), (vi 22 0), (vi 0 0), (vr 97), (vi 27 0), (vi 0 0), (vr 116), (vi 32 0), (vi 0 0), (vr 135), (vi 37 0), (vi 0 0), (vr 154), (vi 42 0), (vi 0 0), (vr 173), (vi 47 0), (vi 0 0), (vr 192), (vi 52 0), (vi 0 0), (vr 211), (vi 57 0), (vi 0 0), (vr 230), (vi 62 0), (vi 0 0), (vr 249), (vi 68 0), (vi 0 0), (vr 268), (vi 73 0), (vi 0 0), (vr 287), (vi 78 0), (vi 0 0), (vr 306), (vi 83 0), (vi 0 0), (vr 325), (vi 88 0), (vi 0 0), (vr 344), (vi 93 0), (vi 0 0), (vr 364), (vi 98 0), (vi 0 0), (vr 384), (vi 103 0), (vi 0 0), (vr 404), (vi 108 0), (vi 0 0), (vr 424), (vi 113 0), (vi 0 0), (vr 444), (vi 119 0), (vi 0 0), (vr 464), (vi 125 0), (vi 0 0), (vr 484), (vi 127 0), (vi 0 0), (vr 497), (vi 132 0), (vi 0 0), (vr 517), (vi 137 0), (vi 0 0), (vr 537), (vi 139 0), (vi 0 0), (vr 550), (vi 144 0), (vi 0 0), (vr 570), (vi 149 0), (vi 0 0), (vr 590), (vi 151 0), (vi 0 0), (vr 603), (vi 157 0), (vi 0 0), (vr 623), (vi 163 0), (vi 0 0), (vr 643), (vi 165 0), (vi 0 0), (vr 656), (vi 167 0), (vi 0 0), (vr 669), (vi 169 0), (vi 0 0), (vr 682), (vi 178 0), (vi 0 0), (vr 702), (vi 180 0), (vi 0 0), (vr 709), (vi 182 0), (vi 0 0), (vr 716), (vi 184 0), (vi 0 0), (vr 721), (vi 188 0), (vi 0 0), (vr 728), (vi 191 0), (vi 0 0), (vr 735), (vi 194 0), (vi 0 0), (vr 742), (vi 197 0), (vi 0 0), (vr 749), (vi 202 0), (vi 0 0), (vr 754), (vi 206 0), (vi 0 0), (vr 761), (vi 212 0), (vi 0 0), (vr 768), (vi 219 0), (vi 0 0), (vr 775), (vi 224 0), (vi 0 0), (vr 784), (vi 234 0), (vi 0 0), (vr 791), (vi 237 0), (vi 0 0), (vr 798), (vi 286 0), (vi 0 0), (vr 876), (vi 292 0), (vi 0 0), (vr 881), (vi 296 0), (vi 0 0), (vr 886), (vi 306 0), (vi 0 0), (vr 893), (vi 452 0), (vi 0 0), (vr 1107), (vi 454 0), (vi 0 0), (vr 1114), (vi 456 0), (vi 0 0), (vr 1119), (vi 460 0), (vi 0 0), (vr 1126), (vi 463 0), (vi 0 0), (vr 1133), (vi 467 0), (vi 0 0), (vr 1140), (vi 471 0), (vi 0 0), (vr 1145), (vi 477 0), (vi 0 0), (vr 1152), (vi 483 0), (vi 0 0), (vr 1159), (vi 495 0), (vi 0 0), (vr 1166), (vi 500 0), (vi 0 0), (vr 1171), (vi 510 0), (vi 0 0), (vr 1178), (vi 530 0), (vi 0 0), (vr 1219), (vi 559 0), (vi 0 0), (vr 1290), (vi 602 0), (vi 0 0), (vr 1356), (vi 606 0), (vi 0 0), (vr 1363), (vi 611 0), (vi 0 0), (vr 1368), (vi 616 0), (vi 0 0), (vr 1375), (vi 622 0), (vi 0 0), (vr 1382)]) []),
  (ob (vt "code") none (fi [(vs "<module>" 182), (vs "<module>" 183), (vs "/claim/cut.py" 184), (vi 1 0), (vi 0 0), (vi 0 0), (vi 0 0), (vi 0 0), (vr 11), vF, (vi 181 0), (vr 12), vN, vN, vN, vN, (vi 185 0), (vi 1 0), (vs "/claim/cut.py" 186)]) []),
  (ob (vt "frame") none .plain [(some (vr 13)), (some (vr 3)), (some (vr 3)), none, (some (vs "__main__" 164)), none, (some (vr 0))]),
  (ob (vt "tuple") none (sq [] 0) [])]
def o4_70 (P : Params) : List Obj := [
  (ob (vt "function") none (.func (fu (top 76) "is_key" "is_key" 3 [] vN vN vN (vs "coverstore.sources" 1644) none (vr 1119) vN 0)) []),
  (ob (vt "tuple") none (sq [] 0) []),
  (ob vN none (fi []) []),
  (ob (vt "tuple") none (sq [(vs "source" 1687), (vs "table" 1688)] 0) []),
  (ob (vt "tuple") none (sq [] 0) []),
  (ob vN none (.func (fu (top 77) "require_table" "require_table" 0 [] vN vN vN vN none vN vN 0)) []),
  (ob (vt "code") none (fi [(vs "require_table" 1684), (vs "require_table" 1685), (vs "/claim/cut.py" 1686), (vi 460 0), (vi 2 0), (vi 0 0), (vi 0 0), (vi 3 0), (vr 1121), vT, (vi 181 0), (vr 1122), vN, (vr 1123), (vr 1124), (vr 1125), (vi 1689 0), (vi 460 0), (vs "/claim/cut.py" 1690)]) []),
  (ob (vt "function") none (.func (fu (top 77) "require_table" "require_table" 3 [] vN vN vN (vs "coverstore.sources" 1644) none (vr 1126) vN 0)) []),
  (ob (vt "tuple") none (sq [] 0) []),
  (ob vN none (fi []) []),
  (ob (vt "tuple") none (sq [(vs "source" 1695), (vs "table" 1696), (vs "key" 1697)] 0) []),
  (ob (vt "tuple") none (sq [] 0) []),
  (ob vN none (.func (fu (top 78) "require_key" "require_key" 0 [] vN vN vN vN none vN vN 0)) []),
  (ob (vt "code") none (fi [(vs "require_key" 1692), (vs "require_key" 1693), (vs "/claim/cut.py" 1694), (vi 463 0), (vi 3 0), (vi 0 0), (vi 0 0), (vi 3 0), (vr 1128), vT, (vi 181 0), (vr 1129), vN, (vr 1130), (vr 1131), (vr 1132), (vi 1698 0), (vi 463 0), (vs "/claim/cut.py" 1699)]) []),
  (ob (vt "function") none (.func (fu (top 78) "require_key" "require_key" 3 [] vN vN vN (vs "coverstore.sources" 1644) none (vr 1133) vN 0)) []),
  (ob (vt "tuple") none (sq [] 0) [])]
def o4_71 (P : Params) : List Obj := [
  (ob vN none (fi []) []),
  (ob (vt "tuple") none (sq [(vs "source" 1704), (vs "table" 1705), (vs "box" 1706)] 0) []),
  (ob (vt "tuple") none (sq [] 0) []),
  (ob vN none (.func (fu (top 79) "require_box" "require_box" 0 [] vN vN vN vN none vN vN 0)) []),
  (ob (vt "code") none (fi [(vs "require_box" 1701), (vs "require_box" 1702), (vs "/claim/cut.py" 1703), (vi 467 0), (vi 3 0), (vi 0 0), (vi 0 0), (vi 3 0), (vr 1135), vT, (vi 181 0), (vr 1136), vN, (vr 1137), (vr 1138), (vr 1139), (vi 1707 0), (vi 467 0), (vs "/claim/cut.py" 1708)]) []),
  (ob (vt "function") none (.func (fu (top 79) "require_box" "require_box" 3 [] vN vN vN (vs "coverstore.sources" 1644) none (vr 1140) vN 0)) []),
  (ob (vt "tuple") none (sq [] 0) []),
  (ob vN none (fi []) []),
  (ob vN none (.func (fu (top 80) "is_write" "is_write" 0 [] vN vN vN vN none vN vN 0)) []),
  (ob (vt "code") none (fi [(vs "is_write" 1710), (vs "is_write" 1711), (vs "/claim/cut.py" 1712), (vi 471 0), (vi 2 0), (vi 0 0), (vi 0 0), (vi 3 0), (vr 1142), vT, (vi 181 0), (vr 1143), vN, vN, vN, (vr 1144), (vi 1713 0), (vi 471 0), (vs "/claim/cut.py" 1714)]) []),
  (ob (vt "function") none (.func (fu (top 80) "is_write" "is_write" 3 [] vN vN vN (vs "coverstore.sources" 1644) none (vr 1145) vN 0)) []),
  (ob (vt "tuple") none (sq [] 0) []),
  (ob vN none (fi []) []),
  (ob (vt "tuple") none (sq [(vs "source" 1719), (vs "writes" 1720), (vs "position" 1721), (vs "write" 1722)] 0) []),
  (ob (vt "tuple") none (sq [] 0) []),
  (ob vN none (.func (fu (top 81) "require_writes" "require_writes" 0 [] vN vN vN vN none vN vN 0)) [])]
def o4_72 (P : Params) : List Obj := [
  (ob (vt "code") none (fi [(vs "require_writes" 1716), (vs "require_writes" 1717), (vs "/claim/cut.py" 1718), (vi 477 0), (vi 2 0), (vi 0 0), (vi 0 0), (vi 3 0), (vr 1147), vT, (vi 181 0), (vr 1148), vN, (vr 1149), (vr 1150), (vr 1151), (vi 1723 0), (vi 477 0), (vs "/claim/cut.py" 1724)]) []),
  (ob (vt "function") none (.func (fu (top 81) "require_writes" "require_writes" 3 [] vN vN vN (vs "coverstore.sources" 1644) none (vr 1152) vN 0)) []),
  (ob (vt "tuple") none (sq [] 0) []),
  (ob vN none (fi []) []),
  (ob (vt "tuple") none (sq [(vs "source" 1729), (vs "writes" 1730), (vs "found" 1731), (vs "word" 1732), (vs "table" 1733), (vs "key" 1734), (vs "payload" 1735), (vs "place" 1736), (vs "before" 1737)] 0) []),
  (ob (vt "tuple") none (sq [] 0) []),
  (ob vN none (.func (fu (top 82) "rows_after" "rows_after" 0 [] vN vN vN vN none vN vN 0)) []),
  (ob (vt "code") none (fi [(vs "rows_after" 1726), (vs "rows_after" 1727), (vs "/claim/cut.py" 1728), (vi 483 0), (vi 2 0), (vi 0 0), (vi 0 0), (vi 3 0), (vr 1154), vT, (vi 181 0), (vr 1155), vN, (vr 1156), (vr 1157), (vr 1158), (vi 1738 0), (vi 483 0), (vs "/claim/cut.py" 1739)]) []),
  (ob (vt "function") none (.func (fu (top 82) "rows_after" "rows_after" 3 [] vN vN vN (vs "coverstore.sources" 1644) none (vr 1159) vN 0)) []),
  (ob (vt "tuple") none (sq [] 0) []),
  (ob vN none (fi []) []),
  (ob (vt "tuple") none (sq [(vs "order" 1744), (vs "one" 1745), (vs "other" 1746), (vs "count" 1747)] 0) []),
  (ob (vt "tuple") none (sq [] 0) []),
  (ob vN none (.func (fu (top 83) "alike_columns" "alike_columns" 0 [] vN vN vN vN none vN vN 0)) []),
  (ob (vt "code") none (fi [(vs "alike_columns" 1741), (vs "alike_columns" 1742), (vs "/claim/cut.py" 1743), (vi 495 0), (vi 3 0), (vi 0 0), (vi 0 0), (vi 3 0), (vr 1161), vT, (vi 181 0), (vr 1162), vN, (vr 1163), (vr 1164), (vr 1165), (vi 1748 0), (vi 495 0), (vs "/claim/cut.py" 1749)]) []),
  (ob (vt "function") none (.func (fu (top 83) "alike_columns" "alike_columns" 3 [] vN vN vN (vs "coverstore.sources" 1644) none (vr 1166) vN 0)) [])]
def o4_73 (P : Params) : List Obj := [
  (ob (vt "tuple") none (sq [] 0) []),
  (ob vN none (fi []) []),
  (ob vN none (.func (fu (top 84) "gap_between" "gap_between" 0 [] vN vN vN vN none vN vN 0)) []),
  (ob (vt "code") none (fi [(vs "gap_between" 1751), (vs "gap_between" 1752), (vs "/claim/cut.py" 1753), (vi 500 0), (vi 4 0), (vi 0 0), (vi 0 0), (vi 3 0), (vr 1168), vT, (vi 181 0), (vr 1169), vN, vN, vN, (vr 1170), (vi 1754 0), (vi 500 0), (vs "/claim/cut.py" 1755)]) []),
  (ob (vt "function") none (.func (fu (top 84) "gap_between" "gap_between" 3 [] vN vN vN (vs "coverstore.sources" 1644) none (vr 1171) vN 0)) []),
  (ob (vt "tuple") none (sq [] 0) []),
  (ob (vt "builtin_function_or_method") none (fi [(vb "type.__prepare__"), (vt "type")]) []),
  (ob (vt "dict") none (di [de P "__module__" 1764 (vs "coverstore.sources" 1644), de P "__qualname__" 1766 (vs "Source" 1765), de P "__firstlineno__" 1768 (vi 510 1767), de P "is_clear" 1777 (vr 1186), de P "require_absent" 1786 (vr 1193), de P "gap" 1797 (vr 1201), de P "gaps" 1803 (vr 1206), de P "__static_attributes__" 1804 (vr 1207)] 8) []),
  (ob (vt "tuple") none (sq [] 0) []),
  (ob vN none (fi [(vi 512 0), (vi 4 0), (vr 1185), (vi 515 0), (vi 4 0), (vr 1192), (vi 519 0), (vi 4 0), (vr 1200), (vi 525 0), (vi 4 0), (vr 1205)]) []),
  (ob (vt "code") none (fi [(vs "Source" 1759), (vs "Source" 1760), (vs "/claim/cut.py" 1761), (vi 510 0), (vi 0 0), (vi 0 0), (vi 0 0), (vi 0 0), (vr 1176), vF, (vi 181 0), (vr 1177), vN, vN, vN, vN, (vi 1762 0), (vi 510 0), (vs "/claim/cut.py" 1763)]) []),
  (ob (vt "frame") none .plain [(some (vr 1178)), (some (vr 3)), (some (vr 1175)), none, (some (vs "coverstore.sources" 1644)), none, (some (vr 0))]),
  (ob (vt "tuple") none (sq [] 0) []),
  (ob vN none (fi []) []),
  (ob (vt "tuple") none (sq [(vs "self" 1772), (vs "table" 1773), (vs "box" 1774)] 0) []),
  (ob (vt "tuple") none (sq [] 0) [])]
def o4_74 (P : Params) : List Obj := [
  (ob vN none (.func (fu (inClass (top 85) 0) "is_clear" "Source.is_clear" 0 [] vN vN vN vN none vN vN 0)) []),
  (ob (vt "code") none (fi [(vs "is_clear" 1769), (vs "Source.is_clear" 1770), (vs "/claim/cut.py" 1771), (vi 512 0), (vi 3 0), (vi 0 0), (vi 0 0), (vi 3 0), (vr 1180), vT, (vi 181 0), (vr 1181), vN, (vr 1182), (vr 1183), (vr 1184), (vi 1775 0), (vi 512 0), (vs "/claim/cut.py" 1776)]) []),
  (ob (vt "function") none (.func (fu (inClass (top 85) 0) "is_clear" "Source.is_clear" 3 [] vN vN vN (vs "coverstore.sources" 1644) none (vr 1185) vN 0)) []),
  (ob (vt "tuple") none (sq [] 0) []),
  (ob vN none (fi []) []),
  (ob (vt "tuple") none (sq [(vs "self" 1781), (vs "table" 1782), (vs "key" 1783)] 0) []),
  (ob (vt "tuple") none (sq [] 0) []),
  (ob vN none (.func (fu (inClass (top 85) 1) "require_absent" "Source.require_absent" 0 [] vN vN vN vN none vN vN 0)) []),
  (ob (vt "code") none (fi [(vs "require_absent" 1778), (vs "Source.require_absent" 1779), (vs "/claim/cut.py" 1780), (vi 515 0), (vi 3 0), (vi 0 0), (vi 0 0), (vi 3 0), (vr 1187), vT, (vi 181 0), (vr 1188), vN, (vr 1189), (vr 1190), (vr 1191), (vi 1784 0), (vi 515 0), (vs "/claim/cut.py" 1785)]) []),
  (ob (vt "function") none (.func (fu (inClass (top 85) 1) "require_absent" "Source.require_absent" 3 [] vN vN vN (vs "coverstore.sources" 1644) none (vr 1192) vN 0)) []),
  (ob (vt "tuple") none (sq [(vi 0 1787)] 0) []),
  (ob (vt "tuple") none (sq [] 0) []),
  (ob vN none (fi []) []),
  (ob (vt "tuple") none (sq [(vs "self" 1791), (vs "table" 1792), (vs "key" 1793), (vs "order" 1794)] 0) []),
  (ob (vt "tuple") none (sq [] 0) []),
  (ob vN none (.func (fu (inClass (top 85) 2) "gap" "Source.gap" 0 [] vN vN vN vN none vN vN 0)) [])]
def o4_75 (P : Params) : List Obj := [
  (ob (vt "code") none (fi [(vs "gap" 1788), (vs "Source.gap" 1789), (vs "/claim/cut.py" 1790), (vi 519 0), (vi 4 0), (vi 0 0), (vi 0 0), (vi 3 0), (vr 1195), vT, (vi 181 0), (vr 1196), vN, (vr 1197), (vr 1198), (vr 1199), (vi 1795 0), (vi 519 0), (vs "/claim/cut.py" 1796)]) []),
  (ob (vt "function") none (.func (fu (inClass (top 85) 2) "gap" "Source.gap" 3 [] (vr 1194) vN vN (vs "coverstore.sources" 1644) none (vr 1200) vN 0)) []),
  (ob (vt "tuple") none (sq [] 0) []),
  (ob vN none (fi []) []),
  (ob vN none (.func (fu (inClass (top 85) 3) "gaps" "Source.gaps" 0 [] vN vN vN vN none vN vN 0)) []),
  (ob (vt "code") none (fi [(vs "gaps" 1798), (vs "Source.gaps" 1799), (vs "/claim/cut.py" 1800), (vi 525 0), (vi 3 0), (vi 0 0), (vi 0 0), (vi 3 0), (vr 1202), vT, (vi 181 0), (vr 1203), vN, vN, vN, (vr 1204), (vi 1801 0), (vi 525 0), (vs "/claim/cut.py" 1802)]) []),
  (ob (vt "function") none (.func (fu (inClass (top 85) 3) "gaps" "Source.gaps" 3 [] vN vN vN (vs "coverstore.sources" 1644) none (vr 1205) vN 0)) []),
  (ob (vt "tuple") none (sq [] 0) []),
  (ob (vt "dict") none (di [de P "__module__" 1764 (vs "coverstore.sources" 1644), de P "__firstlineno__" 1768 (vi 510 1767), de P "is_clear" 1777 (vr 1186), de P "require_absent" 1786 (vr 1193), de P "gap" 1797 (vr 1201), de P "gaps" 1803 (vr 1206), de P "__static_attributes__" 1804 (vr 1207), de P "__dict__" 1806 (vr 1210), de P "__weakref__" 1808 (vr 1211), de P "__doc__" 1809 vN] 4) []),
  (ob (vt "type") none (.cls ⟨"Source", [(vt "object")], [(vr 1209), (vt "object")], 1208, "Source", true, [], [(vr 1282), (vr 1349)], false, none, false⟩) [none, none, (some (vs "Source" 1757)), (some (vs "Source" 1765)), (some (vb "object.__new__")), (some vT)]),
  (ob (vt "getset_descriptor") none (fi [(vs "__dict__" 1805), (vr 1209), (vb "function.__dict__"), (vb "function.__dict__#set")]) []),
  (ob (vt "getset_descriptor") none (fi [(vs "__weakref__" 1807), (vr 1209), (vb "ExceptionGroup.__weakref__"), vN]) []),
  (ob (vt "super") none (fi [(vr 1209), (vr 1209), (vr 1209)]) []),
  (ob (vt "builtin_function_or_method") none (fi [(vb "object.__init_subclass__"), (vr 1209)]) []),
  (ob (vt "tuple") none (sq [(vr 1209)] 0) []),
  (ob (vt "builtin_function_or_method") none (fi [(vb "type.__prepare__"), (vt "type")]) [])]
def o4_76 (P : Params) : List Obj := [
  (ob (vt "dict") none (di [de P "__module__" 1819 (vs "coverstore.sources" 1644), de P "__qualname__" 1821 (vs "Snapshot" 1820), de P "__firstlineno__" 1823 (vi 530 1822), de P "__init__" 1832 (vr 1228), de P "bits" 1840 (vr 1236), de P "version" 1848 (vr 1244), de P "tables" 1855 (vr 1251), de P "columns" 1863 (vr 1258), de P "orders" 1871 (vr 1265), de P "payload" 1880 (vr 1272), de P "keys_in" 1889 (vr 1279), de P "__static_attributes__" 1892 (vr 1280)] 12) []),
  (ob (vt "tuple") none (sq [] 0) []),
  (ob vN none (fi [(vi 532 0), (vi 4 0), (vr 1227), (vi 537 0), (vi 4 0), (vr 1234), (vi 541 0), (vi 4 0), (vr 1242), (vi 544 0), (vi 4 0), (vr 1250), (vi 547 0), (vi 4 0), (vr 1257), (vi 550 0), (vi 4 0), (vr 1264), (vi 553 0), (vi 4 0), (vr 1271), (vi 556 0), (vi 4 0), (vr 1278)]) []),
  (ob (vt "code") none (fi [(vs "Snapshot" 1814), (vs "Snapshot" 1815), (vs "/claim/cut.py" 1816), (vi 530 0), (vi 0 0), (vi 0 0), (vi 0 0), (vi 0 0), (vr 1217), vF, (vi 181 0), (vr 1218), vN, vN, vN, vN, (vi 1817 0), (vi 530 0), (vs "/claim/cut.py" 1818)]) []),
  (ob (vt "frame") none .plain [(some (vr 1219)), (some (vr 3)), (some (vr 1216)), none, (some (vs "coverstore.sources" 1644)), none, (some (vr 0))]),
  (ob (vt "tuple") none (sq [vN] 0) []),
  (ob (vt "tuple") none (sq [] 0) []),
  (ob vN none (fi []) []),
  (ob (vt "tuple") none (sq [(vs "self" 1827), (vs "base" 1828), (vs "version" 1829)] 0) []),
  (ob (vt "tuple") none (sq [] 0) []),
  (ob vN none (.func (fu (inClass (top 86) 0) "__init__" "Snapshot.__init__" 0 [] vN vN vN vN none vN vN 0)) []),
  (ob (vt "code") none (fi [(vs "__init__" 1824), (vs "Snapshot.__init__" 1825), (vs "/claim/cut.py" 1826), (vi 532 0), (vi 3 0), (vi 0 0), (vi 0 0), (vi 3 0), (vr 1222), vT, (vi 181 0), (vr 1223), vN, (vr 1224), (vr 1225), (vr 1226), (vi 1830 0), (vi 532 0), (vs "/claim/cut.py" 1831)]) []),
  (ob (vt "function") none (.func (fu (inClass (top 86) 0) "__init__" "Snapshot.__init__" 3 [] (vr 1221) vN vN (vs "coverstore.sources" 1644) none (vr 1227) vN 0)) []),
  (ob (vt "tuple") none (sq [] 0) []),
  (ob vN none (fi []) []),
  (ob (vt "tuple") none (sq [(vs "self" 1836)] 0) [])]
def o4_77 (P : Params) : List Obj := [
  (ob (vt "tuple") none (sq [] 0) []),
  (ob vN none (.func (fu (inClass (top 86) 1) "bits" "Snapshot.bits" 0 [] vN vN vN vN none vN vN 0)) []),
  (ob (vt "code") none (fi [(vs "bits" 1833), (vs "Snapshot.bits" 1834), (vs "/claim/cut.py" 1835), (vi 536 0), (vi 1 0), (vi 0 0), (vi 0 0), (vi 3 0), (vr 1229), vT, (vi 181 0), (vr 1230), vN, (vr 1231), (vr 1232), (vr 1233), (vi 1837 0), (vi 536 0), (vs "/claim/cut.py" 1838)]) []),
  (ob (vt "function") none (.func (fu (inClass (top 86) 1) "bits" "Snapshot.bits" 3 [] vN vN vN (vs "coverstore.sources" 1644) none (vr 1234) vN 0)) []),
  (ob (vt "property") none (fi [(vr 1235), vN, vN, vN, (vs "bits" 1840), vF]) []),
  (ob (vt "tuple") none (sq [] 0) []),
  (ob vN none (fi []) []),
  (ob (vt "tuple") none (sq [(vs "self" 1844)] 0) []),
  (ob (vt "tuple") none (sq [] 0) []),
  (ob vN none (.func (fu (inClass (top 86) 2) "version" "Snapshot.version" 0 [] vN vN vN vN none vN vN 0)) []),
  (ob (vt "code") none (fi [(vs "version" 1841), (vs "Snapshot.version" 1842), (vs "/claim/cut.py" 1843), (vi 540 0), (vi 1 0), (vi 0 0), (vi 0 0), (vi 3 0), (vr 1237), vT, (vi 181 0), (vr 1238), vN, (vr 1239), (vr 1240), (vr 1241), (vi 1845 0), (vi 540 0), (vs "/claim/cut.py" 1846)]) []),
  (ob (vt "function") none (.func (fu (inClass (top 86) 2) "version" "Snapshot.version" 3 [] vN vN vN (vs "coverstore.sources" 1644) none (vr 1242) vN 0)) []),
  (ob (vt "property") none (fi [(vr 1243), vN, vN, vN, (vs "version" 1848), vF]) []),
  (ob (vt "tuple") none (sq [] 0) []),
  (ob vN none (fi []) []),
  (ob (vt "tuple") none (sq [(vs "self" 1852)] 0) [])]
def o4_78 (P : Params) : List Obj := [
  (ob (vt "tuple") none (sq [] 0) []),
  (ob vN none (.func (fu (inClass (top 86) 3) "tables" "Snapshot.tables" 0 [] vN vN vN vN none vN vN 0)) []),
  (ob (vt "code") none (fi [(vs "tables" 1849), (vs "Snapshot.tables" 1850), (vs "/claim/cut.py" 1851), (vi 544 0), (vi 1 0), (vi 0 0), (vi 0 0), (vi 3 0), (vr 1245), vT, (vi 181 0), (vr 1246), vN, (vr 1247), (vr 1248), (vr 1249), (vi 1853 0), (vi 544 0), (vs "/claim/cut.py" 1854)]) []),
  (ob (vt "function") none (.func (fu (inClass (top 86) 3) "tables" "Snapshot.tables" 3 [] vN vN vN (vs "coverstore.sources" 1644) none (vr 1250) vN 0)) []),
  (ob (vt "tuple") none (sq [] 0) []),
  (ob vN none (fi []) []),
  (ob (vt "tuple") none (sq [(vs "self" 1859), (vs "table" 1860)] 0) []),
  (ob (vt "tuple") none (sq [] 0) []),
  (ob vN none (.func (fu (inClass (top 86) 4) "columns" "Snapshot.columns" 0 [] vN vN vN vN none vN vN 0)) []),
  (ob (vt "code") none (fi [(vs "columns" 1856), (vs "Snapshot.columns" 1857), (vs "/claim/cut.py" 1858), (vi 547 0), (vi 2 0), (vi 0 0), (vi 0 0), (vi 3 0), (vr 1252), vT, (vi 181 0), (vr 1253), vN, (vr 1254), (vr 1255), (vr 1256), (vi 1861 0), (vi 547 0), (vs "/claim/cut.py" 1862)]) []),
  (ob (vt "function") none (.func (fu (inClass (top 86) 4) "columns" "Snapshot.columns" 3 [] vN vN vN (vs "coverstore.sources" 1644) none (vr 1257) vN 0)) []),
  (ob (vt "tuple") none (sq [] 0) []),
  (ob vN none (fi []) []),
  (ob (vt "tuple") none (sq [(vs "self" 1867), (vs "table" 1868)] 0) []),
  (ob (vt "tuple") none (sq [] 0) []),
  (ob vN none (.func (fu (inClass (top 86) 5) "orders" "Snapshot.orders" 0 [] vN vN vN vN none vN vN 0)) [])]
def o4_79 (P : Params) : List Obj := [
  (ob (vt "code") none (fi [(vs "orders" 1864), (vs "Snapshot.orders" 1865), (vs "/claim/cut.py" 1866), (vi 550 0), (vi 2 0), (vi 0 0), (vi 0 0), (vi 3 0), (vr 1259), vT, (vi 181 0), (vr 1260), vN, (vr 1261), (vr 1262), (vr 1263), (vi 1869 0), (vi 550 0), (vs "/claim/cut.py" 1870)]) []),
  (ob (vt "function") none (.func (fu (inClass (top 86) 5) "orders" "Snapshot.orders" 3 [] vN vN vN (vs "coverstore.sources" 1644) none (vr 1264) vN 0)) []),
  (ob (vt "tuple") none (sq [] 0) []),
  (ob vN none (fi []) []),
  (ob (vt "tuple") none (sq [(vs "self" 1875), (vs "table" 1876), (vs "key" 1877)] 0) []),
  (ob (vt "tuple") none (sq [] 0) []),
  (ob vN none (.func (fu (inClass (top 86) 6) "payload" "Snapshot.payload" 0 [] vN vN vN vN none vN vN 0)) []),
  (ob (vt "code") none (fi [(vs "payload" 1872), (vs "Snapshot.payload" 1873), (vs "/claim/cut.py" 1874), (vi 553 0), (vi 3 0), (vi 0 0), (vi 0 0), (vi 3 0), (vr 1266), vT, (vi 181 0), (vr 1267), vN, (vr 1268), (vr 1269), (vr 1270), (vi 1878 0), (vi 553 0), (vs "/claim/cut.py" 1879)]) []),
  (ob (vt "function") none (.func (fu (inClass (top 86) 6) "payload" "Snapshot.payload" 3 [] vN vN vN (vs "coverstore.sources" 1644) none (vr 1271) vN 0)) []),
  (ob (vt "tuple") none (sq [] 0) []),
  (ob vN none (fi []) []),
  (ob (vt "tuple") none (sq [(vs "self" 1884), (vs "table" 1885), (vs "box" 1886)] 0) []),
  (ob (vt "tuple") none (sq [] 0) []),
  (ob vN none (.func (fu (inClass (top 86) 7) "keys_in" "Snapshot.keys_in" 0 [] vN vN vN vN none vN vN 0)) []),
  (ob (vt "code") none (fi [(vs "keys_in" 1881), (vs "Snapshot.keys_in" 1882), (vs "/claim/cut.py" 1883), (vi 556 0), (vi 3 0), (vi 0 0), (vi 0 0), (vi 3 0), (vr 1273), vT, (vi 181 0), (vr 1274), vN, (vr 1275), (vr 1276), (vr 1277), (vi 1887 0), (vi 556 0), (vs "/claim/cut.py" 1888)]) []),
  (ob (vt "function") none (.func (fu (inClass (top 86) 7) "keys_in" "Snapshot.keys_in" 3 [] vN vN vN (vs "coverstore.sources" 1644) none (vr 1278) vN 0)) [])]
def o4_80 (P : Params) : List Obj := [
  (ob (vt "tuple") none (sq [(vs "own_base" 1890), (vs "own_version" 1891)] 0) []),
  (ob (vt "dict") none (di [de P "__module__" 1819 (vs "coverstore.sources" 1644), de P "__firstlineno__" 1823 (vi 530 1822), de P "__init__" 1832 (vr 1228), de P "bits" 1840 (vr 1236), de P "version" 1848 (vr 1244), de P "tables" 1855 (vr 1251), de P "columns" 1863 (vr 1258), de P "orders" 1871 (vr 1265), de P "payload" 1880 (vr 1272), de P "keys_in" 1889 (vr 1279), de P "__static_attributes__" 1892 (vr 1280), de P "__doc__" 1893 vN] 2) []),
  (ob (vt "type") none (.cls ⟨"Snapshot", [(vr 1209)], [(vr 1282), (vr 1209), (vt "object")], 1281, "Snapshot", true, [], [], false, none, false⟩) [(some (vr 1214)), none, (some (vs "Snapshot" 1812)), (some (vs "Snapshot" 1820)), (some (vb "object.__new__")), (some vT)]),
  (ob (vt "super") none (fi [(vr 1282), (vr 1282), (vr 1282)]) []),
  (ob (vt "builtin_function_or_method") none (fi [(vb "object.__init_subclass__"), (vr 1282)]) []),
  (ob (vt "tuple") none (sq [(vr 1209)] 0) []),
  (ob (vt "builtin_function_or_method") none (fi [(vb "type.__prepare__"), (vt "type")]) []),
  (ob (vt "dict") none (di [de P "__module__" 1905 (vs "coverstore.overlays" 1896), de P "__qualname__" 1907 (vs "Overlay" 1906), de P "__firstlineno__" 1909 (vi 559 1908), de P "__init__" 1918 (vr 1298), de P "bits" 1926 (vr 1306), de P "writes" 1933 (vr 1313), de P "tables" 1940 (vr 1320), de P "columns" 1948 (vr 1327), de P "orders" 1956 (vr 1334), de P "payload" 1965 (vr 1341), de P "keys_in" 1971 (vr 1346), de P "__static_attributes__" 1975 (vr 1347)] 12) []),
  (ob (vt "tuple") none (sq [] 0) []),
  (ob vN none (fi [(vi 561 0), (vi 4 0), (vr 1297), (vi 567 0), (vi 4 0), (vr 1304), (vi 570 0), (vi 4 0), (vr 1312), (vi 573 0), (vi 4 0), (vr 1319), (vi 576 0), (vi 4 0), (vr 1326), (vi 579 0), (vi 4 0), (vr 1333), (vi 582 0), (vi 4 0), (vr 1340), (vi 588 0), (vi 4 0), (vr 1345)]) []),
  (ob (vt "code") none (fi [(vs "Overlay" 1900), (vs "Overlay" 1901), (vs "/claim/cut.py" 1902), (vi 559 0), (vi 0 0), (vi 0 0), (vi 0 0), (vi 0 0), (vr 1288), vF, (vi 181 0), (vr 1289), vN, vN, vN, vN, (vi 1903 0), (vi 559 0), (vs "/claim/cut.py" 1904)]) []),
  (ob (vt "frame") none .plain [(some (vr 1290)), (some (vr 3)), (some (vr 1287)), none, (some (vs "coverstore.overlays" 1896)), none, (some (vr 0))]),
  (ob (vt "tuple") none (sq [] 0) []),
  (ob vN none (fi []) []),
  (ob (vt "tuple") none (sq [(vs "self" 1913), (vs "source" 1914), (vs "writes" 1915)] 0) []),
  (ob (vt "tuple") none (sq [] 0) [])]
def o4_81 (P : Params) : List Obj := [
  (ob vN none (.func (fu (inClass (top 88) 0) "__init__" "Overlay.__init__" 0 [] vN vN vN vN none vN vN 0)) []),
  (ob (vt "code") none (fi [(vs "__init__" 1910), (vs "Overlay.__init__" 1911), (vs "/claim/cut.py" 1912), (vi 561 0), (vi 3 0), (vi 0 0), (vi 0 0), (vi 3 0), (vr 1292), vT, (vi 181 0), (vr 1293), vN, (vr 1294), (vr 1295), (vr 1296), (vi 1916 0), (vi 561 0), (vs "/claim/cut.py" 1917)]) []),
  (ob (vt "function") none (.func (fu (inClass (top 88) 0) "__init__" "Overlay.__init__" 3 [] vN vN vN (vs "coverstore.overlays" 1896) none (vr 1297) vN 0)) []),
  (ob (vt "tuple") none (sq [] 0) []),
  (ob vN none (fi []) []),
  (ob (vt "tuple") none (sq [(vs "self" 1922)] 0) []),
  (ob (vt "tuple") none (sq [] 0) []),
  (ob vN none (.func (fu (inClass (top 88) 1) "bits" "Overlay.bits" 0 [] vN vN vN vN none vN vN 0)) []),
  (ob (vt "code") none (fi [(vs "bits" 1919), (vs "Overlay.bits" 1920), (vs "/claim/cut.py" 1921), (vi 566 0), (vi 1 0), (vi 0 0), (vi 0 0), (vi 3 0), (vr 1299), vT, (vi 181 0), (vr 1300), vN, (vr 1301), (vr 1302), (vr 1303), (vi 1923 0), (vi 566 0), (vs "/claim/cut.py" 1924)]) []),
  (ob (vt "function") none (.func (fu (inClass (top 88) 1) "bits" "Overlay.bits" 3 [] vN vN vN (vs "coverstore.overlays" 1896) none (vr 1304) vN 0)) []),
  (ob (vt "property") none (fi [(vr 1305), vN, vN, vN, (vs "bits" 1926), vF]) []),
  (ob (vt "tuple") none (sq [] 0) []),
  (ob vN none (fi []) []),
  (ob (vt "tuple") none (sq [(vs "self" 1930)] 0) []),
  (ob (vt "tuple") none (sq [] 0) []),
  (ob vN none (.func (fu (inClass (top 88) 2) "writes" "Overlay.writes" 0 [] vN vN vN vN none vN vN 0)) [])]
def o4_82 (P : Params) : List Obj := [
  (ob (vt "code") none (fi [(vs "writes" 1927), (vs "Overlay.writes" 1928), (vs "/claim/cut.py" 1929), (vi 570 0), (vi 1 0), (vi 0 0), (vi 0 0), (vi 3 0), (vr 1307), vT, (vi 181 0), (vr 1308), vN, (vr 1309), (vr 1310), (vr 1311), (vi 1931 0), (vi 570 0), (vs "/claim/cut.py" 1932)]) []),
  (ob (vt "function") none (.func (fu (inClass (top 88) 2) "writes" "Overlay.writes" 3 [] vN vN vN (vs "coverstore.overlays" 1896) none (vr 1312) vN 0)) []),
  (ob (vt "tuple") none (sq [] 0) []),
  (ob vN none (fi []) []),
  (ob (vt "tuple") none (sq [(vs "self" 1937)] 0) []),
  (ob (vt "tuple") none (sq [] 0) []),
  (ob vN none (.func (fu (inClass (top 88) 3) "tables" "Overlay.tables" 0 [] vN vN vN vN none vN vN 0)) []),
  (ob (vt "code") none (fi [(vs "tables" 1934), (vs "Overlay.tables" 1935), (vs "/claim/cut.py" 1936), (vi 573 0), (vi 1 0), (vi 0 0), (vi 0 0), (vi 3 0), (vr 1314), vT, (vi 181 0), (vr 1315), vN, (vr 1316), (vr 1317), (vr 1318), (vi 1938 0), (vi 573 0), (vs "/claim/cut.py" 1939)]) []),
  (ob (vt "function") none (.func (fu (inClass (top 88) 3) "tables" "Overlay.tables" 3 [] vN vN vN (vs "coverstore.overlays" 1896) none (vr 1319) vN 0)) []),
  (ob (vt "tuple") none (sq [] 0) []),
  (ob vN none (fi []) []),
  (ob (vt "tuple") none (sq [(vs "self" 1944), (vs "table" 1945)] 0) []),
  (ob (vt "tuple") none (sq [] 0) []),
  (ob vN none (.func (fu (inClass (top 88) 4) "columns" "Overlay.columns" 0 [] vN vN vN vN none vN vN 0)) []),
  (ob (vt "code") none (fi [(vs "columns" 1941), (vs "Overlay.columns" 1942), (vs "/claim/cut.py" 1943), (vi 576 0), (vi 2 0), (vi 0 0), (vi 0 0), (vi 3 0), (vr 1321), vT, (vi 181 0), (vr 1322), vN, (vr 1323), (vr 1324), (vr 1325), (vi 1946 0), (vi 576 0), (vs "/claim/cut.py" 1947)]) []),
  (ob (vt "function") none (.func (fu (inClass (top 88) 4) "columns" "Overlay.columns" 3 [] vN vN vN (vs "coverstore.overlays" 1896) none (vr 1326) vN 0)) [])]
def o4_83 (P : Params) : List Obj := [
  (ob (vt "tuple") none (sq [] 0) []),
  (ob vN none (fi []) []),
  (ob (vt "tuple") none (sq [(vs "self" 1952), (vs "table" 1953)] 0) []),
  (ob (vt "tuple") none (sq [] 0) []),
  (ob vN none (.func (fu (inClass (top 88) 5) "orders" "Overlay.orders" 0 [] vN vN vN vN none vN vN 0)) []),
  (ob (vt "code") none (fi [(vs "orders" 1949), (vs "Overlay.orders" 1950), (vs "/claim/cut.py" 1951), (vi 579 0), (vi 2 0), (vi 0 0), (vi 0 0), (vi 3 0), (vr 1328), vT, (vi 181 0), (vr 1329), vN, (vr 1330), (vr 1331), (vr 1332), (vi 1954 0), (vi 579 0), (vs "/claim/cut.py" 1955)]) []),
  (ob (vt "function") none (.func (fu (inClass (top 88) 5) "orders" "Overlay.orders" 3 [] vN vN vN (vs "coverstore.overlays" 1896) none (vr 1333) vN 0)) []),
  (ob (vt "tuple") none (sq [] 0) []),
  (ob vN none (fi []) []),
  (ob (vt "tuple") none (sq [(vs "self" 1960), (vs "table" 1961), (vs "key" 1962)] 0) []),
  (ob (vt "tuple") none (sq [] 0) []),
  (ob vN none (.func (fu (inClass (top 88) 6) "payload" "Overlay.payload" 0 [] vN vN vN vN none vN vN 0)) []),
  (ob (vt "code") none (fi [(vs "payload" 1957), (vs "Overlay.payload" 1958), (vs "/claim/cut.py" 1959), (vi 582 0), (vi 3 0), (vi 0 0), (vi 0 0), (vi 3 0), (vr 1335), vT, (vi 181 0), (vr 1336), vN, (vr 1337), (vr 1338), (vr 1339), (vi 1963 0), (vi 582 0), (vs "/claim/cut.py" 1964)]) []),
  (ob (vt "function") none (.func (fu (inClass (top 88) 6) "payload" "Overlay.payload" 3 [] vN vN vN (vs "coverstore.overlays" 1896) none (vr 1340) vN 0)) []),
  (ob (vt "tuple") none (sq [] 0) []),
  (ob vN none (fi []) [])]
def o4_84 (P : Params) : List Obj := [
  (ob vN none (.func (fu (inClass (top 88) 7) "keys_in" "Overlay.keys_in" 0 [] vN vN vN vN none vN vN 0)) []),
  (ob (vt "code") none (fi [(vs "keys_in" 1966), (vs "Overlay.keys_in" 1967), (vs "/claim/cut.py" 1968), (vi 588 0), (vi 3 0), (vi 0 0), (vi 0 0), (vi 3 0), (vr 1342), vT, (vi 181 0), (vr 1343), vN, vN, vN, (vr 1344), (vi 1969 0), (vi 588 0), (vs "/claim/cut.py" 1970)]) []),
  (ob (vt "function") none (.func (fu (inClass (top 88) 7) "keys_in" "Overlay.keys_in" 3 [] vN vN vN (vs "coverstore.overlays" 1896) none (vr 1345) vN 0)) []),
  (ob (vt "tuple") none (sq [(vs "own_writes" 1972), (vs "rows_written" 1973), (vs "source_below" 1974)] 0) []),
  (ob (vt "dict") none (di [de P "__module__" 1905 (vs "coverstore.overlays" 1896), de P "__firstlineno__" 1909 (vi 559 1908), de P "__init__" 1918 (vr 1298), de P "bits" 1926 (vr 1306), de P "writes" 1933 (vr 1313), de P "tables" 1940 (vr 1320), de P "columns" 1948 (vr 1327), de P "orders" 1956 (vr 1334), de P "payload" 1965 (vr 1341), de P "keys_in" 1971 (vr 1346), de P "__static_attributes__" 1975 (vr 1347), de P "__doc__" 1976 vN] 2) []),
  (ob (vt "type") none (.cls ⟨"Overlay", [(vr 1209)], [(vr 1349), (vr 1209), (vt "object")], 1348, "Overlay", true, [], [], false, none, false⟩) [(some (vr 1285)), none, (some (vs "Overlay" 1898)), (some (vs "Overlay" 1906)), (some (vb "object.__new__")), (some vT)]),
  (ob (vt "super") none (fi [(vr 1349), (vr 1349), (vr 1349)]) []),
  (ob (vt "builtin_function_or_method") none (fi [(vb "object.__init_subclass__"), (vr 1349)]) []),
  (ob (vt "tuple") none (sq [(vs "not" 1985), (vs "by" 1986)] 0) []),
  (ob (vt "tuple") none (sq [] 0) []),
  (ob vN none (fi []) []),
  (ob vN none (.func (fu (top 96) "is_name" "is_name" 0 [] vN vN vN vN none vN vN 0)) []),
  (ob (vt "code") none (fi [(vs "is_name" 1994), (vs "is_name" 1995), (vs "/claim/cut.py" 1996), (vi 602 0), (vi 1 0), (vi 0 0), (vi 0 0), (vi 3 0), (vr 1353), vT, (vi 181 0), (vr 1354), vN, vN, vN, (vr 1355), (vi 1997 0), (vi 602 0), (vs "/claim/cut.py" 1998)]) []),
  (ob (vt "function") none (.func (fu (top 96) "is_name" "is_name" 3 [] vN vN vN (vs "coverstore.bases" 1979) none (vr 1356) vN 0)) []),
  (ob (vt "tuple") none (sq [] 0) []),
  (ob vN none (fi []) [])]
def o4_85 (P : Params) : List Obj := [
  (ob (vt "tuple") none (sq [(vs "value" 2003), (vs "taken" 2004)] 0) []),
  (ob (vt "tuple") none (sq [] 0) []),
  (ob vN none (.func (fu (top 97) "require_name" "require_name" 0 [] vN vN vN vN none vN vN 0)) []),
  (ob (vt "code") none (fi [(vs "require_name" 2000), (vs "require_name" 2001), (vs "/claim/cut.py" 2002), (vi 606 0), (vi 2 0), (vi 0 0), (vi 0 0), (vi 3 0), (vr 1358), vT, (vi 181 0), (vr 1359), vN, (vr 1360), (vr 1361), (vr 1362), (vi 2005 0), (vi 606 0), (vs "/claim/cut.py" 2006)]) []),
  (ob (vt "function") none (.func (fu (top 97) "require_name" "require_name" 3 [] vN vN vN (vs "coverstore.bases" 1979) none (vr 1363) vN 0)) []),
  (ob (vt "tuple") none (sq [] 0) []),
  (ob vN none (fi []) []),
  (ob vN none (.func (fu (top 98) "is_order" "is_order" 0 [] vN vN vN vN none vN vN 0)) []),
  (ob (vt "code") none (fi [(vs "is_order" 2008), (vs "is_order" 2009), (vs "/claim/cut.py" 2010), (vi 611 0), (vi 2 0), (vi 0 0), (vi 0 0), (vi 3 0), (vr 1365), vT, (vi 181 0), (vr 1366), vN, vN, vN, (vr 1367), (vi 2011 0), (vi 611 0), (vs "/claim/cut.py" 2012)]) []),
  (ob (vt "function") none (.func (fu (top 98) "is_order" "is_order" 3 [] vN vN vN (vs "coverstore.bases" 1979) none (vr 1368) vN 0)) []),
  (ob (vt "tuple") none (sq [] 0) []),
  (ob vN none (fi []) []),
  (ob (vt "tuple") none (sq [(vs "orders" 2018), (vs "columns" 2019), (vs "known" 2020), (vs "position" 2021), (vs "order" 2022)] 0) []),
  (ob (vt "tuple") none (sq [] 0) []),
  (ob vN none (.func (fu (top 100) "require_orders" "require_orders" 0 [] vN vN vN vN none vN vN 0)) []),
  (ob (vt "code") none (fi [(vs "require_orders" 2015), (vs "require_orders" 2016), (vs "/claim/cut.py" 2017), (vi 616 0), (vi 2 0), (vi 0 0), (vi 0 0), (vi 3 0), (vr 1370), vT, (vi 181 0), (vr 1371), vN, (vr 1372), (vr 1373), (vr 1374), (vi 2023 0), (vi 616 0), (vs "/claim/cut.py" 2024)]) [])]
def o4_86 (P : Params) : List Obj := [
  (ob (vt "function") none (.func (fu (top 100) "require_orders" "require_orders" 3 [] vN vN vN (vs "coverstore.bases" 1979) none (vr 1375) vN 0)) []),
  (ob (vt "tuple") none (sq [] 0) []),
  (ob (vt "builtin_function_or_method") none (fi [(vb "type.__prepare__"), (vt "type")]) []),
  (ob (vt "dict") none (di [de P "__module__" 2033 (vs "coverstore.bases" 1979), de P "__qualname__" 2035 (vs "Table" 2034), de P "__firstlineno__" 2037 (vi 622 2036), de P "__init__" 2046 (vr 1390), de P "payload" 2058 (vr 1397), de P "set_payload" 2068 (vr 1404), de P "present_keys" 2074 (vr 1409), de P "later_changes" 2083 (vr 1416), de P "presence_break" 2092 (vr 1423), de P "payload_break" 2101 (vr 1430), de P "changed_keys" 2107 (vr 1435), de P "forget" 2115 (vr 1442), de P "__static_attributes__" 2119 (vr 1443)] 13) []),
  (ob (vt "tuple") none (sq [] 0) []),
  (ob vN none (fi [(vi 624 0), (vi 4 0), (vr 1389), (vi 629 0), (vi 4 0), (vr 1396), (vi 636 0), (vi 4 0), (vr 1403), (vi 640 0), (vi 4 0), (vr 1408), (vi 643 0), (vi 4 0), (vr 1415), (vi 646 0), (vi 4 0), (vr 1422), (vi 649 0), (vi 4 0), (vr 1429), (vi 652 0), (vi 4 0), (vr 1434), (vi 655 0), (vi 4 0), (vr 1441)]) []),
  (ob (vt "code") none (fi [(vs "Table" 2028), (vs "Table" 2029), (vs "/claim/cut.py" 2030), (vi 622 0), (vi 0 0), (vi 0 0), (vi 0 0), (vi 0 0), (vr 1380), vF, (vi 181 0), (vr 1381), vN, vN, vN, vN, (vi 2031 0), (vi 622 0), (vs "/claim/cut.py" 2032)]) []),
  (ob (vt "frame") none .plain [(some (vr 1382)), (some (vr 3)), (some (vr 1379)), none, (some (vs "coverstore.bases" 1979)), none, (some (vr 0))]),
  (ob (vt "tuple") none (sq [] 0) []),
  (ob vN none (fi []) []),
  (ob (vt "tuple") none (sq [(vs "self" 2041), (vs "columns" 2042), (vs "orders" 2043)] 0) []),
  (ob (vt "tuple") none (sq [] 0) []),
  (ob vN none (.func (fu (inClass (top 101) 0) "__init__" "Table.__init__" 0 [] vN vN vN vN none vN vN 0)) []),
  (ob (vt "code") none (fi [(vs "__init__" 2038), (vs "Table.__init__" 2039), (vs "/claim/cut.py" 2040), (vi 624 0), (vi 3 0), (vi 0 0), (vi 0 0), (vi 3 0), (vr 1384), vT, (vi 181 0), (vr 1385), vN, (vr 1386), (vr 1387), (vr 1388), (vi 2044 0), (vi 624 0), (vs "/claim/cut.py" 2045)]) []),
  (ob (vt "function") none (.func (fu (inClass (top 101) 0) "__init__" "Table.__init__" 3 [] vN vN vN (vs "coverstore.bases" 1979) none (vr 1389) vN 0)) []),
  (ob (vt "tuple") none (sq [] 0) [])]
def o4_87 (P : Params) : List Obj := [
  (ob vN none (fi []) []),
  (ob (vt "tuple") none (sq [(vs "self" 2050), (vs "key" 2051), (vs "version" 2052), (vs "found" 2053), (vs "at" 2054), (vs "payload" 2055)] 0) []),
  (ob (vt "tuple") none (sq [] 0) []),
  (ob vN none (.func (fu (inClass (top 101) 1) "payload" "Table.payload" 0 [] vN vN vN vN none vN vN 0)) []),
  (ob (vt "code") none (fi [(vs "payload" 2047), (vs "Table.payload" 2048), (vs "/claim/cut.py" 2049), (vi 629 0), (vi 3 0), (vi 0 0), (vi 0 0), (vi 3 0), (vr 1391), vT, (vi 181 0), (vr 1392), vN, (vr 1393), (vr 1394), (vr 1395), (vi 2056 0), (vi 629 0), (vs "/claim/cut.py" 2057)]) []),
  (ob (vt "function") none (.func (fu (inClass (top 101) 1) "payload" "Table.payload" 3 [] vN vN vN (vs "coverstore.bases" 1979) none (vr 1396) vN 0)) []),
  (ob (vt "tuple") none (sq [] 0) []),
  (ob vN none (fi []) []),
  (ob (vt "tuple") none (sq [(vs "self" 2062), (vs "key" 2063), (vs "version" 2064), (vs "payload" 2065)] 0) []),
  (ob (vt "tuple") none (sq [] 0) []),
  (ob vN none (.func (fu (inClass (top 101) 2) "set_payload" "Table.set_payload" 0 [] vN vN vN vN none vN vN 0)) []),
  (ob (vt "code") none (fi [(vs "set_payload" 2059), (vs "Table.set_payload" 2060), (vs "/claim/cut.py" 2061), (vi 636 0), (vi 4 0), (vi 0 0), (vi 0 0), (vi 3 0), (vr 1398), vT, (vi 181 0), (vr 1399), vN, (vr 1400), (vr 1401), (vr 1402), (vi 2066 0), (vi 636 0), (vs "/claim/cut.py" 2067)]) []),
  (ob (vt "function") none (.func (fu (inClass (top 101) 2) "set_payload" "Table.set_payload" 3 [] vN vN vN (vs "coverstore.bases" 1979) none (vr 1403) vN 0)) []),
  (ob (vt "tuple") none (sq [] 0) []),
  (ob vN none (fi []) []),
  (ob vN none (.func (fu (inClass (top 101) 3) "present_keys" "Table.present_keys" 0 [] vN vN vN vN none vN vN 0)) [])]
def o4_88 (P : Params) : List Obj := [
  (ob (vt "code") none (fi [(vs "present_keys" 2069), (vs "Table.present_keys" 2070), (vs "/claim/cut.py" 2071), (vi 640 0), (vi 2 0), (vi 0 0), (vi 0 0), (vi 3 0), (vr 1405), vT, (vi 181 0), (vr 1406), vN, vN, vN, (vr 1407), (vi 2072 0), (vi 640 0), (vs "/claim/cut.py" 2073)]) []),
  (ob (vt "function") none (.func (fu (inClass (top 101) 3) "present_keys" "Table.present_keys" 3 [] vN vN vN (vs "coverstore.bases" 1979) none (vr 1408) vN 0)) []),
  (ob (vt "tuple") none (sq [] 0) []),
  (ob vN none (fi []) []),
  (ob (vt "tuple") none (sq [(vs "self" 2078), (vs "key" 2079), (vs "version" 2080)] 0) []),
  (ob (vt "tuple") none (sq [] 0) []),
  (ob vN none (.func (fu (inClass (top 101) 4) "later_changes" "Table.later_changes" 0 [] vN vN vN vN none vN vN 0)) []),
  (ob (vt "code") none (fi [(vs "later_changes" 2075), (vs "Table.later_changes" 2076), (vs "/claim/cut.py" 2077), (vi 643 0), (vi 3 0), (vi 0 0), (vi 0 0), (vi 3 0), (vr 1410), vT, (vi 181 0), (vr 1411), vN, (vr 1412), (vr 1413), (vr 1414), (vi 2081 0), (vi 643 0), (vs "/claim/cut.py" 2082)]) []),
  (ob (vt "function") none (.func (fu (inClass (top 101) 4) "later_changes" "Table.later_changes" 3 [] vN vN vN (vs "coverstore.bases" 1979) none (vr 1415) vN 0)) []),
  (ob (vt "tuple") none (sq [] 0) []),
  (ob vN none (fi []) []),
  (ob (vt "tuple") none (sq [(vs "self" 2087), (vs "key" 2088), (vs "version" 2089)] 0) []),
  (ob (vt "tuple") none (sq [] 0) []),
  (ob vN none (.func (fu (inClass (top 101) 5) "presence_break" "Table.presence_break" 0 [] vN vN vN vN none vN vN 0)) []),
  (ob (vt "code") none (fi [(vs "presence_break" 2084), (vs "Table.presence_break" 2085), (vs "/claim/cut.py" 2086), (vi 646 0), (vi 3 0), (vi 0 0), (vi 0 0), (vi 3 0), (vr 1417), vT, (vi 181 0), (vr 1418), vN, (vr 1419), (vr 1420), (vr 1421), (vi 2090 0), (vi 646 0), (vs "/claim/cut.py" 2091)]) []),
  (ob (vt "function") none (.func (fu (inClass (top 101) 5) "presence_break" "Table.presence_break" 3 [] vN vN vN (vs "coverstore.bases" 1979) none (vr 1422) vN 0)) [])]
def o4_89 (P : Params) : List Obj := [
  (ob (vt "tuple") none (sq [] 0) []),
  (ob vN none (fi []) []),
  (ob (vt "tuple") none (sq [(vs "self" 2096), (vs "key" 2097), (vs "version" 2098)] 0) []),
  (ob (vt "tuple") none (sq [] 0) []),
  (ob vN none (.func (fu (inClass (top 101) 6) "payload_break" "Table.payload_break" 0 [] vN vN vN vN none vN vN 0)) []),
  (ob (vt "code") none (fi [(vs "payload_break" 2093), (vs "Table.payload_break" 2094), (vs "/claim/cut.py" 2095), (vi 649 0), (vi 3 0), (vi 0 0), (vi 0 0), (vi 3 0), (vr 1424), vT, (vi 181 0), (vr 1425), vN, (vr 1426), (vr 1427), (vr 1428), (vi 2099 0), (vi 649 0), (vs "/claim/cut.py" 2100)]) []),
  (ob (vt "function") none (.func (fu (inClass (top 101) 6) "payload_break" "Table.payload_break" 3 [] vN vN vN (vs "coverstore.bases" 1979) none (vr 1429) vN 0)) []),
  (ob (vt "tuple") none (sq [] 0) []),
  (ob vN none (fi []) []),
  (ob vN none (.func (fu (inClass (top 101) 7) "changed_keys" "Table.changed_keys" 0 [] vN vN vN vN none vN vN 0)) []),
  (ob (vt "code") none (fi [(vs "changed_keys" 2102), (vs "Table.changed_keys" 2103), (vs "/claim/cut.py" 2104), (vi 652 0), (vi 2 0), (vi 0 0), (vi 0 0), (vi 3 0), (vr 1431), vT, (vi 181 0), (vr 1432), vN, vN, vN, (vr 1433), (vi 2105 0), (vi 652 0), (vs "/claim/cut.py" 2106)]) []),
  (ob (vt "function") none (.func (fu (inClass (top 101) 7) "changed_keys" "Table.changed_keys" 3 [] vN vN vN (vs "coverstore.bases" 1979) none (vr 1434) vN 0)) []),
  (ob (vt "tuple") none (sq [] 0) []),
  (ob vN none (fi []) []),
  (ob (vt "tuple") none (sq [(vs "self" 2111), (vs "version" 2112)] 0) []),
  (ob (vt "tuple") none (sq [] 0) [])]
def o4_90 (P : Params) : List Obj := [
  (ob vN none (.func (fu (inClass (top 101) 8) "forget" "Table.forget" 0 [] vN vN vN vN none vN vN 0)) []),
  (ob (vt "code") none (fi [(vs "forget" 2108), (vs "Table.forget" 2109), (vs "/claim/cut.py" 2110), (vi 655 0), (vi 2 0), (vi 0 0), (vi 0 0), (vi 3 0), (vr 1436), vT, (vi 181 0), (vr 1437), vN, (vr 1438), (vr 1439), (vr 1440), (vi 2113 0), (vi 655 0), (vs "/claim/cut.py" 2114)]) []),
  (ob (vt "function") none (.func (fu (inClass (top 101) 8) "forget" "Table.forget" 3 [] vN vN vN (vs "coverstore.bases" 1979) none (vr 1441) vN 0)) []),
  (ob (vt "tuple") none (sq [(vs "all_orders" 2116), (vs "changes" 2117), (vs "column_count" 2118)] 0) []),
  (ob (vt "dict") none (di [de P "__module__" 2033 (vs "coverstore.bases" 1979), de P "__firstlineno__" 2037 (vi 622 2036), de P "__init__" 2046 (vr 1390), de P "payload" 2058 (vr 1397), de P "set_payload" 2068 (vr 1404), de P "present_keys" 2074 (vr 1409), de P "later_changes" 2083 (vr 1416), de P "presence_break" 2092 (vr 1423), de P "payload_break" 2101 (vr 1430), de P "changed_keys" 2107 (vr 1435), de P "forget" 2115 (vr 1442), de P "__static_attributes__" 2119 (vr 1443), de P "__dict__" 2121 (vr 1446), de P "__weakref__" 2123 (vr 1447), de P "__doc__" 2124 vN] 4) []),
  (ob (vt "type") none (.cls ⟨"Table", [(vt "object")], [(vr 1445), (vt "object")], 1444, "Table", true, [], [], false, none, false⟩) [none, none, (some (vs "Table" 2026)), (some (vs "Table" 2034)), (some (vb "object.__new__")), (some vT)]),
  (ob (vt "getset_descriptor") none (fi [(vs "__dict__" 2120), (vr 1445), (vb "function.__dict__"), (vb "function.__dict__#set")]) []),
  (ob (vt "getset_descriptor") none (fi [(vs "__weakref__" 2122), (vr 1445), (vb "ExceptionGroup.__weakref__"), vN]) []),
  (ob (vt "super") none (fi [(vr 1445), (vr 1445), (vr 1445)]) []),
  (ob (vt "builtin_function_or_method") none (fi [(vb "object.__init_subclass__"), (vr 1445)]) [])]
def o4 (P : Params) : List Obj := o4_0 P ++ (o1_1 P ++ (o1_2 P ++ (o1_3 P ++ (o1_4 P ++ (o1_5 P ++ (o1_6 P ++ (o1_7 P ++ (o1_8 P ++ (o1_9 P ++ (o1_10 P ++ (o1_11 P ++ (o1_12 P ++ (o1_13 P ++ (o1_14 P ++ (o1_15 P ++ (o1_16 P ++ (o1_17 P ++ (o1_18 P ++ (o1_19 P ++ (o1_20 P ++ (o1_21 P ++ (o1_22 P ++ (o1_23 P ++ (o1_24 P ++ (o1_25 P ++ (o1_26 P ++ (o1_27 P ++ (o1_28 P ++ (o1_29 P ++ (o1_30 P ++ (o1_31 P ++ (o1_32 P ++ (o1_33 P ++ (o1_34 P ++ (o1_35 P ++ (o1_36 P ++ (o1_37 P ++ (o1_38 P ++ (o1_39 P ++ (o2_40 P ++ (o2_41 P ++ (o2_42 P ++ (o2_43 P ++ (o2_44 P ++ (o2_45 P ++ (o2_46 P ++ (o2_47 P ++ (o2_48 P ++ (o2_49 P ++ (o2_50 P ++ (o2_51 P ++ (o2_52 P ++ (o2_53 P ++ (o2_54 P ++ (o2_55 P ++ (o2_56 P ++ (o2_57 P ++ (o2_58 P ++ (o2_59 P ++ (o2_60 P ++ (o2_61 P ++ (o2_62 P ++ (o2_63 P ++ (o2_64 P ++ (o2_65 P ++ (o2_66 P ++ (o2_67 P ++ (o3_68 P ++ (o3_69 P ++ (o4_70 P ++ (o4_71 P ++ (o4_72 P ++ (o4_73 P ++ (o4_74 P ++ (o4_75 P ++ (o4_76 P ++ (o4_77 P ++ (o4_78 P ++ (o4_79 P ++ (o4_80 P ++ (o4_81 P ++ (o4_82 P ++ (o4_83 P ++ (o4_84 P ++ (o4_85 P ++ (o4_86 P ++ (o4_87 P ++ (o4_88 P ++ (o4_89 P ++ (o4_90 P))))))))))))))))))))))))))))))))))))))))))))))))))))))))))))))))))))))))))))))))))))))))))
def S4 (w : World) (os : OsState) : SharedT := ⟨lay (o4 w.params) .nil 0, 1450, {}, #[], {}, 2127, os⟩
def pos4 : Pos := ⟨622, 0, 656, 16⟩
def n4 : Nat := 2328
def o5_0 (P : Params) : List Obj := [
  boot_o_0 P,
  boot_o_1 P,
  (ob vN none (di [de P "type.__subclasses__.ArithmeticError.0" 1110 (vi 693 0), de P "type.__subclasses__.ArithmeticError.n" 1111 (vi 1 0)] 2) []),
  (ob (vt "dict") none (di [de P "__name__" 165 (vs "coverstore.papers" 2761), de P "__doc__" 166 vN, de P "__package__" 167 vN, de P "__loader__" 168 (vb "__main__.__loader__#opaque"), de P "__spec__" 169 vN, de P "__annotations__" 170 (vr 6), de P "__builtins__" 171 (vr 4), de P "__file__" 173 (vs "/claim/cut.py" 172), de P "__cached__" 174 vN, de P "_wall" 193 (vr 21), de P "CoverError" 213 (vr 31), de P "InvalidBits" 238 (vr 51), de P "InvalidValue" 263 (vr 70), de P "InvalidRange" 288 (vr 89), de P "InvalidBox" 313 (vr 108), de P "InvalidPlace" 338 (vr 127), de P "InvalidCount" 363 (vr 146), de P "InvalidName" 388 (vr 165), de P "InvalidColumns" 413 (vr 184), de P "InvalidOrder" 438 (vr 203), de P "InvalidKey" 463 (vr 222), de P "InvalidWrite" 488 (vr 241), de P "InvalidQuery" 515 (vr 260), de P "InvalidText" 540 (vr 279), de P "InvalidPaper" 565 (vr 298), de P "InvalidLimit" 590 (vr 317), de P "InvalidPage" 615 (vr 336), de P "UnknownTable" 642 (vr 355), de P "UnknownVersion" 669 (vr 375), de P "TooOld" 696 (vr 395), de P "UnknownName" 723 (vr 415), de P "NameTaken" 750 (vr 435), de P "KeyTaken" 779 (vr 455), de P "NoSuchRow" 808 (vr 475), de P "Unlike" 826 (vr 488), de P "NoHalf" 853 (vr 508), de P "NotJoined" 880 (vr 528), de P "NotAPoint" 898 (vr 541), de P "WrongColumns" 925 (vr 561), de P "NotEmpty" 952 (vr 581), de P "Ended" 970 (vr 594), de P "Changed" 999 (vr 614), de P "Violated" 1028 (vr 634), de P "Crashed" 1046 (vr 647), de P "DiskInUse" 1064 (vr 660), de P "NoStore" 1082 (vr 673), de P "TooMany" 1113 (vr 693), de P "MAX_BITS" 1117 (vi 10 1116), de P "DIGITS_ranges" 1119 (vs "01" 1118), de P "is_integer" 1126 (vr 703), de P "is_bits" 1133 (vr 710), de P "is_value" 1141 (vr 717), de P "is_range" 1147 (vr 722), de P "require_bits" 1154 (vr 729), de P "require_value" 1162 (vr 736), de P "require_range" 1170 (vr 743), de P "number_of" 1179 (vr 750), de P "range_of" 1185 (vr 755), de P "bounds" 1195 (vr 762), de P "common_range" 1204 (vr 769), de P "common_length" 1213 (vr 776), de P "widest_range" 1225 (vr 785), de P "PAGE_SIZE" 1229 (vi 32 1228), de P "require_page" 1236 (vr 792), de P "Disk" 1330 (vr 866), de P "MOST_RANGES" 1334 (vi 5 1333), de P "ALL" 1336 (vs "*" 1335), de P "NO_RANGES" 1338 (vs "-" 1337), de P "COMMA_boxes" 1340 (vs "," 1339), de P "require_ranges" 1350 (vr 877), de P "ranges_text" 1356 (vr 882), de P "ranges_in" 1362 (vr 887), de P "Box" 1643 (vr 1096), de P "MOST_PAYLOAD" 1649 (vi 1000000000 1648), de P "INSERT" 1651 (vs "insert" 1650), de P "UPDATE" 1653 (vs "update" 1652), de P "DELETE" 1655 (vs "delete" 1654), de P "WRITE_SIZES" 1662 (vr 1101), de P "is_payload" 1669 (vr 1108), de P "is_table" 1677 (vr 1115), de P "is_key" 1683 (vr 1120), de P "require_table" 1691 (vr 1127), de P "require_key" 1700 (vr 1134), de P "require_box" 1709 (vr 1141), de P "is_write" 1715 (vr 1146), de P "require_writes" 1725 (vr 1153), de P "rows_after" 1740 (vr 1160), de P "alike_columns" 1750 (vr 1167), de P "gap_between" 1756 (vr 1172), de P "Source" 1811 (vr 1209), de P "Snapshot" 1895 (vr 1282), de P "Overlay" 1978 (vr 1349), de P "LETTERS" 1982 (vs "abcdefghijklmnopqrstuvwxyz" 1981), de P "MOST_LETTERS" 1984 (vi 8 1983), de P "RESERVED" 1987 (vr 1352), de P "MOST_TABLES" 1989 (vi 8 1988), de P "MOST_COLUMNS" 1991 (vi 4 1990), de P "MOST_OTHER_ORDERS" 1993 (vi 2 1992), de P "is_name" 1999 (vr 1357), de P "require_name" 2007 (vr 1364), de P "is_order" 2013 (vr 1673), de P "is_order_bases" 2014 (vr 1369), de P "require_orders" 2025 (vr 1376), de P "Table" 2126 (vr 1445), de P "Base" 2330 (vr 1611), de P "POSITIVE" 2334 (vs "row" 2333), de P "DENIED" 2336 (vs "none" 2335), de P "SIGNS" 2341 (vr 1616), de P "LITERAL_LENGTH" 2343 (vi 3 2342), de P "MOST_TERMS" 2345 (vi 4 2344), de P "MOST_LITERALS" 2347 (vi 8 2346), de P "MOST_VARIABLES" 2349 (vi 5 2348), de P "MOST_INTEGER" 2351 (vi 1023 2350), de P "MOST_DIGITS_queries" 2353 (vi 4 2352), de P "DIGITS_queries" 2355 (vs "0123456789" 2354), de P "COMMA_queries" 2357 (vs "," 2356), de P "BETWEEN" 2359 (vs ", " 2358), de P "BEFORE_ORDER" 2361 (vs " by " 2360), de P "NOT" 2363 (vs "not" 2362), de P "is_term" 2370 (vr 1623), de P "are_terms" 2376 (vr 1628), de P "is_literal" 2386 (vr 1635), de P "is_comparison" 2393 (vr 1642), de P "terms_of" 2400 (vr 1649), de P "integers_in" 2406 (vr 1654), de P "integers_in_queries" 2407 (vr 1654), de P "variables_in" 2417 (vr 1661), de P "require_literals" 2426 (vr 1668), de P "is_order_queries" 2433 (vr 1673), de P "literal_text" 2439 (vr 1678), de P "query_text" 2445 (vr 1683), de P "term_in" 2451 (vr 1688), de P "row_literal_in" 2457 (vr 1693), de P "literal_in" 2465 (vr 1700), de P "query_in" 2471 (vr 1705), de P "Query" 2584 (vr 1783), de P "fit" 2595 (vr 1794), de P "is_position" 2605 (vr 1801), de P "require_comparison" 2613 (vr 1808), de P "require_values" 2623 (vr 1815), de P "values_at" 2629 (vr 1820), de P "is_so" 2638 (vr 1827), de P "key_of" 2647 (vr 1834), de P "is_true" 2661 (vr 1841), de P "laid" 2667 (vr 1846), de P "false_span" 2678 (vr 1853), de P "false_span_behind" 2688 (vr 1860), de P "widest_between" 2701 (vr 1867), de P "false_ranges" 2719 (vr 1874), de P "false_around" 2725 (vr 1879), de P "term_range" 2734 (vr 1886), de P "is_false_in" 2750 (vr 1893), de P "failing_at" 2760 (vr 1900), de P "GAP" 2764 (vs "gap" 2763), de P "ROW" 2766 (vs "row" 2765), de P "FALSE" 2768 (vs "false" 2767), de P "POINT" 2770 (vs "point" 2769), de P "JOIN" 2772 (vs "join" 2771)] 158) []),
  boot_o_4 P,
  boot_o_5 P,
  boot_o_6 P,
  boot_o_7 P,
  boot_o_8 P,
  boot_o_9 P,
  boot_o_10 P,
  (ob (vt "tuple") none (sq [] 0) []),
  (ob vN none (fi [(vi 1 0), (vi 0 0), (vr 20), (vi 5 0), (vi 0 0), (vr 27), (vi 7 0), (vi 0 0), (vr 40), (vi 12 0), (vi 0 0), (vr 59), (vi 17 0), (vi 0 0), (vr 78), (vi 22 0), (vi 0 0), (vr 97), (vi 27 0), (vi 0 0), (vr 116), (vi 32 0), (vi 0 0), (vr 135), (vi 37 0), (vi 0 0), (vr 154), (vi 42 0), (vi 0 0), (vr 173), (vi 47 0), (vi 0 0), (vr 192), (vi 52 0), (vi 0 0), (vr 211), (vi 57 0), (vi 0 0), (vr 230), (vi 62 0), (vi 0 0), (vr 249), (vi 68 0), (vi 0 0), (vr 268), (vi 73 0), (vi 0 0), (vr 287), (vi 78 0), (vi 0 0), (vr 306), (vi 83 0), (vi 0 0), (vr 325), (vi 88 0), (vi 0 0), (vr 344), (vi 93 0), (vi 0 0), (vr 364), (vi 98 0), (vi 0 0), (vr 384), (vi 103 0), (vi 0 0), (vr 404), (vi 108 0), (vi 0 0), (vr 424), (vi 113 0), (vi 0 0), (vr 444), (vi 119 0), (vi 0 0), (vr 464), (vi 125 0), (vi 0 0), (vr 484), (vi 127 0), (vi 0 0), (vr 497), (vi 132 0), (vi 0 0), (vr 517), (vi 137 0), (vi 0 0), (vr 537), (vi 139 0), (vi 0 0), (vr 550), (vi 144 0), (vi 0 0), (vr 570), (vi 149 0), (vi 0 0), (vr 590), (vi 151 0), (vi 0 0), (vr 603), (vi 157 0), (vi 0 0), (vr 623), (vi 163 0), (vi 0 0), (vr 643), (vi 165 0), (vi 0 0), (vr 656), (vi 167 0), (vi 0 0), (vr 669), (vi 169 0), (vi 0 0), (vr 682), (vi 178 0), (vi 0 0), (vr 702), (vi 180 0), (vi 0 0), (vr 709), (vi 182 0), (vi 0 0), (vr 716), (vi 184 0), (vi 0 0), (vr 721), (vi 188 0), (vi 0 0), (vr 728), (vi 191 0), (vi 0 0), (vr 735), (vi 194 0), (vi 0 0), (vr 742), (vi 197 0), (vi 0 0), (vr 749), (vi 202 0), (vi 0 0), (vr 754), (vi 206 0), (vi 0 0), (vr 761), (vi 212 0), (vi 0 0), (vr 768), (vi 219 0), (vi 0 0), (vr 775), (vi 224 0), (vi 0 0), (vr 784), (vi 234 0), (vi 0 0), (vr 791), (vi 237 0), (vi 0 0), (vr 798), (vi 286 0), (vi 0 0), (vr 876), (vi 292 0), (vi 0 0), (vr 881), (vi 296 0), (vi 0 0), (vr 886), (vi 306 0), (vi 0 0), (vr 893), (vi 452 0), (vi 0 0), (vr 1107), (vi 454 0), (vi 0 0), (vr 1114), (vi 456 0), (vi 0 0), (vr 1119), (vi 460 0), (vi 0 0), (vr 1126), (vi 463 0), (vi 0 0), (vr 1133), (vi 467 0), (vi 0 0), (vr 1140), (vi 471 0), (vi 0 0), (vr 1145), (vi 477 0), (vi 0 0), (vr 1152), (vi 483 0), (vi 0 0), (vr 1159), (vi 495 0), (vi 0 0), (vr 1166), (vi 500 0), (vi 0 0), (vr 1171), (vi 510 0), (vi 0 0), (vr 1178), (vi 530 0), (vi 0 0), (vr 1219), (vi 559 0), (vi 0 0), (vr 1290), (vi 602 0), (vi 0 0), (vr 1356), (vi 606 0), (vi 0 0), (vr 1363), (vi 611 0), (vi 0 0), (vr 1368), (vi 616 0), (vi 0 0), (vr 1375), (vi 622 0), (vi 0 0), (vr 1382), (vi 657 0), (vi 0 0), (vr 1455), (vi 768 0), (vi 0 0), (vr 1622), (vi 770 0), (vi 0 0), (vr 1627), (vi 772 0), (vi 0 0), (vr 1634), (vi 779 0), (vi 0 0), (vr 1641), (vi 781 0), (vi 0 0), (vr 1648), (vi 783 0), (vi 0 0), (vr 1653), (vi 786 0), (vi 0 0), (vr 1660), (vi 793 0), (vi 0 0), (vr 1667), (vi 799 0), (vi 0 0), (vr 1672), (vi 802 0), (vi 0 0), (vr 1677), (vi 808 0), (vi 0 0), (vr 1682), (vi 811 0), (vi 0 0), (vr 1687), (vi 815 0), (vi 0 0), (vr 1692), (vi 820 0), (vi 0 0), (vr 1699), (vi 827 0), (vi 0 0), (vr 1704), (vi 835 0), (vi 0 0), (vr 1711), (vi 881 0), (vi 0 0), (vr 1793), (vi 889 0), (vi 0 0), (vr 1800), (vi 891 0), (vi 0 0), (vr 1807), (vi 894 0), (vi 0 0), (vr 1814), (vi 898 0), (vi 0 0), (vr 1819), (vi 901 0), (vi 0 0), (vr 1826), (vi 907 0), (vi 0 0), (vr 1833), (vi 909 0), (vi 0 0), (vr 1840), (vi 915 0), (vi 0 0), (vr 1845), (vi 927 0), (vi 0 0), (vr 1852), (vi 936 0), (vi 0 0), (vr 1859), (vi 942 0), (vi 0 0), (vr 1866), (vi 949 0), (vi 0 0), (vr 1873), (vi 961 0), (vi 0 0), (vr 1878), (vi 964 0), (vi 0 0), (vr 1885), (vi 966 0), (vi 0 0), (vr 1892), (vi 981 0), (vi 0 0), (vr 1899)]) []),
  (ob (vt "code") none (fi [(vs "<module>" 182), (vs "<module>" 183), (vs "/claim/cut.py" 184), (vi 1 0), (vi 0 0), (vi 0 0), (vi 0 0), (vi 0 0), (vr 11), vF, (vi 181 0), (vr 12), vN, vN, vN, vN, (vi 185 0), (vi 1 0), (vs "/claim/cut.py" 186)]) []),
  (ob (vt "frame") none .plain [(some (vr 13)), (some (vr 3)), (some (vr 3)), none, (some (vs "__main__" 164)), none, (some (vr 0))]),
  (ob (vt "tuple") none (sq [] 0) [])]
def o5_90 (P : Params) : List Obj := [
  (ob vN none (.func (fu (inClass (top 101) 8) "forget" "Table.forget" 0 [] vN vN vN vN none vN vN 0)) []),
  (ob (vt "code") none (fi [(vs "forget" 2108), (vs "Table.forget" 2109), (vs "/claim/cut.py" 2110), (vi 655 0), (vi 2 0), (vi 0 0), (vi 0 0), (vi 3 0), (vr 1436), vT, (vi 181 0), (vr 1437), vN, (vr 1438), (vr 1439), (vr 1440), (vi 2113 0), (vi 655 0), (vs "/claim/cut.py" 2114)]) []),
  (ob (vt "function") none (.func (fu (inClass (top 101) 8) "forget" "Table.forget" 3 [] vN vN vN (vs "coverstore.bases" 1979) none (vr 1441) vN 0)) []),
  (ob (vt "tuple") none (sq [(vs "all_orders" 2116), (vs "changes" 2117), (vs "column_count" 2118)] 0) []),
  (ob (vt "dict") none (di [de P "__module__" 2033 (vs "coverstore.bases" 1979), de P "__firstlineno__" 2037 (vi 622 2036), de P "__init__" 2046 (vr 1390), de P "payload" 2058 (vr 1397), de P "set_payload" 2068 (vr 1404), de P "present_keys" 2074 (vr 1409), de P "later_changes" 2083 (vr 1416), de P "presence_break" 2092 (vr 1423), de P "payload_break" 2101 (vr 1430), de P "changed_keys" 2107 (vr 1435), de P "forget" 2115 (vr 1442), de P "__static_attributes__" 2119 (vr 1443), de P "__dict__" 2121 (vr 1446), de P "__weakref__" 2123 (vr 1447), de P "__doc__" 2124 vN] 4) []),
  (ob (vt "type") none (.cls ⟨"Table", [(vt "object")], [(vr 1445), (vt "object")], 1444, "Table", true, [], [], false, none, false⟩) [none, none, (some (vs "Table" 2026)), (some (vs "Table" 2034)), (some (vb "object.__new__")), (some vT)]),
  (ob (vt "getset_descriptor") none (fi [(vs "__dict__" 2120), (vr 1445), (vb "function.__dict__"), (vb "function.__dict__#set")]) []),
  (ob (vt "getset_descriptor") none (fi [(vs "__weakref__" 2122), (vr 1445), (vb "ExceptionGroup.__weakref__"), vN]) []),
  (ob (vt "super") none (fi [(vr 1445), (vr 1445), (vr 1445)]) []),
  (ob (vt "builtin_function_or_method") none (fi [(vb "object.__init_subclass__"), (vr 1445)]) []),
  (ob (vt "tuple") none (sq [] 0) []),
  (ob (vt "builtin_function_or_method") none (fi [(vb "type.__prepare__"), (vt "type")]) []),
  (ob (vt "dict") none (di [de P "__module__" 2134 (vs "coverstore.bases" 1979), de P "__qualname__" 2136 (vs "Base" 2135), de P "__firstlineno__" 2138 (vi 657 2137), de P "MAX_TABLES" 2140 (vi 8 2139), de P "MAX_PAYLOAD" 2142 (vi 1000000000 2141), de P "__init__" 2150 (vr 1463), de P "bits" 2158 (vr 1471), de P "version" 2166 (vr 1479), de P "oldest" 2174 (vr 1487), de P "required_version" 2182 (vr 1494), de P "require_new_table" 2192 (vr 1501), de P "add_table" 2202 (vr 1508), de P "tables" 2209 (vr 1515), de P "table_named" 2217 (vr 1522), de P "columns" 2225 (vr 1529), de P "orders" 2233 (vr 1536), de P "commit" 2244 (vr 1543), de P "payload" 2254 (vr 1551), de P "rows" 2260 (vr 1557), de P "keys_in" 2266 (vr 1563), de P "changed_keys" 2272 (vr 1569), de P "presence_break" 2282 (vr 1577), de P "payload_break" 2292 (vr 1585), de P "clear_break" 2302 (vr 1593), de P "forget" 2310 (vr 1600), de P "snapshot" 2318 (vr 1608), de P "__static_attributes__" 2323 (vr 1609)] 27) []),
  (ob (vt "tuple") none (sq [] 0) []),
  (ob vN none (fi [(vi 661 0), (vi 4 0), (vr 1462), (vi 669 0), (vi 4 0), (vr 1469), (vi 673 0), (vi 4 0), (vr 1477), (vi 677 0), (vi 4 0), (vr 1485), (vi 680 0), (vi 4 0), (vr 1493), (vi 689 0), (vi 4 0), (vr 1500), (vi 697 0), (vi 4 0), (vr 1507), (vi 701 0), (vi 4 0), (vr 1514), (vi 704 0), (vi 4 0), (vr 1521), (vi 708 0), (vi 4 0), (vr 1528), (vi 711 0), (vi 4 0), (vr 1535), (vi 714 0), (vi 4 0), (vr 1542), (vi 720 0), (vi 4 0), (vr 1550), (vi 724 0), (vi 4 0), (vr 1556), (vi 729 0), (vi 4 0), (vr 1562), (vi 733 0), (vi 4 0), (vr 1568), (vi 739 0), (vi 4 0), (vr 1576), (vi 742 0), (vi 4 0), (vr 1584), (vi 745 0), (vi 4 0), (vr 1592), (vi 748 0), (vi 4 0), (vr 1599), (vi 751 0), (vi 4 0), (vr 1607)]) []),
  (ob (vt "code") none (fi [(vs "Base" 2129), (vs "Base" 2130), (vs "/claim/cut.py" 2131), (vi 657 0), (vi 0 0), (vi 0 0), (vi 0 0), (vi 0 0), (vr 1453), vF, (vi 181 0), (vr 1454), vN, vN, vN, vN, (vi 2132 0), (vi 657 0), (vs "/claim/cut.py" 2133)]) [])]
def o5_91 (P : Params) : List Obj := [
  (ob (vt "frame") none .plain [(some (vr 1455)), (some (vr 3)), (some (vr 1452)), none, (some (vs "coverstore.bases" 1979)), none, (some (vr 0))]),
  (ob (vt "tuple") none (sq [] 0) []),
  (ob vN none (fi []) []),
  (ob (vt "tuple") none (sq [(vs "self" 2146), (vs "bits" 2147)] 0) []),
  (ob (vt "tuple") none (sq [] 0) []),
  (ob vN none (.func (fu (inClass (top 102) 2) "__init__" "Base.__init__" 0 [] vN vN vN vN none vN vN 0)) []),
  (ob (vt "code") none (fi [(vs "__init__" 2143), (vs "Base.__init__" 2144), (vs "/claim/cut.py" 2145), (vi 661 0), (vi 2 0), (vi 0 0), (vi 0 0), (vi 3 0), (vr 1457), vT, (vi 181 0), (vr 1458), vN, (vr 1459), (vr 1460), (vr 1461), (vi 2148 0), (vi 661 0), (vs "/claim/cut.py" 2149)]) []),
  (ob (vt "function") none (.func (fu (inClass (top 102) 2) "__init__" "Base.__init__" 3 [] vN vN vN (vs "coverstore.bases" 1979) none (vr 1462) vN 0)) []),
  (ob (vt "tuple") none (sq [] 0) []),
  (ob vN none (fi []) []),
  (ob (vt "tuple") none (sq [(vs "self" 2154)] 0) []),
  (ob (vt "tuple") none (sq [] 0) []),
  (ob vN none (.func (fu (inClass (top 102) 3) "bits" "Base.bits" 0 [] vN vN vN vN none vN vN 0)) []),
  (ob (vt "code") none (fi [(vs "bits" 2151), (vs "Base.bits" 2152), (vs "/claim/cut.py" 2153), (vi 668 0), (vi 1 0), (vi 0 0), (vi 0 0), (vi 3 0), (vr 1464), vT, (vi 181 0), (vr 1465), vN, (vr 1466), (vr 1467), (vr 1468), (vi 2155 0), (vi 668 0), (vs "/claim/cut.py" 2156)]) []),
  (ob (vt "function") none (.func (fu (inClass (top 102) 3) "bits" "Base.bits" 3 [] vN vN vN (vs "coverstore.bases" 1979) none (vr 1469) vN 0)) []),
  (ob (vt "property") none (fi [(vr 1470), vN, vN, vN, (vs "bits" 2158), vF]) [])]
def o5_92 (P : Params) : List Obj := [
  (ob (vt "tuple") none (sq [] 0) []),
  (ob vN none (fi []) []),
  (ob (vt "tuple") none (sq [(vs "self" 2162)] 0) []),
  (ob (vt "tuple") none (sq [] 0) []),
  (ob vN none (.func (fu (inClass (top 102) 4) "version" "Base.version" 0 [] vN vN vN vN none vN vN 0)) []),
  (ob (vt "code") none (fi [(vs "version" 2159), (vs "Base.version" 2160), (vs "/claim/cut.py" 2161), (vi 672 0), (vi 1 0), (vi 0 0), (vi 0 0), (vi 3 0), (vr 1472), vT, (vi 181 0), (vr 1473), vN, (vr 1474), (vr 1475), (vr 1476), (vi 2163 0), (vi 672 0), (vs "/claim/cut.py" 2164)]) []),
  (ob (vt "function") none (.func (fu (inClass (top 102) 4) "version" "Base.version" 3 [] vN vN vN (vs "coverstore.bases" 1979) none (vr 1477) vN 0)) []),
  (ob (vt "property") none (fi [(vr 1478), vN, vN, vN, (vs "version" 2166), vF]) []),
  (ob (vt "tuple") none (sq [] 0) []),
  (ob vN none (fi []) []),
  (ob (vt "tuple") none (sq [(vs "self" 2170)] 0) []),
  (ob (vt "tuple") none (sq [] 0) []),
  (ob vN none (.func (fu (inClass (top 102) 5) "oldest" "Base.oldest" 0 [] vN vN vN vN none vN vN 0)) []),
  (ob (vt "code") none (fi [(vs "oldest" 2167), (vs "Base.oldest" 2168), (vs "/claim/cut.py" 2169), (vi 676 0), (vi 1 0), (vi 0 0), (vi 0 0), (vi 3 0), (vr 1480), vT, (vi 181 0), (vr 1481), vN, (vr 1482), (vr 1483), (vr 1484), (vi 2171 0), (vi 676 0), (vs "/claim/cut.py" 2172)]) []),
  (ob (vt "function") none (.func (fu (inClass (top 102) 5) "oldest" "Base.oldest" 3 [] vN vN vN (vs "coverstore.bases" 1979) none (vr 1485) vN 0)) []),
  (ob (vt "property") none (fi [(vr 1486), vN, vN, vN, (vs "oldest" 2174), vF]) [])]
def o5_93 (P : Params) : List Obj := [
  (ob (vt "tuple") none (sq [] 0) []),
  (ob vN none (fi []) []),
  (ob (vt "tuple") none (sq [(vs "self" 2178), (vs "version" 2179)] 0) []),
  (ob (vt "tuple") none (sq [] 0) []),
  (ob vN none (.func (fu (inClass (top 102) 6) "required_version" "Base.required_version" 0 [] vN vN vN vN none vN vN 0)) []),
  (ob (vt "code") none (fi [(vs "required_version" 2175), (vs "Base.required_version" 2176), (vs "/claim/cut.py" 2177), (vi 680 0), (vi 2 0), (vi 0 0), (vi 0 0), (vi 3 0), (vr 1488), vT, (vi 181 0), (vr 1489), vN, (vr 1490), (vr 1491), (vr 1492), (vi 2180 0), (vi 680 0), (vs "/claim/cut.py" 2181)]) []),
  (ob (vt "function") none (.func (fu (inClass (top 102) 6) "required_version" "Base.required_version" 3 [] vN vN vN (vs "coverstore.bases" 1979) none (vr 1493) vN 0)) []),
  (ob (vt "tuple") none (sq [] 0) []),
  (ob vN none (fi []) []),
  (ob (vt "tuple") none (sq [(vs "self" 2186), (vs "name" 2187), (vs "columns" 2188), (vs "orders" 2189)] 0) []),
  (ob (vt "tuple") none (sq [] 0) []),
  (ob vN none (.func (fu (inClass (top 102) 7) "require_new_table" "Base.require_new_table" 0 [] vN vN vN vN none vN vN 0)) []),
  (ob (vt "code") none (fi [(vs "require_new_table" 2183), (vs "Base.require_new_table" 2184), (vs "/claim/cut.py" 2185), (vi 689 0), (vi 4 0), (vi 0 0), (vi 0 0), (vi 3 0), (vr 1495), vT, (vi 181 0), (vr 1496), vN, (vr 1497), (vr 1498), (vr 1499), (vi 2190 0), (vi 689 0), (vs "/claim/cut.py" 2191)]) []),
  (ob (vt "function") none (.func (fu (inClass (top 102) 7) "require_new_table" "Base.require_new_table" 3 [] vN vN vN (vs "coverstore.bases" 1979) none (vr 1500) vN 0)) []),
  (ob (vt "tuple") none (sq [] 0) []),
  (ob vN none (fi []) [])]
def o5_94 (P : Params) : List Obj := [
  (ob (vt "tuple") none (sq [(vs "self" 2196), (vs "name" 2197), (vs "columns" 2198), (vs "orders" 2199)] 0) []),
  (ob (vt "tuple") none (sq [] 0) []),
  (ob vN none (.func (fu (inClass (top 102) 8) "add_table" "Base.add_table" 0 [] vN vN vN vN none vN vN 0)) []),
  (ob (vt "code") none (fi [(vs "add_table" 2193), (vs "Base.add_table" 2194), (vs "/claim/cut.py" 2195), (vi 697 0), (vi 3 0), (vi 0 0), (vi 0 0), (vi 7 0), (vr 1502), vT, (vi 181 0), (vr 1503), vN, (vr 1504), (vr 1505), (vr 1506), (vi 2200 0), (vi 697 0), (vs "/claim/cut.py" 2201)]) []),
  (ob (vt "function") none (.func (fu (inClass (top 102) 8) "add_table" "Base.add_table" 3 [] vN vN vN (vs "coverstore.bases" 1979) none (vr 1507) vN 0)) []),
  (ob (vt "tuple") none (sq [] 0) []),
  (ob vN none (fi []) []),
  (ob (vt "tuple") none (sq [(vs "self" 2206)] 0) []),
  (ob (vt "tuple") none (sq [] 0) []),
  (ob vN none (.func (fu (inClass (top 102) 9) "tables" "Base.tables" 0 [] vN vN vN vN none vN vN 0)) []),
  (ob (vt "code") none (fi [(vs "tables" 2203), (vs "Base.tables" 2204), (vs "/claim/cut.py" 2205), (vi 701 0), (vi 1 0), (vi 0 0), (vi 0 0), (vi 3 0), (vr 1509), vT, (vi 181 0), (vr 1510), vN, (vr 1511), (vr 1512), (vr 1513), (vi 2207 0), (vi 701 0), (vs "/claim/cut.py" 2208)]) []),
  (ob (vt "function") none (.func (fu (inClass (top 102) 9) "tables" "Base.tables" 3 [] vN vN vN (vs "coverstore.bases" 1979) none (vr 1514) vN 0)) []),
  (ob (vt "tuple") none (sq [] 0) []),
  (ob vN none (fi []) []),
  (ob (vt "tuple") none (sq [(vs "self" 2213), (vs "table" 2214)] 0) []),
  (ob (vt "tuple") none (sq [] 0) [])]
def o5_95 (P : Params) : List Obj := [
  (ob vN none (.func (fu (inClass (top 102) 10) "table_named" "Base.table_named" 0 [] vN vN vN vN none vN vN 0)) []),
  (ob (vt "code") none (fi [(vs "table_named" 2210), (vs "Base.table_named" 2211), (vs "/claim/cut.py" 2212), (vi 704 0), (vi 2 0), (vi 0 0), (vi 0 0), (vi 3 0), (vr 1516), vT, (vi 181 0), (vr 1517), vN, (vr 1518), (vr 1519), (vr 1520), (vi 2215 0), (vi 704 0), (vs "/claim/cut.py" 2216)]) []),
  (ob (vt "function") none (.func (fu (inClass (top 102) 10) "table_named" "Base.table_named" 3 [] vN vN vN (vs "coverstore.bases" 1979) none (vr 1521) vN 0)) []),
  (ob (vt "tuple") none (sq [] 0) []),
  (ob vN none (fi []) []),
  (ob (vt "tuple") none (sq [(vs "self" 2221), (vs "table" 2222)] 0) []),
  (ob (vt "tuple") none (sq [] 0) []),
  (ob vN none (.func (fu (inClass (top 102) 11) "columns" "Base.columns" 0 [] vN vN vN vN none vN vN 0)) []),
  (ob (vt "code") none (fi [(vs "columns" 2218), (vs "Base.columns" 2219), (vs "/claim/cut.py" 2220), (vi 708 0), (vi 2 0), (vi 0 0), (vi 0 0), (vi 3 0), (vr 1523), vT, (vi 181 0), (vr 1524), vN, (vr 1525), (vr 1526), (vr 1527), (vi 2223 0), (vi 708 0), (vs "/claim/cut.py" 2224)]) []),
  (ob (vt "function") none (.func (fu (inClass (top 102) 11) "columns" "Base.columns" 3 [] vN vN vN (vs "coverstore.bases" 1979) none (vr 1528) vN 0)) []),
  (ob (vt "tuple") none (sq [] 0) []),
  (ob vN none (fi []) []),
  (ob (vt "tuple") none (sq [(vs "self" 2229), (vs "table" 2230)] 0) []),
  (ob (vt "tuple") none (sq [] 0) []),
  (ob vN none (.func (fu (inClass (top 102) 12) "orders" "Base.orders" 0 [] vN vN vN vN none vN vN 0)) []),
  (ob (vt "code") none (fi [(vs "orders" 2226), (vs "Base.orders" 2227), (vs "/claim/cut.py" 2228), (vi 711 0), (vi 2 0), (vi 0 0), (vi 0 0), (vi 3 0), (vr 1530), vT, (vi 181 0), (vr 1531), vN, (vr 1532), (vr 1533), (vr 1534), (vi 2231 0), (vi 711 0), (vs "/claim/cut.py" 2232)]) [])]
def o5_96 (P : Params) : List Obj := [
  (ob (vt "function") none (.func (fu (inClass (top 102) 12) "orders" "Base.orders" 3 [] vN vN vN (vs "coverstore.bases" 1979) none (vr 1535) vN 0)) []),
  (ob (vt "tuple") none (sq [] 0) []),
  (ob vN none (fi []) []),
  (ob (vt "tuple") none (sq [(vs "self" 2237), (vs "writes" 2238), (vs "table" 2239), (vs "key" 2240), (vs "payload" 2241)] 0) []),
  (ob (vt "tuple") none (sq [] 0) []),
  (ob vN none (.func (fu (inClass (top 102) 13) "commit" "Base.commit" 0 [] vN vN vN vN none vN vN 0)) []),
  (ob (vt "code") none (fi [(vs "commit" 2234), (vs "Base.commit" 2235), (vs "/claim/cut.py" 2236), (vi 714 0), (vi 2 0), (vi 0 0), (vi 0 0), (vi 3 0), (vr 1537), vT, (vi 181 0), (vr 1538), vN, (vr 1539), (vr 1540), (vr 1541), (vi 2242 0), (vi 714 0), (vs "/claim/cut.py" 2243)]) []),
  (ob (vt "function") none (.func (fu (inClass (top 102) 13) "commit" "Base.commit" 3 [] vN vN vN (vs "coverstore.bases" 1979) none (vr 1542) vN 0)) []),
  (ob (vt "tuple") none (sq [vN] 0) []),
  (ob (vt "tuple") none (sq [] 0) []),
  (ob vN none (fi []) []),
  (ob (vt "tuple") none (sq [(vs "self" 2248), (vs "table" 2249), (vs "key" 2250), (vs "version" 2251)] 0) []),
  (ob (vt "tuple") none (sq [] 0) []),
  (ob vN none (.func (fu (inClass (top 102) 14) "payload" "Base.payload" 0 [] vN vN vN vN none vN vN 0)) []),
  (ob (vt "code") none (fi [(vs "payload" 2245), (vs "Base.payload" 2246), (vs "/claim/cut.py" 2247), (vi 720 0), (vi 4 0), (vi 0 0), (vi 0 0), (vi 3 0), (vr 1545), vT, (vi 181 0), (vr 1546), vN, (vr 1547), (vr 1548), (vr 1549), (vi 2252 0), (vi 720 0), (vs "/claim/cut.py" 2253)]) []),
  (ob (vt "function") none (.func (fu (inClass (top 102) 14) "payload" "Base.payload" 3 [] (vr 1544) vN vN (vs "coverstore.bases" 1979) none (vr 1550) vN 0)) [])]
def o5_97 (P : Params) : List Obj := [
  (ob (vt "tuple") none (sq [vN] 0) []),
  (ob (vt "tuple") none (sq [] 0) []),
  (ob vN none (fi []) []),
  (ob vN none (.func (fu (inClass (top 102) 15) "rows" "Base.rows" 0 [] vN vN vN vN none vN vN 0)) []),
  (ob (vt "code") none (fi [(vs "rows" 2255), (vs "Base.rows" 2256), (vs "/claim/cut.py" 2257), (vi 724 0), (vi 3 0), (vi 0 0), (vi 0 0), (vi 3 0), (vr 1553), vT, (vi 181 0), (vr 1554), vN, vN, vN, (vr 1555), (vi 2258 0), (vi 724 0), (vs "/claim/cut.py" 2259)]) []),
  (ob (vt "function") none (.func (fu (inClass (top 102) 15) "rows" "Base.rows" 3 [] (vr 1552) vN vN (vs "coverstore.bases" 1979) none (vr 1556) vN 0)) []),
  (ob (vt "tuple") none (sq [vN] 0) []),
  (ob (vt "tuple") none (sq [] 0) []),
  (ob vN none (fi []) []),
  (ob vN none (.func (fu (inClass (top 102) 16) "keys_in" "Base.keys_in" 0 [] vN vN vN vN none vN vN 0)) []),
  (ob (vt "code") none (fi [(vs "keys_in" 2261), (vs "Base.keys_in" 2262), (vs "/claim/cut.py" 2263), (vi 729 0), (vi 4 0), (vi 0 0), (vi 0 0), (vi 3 0), (vr 1559), vT, (vi 181 0), (vr 1560), vN, vN, vN, (vr 1561), (vi 2264 0), (vi 729 0), (vs "/claim/cut.py" 2265)]) []),
  (ob (vt "function") none (.func (fu (inClass (top 102) 16) "keys_in" "Base.keys_in" 3 [] (vr 1558) vN vN (vs "coverstore.bases" 1979) none (vr 1562) vN 0)) []),
  (ob (vt "tuple") none (sq [vN] 0) []),
  (ob (vt "tuple") none (sq [] 0) []),
  (ob vN none (fi []) []),
  (ob vN none (.func (fu (inClass (top 102) 17) "changed_keys" "Base.changed_keys" 0 [] vN vN vN vN none vN vN 0)) [])]
def o5_98 (P : Params) : List Obj := [
  (ob (vt "code") none (fi [(vs "changed_keys" 2267), (vs "Base.changed_keys" 2268), (vs "/claim/cut.py" 2269), (vi 733 0), (vi 2 0), (vi 0 0), (vi 0 0), (vi 3 0), (vr 1565), vT, (vi 181 0), (vr 1566), vN, vN, vN, (vr 1567), (vi 2270 0), (vi 733 0), (vs "/claim/cut.py" 2271)]) []),
  (ob (vt "function") none (.func (fu (inClass (top 102) 17) "changed_keys" "Base.changed_keys" 3 [] (vr 1564) vN vN (vs "coverstore.bases" 1979) none (vr 1568) vN 0)) []),
  (ob (vt "tuple") none (sq [vN] 0) []),
  (ob (vt "tuple") none (sq [] 0) []),
  (ob vN none (fi []) []),
  (ob (vt "tuple") none (sq [(vs "self" 2276), (vs "table" 2277), (vs "key" 2278), (vs "version" 2279)] 0) []),
  (ob (vt "tuple") none (sq [] 0) []),
  (ob vN none (.func (fu (inClass (top 102) 18) "presence_break" "Base.presence_break" 0 [] vN vN vN vN none vN vN 0)) []),
  (ob (vt "code") none (fi [(vs "presence_break" 2273), (vs "Base.presence_break" 2274), (vs "/claim/cut.py" 2275), (vi 739 0), (vi 4 0), (vi 0 0), (vi 0 0), (vi 3 0), (vr 1571), vT, (vi 181 0), (vr 1572), vN, (vr 1573), (vr 1574), (vr 1575), (vi 2280 0), (vi 739 0), (vs "/claim/cut.py" 2281)]) []),
  (ob (vt "function") none (.func (fu (inClass (top 102) 18) "presence_break" "Base.presence_break" 3 [] (vr 1570) vN vN (vs "coverstore.bases" 1979) none (vr 1576) vN 0)) []),
  (ob (vt "tuple") none (sq [vN] 0) []),
  (ob (vt "tuple") none (sq [] 0) []),
  (ob vN none (fi []) []),
  (ob (vt "tuple") none (sq [(vs "self" 2286), (vs "table" 2287), (vs "key" 2288), (vs "version" 2289)] 0) []),
  (ob (vt "tuple") none (sq [] 0) []),
  (ob vN none (.func (fu (inClass (top 102) 19) "payload_break" "Base.payload_break" 0 [] vN vN vN vN none vN vN 0)) [])]
def o5_99 (P : Params) : List Obj := [
  (ob (vt "code") none (fi [(vs "payload_break" 2283), (vs "Base.payload_break" 2284), (vs "/claim/cut.py" 2285), (vi 742 0), (vi 4 0), (vi 0 0), (vi 0 0), (vi 3 0), (vr 1579), vT, (vi 181 0), (vr 1580), vN, (vr 1581), (vr 1582), (vr 1583), (vi 2290 0), (vi 742 0), (vs "/claim/cut.py" 2291)]) []),
  (ob (vt "function") none (.func (fu (inClass (top 102) 19) "payload_break" "Base.payload_break" 3 [] (vr 1578) vN vN (vs "coverstore.bases" 1979) none (vr 1584) vN 0)) []),
  (ob (vt "tuple") none (sq [vN] 0) []),
  (ob (vt "tuple") none (sq [] 0) []),
  (ob vN none (fi []) []),
  (ob (vt "tuple") none (sq [(vs "self" 2296), (vs "table" 2297), (vs "box" 2298), (vs "version" 2299)] 0) []),
  (ob (vt "tuple") none (sq [] 0) []),
  (ob vN none (.func (fu (inClass (top 102) 20) "clear_break" "Base.clear_break" 0 [] vN vN vN vN none vN vN 0)) []),
  (ob (vt "code") none (fi [(vs "clear_break" 2293), (vs "Base.clear_break" 2294), (vs "/claim/cut.py" 2295), (vi 745 0), (vi 4 0), (vi 0 0), (vi 0 0), (vi 3 0), (vr 1587), vT, (vi 181 0), (vr 1588), vN, (vr 1589), (vr 1590), (vr 1591), (vi 2300 0), (vi 745 0), (vs "/claim/cut.py" 2301)]) []),
  (ob (vt "function") none (.func (fu (inClass (top 102) 20) "clear_break" "Base.clear_break" 3 [] (vr 1586) vN vN (vs "coverstore.bases" 1979) none (vr 1592) vN 0)) []),
  (ob (vt "tuple") none (sq [] 0) []),
  (ob vN none (fi []) []),
  (ob (vt "tuple") none (sq [(vs "self" 2306), (vs "version" 2307)] 0) []),
  (ob (vt "tuple") none (sq [] 0) []),
  (ob vN none (.func (fu (inClass (top 102) 21) "forget" "Base.forget" 0 [] vN vN vN vN none vN vN 0)) []),
  (ob (vt "code") none (fi [(vs "forget" 2303), (vs "Base.forget" 2304), (vs "/claim/cut.py" 2305), (vi 748 0), (vi 2 0), (vi 0 0), (vi 0 0), (vi 3 0), (vr 1594), vT, (vi 181 0), (vr 1595), vN, (vr 1596), (vr 1597), (vr 1598), (vi 2308 0), (vi 748 0), (vs "/claim/cut.py" 2309)]) [])]
def o5_100 (P : Params) : List Obj := [
  (ob (vt "function") none (.func (fu (inClass (top 102) 21) "forget" "Base.forget" 3 [] vN vN vN (vs "coverstore.bases" 1979) none (vr 1599) vN 0)) []),
  (ob (vt "tuple") none (sq [vN] 0) []),
  (ob (vt "tuple") none (sq [] 0) []),
  (ob vN none (fi []) []),
  (ob (vt "tuple") none (sq [(vs "self" 2314), (vs "version" 2315)] 0) []),
  (ob (vt "tuple") none (sq [] 0) []),
  (ob vN none (.func (fu (inClass (top 102) 22) "snapshot" "Base.snapshot" 0 [] vN vN vN vN none vN vN 0)) []),
  (ob (vt "code") none (fi [(vs "snapshot" 2311), (vs "Base.snapshot" 2312), (vs "/claim/cut.py" 2313), (vi 751 0), (vi 2 0), (vi 0 0), (vi 0 0), (vi 3 0), (vr 1602), vT, (vi 181 0), (vr 1603), vN, (vr 1604), (vr 1605), (vr 1606), (vi 2316 0), (vi 751 0), (vs "/claim/cut.py" 2317)]) []),
  (ob (vt "function") none (.func (fu (inClass (top 102) 22) "snapshot" "Base.snapshot" 3 [] (vr 1601) vN vN (vs "coverstore.bases" 1979) none (vr 1607) vN 0)) []),
  (ob (vt "tuple") none (sq [(vs "newest" 2319), (vs "own_bits" 2320), (vs "own_oldest" 2321), (vs "own_tables" 2322)] 0) []),
  (ob (vt "dict") none (di [de P "__module__" 2134 (vs "coverstore.bases" 1979), de P "__firstlineno__" 2138 (vi 657 2137), de P "MAX_TABLES" 2140 (vi 8 2139), de P "MAX_PAYLOAD" 2142 (vi 1000000000 2141), de P "__init__" 2150 (vr 1463), de P "bits" 2158 (vr 1471), de P "version" 2166 (vr 1479), de P "oldest" 2174 (vr 1487), de P "required_version" 2182 (vr 1494), de P "require_new_table" 2192 (vr 1501), de P "add_table" 2202 (vr 1508), de P "tables" 2209 (vr 1515), de P "table_named" 2217 (vr 1522), de P "columns" 2225 (vr 1529), de P "orders" 2233 (vr 1536), de P "commit" 2244 (vr 1543), de P "payload" 2254 (vr 1551), de P "rows" 2260 (vr 1557), de P "keys_in" 2266 (vr 1563), de P "changed_keys" 2272 (vr 1569), de P "presence_break" 2282 (vr 1577), de P "payload_break" 2292 (vr 1585), de P "clear_break" 2302 (vr 1593), de P "forget" 2310 (vr 1600), de P "snapshot" 2318 (vr 1608), de P "__static_attributes__" 2323 (vr 1609), de P "__dict__" 2325 (vr 1612), de P "__weakref__" 2327 (vr 1613), de P "__doc__" 2328 vN] 4) []),
  (ob (vt "type") none (.cls ⟨"Base", [(vt "object")], [(vr 1611), (vt "object")], 1610, "Base", true, [], [], false, none, false⟩) [none, none, (some (vs "Base" 2127)), (some (vs "Base" 2135)), (some (vb "object.__new__")), (some vT)]),
  (ob (vt "getset_descriptor") none (fi [(vs "__dict__" 2324), (vr 1611), (vb "function.__dict__"), (vb "function.__dict__#set")]) []),
  (ob (vt "getset_descriptor") none (fi [(vs "__weakref__" 2326), (vr 1611), (vb "ExceptionGroup.__weakref__"), vN]) []),
  (ob (vt "super") none (fi [(vr 1611), (vr 1611), (vr 1611)]) []),
  (ob (vt "builtin_function_or_method") none (fi [(vb "object.__init_subclass__"), (vr 1611)]) [])]
def o5_101 (P : Params) : List Obj := [
  (ob (vt "tuple") none (sq [(vs "<" 2337), (vs "<=" 2338), (vs "=" 2339), (vs "!=" 2340)] 0) []),
  (ob (vt "tuple") none (sq [] 0) []),
  (ob vN none (fi []) []),
  (ob (vt "tuple") none (sq [(vs "value" 2367)] 0) []),
  (ob (vt "tuple") none (sq [] 0) []),
  (ob vN none (.func (fu (top 118) "is_term" "is_term" 0 [] vN vN vN vN none vN vN 0)) []),
  (ob (vt "code") none (fi [(vs "is_term" 2364), (vs "is_term" 2365), (vs "/claim/cut.py" 2366), (vi 768 0), (vi 1 0), (vi 0 0), (vi 0 0), (vi 3 0), (vr 1617), vT, (vi 181 0), (vr 1618), vN, (vr 1619), (vr 1620), (vr 1621), (vi 2368 0), (vi 768 0), (vs "/claim/cut.py" 2369)]) []),
  (ob (vt "function") none (.func (fu (top 118) "is_term" "is_term" 3 [] vN vN vN (vs "coverstore.queries" 2331) none (vr 1622) vN 0)) []),
  (ob (vt "tuple") none (sq [] 0) []),
  (ob vN none (fi []) []),
  (ob vN none (.func (fu (top 119) "are_terms" "are_terms" 0 [] vN vN vN vN none vN vN 0)) []),
  (ob (vt "code") none (fi [(vs "are_terms" 2371), (vs "are_terms" 2372), (vs "/claim/cut.py" 2373), (vi 770 0), (vi 1 0), (vi 0 0), (vi 0 0), (vi 3 0), (vr 1624), vT, (vi 181 0), (vr 1625), vN, vN, vN, (vr 1626), (vi 2374 0), (vi 770 0), (vs "/claim/cut.py" 2375)]) []),
  (ob (vt "function") none (.func (fu (top 119) "are_terms" "are_terms" 3 [] vN vN vN (vs "coverstore.queries" 2331) none (vr 1627) vN 0)) []),
  (ob (vt "tuple") none (sq [] 0) []),
  (ob vN none (fi []) []),
  (ob (vt "tuple") none (sq [(vs "value" 2380), (vs "word" 2381), (vs "first" 2382), (vs "second" 2383)] 0) [])]
def o5_102 (P : Params) : List Obj := [
  (ob (vt "tuple") none (sq [] 0) []),
  (ob vN none (.func (fu (top 120) "is_literal" "is_literal" 0 [] vN vN vN vN none vN vN 0)) []),
  (ob (vt "code") none (fi [(vs "is_literal" 2377), (vs "is_literal" 2378), (vs "/claim/cut.py" 2379), (vi 772 0), (vi 1 0), (vi 0 0), (vi 0 0), (vi 3 0), (vr 1629), vT, (vi 181 0), (vr 1630), vN, (vr 1631), (vr 1632), (vr 1633), (vi 2384 0), (vi 772 0), (vs "/claim/cut.py" 2385)]) []),
  (ob (vt "function") none (.func (fu (top 120) "is_literal" "is_literal" 3 [] vN vN vN (vs "coverstore.queries" 2331) none (vr 1634) vN 0)) []),
  (ob (vt "tuple") none (sq [] 0) []),
  (ob vN none (fi []) []),
  (ob (vt "tuple") none (sq [(vs "literal" 2390)] 0) []),
  (ob (vt "tuple") none (sq [] 0) []),
  (ob vN none (.func (fu (top 121) "is_comparison" "is_comparison" 0 [] vN vN vN vN none vN vN 0)) []),
  (ob (vt "code") none (fi [(vs "is_comparison" 2387), (vs "is_comparison" 2388), (vs "/claim/cut.py" 2389), (vi 779 0), (vi 1 0), (vi 0 0), (vi 0 0), (vi 3 0), (vr 1636), vT, (vi 181 0), (vr 1637), vN, (vr 1638), (vr 1639), (vr 1640), (vi 2391 0), (vi 779 0), (vs "/claim/cut.py" 2392)]) []),
  (ob (vt "function") none (.func (fu (top 121) "is_comparison" "is_comparison" 3 [] vN vN vN (vs "coverstore.queries" 2331) none (vr 1641) vN 0)) []),
  (ob (vt "tuple") none (sq [] 0) []),
  (ob vN none (fi []) []),
  (ob (vt "tuple") none (sq [(vs "literal" 2397)] 0) []),
  (ob (vt "tuple") none (sq [] 0) []),
  (ob vN none (.func (fu (top 122) "terms_of" "terms_of" 0 [] vN vN vN vN none vN vN 0)) [])]
def o5_103 (P : Params) : List Obj := [
  (ob (vt "code") none (fi [(vs "terms_of" 2394), (vs "terms_of" 2395), (vs "/claim/cut.py" 2396), (vi 781 0), (vi 1 0), (vi 0 0), (vi 0 0), (vi 3 0), (vr 1643), vT, (vi 181 0), (vr 1644), vN, (vr 1645), (vr 1646), (vr 1647), (vi 2398 0), (vi 781 0), (vs "/claim/cut.py" 2399)]) []),
  (ob (vt "function") none (.func (fu (top 122) "terms_of" "terms_of" 3 [] vN vN vN (vs "coverstore.queries" 2331) none (vr 1648) vN 0)) []),
  (ob (vt "tuple") none (sq [] 0) []),
  (ob vN none (fi []) []),
  (ob vN none (.func (fu (top 123) "integers_in" "integers_in" 0 [] vN vN vN vN none vN vN 0)) []),
  (ob (vt "code") none (fi [(vs "integers_in" 2401), (vs "integers_in" 2402), (vs "/claim/cut.py" 2403), (vi 783 0), (vi 1 0), (vi 0 0), (vi 0 0), (vi 3 0), (vr 1650), vT, (vi 181 0), (vr 1651), vN, vN, vN, (vr 1652), (vi 2404 0), (vi 783 0), (vs "/claim/cut.py" 2405)]) []),
  (ob (vt "function") none (.func (fu (top 123) "integers_in" "integers_in" 3 [] vN vN vN (vs "coverstore.queries" 2331) none (vr 1653) vN 0)) []),
  (ob (vt "tuple") none (sq [] 0) []),
  (ob vN none (fi []) []),
  (ob (vt "tuple") none (sq [(vs "literals" 2411), (vs "found" 2412), (vs "literal" 2413), (vs "term" 2414)] 0) []),
  (ob (vt "tuple") none (sq [] 0) []),
  (ob vN none (.func (fu (top 125) "variables_in" "variables_in" 0 [] vN vN vN vN none vN vN 0)) []),
  (ob (vt "code") none (fi [(vs "variables_in" 2408), (vs "variables_in" 2409), (vs "/claim/cut.py" 2410), (vi 786 0), (vi 1 0), (vi 0 0), (vi 0 0), (vi 3 0), (vr 1655), vT, (vi 181 0), (vr 1656), vN, (vr 1657), (vr 1658), (vr 1659), (vi 2415 0), (vi 786 0), (vs "/claim/cut.py" 2416)]) []),
  (ob (vt "function") none (.func (fu (top 125) "variables_in" "variables_in" 3 [] vN vN vN (vs "coverstore.queries" 2331) none (vr 1660) vN 0)) []),
  (ob (vt "tuple") none (sq [] 0) []),
  (ob vN none (fi []) [])]
def o5_104 (P : Params) : List Obj := [
  (ob (vt "tuple") none (sq [(vs "literals" 2421), (vs "position" 2422), (vs "literal" 2423)] 0) []),
  (ob (vt "tuple") none (sq [] 0) []),
  (ob vN none (.func (fu (top 126) "require_literals" "require_literals" 0 [] vN vN vN vN none vN vN 0)) []),
  (ob (vt "code") none (fi [(vs "require_literals" 2418), (vs "require_literals" 2419), (vs "/claim/cut.py" 2420), (vi 793 0), (vi 1 0), (vi 0 0), (vi 0 0), (vi 3 0), (vr 1662), vT, (vi 181 0), (vr 1663), vN, (vr 1664), (vr 1665), (vr 1666), (vi 2424 0), (vi 793 0), (vs "/claim/cut.py" 2425)]) []),
  (ob (vt "function") none (.func (fu (top 126) "require_literals" "require_literals" 3 [] vN vN vN (vs "coverstore.queries" 2331) none (vr 1667) vN 0)) []),
  (ob (vt "tuple") none (sq [] 0) []),
  (ob vN none (fi []) []),
  (ob vN none (.func (fu (top 127) "is_order" "is_order" 0 [] vN vN vN vN none vN vN 0)) []),
  (ob (vt "code") none (fi [(vs "is_order" 2427), (vs "is_order" 2428), (vs "/claim/cut.py" 2429), (vi 799 0), (vi 2 0), (vi 0 0), (vi 0 0), (vi 3 0), (vr 1669), vT, (vi 181 0), (vr 1670), vN, vN, vN, (vr 1671), (vi 2430 0), (vi 799 0), (vs "/claim/cut.py" 2431)]) []),
  (ob (vt "function") none (.func (fu (top 127) "is_order" "is_order" 3 [] vN vN vN (vs "coverstore.queries" 2331) none (vr 1672) vN 0)) []),
  (ob (vt "tuple") none (sq [] 0) []),
  (ob vN none (fi []) []),
  (ob vN none (.func (fu (top 129) "literal_text" "literal_text" 0 [] vN vN vN vN none vN vN 0)) []),
  (ob (vt "code") none (fi [(vs "literal_text" 2434), (vs "literal_text" 2435), (vs "/claim/cut.py" 2436), (vi 802 0), (vi 1 0), (vi 0 0), (vi 0 0), (vi 3 0), (vr 1674), vT, (vi 181 0), (vr 1675), vN, vN, vN, (vr 1676), (vi 2437 0), (vi 802 0), (vs "/claim/cut.py" 2438)]) []),
  (ob (vt "function") none (.func (fu (top 129) "literal_text" "literal_text" 3 [] vN vN vN (vs "coverstore.queries" 2331) none (vr 1677) vN 0)) []),
  (ob (vt "tuple") none (sq [] 0) [])]
def o5_105 (P : Params) : List Obj := [
  (ob vN none (fi []) []),
  (ob vN none (.func (fu (top 130) "query_text" "query_text" 0 [] vN vN vN vN none vN vN 0)) []),
  (ob (vt "code") none (fi [(vs "query_text" 2440), (vs "query_text" 2441), (vs "/claim/cut.py" 2442), (vi 808 0), (vi 2 0), (vi 0 0), (vi 0 0), (vi 3 0), (vr 1679), vT, (vi 181 0), (vr 1680), vN, vN, vN, (vr 1681), (vi 2443 0), (vi 808 0), (vs "/claim/cut.py" 2444)]) []),
  (ob (vt "function") none (.func (fu (top 130) "query_text" "query_text" 3 [] vN vN vN (vs "coverstore.queries" 2331) none (vr 1682) vN 0)) []),
  (ob (vt "tuple") none (sq [] 0) []),
  (ob vN none (fi []) []),
  (ob vN none (.func (fu (top 131) "term_in" "term_in" 0 [] vN vN vN vN none vN vN 0)) []),
  (ob (vt "code") none (fi [(vs "term_in" 2446), (vs "term_in" 2447), (vs "/claim/cut.py" 2448), (vi 811 0), (vi 1 0), (vi 0 0), (vi 0 0), (vi 3 0), (vr 1684), vT, (vi 181 0), (vr 1685), vN, vN, vN, (vr 1686), (vi 2449 0), (vi 811 0), (vs "/claim/cut.py" 2450)]) []),
  (ob (vt "function") none (.func (fu (top 131) "term_in" "term_in" 3 [] vN vN vN (vs "coverstore.queries" 2331) none (vr 1687) vN 0)) []),
  (ob (vt "tuple") none (sq [] 0) []),
  (ob vN none (fi []) []),
  (ob vN none (.func (fu (top 132) "row_literal_in" "row_literal_in" 0 [] vN vN vN vN none vN vN 0)) []),
  (ob (vt "code") none (fi [(vs "row_literal_in" 2452), (vs "row_literal_in" 2453), (vs "/claim/cut.py" 2454), (vi 815 0), (vi 2 0), (vi 0 0), (vi 0 0), (vi 3 0), (vr 1689), vT, (vi 181 0), (vr 1690), vN, vN, vN, (vr 1691), (vi 2455 0), (vi 815 0), (vs "/claim/cut.py" 2456)]) []),
  (ob (vt "function") none (.func (fu (top 132) "row_literal_in" "row_literal_in" 3 [] vN vN vN (vs "coverstore.queries" 2331) none (vr 1692) vN 0)) []),
  (ob (vt "tuple") none (sq [] 0) []),
  (ob vN none (fi []) [])]
def o5_106 (P : Params) : List Obj := [
  (ob (vt "tuple") none (sq [(vs "text" 2461), (vs "words" 2462)] 0) []),
  (ob (vt "tuple") none (sq [] 0) []),
  (ob vN none (.func (fu (top 133) "literal_in" "literal_in" 0 [] vN vN vN vN none vN vN 0)) []),
  (ob (vt "code") none (fi [(vs "literal_in" 2458), (vs "literal_in" 2459), (vs "/claim/cut.py" 2460), (vi 820 0), (vi 1 0), (vi 0 0), (vi 0 0), (vi 3 0), (vr 1694), vT, (vi 181 0), (vr 1695), vN, (vr 1696), (vr 1697), (vr 1698), (vi 2463 0), (vi 820 0), (vs "/claim/cut.py" 2464)]) []),
  (ob (vt "function") none (.func (fu (top 133) "literal_in" "literal_in" 3 [] vN vN vN (vs "coverstore.queries" 2331) none (vr 1699) vN 0)) []),
  (ob (vt "tuple") none (sq [] 0) []),
  (ob vN none (fi []) []),
  (ob vN none (.func (fu (top 134) "query_in" "query_in" 0 [] vN vN vN vN none vN vN 0)) []),
  (ob (vt "code") none (fi [(vs "query_in" 2466), (vs "query_in" 2467), (vs "/claim/cut.py" 2468), (vi 827 0), (vi 1 0), (vi 0 0), (vi 0 0), (vi 3 0), (vr 1701), vT, (vi 181 0), (vr 1702), vN, vN, vN, (vr 1703), (vi 2469 0), (vi 827 0), (vs "/claim/cut.py" 2470)]) []),
  (ob (vt "function") none (.func (fu (top 134) "query_in" "query_in" 3 [] vN vN vN (vs "coverstore.queries" 2331) none (vr 1704) vN 0)) []),
  (ob (vt "tuple") none (sq [] 0) []),
  (ob (vt "builtin_function_or_method") none (fi [(vb "type.__prepare__"), (vt "type")]) []),
  (ob (vt "dict") none (di [de P "__module__" 2479 (vs "coverstore.queries" 2331), de P "__qualname__" 2481 (vs "Query" 2480), de P "__firstlineno__" 2483 (vi 835 2482), de P "MAX_LITERALS" 2485 (vi 8 2484), de P "MAX_VARIABLES" 2487 (vi 5 2486), de P "MAX_INTEGER" 2489 (vi 1023 2488), de P "__init__" 2499 (vr 1720), de P "read" 2520 (vr 1729), de P "variables" 2528 (vr 1738), de P "literals" 2535 (vr 1745), de P "in_order" 2543 (vr 1752), de P "__len__" 2550 (vr 1759), de P "__eq__" 2558 (vr 1766), de P "__str__" 2565 (vr 1773), de P "__repr__" 2572 (vr 1780), de P "__static_attributes__" 2576 (vr 1781)] 16) []),
  (ob (vt "tuple") none (sq [] 0) []),
  (ob vN none (fi [(vi 840 0), (vi 4 0), (vr 1719), (vi 852 0), (vi 4 0), (vr 1726), (vi 859 0), (vi 4 0), (vr 1736), (vi 862 0), (vi 4 0), (vr 1744), (vi 865 0), (vi 4 0), (vr 1751), (vi 868 0), (vi 4 0), (vr 1758), (vi 871 0), (vi 4 0), (vr 1765), (vi 876 0), (vi 4 0), (vr 1772), (vi 879 0), (vi 4 0), (vr 1779)]) []),
  (ob (vt "code") none (fi [(vs "Query" 2474), (vs "Query" 2475), (vs "/claim/cut.py" 2476), (vi 835 0), (vi 0 0), (vi 0 0), (vi 0 0), (vi 0 0), (vr 1709), vF, (vi 181 0), (vr 1710), vN, vN, vN, vN, (vi 2477 0), (vi 835 0), (vs "/claim/cut.py" 2478)]) [])]
def o5_107 (P : Params) : List Obj := [
  (ob (vt "frame") none .plain [(some (vr 1711)), (some (vr 3)), (some (vr 1708)), none, (some (vs "coverstore.queries" 2331)), none, (some (vr 0))]),
  (ob (vt "tuple") none (sq [vN] 0) []),
  (ob (vt "tuple") none (sq [] 0) []),
  (ob vN none (fi []) []),
  (ob (vt "tuple") none (sq [(vs "self" 2493), (vs "literals" 2494), (vs "order" 2495), (vs "variables" 2496)] 0) []),
  (ob (vt "tuple") none (sq [] 0) []),
  (ob vN none (.func (fu (inClass (top 135) 3) "__init__" "Query.__init__" 0 [] vN vN vN vN none vN vN 0)) []),
  (ob (vt "code") none (fi [(vs "__init__" 2490), (vs "Query.__init__" 2491), (vs "/claim/cut.py" 2492), (vi 840 0), (vi 3 0), (vi 0 0), (vi 0 0), (vi 3 0), (vr 1714), vT, (vi 181 0), (vr 1715), vN, (vr 1716), (vr 1717), (vr 1718), (vi 2497 0), (vi 840 0), (vs "/claim/cut.py" 2498)]) []),
  (ob (vt "function") none (.func (fu (inClass (top 135) 3) "__init__" "Query.__init__" 3 [] (vr 1713) vN vN (vs "coverstore.queries" 2331) none (vr 1719) vN 0)) []),
  (ob (vt "tuple") none (sq [] 0) []),
  (ob vN none (fi []) []),
  (ob (vt "tuple") none (sq [(vs "cls" 2503), (vs "text" 2504), (vs "found" 2505)] 0) []),
  (ob (vt "tuple") none (sq [] 0) []),
  (ob vN none (.func (fu (inClass (top 135) 4) "read" "Query.read" 0 [] vN vN vN vN none vN vN 0)) []),
  (ob (vt "code") none (fi [(vs "read" 2500), (vs "Query.read" 2501), (vs "/claim/cut.py" 2502), (vi 851 0), (vi 2 0), (vi 0 0), (vi 0 0), (vi 3 0), (vr 1721), vT, (vi 181 0), (vr 1722), vN, (vr 1723), (vr 1724), (vr 1725), (vi 2506 0), (vi 851 0), (vs "/claim/cut.py" 2507)]) []),
  (ob (vt "function") none (.func (fu (inClass (top 135) 4) "read" "Query.read" 3 [] vN vN vN (vs "coverstore.queries" 2331) (some 1730) (vr 1726) vN 0)) [])]
def o5_108 (P : Params) : List Obj := [
  (ob (vt "dict") none (di [de P "__module__" 2509 (vs "coverstore.queries" 2331), de P "__name__" 2512 (vs "read" 2511), de P "__qualname__" 2515 (vs "Query.read" 2514), de P "__doc__" 2517 vN, de P "__annotations__" 2519 (vr 1730)] 5) []),
  (ob (vt "classmethod") (some 1728) (fi [(vr 1727), vF]) []),
  (ob (vt "dict") none (di [] 0) []),
  (ob (vt "tuple") none (sq [] 0) []),
  (ob vN none (fi []) []),
  (ob (vt "tuple") none (sq [(vs "self" 2524)] 0) []),
  (ob (vt "tuple") none (sq [] 0) []),
  (ob vN none (.func (fu (inClass (top 135) 5) "variables" "Query.variables" 0 [] vN vN vN vN none vN vN 0)) []),
  (ob (vt "code") none (fi [(vs "variables" 2521), (vs "Query.variables" 2522), (vs "/claim/cut.py" 2523), (vi 858 0), (vi 1 0), (vi 0 0), (vi 0 0), (vi 3 0), (vr 1731), vT, (vi 181 0), (vr 1732), vN, (vr 1733), (vr 1734), (vr 1735), (vi 2525 0), (vi 858 0), (vs "/claim/cut.py" 2526)]) []),
  (ob (vt "function") none (.func (fu (inClass (top 135) 5) "variables" "Query.variables" 3 [] vN vN vN (vs "coverstore.queries" 2331) none (vr 1736) vN 0)) []),
  (ob (vt "property") none (fi [(vr 1737), vN, vN, vN, (vs "variables" 2528), vF]) []),
  (ob (vt "tuple") none (sq [] 0) []),
  (ob vN none (fi []) []),
  (ob (vt "tuple") none (sq [(vs "self" 2532)] 0) []),
  (ob (vt "tuple") none (sq [] 0) []),
  (ob vN none (.func (fu (inClass (top 135) 6) "literals" "Query.literals" 0 [] vN vN vN vN none vN vN 0)) [])]
def o5_109 (P : Params) : List Obj := [
  (ob (vt "code") none (fi [(vs "literals" 2529), (vs "Query.literals" 2530), (vs "/claim/cut.py" 2531), (vi 862 0), (vi 1 0), (vi 0 0), (vi 0 0), (vi 3 0), (vr 1739), vT, (vi 181 0), (vr 1740), vN, (vr 1741), (vr 1742), (vr 1743), (vi 2533 0), (vi 862 0), (vs "/claim/cut.py" 2534)]) []),
  (ob (vt "function") none (.func (fu (inClass (top 135) 6) "literals" "Query.literals" 3 [] vN vN vN (vs "coverstore.queries" 2331) none (vr 1744) vN 0)) []),
  (ob (vt "tuple") none (sq [] 0) []),
  (ob vN none (fi []) []),
  (ob (vt "tuple") none (sq [(vs "self" 2539), (vs "variables" 2540)] 0) []),
  (ob (vt "tuple") none (sq [] 0) []),
  (ob vN none (.func (fu (inClass (top 135) 7) "in_order" "Query.in_order" 0 [] vN vN vN vN none vN vN 0)) []),
  (ob (vt "code") none (fi [(vs "in_order" 2536), (vs "Query.in_order" 2537), (vs "/claim/cut.py" 2538), (vi 865 0), (vi 1 0), (vi 0 0), (vi 0 0), (vi 7 0), (vr 1746), vT, (vi 181 0), (vr 1747), vN, (vr 1748), (vr 1749), (vr 1750), (vi 2541 0), (vi 865 0), (vs "/claim/cut.py" 2542)]) []),
  (ob (vt "function") none (.func (fu (inClass (top 135) 7) "in_order" "Query.in_order" 3 [] vN vN vN (vs "coverstore.queries" 2331) none (vr 1751) vN 0)) []),
  (ob (vt "tuple") none (sq [] 0) []),
  (ob vN none (fi []) []),
  (ob (vt "tuple") none (sq [(vs "self" 2547)] 0) []),
  (ob (vt "tuple") none (sq [] 0) []),
  (ob vN none (.func (fu (inClass (top 135) 8) "__len__" "Query.__len__" 0 [] vN vN vN vN none vN vN 0)) []),
  (ob (vt "code") none (fi [(vs "__len__" 2544), (vs "Query.__len__" 2545), (vs "/claim/cut.py" 2546), (vi 868 0), (vi 1 0), (vi 0 0), (vi 0 0), (vi 3 0), (vr 1753), vT, (vi 181 0), (vr 1754), vN, (vr 1755), (vr 1756), (vr 1757), (vi 2548 0), (vi 868 0), (vs "/claim/cut.py" 2549)]) []),
  (ob (vt "function") none (.func (fu (inClass (top 135) 8) "__len__" "Query.__len__" 3 [] vN vN vN (vs "coverstore.queries" 2331) none (vr 1758) vN 0)) [])]
def o5_110 (P : Params) : List Obj := [
  (ob (vt "tuple") none (sq [] 0) []),
  (ob vN none (fi []) []),
  (ob (vt "tuple") none (sq [(vs "self" 2554), (vs "other" 2555)] 0) []),
  (ob (vt "tuple") none (sq [] 0) []),
  (ob vN none (.func (fu (inClass (top 135) 9) "__eq__" "Query.__eq__" 0 [] vN vN vN vN none vN vN 0)) []),
  (ob (vt "code") none (fi [(vs "__eq__" 2551), (vs "Query.__eq__" 2552), (vs "/claim/cut.py" 2553), (vi 871 0), (vi 2 0), (vi 0 0), (vi 0 0), (vi 3 0), (vr 1760), vT, (vi 181 0), (vr 1761), vN, (vr 1762), (vr 1763), (vr 1764), (vi 2556 0), (vi 871 0), (vs "/claim/cut.py" 2557)]) []),
  (ob (vt "function") none (.func (fu (inClass (top 135) 9) "__eq__" "Query.__eq__" 3 [] vN vN vN (vs "coverstore.queries" 2331) none (vr 1765) vN 0)) []),
  (ob (vt "tuple") none (sq [] 0) []),
  (ob vN none (fi []) []),
  (ob (vt "tuple") none (sq [(vs "self" 2562)] 0) []),
  (ob (vt "tuple") none (sq [] 0) []),
  (ob vN none (.func (fu (inClass (top 135) 10) "__str__" "Query.__str__" 0 [] vN vN vN vN none vN vN 0)) []),
  (ob (vt "code") none (fi [(vs "__str__" 2559), (vs "Query.__str__" 2560), (vs "/claim/cut.py" 2561), (vi 876 0), (vi 1 0), (vi 0 0), (vi 0 0), (vi 3 0), (vr 1767), vT, (vi 181 0), (vr 1768), vN, (vr 1769), (vr 1770), (vr 1771), (vi 2563 0), (vi 876 0), (vs "/claim/cut.py" 2564)]) []),
  (ob (vt "function") none (.func (fu (inClass (top 135) 10) "__str__" "Query.__str__" 3 [] vN vN vN (vs "coverstore.queries" 2331) none (vr 1772) vN 0)) []),
  (ob (vt "tuple") none (sq [] 0) []),
  (ob vN none (fi []) [])]
def o5_111 (P : Params) : List Obj := [
  (ob (vt "tuple") none (sq [(vs "self" 2569)] 0) []),
  (ob (vt "tuple") none (sq [] 0) []),
  (ob vN none (.func (fu (inClass (top 135) 11) "__repr__" "Query.__repr__" 0 [] vN vN vN vN none vN vN 0)) []),
  (ob (vt "code") none (fi [(vs "__repr__" 2566), (vs "Query.__repr__" 2567), (vs "/claim/cut.py" 2568), (vi 879 0), (vi 1 0), (vi 0 0), (vi 0 0), (vi 3 0), (vr 1774), vT, (vi 181 0), (vr 1775), vN, (vr 1776), (vr 1777), (vr 1778), (vi 2570 0), (vi 879 0), (vs "/claim/cut.py" 2571)]) []),
  (ob (vt "function") none (.func (fu (inClass (top 135) 11) "__repr__" "Query.__repr__" 3 [] vN vN vN (vs "coverstore.queries" 2331) none (vr 1779) vN 0)) []),
  (ob (vt "tuple") none (sq [(vs "own_literals" 2573), (vs "own_order" 2574), (vs "own_text" 2575)] 0) []),
  (ob (vt "dict") none (di [de P "__module__" 2479 (vs "coverstore.queries" 2331), de P "__firstlineno__" 2483 (vi 835 2482), de P "MAX_LITERALS" 2485 (vi 8 2484), de P "MAX_VARIABLES" 2487 (vi 5 2486), de P "MAX_INTEGER" 2489 (vi 1023 2488), de P "__init__" 2499 (vr 1720), de P "read" 2520 (vr 1729), de P "variables" 2528 (vr 1738), de P "literals" 2535 (vr 1745), de P "in_order" 2543 (vr 1752), de P "__len__" 2550 (vr 1759), de P "__eq__" 2558 (vr 1766), de P "__str__" 2565 (vr 1773), de P "__repr__" 2572 (vr 1780), de P "__static_attributes__" 2576 (vr 1781), de P "__dict__" 2578 (vr 1784), de P "__weakref__" 2580 (vr 1785), de P "__doc__" 2581 vN, de P "__hash__" 2582 vN] 5) []),
  (ob (vt "type") none (.cls ⟨"Query", [(vt "object")], [(vr 1783), (vt "object")], 1782, "Query", true, [], [], false, none, false⟩) [none, none, (some (vs "Query" 2472)), (some (vs "Query" 2480)), (some (vb "object.__new__")), (some vT)]),
  (ob (vt "getset_descriptor") none (fi [(vs "__dict__" 2577), (vr 1783), (vb "function.__dict__"), (vb "function.__dict__#set")]) []),
  (ob (vt "getset_descriptor") none (fi [(vs "__weakref__" 2579), (vr 1783), (vb "ExceptionGroup.__weakref__"), vN]) []),
  (ob (vt "super") none (fi [(vr 1783), (vr 1783), (vr 1783)]) []),
  (ob (vt "builtin_function_or_method") none (fi [(vb "object.__init_subclass__"), (vr 1783)]) []),
  (ob (vt "tuple") none (sq [] 0) []),
  (ob vN none (fi []) []),
  (ob (vt "tuple") none (sq [(vs "query" 2588), (vs "source" 2589), (vs "position" 2590), (vs "literal" 2591), (vs "value" 2592)] 0) []),
  (ob (vt "tuple") none (sq [] 0) [])]
def o5_112 (P : Params) : List Obj := [
  (ob vN none (.func (fu (top 136) "fit" "fit" 0 [] vN vN vN vN none vN vN 0)) []),
  (ob (vt "code") none (fi [(vs "fit" 2585), (vs "fit" 2586), (vs "/claim/cut.py" 2587), (vi 881 0), (vi 2 0), (vi 0 0), (vi 0 0), (vi 3 0), (vr 1788), vT, (vi 181 0), (vr 1789), vN, (vr 1790), (vr 1791), (vr 1792), (vi 2593 0), (vi 881 0), (vs "/claim/cut.py" 2594)]) []),
  (ob (vt "function") none (.func (fu (top 136) "fit" "fit" 3 [] vN vN vN (vs "coverstore.queries" 2331) none (vr 1793) vN 0)) []),
  (ob (vt "tuple") none (sq [] 0) []),
  (ob vN none (fi []) []),
  (ob (vt "tuple") none (sq [(vs "query" 2601), (vs "position" 2602)] 0) []),
  (ob (vt "tuple") none (sq [] 0) []),
  (ob vN none (.func (fu (top 138) "is_position" "is_position" 0 [] vN vN vN vN none vN vN 0)) []),
  (ob (vt "code") none (fi [(vs "is_position" 2598), (vs "is_position" 2599), (vs "/claim/cut.py" 2600), (vi 889 0), (vi 2 0), (vi 0 0), (vi 0 0), (vi 3 0), (vr 1795), vT, (vi 181 0), (vr 1796), vN, (vr 1797), (vr 1798), (vr 1799), (vi 2603 0), (vi 889 0), (vs "/claim/cut.py" 2604)]) []),
  (ob (vt "function") none (.func (fu (top 138) "is_position" "is_position" 3 [] vN vN vN (vs "coverstore.evaluating" 2596) none (vr 1800) vN 0)) []),
  (ob (vt "tuple") none (sq [] 0) []),
  (ob vN none (fi []) []),
  (ob (vt "tuple") none (sq [(vs "query" 2609), (vs "position" 2610)] 0) []),
  (ob (vt "tuple") none (sq [] 0) []),
  (ob vN none (.func (fu (top 139) "require_comparison" "require_comparison" 0 [] vN vN vN vN none vN vN 0)) []),
  (ob (vt "code") none (fi [(vs "require_comparison" 2606), (vs "require_comparison" 2607), (vs "/claim/cut.py" 2608), (vi 891 0), (vi 2 0), (vi 0 0), (vi 0 0), (vi 3 0), (vr 1802), vT, (vi 181 0), (vr 1803), vN, (vr 1804), (vr 1805), (vr 1806), (vi 2611 0), (vi 891 0), (vs "/claim/cut.py" 2612)]) [])]
def o5_113 (P : Params) : List Obj := [
  (ob (vt "function") none (.func (fu (top 139) "require_comparison" "require_comparison" 3 [] vN vN vN (vs "coverstore.evaluating" 2596) none (vr 1807) vN 0)) []),
  (ob (vt "tuple") none (sq [] 0) []),
  (ob vN none (fi []) []),
  (ob (vt "tuple") none (sq [(vs "query" 2617), (vs "position" 2618), (vs "bits" 2619), (vs "value" 2620)] 0) []),
  (ob (vt "tuple") none (sq [] 0) []),
  (ob vN none (.func (fu (top 140) "require_values" "require_values" 0 [] vN vN vN vN none vN vN 0)) []),
  (ob (vt "code") none (fi [(vs "require_values" 2614), (vs "require_values" 2615), (vs "/claim/cut.py" 2616), (vi 894 0), (vi 3 0), (vi 0 0), (vi 0 0), (vi 3 0), (vr 1809), vT, (vi 181 0), (vr 1810), vN, (vr 1811), (vr 1812), (vr 1813), (vi 2621 0), (vi 894 0), (vs "/claim/cut.py" 2622)]) []),
  (ob (vt "function") none (.func (fu (top 140) "require_values" "require_values" 3 [] vN vN vN (vs "coverstore.evaluating" 2596) none (vr 1814) vN 0)) []),
  (ob (vt "tuple") none (sq [] 0) []),
  (ob vN none (fi []) []),
  (ob vN none (.func (fu (top 141) "values_at" "values_at" 0 [] vN vN vN vN none vN vN 0)) []),
  (ob (vt "code") none (fi [(vs "values_at" 2624), (vs "values_at" 2625), (vs "/claim/cut.py" 2626), (vi 898 0), (vi 3 0), (vi 0 0), (vi 0 0), (vi 3 0), (vr 1816), vT, (vi 181 0), (vr 1817), vN, vN, vN, (vr 1818), (vi 2627 0), (vi 898 0), (vs "/claim/cut.py" 2628)]) []),
  (ob (vt "function") none (.func (fu (top 141) "values_at" "values_at" 3 [] vN vN vN (vs "coverstore.evaluating" 2596) none (vr 1819) vN 0)) []),
  (ob (vt "tuple") none (sq [] 0) []),
  (ob vN none (fi []) []),
  (ob (vt "tuple") none (sq [(vs "sign" 2633), (vs "one" 2634), (vs "other" 2635)] 0) [])]
def o5_114 (P : Params) : List Obj := [
  (ob (vt "tuple") none (sq [] 0) []),
  (ob vN none (.func (fu (top 142) "is_so" "is_so" 0 [] vN vN vN vN none vN vN 0)) []),
  (ob (vt "code") none (fi [(vs "is_so" 2630), (vs "is_so" 2631), (vs "/claim/cut.py" 2632), (vi 901 0), (vi 3 0), (vi 0 0), (vi 0 0), (vi 3 0), (vr 1821), vT, (vi 181 0), (vr 1822), vN, (vr 1823), (vr 1824), (vr 1825), (vi 2636 0), (vi 901 0), (vs "/claim/cut.py" 2637)]) []),
  (ob (vt "function") none (.func (fu (top 142) "is_so" "is_so" 3 [] vN vN vN (vs "coverstore.evaluating" 2596) none (vr 1826) vN 0)) []),
  (ob (vt "tuple") none (sq [] 0) []),
  (ob vN none (fi []) []),
  (ob (vt "tuple") none (sq [(vs "query" 2642), (vs "position" 2643), (vs "point" 2644)] 0) []),
  (ob (vt "tuple") none (sq [] 0) []),
  (ob vN none (.func (fu (top 143) "key_of" "key_of" 0 [] vN vN vN vN none vN vN 0)) []),
  (ob (vt "code") none (fi [(vs "key_of" 2639), (vs "key_of" 2640), (vs "/claim/cut.py" 2641), (vi 907 0), (vi 3 0), (vi 0 0), (vi 0 0), (vi 3 0), (vr 1828), vT, (vi 181 0), (vr 1829), vN, (vr 1830), (vr 1831), (vr 1832), (vi 2645 0), (vi 907 0), (vs "/claim/cut.py" 2646)]) []),
  (ob (vt "function") none (.func (fu (top 143) "key_of" "key_of" 3 [] vN vN vN (vs "coverstore.evaluating" 2596) none (vr 1833) vN 0)) []),
  (ob (vt "tuple") none (sq [] 0) []),
  (ob vN none (fi []) []),
  (ob (vt "tuple") none (sq [(vs "source" 2651), (vs "query" 2652), (vs "position" 2653), (vs "point" 2654), (vs "word" 2655), (vs "first" 2656), (vs "second" 2657), (vs "values" 2658)] 0) []),
  (ob (vt "tuple") none (sq [] 0) []),
  (ob vN none (.func (fu (top 144) "is_true" "is_true" 0 [] vN vN vN vN none vN vN 0)) [])]
def o5_115 (P : Params) : List Obj := [
  (ob (vt "code") none (fi [(vs "is_true" 2648), (vs "is_true" 2649), (vs "/claim/cut.py" 2650), (vi 909 0), (vi 4 0), (vi 0 0), (vi 0 0), (vi 3 0), (vr 1835), vT, (vi 181 0), (vr 1836), vN, (vr 1837), (vr 1838), (vr 1839), (vi 2659 0), (vi 909 0), (vs "/claim/cut.py" 2660)]) []),
  (ob (vt "function") none (.func (fu (top 144) "is_true" "is_true" 3 [] vN vN vN (vs "coverstore.evaluating" 2596) none (vr 1840) vN 0)) []),
  (ob (vt "tuple") none (sq [] 0) []),
  (ob vN none (fi []) []),
  (ob vN none (.func (fu (top 145) "laid" "laid" 0 [] vN vN vN vN none vN vN 0)) []),
  (ob (vt "code") none (fi [(vs "laid" 2662), (vs "laid" 2663), (vs "/claim/cut.py" 2664), (vi 915 0), (vi 3 0), (vi 0 0), (vi 0 0), (vi 3 0), (vr 1842), vT, (vi 181 0), (vr 1843), vN, vN, vN, (vr 1844), (vi 2665 0), (vi 915 0), (vs "/claim/cut.py" 2666)]) []),
  (ob (vt "function") none (.func (fu (top 145) "laid" "laid" 3 [] vN vN vN (vs "coverstore.evaluating" 2596) none (vr 1845) vN 0)) []),
  (ob (vt "tuple") none (sq [] 0) []),
  (ob vN none (fi []) []),
  (ob (vt "tuple") none (sq [(vs "sign" 2671), (vs "value" 2672), (vs "integer" 2673), (vs "bits" 2674), (vs "greatest" 2675)] 0) []),
  (ob (vt "tuple") none (sq [] 0) []),
  (ob vN none (.func (fu (top 146) "false_span" "false_span" 0 [] vN vN vN vN none vN vN 0)) []),
  (ob (vt "code") none (fi [(vs "false_span" 2668), (vs "false_span" 2669), (vs "/claim/cut.py" 2670), (vi 927 0), (vi 4 0), (vi 0 0), (vi 0 0), (vi 3 0), (vr 1847), vT, (vi 181 0), (vr 1848), vN, (vr 1849), (vr 1850), (vr 1851), (vi 2676 0), (vi 927 0), (vs "/claim/cut.py" 2677)]) []),
  (ob (vt "function") none (.func (fu (top 146) "false_span" "false_span" 3 [] vN vN vN (vs "coverstore.evaluating" 2596) none (vr 1852) vN 0)) []),
  (ob (vt "tuple") none (sq [] 0) []),
  (ob vN none (fi []) [])]
def o5_116 (P : Params) : List Obj := [
  (ob (vt "tuple") none (sq [(vs "sign" 2682), (vs "integer" 2683), (vs "value" 2684), (vs "bits" 2685)] 0) []),
  (ob (vt "tuple") none (sq [] 0) []),
  (ob vN none (.func (fu (top 147) "false_span_behind" "false_span_behind" 0 [] vN vN vN vN none vN vN 0)) []),
  (ob (vt "code") none (fi [(vs "false_span_behind" 2679), (vs "false_span_behind" 2680), (vs "/claim/cut.py" 2681), (vi 936 0), (vi 4 0), (vi 0 0), (vi 0 0), (vi 3 0), (vr 1854), vT, (vi 181 0), (vr 1855), vN, (vr 1856), (vr 1857), (vr 1858), (vi 2686 0), (vi 936 0), (vs "/claim/cut.py" 2687)]) []),
  (ob (vt "function") none (.func (fu (top 147) "false_span_behind" "false_span_behind" 3 [] vN vN vN (vs "coverstore.evaluating" 2596) none (vr 1859) vN 0)) []),
  (ob (vt "tuple") none (sq [] 0) []),
  (ob vN none (fi []) []),
  (ob (vt "tuple") none (sq [(vs "value" 2692), (vs "span" 2693), (vs "bits" 2694), (vs "digits" 2695), (vs "least" 2696), (vs "greatest" 2697), (vs "length" 2698)] 0) []),
  (ob (vt "tuple") none (sq [] 0) []),
  (ob vN none (.func (fu (top 148) "widest_between" "widest_between" 0 [] vN vN vN vN none vN vN 0)) []),
  (ob (vt "code") none (fi [(vs "widest_between" 2689), (vs "widest_between" 2690), (vs "/claim/cut.py" 2691), (vi 942 0), (vi 3 0), (vi 0 0), (vi 0 0), (vi 3 0), (vr 1861), vT, (vi 181 0), (vr 1862), vN, (vr 1863), (vr 1864), (vr 1865), (vi 2699 0), (vi 942 0), (vs "/claim/cut.py" 2700)]) []),
  (ob (vt "function") none (.func (fu (top 148) "widest_between" "widest_between" 3 [] vN vN vN (vs "coverstore.evaluating" 2596) none (vr 1866) vN 0)) []),
  (ob (vt "tuple") none (sq [] 0) []),
  (ob vN none (fi []) []),
  (ob (vt "tuple") none (sq [(vs "query" 2705), (vs "position" 2706), (vs "point" 2707), (vs "bits" 2708), (vs "sign" 2709), (vs "one" 2710), (vs "other" 2711), (vs "left" 2712), (vs "right" 2713), (vs "digits" 2714), (vs "others" 2715), (vs "length" 2716)] 0) []),
  (ob (vt "tuple") none (sq [] 0) [])]
def o5_117 (P : Params) : List Obj := [
  (ob vN none (.func (fu (top 149) "false_ranges" "false_ranges" 0 [] vN vN vN vN none vN vN 0)) []),
  (ob (vt "code") none (fi [(vs "false_ranges" 2702), (vs "false_ranges" 2703), (vs "/claim/cut.py" 2704), (vi 949 0), (vi 4 0), (vi 0 0), (vi 0 0), (vi 3 0), (vr 1868), vT, (vi 181 0), (vr 1869), vN, (vr 1870), (vr 1871), (vr 1872), (vi 2717 0), (vi 949 0), (vs "/claim/cut.py" 2718)]) []),
  (ob (vt "function") none (.func (fu (top 149) "false_ranges" "false_ranges" 3 [] vN vN vN (vs "coverstore.evaluating" 2596) none (vr 1873) vN 0)) []),
  (ob (vt "tuple") none (sq [] 0) []),
  (ob vN none (fi []) []),
  (ob vN none (.func (fu (top 150) "false_around" "false_around" 0 [] vN vN vN vN none vN vN 0)) []),
  (ob (vt "code") none (fi [(vs "false_around" 2720), (vs "false_around" 2721), (vs "/claim/cut.py" 2722), (vi 961 0), (vi 4 0), (vi 0 0), (vi 0 0), (vi 3 0), (vr 1875), vT, (vi 181 0), (vr 1876), vN, vN, vN, (vr 1877), (vi 2723 0), (vi 961 0), (vs "/claim/cut.py" 2724)]) []),
  (ob (vt "function") none (.func (fu (top 150) "false_around" "false_around" 3 [] vN vN vN (vs "coverstore.evaluating" 2596) none (vr 1878) vN 0)) []),
  (ob (vt "tuple") none (sq [] 0) []),
  (ob vN none (fi []) []),
  (ob (vt "tuple") none (sq [(vs "query" 2729), (vs "term" 2730), (vs "box" 2731)] 0) []),
  (ob (vt "tuple") none (sq [] 0) []),
  (ob vN none (.func (fu (top 151) "term_range" "term_range" 0 [] vN vN vN vN none vN vN 0)) []),
  (ob (vt "code") none (fi [(vs "term_range" 2726), (vs "term_range" 2727), (vs "/claim/cut.py" 2728), (vi 964 0), (vi 3 0), (vi 0 0), (vi 0 0), (vi 3 0), (vr 1880), vT, (vi 181 0), (vr 1881), vN, (vr 1882), (vr 1883), (vr 1884), (vi 2732 0), (vi 964 0), (vs "/claim/cut.py" 2733)]) []),
  (ob (vt "function") none (.func (fu (top 151) "term_range" "term_range" 3 [] vN vN vN (vs "coverstore.evaluating" 2596) none (vr 1885) vN 0)) []),
  (ob (vt "tuple") none (sq [] 0) [])]
def o5_118 (P : Params) : List Obj := [
  (ob vN none (fi []) []),
  (ob (vt "tuple") none (sq [(vs "query" 2738), (vs "position" 2739), (vs "box" 2740), (vs "sign" 2741), (vs "one" 2742), (vs "other" 2743), (vs "left" 2744), (vs "right" 2745), (vs "least" 2746), (vs "greatest" 2747)] 0) []),
  (ob (vt "tuple") none (sq [] 0) []),
  (ob vN none (.func (fu (top 152) "is_false_in" "is_false_in" 0 [] vN vN vN vN none vN vN 0)) []),
  (ob (vt "code") none (fi [(vs "is_false_in" 2735), (vs "is_false_in" 2736), (vs "/claim/cut.py" 2737), (vi 966 0), (vi 3 0), (vi 0 0), (vi 0 0), (vi 3 0), (vr 1887), vT, (vi 181 0), (vr 1888), vN, (vr 1889), (vr 1890), (vr 1891), (vi 2748 0), (vi 966 0), (vs "/claim/cut.py" 2749)]) []),
  (ob (vt "function") none (.func (fu (top 152) "is_false_in" "is_false_in" 3 [] vN vN vN (vs "coverstore.evaluating" 2596) none (vr 1892) vN 0)) []),
  (ob (vt "tuple") none (sq [] 0) []),
  (ob vN none (fi []) []),
  (ob (vt "tuple") none (sq [(vs "source" 2754), (vs "query" 2755), (vs "point" 2756), (vs "position" 2757)] 0) []),
  (ob (vt "tuple") none (sq [] 0) []),
  (ob vN none (.func (fu (top 153) "failing_at" "failing_at" 0 [] vN vN vN vN none vN vN 0)) []),
  (ob (vt "code") none (fi [(vs "failing_at" 2751), (vs "failing_at" 2752), (vs "/claim/cut.py" 2753), (vi 981 0), (vi 3 0), (vi 0 0), (vi 0 0), (vi 3 0), (vr 1894), vT, (vi 181 0), (vr 1895), vN, (vr 1896), (vr 1897), (vr 1898), (vi 2758 0), (vi 981 0), (vs "/claim/cut.py" 2759)]) []),
  (ob (vt "function") none (.func (fu (top 153) "failing_at" "failing_at" 3 [] vN vN vN (vs "coverstore.evaluating" 2596) none (vr 1899) vN 0)) [])]
def o5 (P : Params) : List Obj := o5_0 P ++ (o1_1 P ++ (o1_2 P ++ (o1_3 P ++ (o1_4 P ++ (o1_5 P ++ (o1_6 P ++ (o1_7 P ++ (o1_8 P ++ (o1_9 P ++ (o1_10 P ++ (o1_11 P ++ (o1_12 P ++ (o1_13 P ++ (o1_14 P ++ (o1_15 P ++ (o1_16 P ++ (o1_17 P ++ (o1_18 P ++ (o1_19 P ++ (o1_20 P ++ (o1_21 P ++ (o1_22 P ++ (o1_23 P ++ (o1_24 P ++ (o1_25 P ++ (o1_26 P ++ (o1_27 P ++ (o1_28 P ++ (o1_29 P ++ (o1_30 P ++ (o1_31 P ++ (o1_32 P ++ (o1_33 P ++ (o1_34 P ++ (o1_35 P ++ (o1_36 P ++ (o1_37 P ++ (o1_38 P ++ (o1_39 P ++ (o2_40 P ++ (o2_41 P ++ (o2_42 P ++ (o2_43 P ++ (o2_44 P ++ (o2_45 P ++ (o2_46 P ++ (o2_47 P ++ (o2_48 P ++ (o2_49 P ++ (o2_50 P ++ (o2_51 P ++ (o2_52 P ++ (o2_53 P ++ (o2_54 P ++ (o2_55 P ++ (o2_56 P ++ (o2_57 P ++ (o2_58 P ++ (o2_59 P ++ (o2_60 P ++ (o2_61 P ++ (o2_62 P ++ (o2_63 P ++ (o2_64 P ++ (o2_65 P ++ (o2_66 P ++ (o2_67 P ++ (o3_68 P ++ (o3_69 P ++ (o4_70 P ++ (o4_71 P ++ (o4_72 P ++ (o4_73 P ++ (o4_74 P ++ (o4_75 P ++ (o4_76 P ++ (o4_77 P ++ (o4_78 P ++ (o4_79 P ++ (o4_80 P ++ (o4_81 P ++ (o4_82 P ++ (o4_83 P ++ (o4_84 P ++ (o4_85 P ++ (o4_86 P ++ (o4_87 P ++ (o4_88 P ++ (o4_89 P ++ (o5_90 P ++ (o5_91 P ++ (o5_92 P ++ (o5_93 P ++ (o5_94 P ++ (o5_95 P ++ (o5_96 P ++ (o5_97 P ++ (o5_98 P ++ (o5_99 P ++ (o5_100 P ++ (o5_101 P ++ (o5_102 P ++ (o5_103 P ++ (o5_104 P ++ (o5_105 P ++ (o5_106 P ++ (o5_107 P ++ (o5_108 P ++ (o5_109 P ++ (o5_110 P ++ (o5_111 P ++ (o5_112 P ++ (o5_113 P ++ (o5_114 P ++ (o5_115 P ++ (o5_116 P ++ (o5_117 P ++ (o5_118 P))))))))))))))))))))))))))))))))))))))))))))))))))))))))))))))))))))))))))))))))))))))))))))))))))))))))))))))))))))))
def S5 (w : World) (os : OsState) : SharedT := ⟨lay (o5 w.params) .nil 0, 1901, {}, #[], {}, 2773, os⟩
def pos5 : Pos := ⟨991, 0, 991, 4⟩
def n5 : Nat := 2957
def o6_0 (P : Params) : List Obj := [
  boot_o_0 P,
  boot_o_1 P,
  (ob vN none (di [de P "type.__subclasses__.ArithmeticError.0" 1110 (vi 693 0), de P "type.__subclasses__.ArithmeticError.n" 1111 (vi 1 0)] 2) []),
  (ob (vt "dict") none (di [de P "__name__" 165 (vs "coverstore.papers" 2761), de P "__doc__" 166 vN, de P "__package__" 167 vN, de P "__loader__" 168 (vb "__main__.__loader__#opaque"), de P "__spec__" 169 vN, de P "__annotations__" 170 (vr 6), de P "__builtins__" 171 (vr 4), de P "__file__" 173 (vs "/claim/cut.py" 172), de P "__cached__" 174 vN, de P "_wall" 193 (vr 21), de P "CoverError" 213 (vr 31), de P "InvalidBits" 238 (vr 51), de P "InvalidValue" 263 (vr 70), de P "InvalidRange" 288 (vr 89), de P "InvalidBox" 313 (vr 108), de P "InvalidPlace" 338 (vr 127), de P "InvalidCount" 363 (vr 146), de P "InvalidName" 388 (vr 165), de P "InvalidColumns" 413 (vr 184), de P "InvalidOrder" 438 (vr 203), de P "InvalidKey" 463 (vr 222), de P "InvalidWrite" 488 (vr 241), de P "InvalidQuery" 515 (vr 260), de P "InvalidText" 540 (vr 279), de P "InvalidPaper" 565 (vr 298), de P "InvalidLimit" 590 (vr 317), de P "InvalidPage" 615 (vr 336), de P "UnknownTable" 642 (vr 355), de P "UnknownVersion" 669 (vr 375), de P "TooOld" 696 (vr 395), de P "UnknownName" 723 (vr 415), de P "NameTaken" 750 (vr 435), de P "KeyTaken" 779 (vr 455), de P "NoSuchRow" 808 (vr 475), de P "Unlike" 826 (vr 488), de P "NoHalf" 853 (vr 508), de P "NotJoined" 880 (vr 528), de P "NotAPoint" 898 (vr 541), de P "WrongColumns" 925 (vr 561), de P "NotEmpty" 952 (vr 581), de P "Ended" 970 (vr 594), de P "Changed" 999 (vr 614), de P "Violated" 1028 (vr 634), de P "Crashed" 1046 (vr 647), de P "DiskInUse" 1064 (vr 660), de P "NoStore" 1082 (vr 673), de P "TooMany" 1113 (vr 693), de P "MAX_BITS" 1117 (vi 10 1116), de P "DIGITS_ranges" 1119 (vs "01" 1118), de P "is_integer" 1126 (vr 703), de P "is_bits" 1133 (vr 710), de P "is_value" 1141 (vr 717), de P "is_range" 1147 (vr 722), de P "require_bits" 1154 (vr 729), de P "require_value" 1162 (vr 736), de P "require_range" 1170 (vr 743), de P "number_of" 1179 (vr 750), de P "range_of" 1185 (vr 755), de P "bounds" 1195 (vr 762), de P "common_range" 1204 (vr 769), de P "common_length" 1213 (vr 776), de P "widest_range" 1225 (vr 785), de P "PAGE_SIZE" 1229 (vi 32 1228), de P "require_page" 1236 (vr 792), de P "Disk" 1330 (vr 866), de P "MOST_RANGES" 1334 (vi 5 1333), de P "ALL" 1336 (vs "*" 1335), de P "NO_RANGES" 1338 (vs "-" 1337), de P "COMMA_boxes" 1340 (vs "," 1339), de P "require_ranges" 1350 (vr 877), de P "ranges_text" 1356 (vr 882), de P "ranges_in" 1362 (vr 887), de P "Box" 1643 (vr 1096), de P "MOST_PAYLOAD" 1649 (vi 1000000000 1648), de P "INSERT" 1651 (vs "insert" 1650), de P "UPDATE" 1653 (vs "update" 1652), de P "DELETE" 1655 (vs "delete" 1654), de P "WRITE_SIZES" 1662 (vr 1101), de P "is_payload" 1669 (vr 1108), de P "is_table" 1677 (vr 1115), de P "is_key" 1683 (vr 1120), de P "require_table" 1691 (vr 1127), de P "require_key" 1700 (vr 1134), de P "require_box" 1709 (vr 1141), de P "is_write" 1715 (vr 1146), de P "require_writes" 1725 (vr 1153), de P "rows_after" 1740 (vr 1160), de P "alike_columns" 1750 (vr 1167), de P "gap_between" 1756 (vr 1172), de P "Source" 1811 (vr 1209), de P "Snapshot" 1895 (vr 1282), de P "Overlay" 1978 (vr 1349), de P "LETTERS" 1982 (vs "abcdefghijklmnopqrstuvwxyz" 1981), de P "MOST_LETTERS" 1984 (vi 8 1983), de P "RESERVED" 1987 (vr 1352), de P "MOST_TABLES" 1989 (vi 8 1988), de P "MOST_COLUMNS" 1991 (vi 4 1990), de P "MOST_OTHER_ORDERS" 1993 (vi 2 1992), de P "is_name" 1999 (vr 1357), de P "require_name" 2007 (vr 1364), de P "is_order" 2013 (vr 1673), de P "is_order_bases" 2014 (vr 1369), de P "require_orders" 2025 (vr 1376), de P "Table" 2126 (vr 1445), de P "Base" 2330 (vr 1611), de P "POSITIVE" 2334 (vs "row" 2333), de P "DENIED" 2336 (vs "none" 2335), de P "SIGNS" 2341 (vr 1616), de P "LITERAL_LENGTH" 2343 (vi 3 2342), de P "MOST_TERMS" 2345 (vi 4 2344), de P "MOST_LITERALS" 2347 (vi 8 2346), de P "MOST_VARIABLES" 2349 (vi 5 2348), de P "MOST_INTEGER" 2351 (vi 1023 2350), de P "MOST_DIGITS_queries" 2353 (vi 4 2352), de P "DIGITS_queries" 2355 (vs "0123456789" 2354), de P "COMMA_queries" 2357 (vs "," 2356), de P "BETWEEN" 2359 (vs ", " 2358), de P "BEFORE_ORDER" 2361 (vs " by " 2360), de P "NOT" 2363 (vs "not" 2362), de P "is_term" 2370 (vr 1623), de P "are_terms" 2376 (vr 1628), de P "is_literal" 2386 (vr 1635), de P "is_comparison" 2393 (vr 1642), de P "terms_of" 2400 (vr 1649), de P "integers_in" 2406 (vr 1654), de P "integers_in_queries" 2407 (vr 1654), de P "variables_in" 2417 (vr 1661), de P "require_literals" 2426 (vr 1668), de P "is_order_queries" 2433 (vr 1673), de P "literal_text" 2439 (vr 1678), de P "query_text" 2445 (vr 1683), de P "term_in" 2451 (vr 1688), de P "row_literal_in" 2457 (vr 1693), de P "literal_in" 2465 (vr 1700), de P "query_in" 2471 (vr 1705), de P "Query" 2584 (vr 1783), de P "fit" 2595 (vr 1794), de P "is_position" 2605 (vr 1801), de P "require_comparison" 2613 (vr 1808), de P "require_values" 2623 (vr 1815), de P "values_at" 2629 (vr 1820), de P "is_so" 2638 (vr 1827), de P "key_of" 2647 (vr 1834), de P "is_true" 2661 (vr 1841), de P "laid" 2667 (vr 1846), de P "false_span" 2678 (vr 1853), de P "false_span_behind" 2688 (vr 1860), de P "widest_between" 2701 (vr 1867), de P "false_ranges" 2719 (vr 1874), de P "false_around" 2725 (vr 1879), de P "term_range" 2734 (vr 1886), de P "is_false_in" 2750 (vr 1893), de P "failing_at" 2760 (vr 1900), de P "GAP" 2764 (vs "gap" 2763), de P "ROW" 2766 (vs "row" 2765), de P "FALSE" 2768 (vs "false" 2767), de P "POINT" 2770 (vs "point" 2769), de P "JOIN" 2772 (vs "join" 2771), de P "PART" 2774 (vs "part" 2773), de P "FIGURES" 2776 (vs "0123456789" 2775), de P "MOST_FIGURES" 2778 (vi 10 2777), de P "EMPTY" 2780 (vs "-" 2779), de P "COMMA_papers" 2782 (vs "," 2781), de P "BLANK" 2784 (vs " " 2783), de P "FEED" 2786 (vs "\n" 2785), de P "is_number" 2794 (vr 1907), de P "are_values" 2800 (vr 1912), de P "is_box" 2809 (vr 1919), de P "Places" 2857 (vr 1948), de P "gap_box" 2868 (vr 1959), de P "row_box" 2879 (vr 1966), de P "false_line_box" 2890 (vr 1973), de P "point_box" 2900 (vr 1980), de P "join_box" 2912 (vr 1987), de P "part_box" 2922 (vr 1994), de P "KINDS" 2935 (vr 1995)] 176) []),
  boot_o_4 P,
  boot_o_5 P,
  boot_o_6 P,
  boot_o_7 P,
  boot_o_8 P,
  boot_o_9 P,
  boot_o_10 P,
  (ob (vt "tuple") none (sq [] 0) []),
  (ob vN none (fi [(vi 1 0), (vi 0 0), (vr 20), (vi 5 0), (vi 0 0), (vr 27), (vi 7 0), (vi 0 0), (vr 40), (vi 12 0), (vi 0 0), (vr 59), (vi 17 0), (vi 0 0), (vr 78), (vi 22 0), (vi 0 0), (vr 97), (vi 27 0), (vi 0 0), (vr 116), (vi 32 0), (vi 0 0), (vr 135), (vi 37 0), (vi 0 0), (vr 154), (vi 42 0), (vi 0 0), (vr 173), (vi 47 0), (vi 0 0), (vr 192), (vi 52 0), (vi 0 0), (vr 211), (vi 57 0), (vi 0 0), (vr 230), (vi 62 0), (vi 0 0), (vr 249), (vi 68 0), (vi 0 0), (vr 268), (vi 73 0), (vi 0 0), (vr 287), (vi 78 0), (vi 0 0), (vr 306), (vi 83 0), (vi 0 0), (vr 325), (vi 88 0), (vi 0 0), (vr 344), (vi 93 0), (vi 0 0), (vr 364), (vi 98 0), (vi 0 0), (vr 384), (vi 103 0), (vi 0 0), (vr 404), (vi 108 0), (vi 0 0), (vr 424), (vi 113 0), (vi 0 0), (vr 444), (vi 119 0), (vi 0 0), (vr 464), (vi 125 0), (vi 0 0), (vr 484), (vi 127 0), (vi 0 0), (vr 497), (vi 132 0), (vi 0 0), (vr 517), (vi 137 0), (vi 0 0), (vr 537), (vi 139 0), (vi 0 0), (vr 550), (vi 144 0), (vi 0 0), (vr 570), (vi 149 0), (vi 0 0), (vr 590), (vi 151 0), (vi 0 0), (vr 603), (vi 157 0), (vi 0 0), (vr 623), (vi 163 0), (vi 0 0), (vr 643), (vi 165 0), (vi 0 0), (vr 656), (vi 167 0), (vi 0 0), (vr 669), (vi 169 0), (vi 0 0), (vr 682), (vi 178 0), (vi 0 0), (vr 702), (vi 180 0), (vi 0 0), (vr 709), (vi 182 0), (vi 0 0), (vr 716), (vi 184 0), (vi 0 0), (vr 721), (vi 188 0), (vi 0 0), (vr 728), (vi 191 0), (vi 0 0), (vr 735), (vi 194 0), (vi 0 0), (vr 742), (vi 197 0), (vi 0 0), (vr 749), (vi 202 0), (vi 0 0), (vr 754), (vi 206 0), (vi 0 0), (vr 761), (vi 212 0), (vi 0 0), (vr 768), (vi 219 0), (vi 0 0), (vr 775), (vi 224 0), (vi 0 0), (vr 784), (vi 234 0), (vi 0 0), (vr 791), (vi 237 0), (vi 0 0), (vr 798), (vi 286 0), (vi 0 0), (vr 876), (vi 292 0), (vi 0 0), (vr 881), (vi 296 0), (vi 0 0), (vr 886), (vi 306 0), (vi 0 0), (vr 893), (vi 452 0), (vi 0 0), (vr 1107), (vi 454 0), (vi 0 0), (vr 1114), (vi 456 0), (vi 0 0), (vr 1119), (vi 460 0), (vi 0 0), (vr 1126), (vi 463 0), (vi 0 0), (vr 1133), (vi 467 0), (vi 0 0), (vr 1140), (vi 471 0), (vi 0 0), (vr 1145), (vi 477 0), (vi 0 0), (vr 1152), (vi 483 0), (vi 0 0), (vr 1159), (vi 495 0), (vi 0 0), (vr 1166), (vi 500 0), (vi 0 0), (vr 1171), (vi 510 0), (vi 0 0), (vr 1178), (vi 530 0), (vi 0 0), (vr 1219), (vi 559 0), (vi 0 0), (vr 1290), (vi 602 0), (vi 0 0), (vr 1356), (vi 606 0), (vi 0 0), (vr 1363), (vi 611 0), (vi 0 0), (vr 1368), (vi 616 0), (vi 0 0), (vr 1375), (vi 622 0), (vi 0 0), (vr 1382), (vi 657 0), (vi 0 0), (vr 1455), (vi 768 0), (vi 0 0), (vr 1622), (vi 770 0), (vi 0 0), (vr 1627), (vi 772 0), (vi 0 0), (vr 1634), (vi 779 0), (vi 0 0), (vr 1641), (vi 781 0), (vi 0 0), (vr 1648), (vi 783 0), (vi 0 0), (vr 1653), (vi 786 0), (vi 0 0), (vr 1660), (vi 793 0), (vi 0 0), (vr 1667), (vi 799 0), (vi 0 0), (vr 1672), (vi 802 0), (vi 0 0), (vr 1677), (vi 808 0), (vi 0 0), (vr 1682), (vi 811 0), (vi 0 0), (vr 1687), (vi 815 0), (vi 0 0), (vr 1692), (vi 820 0), (vi 0 0), (vr 1699), (vi 827 0), (vi 0 0), (vr 1704), (vi 835 0), (vi 0 0), (vr 1711), (vi 881 0), (vi 0 0), (vr 1793), (vi 889 0), (vi 0 0), (vr 1800), (vi 891 0), (vi 0 0), (vr 1807), (vi 894 0), (vi 0 0), (vr 1814), (vi 898 0), (vi 0 0), (vr 1819), (vi 901 0), (vi 0 0), (vr 1826), (vi 907 0), (vi 0 0), (vr 1833), (vi 909 0), (vi 0 0), (vr 1840), (vi 915 0), (vi 0 0), (vr 1845), (vi 927 0), (vi 0 0), (vr 1852), (vi 936 0), (vi 0 0), (vr 1859), (vi 942 0), (vi 0 0), (vr 1866), (vi 949 0), (vi 0 0), (vr 1873), (vi 961 0), (vi 0 0), (vr 1878), (vi 964 0), (vi 0 0), (vr 1885), (vi 966 0), (vi 0 0), (vr 1892), (vi 981 0), (vi 0 0), (vr 1899), (vi 999 0), (vi 0 0), (vr 1906), (vi 1001 0), (vi 0 0), (vr 1911), (vi 1003 0), (vi 0 0), (vr 1918), (vi 1005 0), (vi 0 0), (vr 1925), (vi 1027 0), (vi 0 0), (vr 1958), (vi 1033 0), (vi 0 0), (vr 1965), (vi 1039 0), (vi 0 0), (vr 1972), (vi 1045 0), (vi 0 0), (vr 1979), (vi 1050 0), (vi 0 0), (vr 1986), (vi 1059 0), (vi 0 0), (vr 1993)]) []),
  (ob (vt "code") none (fi [(vs "<module>" 182), (vs "<module>" 183), (vs "/claim/cut.py" 184), (vi 1 0), (vi 0 0), (vi 0 0), (vi 0 0), (vi 0 0), (vr 11), vF, (vi 181 0), (vr 12), vN, vN, vN, vN, (vi 185 0), (vi 1 0), (vs "/claim/cut.py" 186)]) []),
  (ob (vt "frame") none .plain [(some (vr 13)), (some (vr 3)), (some (vr 3)), none, (some (vs "__main__" 164)), none, (some (vr 0))]),
  (ob (vt "tuple") none (sq [] 0) [])]
def o6_118 (P : Params) : List Obj := [
  (ob vN none (fi []) []),
  (ob (vt "tuple") none (sq [(vs "query" 2738), (vs "position" 2739), (vs "box" 2740), (vs "sign" 2741), (vs "one" 2742), (vs "other" 2743), (vs "left" 2744), (vs "right" 2745), (vs "least" 2746), (vs "greatest" 2747)] 0) []),
  (ob (vt "tuple") none (sq [] 0) []),
  (ob vN none (.func (fu (top 152) "is_false_in" "is_false_in" 0 [] vN vN vN vN none vN vN 0)) []),
  (ob (vt "code") none (fi [(vs "is_false_in" 2735), (vs "is_false_in" 2736), (vs "/claim/cut.py" 2737), (vi 966 0), (vi 3 0), (vi 0 0), (vi 0 0), (vi 3 0), (vr 1887), vT, (vi 181 0), (vr 1888), vN, (vr 1889), (vr 1890), (vr 1891), (vi 2748 0), (vi 966 0), (vs "/claim/cut.py" 2749)]) []),
  (ob (vt "function") none (.func (fu (top 152) "is_false_in" "is_false_in" 3 [] vN vN vN (vs "coverstore.evaluating" 2596) none (vr 1892) vN 0)) []),
  (ob (vt "tuple") none (sq [] 0) []),
  (ob vN none (fi []) []),
  (ob (vt "tuple") none (sq [(vs "source" 2754), (vs "query" 2755), (vs "point" 2756), (vs "position" 2757)] 0) []),
  (ob (vt "tuple") none (sq [] 0) []),
  (ob vN none (.func (fu (top 153) "failing_at" "failing_at" 0 [] vN vN vN vN none vN vN 0)) []),
  (ob (vt "code") none (fi [(vs "failing_at" 2751), (vs "failing_at" 2752), (vs "/claim/cut.py" 2753), (vi 981 0), (vi 3 0), (vi 0 0), (vi 0 0), (vi 3 0), (vr 1894), vT, (vi 181 0), (vr 1895), vN, (vr 1896), (vr 1897), (vr 1898), (vi 2758 0), (vi 981 0), (vs "/claim/cut.py" 2759)]) []),
  (ob (vt "function") none (.func (fu (top 153) "failing_at" "failing_at" 3 [] vN vN vN (vs "coverstore.evaluating" 2596) none (vr 1899) vN 0)) []),
  (ob (vt "tuple") none (sq [] 0) []),
  (ob vN none (fi []) []),
  (ob (vt "tuple") none (sq [(vs "value" 2790), (vs "count" 2791)] 0) [])]
def o6_119 (P : Params) : List Obj := [
  (ob (vt "tuple") none (sq [] 0) []),
  (ob vN none (.func (fu (top 167) "is_number" "is_number" 0 [] vN vN vN vN none vN vN 0)) []),
  (ob (vt "code") none (fi [(vs "is_number" 2787), (vs "is_number" 2788), (vs "/claim/cut.py" 2789), (vi 999 0), (vi 2 0), (vi 0 0), (vi 0 0), (vi 3 0), (vr 1901), vT, (vi 181 0), (vr 1902), vN, (vr 1903), (vr 1904), (vr 1905), (vi 2792 0), (vi 999 0), (vs "/claim/cut.py" 2793)]) []),
  (ob (vt "function") none (.func (fu (top 167) "is_number" "is_number" 3 [] vN vN vN (vs "coverstore.papers" 2761) none (vr 1906) vN 0)) []),
  (ob (vt "tuple") none (sq [] 0) []),
  (ob vN none (fi []) []),
  (ob vN none (.func (fu (top 168) "are_values" "are_values" 0 [] vN vN vN vN none vN vN 0)) []),
  (ob (vt "code") none (fi [(vs "are_values" 2795), (vs "are_values" 2796), (vs "/claim/cut.py" 2797), (vi 1001 0), (vi 3 0), (vi 0 0), (vi 0 0), (vi 3 0), (vr 1908), vT, (vi 181 0), (vr 1909), vN, vN, vN, (vr 1910), (vi 2798 0), (vi 1001 0), (vs "/claim/cut.py" 2799)]) []),
  (ob (vt "function") none (.func (fu (top 168) "are_values" "are_values" 3 [] vN vN vN (vs "coverstore.papers" 2761) none (vr 1911) vN 0)) []),
  (ob (vt "tuple") none (sq [] 0) []),
  (ob vN none (fi []) []),
  (ob (vt "tuple") none (sq [(vs "thing" 2804), (vs "bits" 2805), (vs "count" 2806)] 0) []),
  (ob (vt "tuple") none (sq [] 0) []),
  (ob vN none (.func (fu (top 169) "is_box" "is_box" 0 [] vN vN vN vN none vN vN 0)) []),
  (ob (vt "code") none (fi [(vs "is_box" 2801), (vs "is_box" 2802), (vs "/claim/cut.py" 2803), (vi 1003 0), (vi 3 0), (vi 0 0), (vi 0 0), (vi 3 0), (vr 1913), vT, (vi 181 0), (vr 1914), vN, (vr 1915), (vr 1916), (vr 1917), (vi 2807 0), (vi 1003 0), (vs "/claim/cut.py" 2808)]) []),
  (ob (vt "function") none (.func (fu (top 169) "is_box" "is_box" 3 [] vN vN vN (vs "coverstore.papers" 2761) none (vr 1918) vN 0)) [])]
def o6_120 (P : Params) : List Obj := [
  (ob (vt "tuple") none (sq [] 0) []),
  (ob (vt "builtin_function_or_method") none (fi [(vb "type.__prepare__"), (vt "type")]) []),
  (ob (vt "dict") none (di [de P "__module__" 2817 (vs "coverstore.papers" 2761), de P "__qualname__" 2819 (vs "Places" 2818), de P "__firstlineno__" 2821 (vi 1005 2820), de P "__init__" 2830 (vr 1933), de P "literal_at" 2836 (vr 1938), de P "take_line" 2845 (vr 1945), de P "__static_attributes__" 2850 (vr 1946)] 7) []),
  (ob (vt "tuple") none (sq [] 0) []),
  (ob vN none (fi [(vi 1007 0), (vi 4 0), (vr 1932), (vi 1013 0), (vi 4 0), (vr 1937), (vi 1021 0), (vi 4 0), (vr 1944)]) []),
  (ob (vt "code") none (fi [(vs "Places" 2812), (vs "Places" 2813), (vs "/claim/cut.py" 2814), (vi 1005 0), (vi 0 0), (vi 0 0), (vi 0 0), (vi 0 0), (vr 1923), vF, (vi 181 0), (vr 1924), vN, vN, vN, vN, (vi 2815 0), (vi 1005 0), (vs "/claim/cut.py" 2816)]) []),
  (ob (vt "frame") none .plain [(some (vr 1925)), (some (vr 3)), (some (vr 1922)), none, (some (vs "coverstore.papers" 2761)), none, (some (vr 0))]),
  (ob (vt "tuple") none (sq [] 0) []),
  (ob vN none (fi []) []),
  (ob (vt "tuple") none (sq [(vs "self" 2825), (vs "bits" 2826), (vs "query" 2827)] 0) []),
  (ob (vt "tuple") none (sq [] 0) []),
  (ob vN none (.func (fu (inClass (top 170) 0) "__init__" "Places.__init__" 0 [] vN vN vN vN none vN vN 0)) []),
  (ob (vt "code") none (fi [(vs "__init__" 2822), (vs "Places.__init__" 2823), (vs "/claim/cut.py" 2824), (vi 1007 0), (vi 3 0), (vi 0 0), (vi 0 0), (vi 3 0), (vr 1927), vT, (vi 181 0), (vr 1928), vN, (vr 1929), (vr 1930), (vr 1931), (vi 2828 0), (vi 1007 0), (vs "/claim/cut.py" 2829)]) []),
  (ob (vt "function") none (.func (fu (inClass (top 170) 0) "__init__" "Places.__init__" 3 [] vN vN vN (vs "coverstore.papers" 2761) none (vr 1932) vN 0)) []),
  (ob (vt "tuple") none (sq [] 0) []),
  (ob vN none (fi []) [])]
def o6_121 (P : Params) : List Obj := [
  (ob vN none (.func (fu (inClass (top 170) 1) "literal_at" "Places.literal_at" 0 [] vN vN vN vN none vN vN 0)) []),
  (ob (vt "code") none (fi [(vs "literal_at" 2831), (vs "Places.literal_at" 2832), (vs "/claim/cut.py" 2833), (vi 1013 0), (vi 3 0), (vi 0 0), (vi 0 0), (vi 3 0), (vr 1934), vT, (vi 181 0), (vr 1935), vN, vN, vN, (vr 1936), (vi 2834 0), (vi 1013 0), (vs "/claim/cut.py" 2835)]) []),
  (ob (vt "function") none (.func (fu (inClass (top 170) 1) "literal_at" "Places.literal_at" 3 [] vN vN vN (vs "coverstore.papers" 2761) none (vr 1937) vN 0)) []),
  (ob (vt "tuple") none (sq [] 0) []),
  (ob vN none (fi []) []),
  (ob (vt "tuple") none (sq [(vs "self" 2840), (vs "line" 2841), (vs "box" 2842)] 0) []),
  (ob (vt "tuple") none (sq [] 0) []),
  (ob vN none (.func (fu (inClass (top 170) 2) "take_line" "Places.take_line" 0 [] vN vN vN vN none vN vN 0)) []),
  (ob (vt "code") none (fi [(vs "take_line" 2837), (vs "Places.take_line" 2838), (vs "/claim/cut.py" 2839), (vi 1021 0), (vi 2 0), (vi 0 0), (vi 0 0), (vi 3 0), (vr 1939), vT, (vi 181 0), (vr 1940), vN, (vr 1941), (vr 1942), (vr 1943), (vi 2843 0), (vi 1021 0), (vs "/claim/cut.py" 2844)]) []),
  (ob (vt "function") none (.func (fu (inClass (top 170) 2) "take_line" "Places.take_line" 3 [] vN vN vN (vs "coverstore.papers" 2761) none (vr 1944) vN 0)) []),
  (ob (vt "tuple") none (sq [(vs "own_bits" 2846), (vs "own_boxes" 2847), (vs "own_literals" 2848), (vs "own_query" 2849)] 0) []),
  (ob (vt "dict") none (di [de P "__module__" 2817 (vs "coverstore.papers" 2761), de P "__firstlineno__" 2821 (vi 1005 2820), de P "__init__" 2830 (vr 1933), de P "literal_at" 2836 (vr 1938), de P "take_line" 2845 (vr 1945), de P "__static_attributes__" 2850 (vr 1946), de P "__dict__" 2852 (vr 1949), de P "__weakref__" 2854 (vr 1950), de P "__doc__" 2855 vN] 4) []),
  (ob (vt "type") none (.cls ⟨"Places", [(vt "object")], [(vr 1948), (vt "object")], 1947, "Places", true, [], [], false, none, false⟩) [none, none, (some (vs "Places" 2810)), (some (vs "Places" 2818)), (some (vb "object.__new__")), (some vT)]),
  (ob (vt "getset_descriptor") none (fi [(vs "__dict__" 2851), (vr 1948), (vb "function.__dict__"), (vb "function.__dict__#set")]) []),
  (ob (vt "getset_descriptor") none (fi [(vs "__weakref__" 2853), (vr 1948), (vb "ExceptionGroup.__weakref__"), vN]) []),
  (ob (vt "super") none (fi [(vr 1948), (vr 1948), (vr 1948)]) [])]
def o6_122 (P : Params) : List Obj := [
  (ob (vt "builtin_function_or_method") none (fi [(vb "object.__init_subclass__"), (vr 1948)]) []),
  (ob (vt "tuple") none (sq [] 0) []),
  (ob vN none (fi []) []),
  (ob (vt "tuple") none (sq [(vs "places" 2861), (vs "line" 2862), (vs "position" 2863), (vs "box" 2864), (vs "literal" 2865)] 0) []),
  (ob (vt "tuple") none (sq [] 0) []),
  (ob vN none (.func (fu (top 171) "gap_box" "gap_box" 0 [] vN vN vN vN none vN vN 0)) []),
  (ob (vt "code") none (fi [(vs "gap_box" 2858), (vs "gap_box" 2859), (vs "/claim/cut.py" 2860), (vi 1027 0), (vi 2 0), (vi 0 0), (vi 0 0), (vi 3 0), (vr 1953), vT, (vi 181 0), (vr 1954), vN, (vr 1955), (vr 1956), (vr 1957), (vi 2866 0), (vi 1027 0), (vs "/claim/cut.py" 2867)]) []),
  (ob (vt "function") none (.func (fu (top 171) "gap_box" "gap_box" 3 [] vN vN vN (vs "coverstore.papers" 2761) none (vr 1958) vN 0)) []),
  (ob (vt "tuple") none (sq [] 0) []),
  (ob vN none (fi []) []),
  (ob (vt "tuple") none (sq [(vs "places" 2872), (vs "line" 2873), (vs "position" 2874), (vs "key" 2875), (vs "literal" 2876)] 0) []),
  (ob (vt "tuple") none (sq [] 0) []),
  (ob vN none (.func (fu (top 172) "row_box" "row_box" 0 [] vN vN vN vN none vN vN 0)) []),
  (ob (vt "code") none (fi [(vs "row_box" 2869), (vs "row_box" 2870), (vs "/claim/cut.py" 2871), (vi 1033 0), (vi 2 0), (vi 0 0), (vi 0 0), (vi 3 0), (vr 1960), vT, (vi 181 0), (vr 1961), vN, (vr 1962), (vr 1963), (vr 1964), (vi 2877 0), (vi 1033 0), (vs "/claim/cut.py" 2878)]) []),
  (ob (vt "function") none (.func (fu (top 172) "row_box" "row_box" 3 [] vN vN vN (vs "coverstore.papers" 2761) none (vr 1965) vN 0)) []),
  (ob (vt "tuple") none (sq [] 0) [])]
def o6_123 (P : Params) : List Obj := [
  (ob vN none (fi []) []),
  (ob (vt "tuple") none (sq [(vs "places" 2883), (vs "line" 2884), (vs "position" 2885), (vs "box" 2886), (vs "literal" 2887)] 0) []),
  (ob (vt "tuple") none (sq [] 0) []),
  (ob vN none (.func (fu (top 173) "false_line_box" "false_line_box" 0 [] vN vN vN vN none vN vN 0)) []),
  (ob (vt "code") none (fi [(vs "false_line_box" 2880), (vs "false_line_box" 2881), (vs "/claim/cut.py" 2882), (vi 1039 0), (vi 2 0), (vi 0 0), (vi 0 0), (vi 3 0), (vr 1967), vT, (vi 181 0), (vr 1968), vN, (vr 1969), (vr 1970), (vr 1971), (vi 2888 0), (vi 1039 0), (vs "/claim/cut.py" 2889)]) []),
  (ob (vt "function") none (.func (fu (top 173) "false_line_box" "false_line_box" 3 [] vN vN vN (vs "coverstore.papers" 2761) none (vr 1972) vN 0)) []),
  (ob (vt "tuple") none (sq [] 0) []),
  (ob vN none (fi []) []),
  (ob (vt "tuple") none (sq [(vs "places" 2894), (vs "line" 2895), (vs "kind" 2896), (vs "values" 2897)] 0) []),
  (ob (vt "tuple") none (sq [] 0) []),
  (ob vN none (.func (fu (top 174) "point_box" "point_box" 0 [] vN vN vN vN none vN vN 0)) []),
  (ob (vt "code") none (fi [(vs "point_box" 2891), (vs "point_box" 2892), (vs "/claim/cut.py" 2893), (vi 1045 0), (vi 2 0), (vi 0 0), (vi 0 0), (vi 3 0), (vr 1974), vT, (vi 181 0), (vr 1975), vN, (vr 1976), (vr 1977), (vr 1978), (vi 2898 0), (vi 1045 0), (vs "/claim/cut.py" 2899)]) []),
  (ob (vt "function") none (.func (fu (top 174) "point_box" "point_box" 3 [] vN vN vN (vs "coverstore.papers" 2761) none (vr 1979) vN 0)) []),
  (ob (vt "tuple") none (sq [] 0) []),
  (ob vN none (fi []) []),
  (ob (vt "tuple") none (sq [(vs "places" 2904), (vs "line" 2905), (vs "first" 2906), (vs "second" 2907), (vs "place" 2908), (vs "found" 2909)] 0) [])]
def o6_124 (P : Params) : List Obj := [
  (ob (vt "tuple") none (sq [] 0) []),
  (ob vN none (.func (fu (top 175) "join_box" "join_box" 0 [] vN vN vN vN none vN vN 0)) []),
  (ob (vt "code") none (fi [(vs "join_box" 2901), (vs "join_box" 2902), (vs "/claim/cut.py" 2903), (vi 1050 0), (vi 2 0), (vi 0 0), (vi 0 0), (vi 3 0), (vr 1981), vT, (vi 181 0), (vr 1982), vN, (vr 1983), (vr 1984), (vr 1985), (vi 2910 0), (vi 1050 0), (vs "/claim/cut.py" 2911)]) []),
  (ob (vt "function") none (.func (fu (top 175) "join_box" "join_box" 3 [] vN vN vN (vs "coverstore.papers" 2761) none (vr 1986) vN 0)) []),
  (ob (vt "tuple") none (sq [] 0) []),
  (ob vN none (fi []) []),
  (ob (vt "tuple") none (sq [(vs "places" 2916), (vs "line" 2917), (vs "number" 2918), (vs "box" 2919)] 0) []),
  (ob (vt "tuple") none (sq [] 0) []),
  (ob vN none (.func (fu (top 176) "part_box" "part_box" 0 [] vN vN vN vN none vN vN 0)) []),
  (ob (vt "code") none (fi [(vs "part_box" 2913), (vs "part_box" 2914), (vs "/claim/cut.py" 2915), (vi 1059 0), (vi 2 0), (vi 0 0), (vi 0 0), (vi 3 0), (vr 1988), vT, (vi 181 0), (vr 1989), vN, (vr 1990), (vr 1991), (vr 1992), (vi 2920 0), (vi 1059 0), (vs "/claim/cut.py" 2921)]) []),
  (ob (vt "function") none (.func (fu (top 176) "part_box" "part_box" 3 [] vN vN vN (vs "coverstore.papers" 2761) none (vr 1993) vN 0)) []),
  (ob (vt "dict") none (di [de P "gap" 2763 (vr 1996), de P "row" 2765 (vr 1997), de P "false" 2767 (vr 1998), de P "point" 2769 (vr 1999), de P "join" 2771 (vr 2000), de P "part" 2773 (vr 2001)] 6) []),
  (ob (vt "tuple") none (sq [(vi 3 2923), (vr 1959)] 0) []),
  (ob (vt "tuple") none (sq [(vi 3 2924), (vr 1966)] 0) []),
  (ob (vt "tuple") none (sq [(vi 3 2925), (vr 1973)] 0) []),
  (ob (vt "tuple") none (sq [(vi 2 2926), (vr 1980)] 0) [])]
def o6_125 (P : Params) : List Obj := [
  (ob (vt "tuple") none (sq [(vi 4 2927), (vr 1987)] 0) []),
  (ob (vt "tuple") none (sq [(vi 3 2928), (vr 1994)] 0) [])]
def o6 (P : Params) : List Obj := o6_0 P ++ (o1_1 P ++ (o1_2 P ++ (o1_3 P ++ (o1_4 P ++ (o1_5 P ++ (o1_6 P ++ (o1_7 P ++ (o1_8 P ++ (o1_9 P ++ (o1_10 P ++ (o1_11 P ++ (o1_12 P ++ (o1_13 P ++ (o1_14 P ++ (o1_15 P ++ (o1_16 P ++ (o1_17 P ++ (o1_18 P ++ (o1_19 P ++ (o1_20 P ++ (o1_21 P ++ (o1_22 P ++ (o1_23 P ++ (o1_24 P ++ (o1_25 P ++ (o1_26 P ++ (o1_27 P ++ (o1_28 P ++ (o1_29 P ++ (o1_30 P ++ (o1_31 P ++ (o1_32 P ++ (o1_33 P ++ (o1_34 P ++ (o1_35 P ++ (o1_36 P ++ (o1_37 P ++ (o1_38 P ++ (o1_39 P ++ (o2_40 P ++ (o2_41 P ++ (o2_42 P ++ (o2_43 P ++ (o2_44 P ++ (o2_45 P ++ (o2_46 P ++ (o2_47 P ++ (o2_48 P ++ (o2_49 P ++ (o2_50 P ++ (o2_51 P ++ (o2_52 P ++ (o2_53 P ++ (o2_54 P ++ (o2_55 P ++ (o2_56 P ++ (o2_57 P ++ (o2_58 P ++ (o2_59 P ++ (o2_60 P ++ (o2_61 P ++ (o2_62 P ++ (o2_63 P ++ (o2_64 P ++ (o2_65 P ++ (o2_66 P ++ (o2_67 P ++ (o3_68 P ++ (o3_69 P ++ (o4_70 P ++ (o4_71 P ++ (o4_72 P ++ (o4_73 P ++ (o4_74 P ++ (o4_75 P ++ (o4_76 P ++ (o4_77 P ++ (o4_78 P ++ (o4_79 P ++ (o4_80 P ++ (o4_81 P ++ (o4_82 P ++ (o4_83 P ++ (o4_84 P ++ (o4_85 P ++ (o4_86 P ++ (o4_87 P ++ (o4_88 P ++ (o4_89 P ++ (o5_90 P ++ (o5_91 P ++ (o5_92 P ++ (o5_93 P ++ (o5_94 P ++ (o5_95 P ++ (o5_96 P ++ (o5_97 P ++ (o5_98 P ++ (o5_99 P ++ (o5_100 P ++ (o5_101 P ++ (o5_102 P ++ (o5_103 P ++ (o5_104 P ++ (o5_105 P ++ (o5_106 P ++ (o5_107 P ++ (o5_108 P ++ (o5_109 P ++ (o5_110 P ++ (o5_111 P ++ (o5_112 P ++ (o5_113 P ++ (o5_114 P ++ (o5_115 P ++ (o5_116 P ++ (o5_117 P ++ (o6_118 P ++ (o6_119 P ++ (o6_120 P ++ (o6_121 P ++ (o6_122 P ++ (o6_123 P ++ (o6_124 P ++ (o6_125 P)))))))))))))))))))))))))))))))))))))))))))))))))))))))))))))))))))))))))))))))))))))))))))))))))))))))))))))))))))))))))))))
def S6 (w : World) (os : OsState) : SharedT := ⟨lay (o6 w.params) .nil 0, 2002, {}, #[], {}, 2936, os⟩
def pos6 : Pos := ⟨1064, 0, 1064, 5⟩
def n6 : Nat := 765
def o7_0 (P : Params) : List Obj := [
  boot_o_0 P,
  boot_o_1 P,
  (ob vN none (di [de P "type.__subclasses__.ArithmeticError.0" 1110 (vi 693 0), de P "type.__subclasses__.ArithmeticError.n" 1111 (vi 1 0)] 2) []),
  (ob (vt "dict") none (di [de P "__name__" 165 (vs "coverstore.keepers" 3456), de P "__doc__" 166 vN, de P "__package__" 167 vN, de P "__loader__" 168 (vb "__main__.__loader__#opaque"), de P "__spec__" 169 vN, de P "__annotations__" 170 (vr 6), de P "__builtins__" 171 (vr 4), de P "__file__" 173 (vs "/claim/cut.py" 172), de P "__cached__" 174 vN, de P "_wall" 193 (vr 21), de P "CoverError" 213 (vr 31), de P "InvalidBits" 238 (vr 51), de P "InvalidValue" 263 (vr 70), de P "InvalidRange" 288 (vr 89), de P "InvalidBox" 313 (vr 108), de P "InvalidPlace" 338 (vr 127), de P "InvalidCount" 363 (vr 146), de P "InvalidName" 388 (vr 165), de P "InvalidColumns" 413 (vr 184), de P "InvalidOrder" 438 (vr 203), de P "InvalidKey" 463 (vr 222), de P "InvalidWrite" 488 (vr 241), de P "InvalidQuery" 515 (vr 260), de P "InvalidText" 540 (vr 279), de P "InvalidPaper" 565 (vr 298), de P "InvalidLimit" 590 (vr 317), de P "InvalidPage" 615 (vr 336), de P "UnknownTable" 642 (vr 355), de P "UnknownVersion" 669 (vr 375), de P "TooOld" 696 (vr 395), de P "UnknownName" 723 (vr 415), de P "NameTaken" 750 (vr 435), de P "KeyTaken" 779 (vr 455), de P "NoSuchRow" 808 (vr 475), de P "Unlike" 826 (vr 488), de P "NoHalf" 853 (vr 508), de P "NotJoined" 880 (vr 528), de P "NotAPoint" 898 (vr 541), de P "WrongColumns" 925 (vr 561), de P "NotEmpty" 952 (vr 581), de P "Ended" 970 (vr 594), de P "Changed" 999 (vr 614), de P "Violated" 1028 (vr 634), de P "Crashed" 1046 (vr 647), de P "DiskInUse" 1064 (vr 660), de P "NoStore" 1082 (vr 673), de P "TooMany" 1113 (vr 693), de P "MAX_BITS" 1117 (vi 10 1116), de P "DIGITS_ranges" 1119 (vs "01" 1118), de P "is_integer" 1126 (vr 703), de P "is_bits" 1133 (vr 710), de P "is_value" 1141 (vr 717), de P "is_range" 1147 (vr 722), de P "require_bits" 1154 (vr 729), de P "require_value" 1162 (vr 736), de P "require_range" 1170 (vr 743), de P "number_of" 1179 (vr 750), de P "range_of" 1185 (vr 755), de P "bounds" 1195 (vr 762), de P "common_range" 1204 (vr 769), de P "common_length" 1213 (vr 776), de P "widest_range" 1225 (vr 785), de P "PAGE_SIZE" 1229 (vi 32 1228), de P "require_page" 1236 (vr 792), de P "Disk" 1330 (vr 866), de P "MOST_RANGES" 1334 (vi 5 1333), de P "ALL" 1336 (vs "*" 1335), de P "NO_RANGES" 1338 (vs "-" 1337), de P "COMMA_boxes" 1340 (vs "," 1339), de P "require_ranges" 1350 (vr 877), de P "ranges_text" 1356 (vr 882), de P "ranges_in" 1362 (vr 887), de P "Box" 1643 (vr 1096), de P "MOST_PAYLOAD" 1649 (vi 1000000000 1648), de P "INSERT" 1651 (vs "insert" 1650), de P "UPDATE" 1653 (vs "update" 1652), de P "DELETE" 1655 (vs "delete" 1654), de P "WRITE_SIZES" 1662 (vr 1101), de P "is_payload" 1669 (vr 1108), de P "is_table" 1677 (vr 1115), de P "is_key" 1683 (vr 1120), de P "require_table" 1691 (vr 1127), de P "require_key" 1700 (vr 1134), de P "require_box" 1709 (vr 1141), de P "is_write" 1715 (vr 1146), de P "require_writes" 1725 (vr 1153), de P "rows_after" 1740 (vr 1160), de P "alike_columns" 1750 (vr 1167), de P "gap_between" 1756 (vr 1172), de P "Source" 1811 (vr 1209), de P "Snapshot" 1895 (vr 1282), de P "Overlay" 1978 (vr 1349), de P "LETTERS" 1982 (vs "abcdefghijklmnopqrstuvwxyz" 1981), de P "MOST_LETTERS" 1984 (vi 8 1983), de P "RESERVED" 1987 (vr 1352), de P "MOST_TABLES" 1989 (vi 8 1988), de P "MOST_COLUMNS" 1991 (vi 4 1990), de P "MOST_OTHER_ORDERS" 1993 (vi 2 1992), de P "is_name" 1999 (vr 1357), de P "require_name" 2007 (vr 1364), de P "is_order" 2013 (vr 1673), de P "is_order_bases" 2014 (vr 1369), de P "require_orders" 2025 (vr 1376), de P "Table" 2126 (vr 1445), de P "Base" 2330 (vr 1611), de P "POSITIVE" 2334 (vs "row" 2333), de P "DENIED" 2336 (vs "none" 2335), de P "SIGNS" 2341 (vr 1616), de P "LITERAL_LENGTH" 2343 (vi 3 2342), de P "MOST_TERMS" 2345 (vi 4 2344), de P "MOST_LITERALS" 2347 (vi 8 2346), de P "MOST_VARIABLES" 2349 (vi 5 2348), de P "MOST_INTEGER" 2351 (vi 1023 2350), de P "MOST_DIGITS_queries" 2353 (vi 4 2352), de P "DIGITS_queries" 2355 (vs "0123456789" 2354), de P "COMMA_queries" 2357 (vs "," 2356), de P "BETWEEN" 2359 (vs ", " 2358), de P "BEFORE_ORDER" 2361 (vs " by " 2360), de P "NOT" 2363 (vs "not" 2362), de P "is_term" 2370 (vr 1623), de P "are_terms" 2376 (vr 1628), de P "is_literal" 2386 (vr 1635), de P "is_comparison" 2393 (vr 1642), de P "terms_of" 2400 (vr 1649), de P "integers_in" 2406 (vr 1654), de P "integers_in_queries" 2407 (vr 1654), de P "variables_in" 2417 (vr 1661), de P "require_literals" 2426 (vr 1668), de P "is_order_queries" 2433 (vr 1673), de P "literal_text" 2439 (vr 1678), de P "query_text" 2445 (vr 1683), de P "term_in" 2451 (vr 1688), de P "row_literal_in" 2457 (vr 1693), de P "literal_in" 2465 (vr 1700), de P "query_in" 2471 (vr 1705), de P "Query" 2584 (vr 1783), de P "fit" 2595 (vr 1794), de P "is_position" 2605 (vr 1801), de P "require_comparison" 2613 (vr 1808), de P "require_values" 2623 (vr 1815), de P "values_at" 2629 (vr 1820), de P "is_so" 2638 (vr 1827), de P "key_of" 2647 (vr 1834), de P "is_true" 2661 (vr 1841), de P "laid" 2667 (vr 1846), de P "false_span" 2678 (vr 1853), de P "false_span_behind" 2688 (vr 1860), de P "widest_between" 2701 (vr 1867), de P "false_ranges" 2719 (vr 1874), de P "false_around" 2725 (vr 1879), de P "term_range" 2734 (vr 1886), de P "is_false_in" 2750 (vr 1893), de P "failing_at" 2760 (vr 1900), de P "GAP" 2764 (vs "gap" 2763), de P "ROW" 2766 (vs "row" 2765), de P "FALSE" 2768 (vs "false" 2767), de P "POINT" 2770 (vs "point" 2769), de P "JOIN" 2772 (vs "join" 2771), de P "PART" 2774 (vs "part" 2773), de P "FIGURES" 2776 (vs "0123456789" 2775), de P "MOST_FIGURES" 2778 (vi 10 2777), de P "EMPTY" 2780 (vs "-" 2779), de P "COMMA_papers" 2782 (vs "," 2781), de P "BLANK" 2784 (vs " " 2783), de P "FEED" 2786 (vs "\n" 2785), de P "is_number" 2794 (vr 1907), de P "are_values" 2800 (vr 1912), de P "is_box" 2809 (vr 1919), de P "Places" 2857 (vr 1948), de P "gap_box" 2868 (vr 1959), de P "row_box" 2879 (vr 1966), de P "false_line_box" 2890 (vr 1973), de P "point_box" 2900 (vr 1980), de P "join_box" 2912 (vr 1987), de P "part_box" 2922 (vr 1994), de P "KINDS" 2935 (vr 1995), de P "box_of" 2945 (vr 2008), de P "boxes_of" 2957 (vr 2015), de P "named_by" 2964 (vr 2022), de P "renamed" 2972 (vr 2029), de P "values_text" 2978 (vr 2034), de P "part_text" 2985 (vr 2041), de P "line_text" 2991 (vr 2046), de P "number_in" 2997 (vr 2051), de P "values_in" 3003 (vr 2056), de P "box_in" 3012 (vr 2063), de P "line_in" 3023 (vr 2070), de P "Paper" 3174 (vr 2184), de P "MOST_LINES" 3178 (vi 100000 3177), de P "add_box" 3189 (vr 2195), de P "first_around" 3203 (vr 2202), de P "Search" 3319 (vr 2273), de P "is_limit" 3326 (vr 2284), de P "paper_of" 3341 (vr 2292), de P "is_wrong" 3353 (vr 2299), de P "require_fit" 3361 (vr 2306), de P "Repair" 3435 (vr 2360), de P "renumbered" 3443 (vr 2371), de P "lost_points" 3449 (vr 2376), de P "repaired" 3455 (vr 2381)] 200) []),
  boot_o_4 P,
  boot_o_5 P,
  boot_o_6 P,
  boot_o_7 P,
  boot_o_8 P,
  boot_o_9 P,
  boot_o_10 P,
  (ob (vt "tuple") none (sq [] 0) []),
  (ob vN none (fi [(vi 1 0), (vi 0 0), (vr 20), (vi 5 0), (vi 0 0), (vr 27), (vi 7 0), (vi 0 0), (vr 40), (vi 12 0), (vi 0 0), (vr 59), (vi 17 0), (vi 0 0), (vr 78), (vi 22 0), (vi 0 0), (vr 97), (vi 27 0), (vi 0 0), (vr 116), (vi 32 0), (vi 0 0), (vr 135), (vi 37 0), (vi 0 0), (vr 154), (vi 42 0), (vi 0 0), (vr 173), (vi 47 0), (vi 0 0), (vr 192), (vi 52 0), (vi 0 0), (vr 211), (vi 57 0), (vi 0 0), (vr 230), (vi 62 0), (vi 0 0), (vr 249), (vi 68 0), (vi 0 0), (vr 268), (vi 73 0), (vi 0 0), (vr 287), (vi 78 0), (vi 0 0), (vr 306), (vi 83 0), (vi 0 0), (vr 325), (vi 88 0), (vi 0 0), (vr 344), (vi 93 0), (vi 0 0), (vr 364), (vi 98 0), (vi 0 0), (vr 384), (vi 103 0), (vi 0 0), (vr 404), (vi 108 0), (vi 0 0), (vr 424), (vi 113 0), (vi 0 0), (vr 444), (vi 119 0), (vi 0 0), (vr 464), (vi 125 0), (vi 0 0), (vr 484), (vi 127 0), (vi 0 0), (vr 497), (vi 132 0), (vi 0 0), (vr 517), (vi 137 0), (vi 0 0), (vr 537), (vi 139 0), (vi 0 0), (vr 550), (vi 144 0), (vi 0 0), (vr 570), (vi 149 0), (vi 0 0), (vr 590), (vi 151 0), (vi 0 0), (vr 603), (vi 157 0), (vi 0 0), (vr 623), (vi 163 0), (vi 0 0), (vr 643), (vi 165 0), (vi 0 0), (vr 656), (vi 167 0), (vi 0 0), (vr 669), (vi 169 0), (vi 0 0), (vr 682), (vi 178 0), (vi 0 0), (vr 702), (vi 180 0), (vi 0 0), (vr 709), (vi 182 0), (vi 0 0), (vr 716), (vi 184 0), (vi 0 0), (vr 721), (vi 188 0), (vi 0 0), (vr 728), (vi 191 0), (vi 0 0), (vr 735), (vi 194 0), (vi 0 0), (vr 742), (vi 197 0), (vi 0 0), (vr 749), (vi 202 0), (vi 0 0), (vr 754), (vi 206 0), (vi 0 0), (vr 761), (vi 212 0), (vi 0 0), (vr 768), (vi 219 0), (vi 0 0), (vr 775), (vi 224 0), (vi 0 0), (vr 784), (vi 234 0), (vi 0 0), (vr 791), (vi 237 0), (vi 0 0), (vr 798), (vi 286 0), (vi 0 0), (vr 876), (vi 292 0), (vi 0 0), (vr 881), (vi 296 0), (vi 0 0), (vr 886), (vi 306 0), (vi 0 0), (vr 893), (vi 452 0), (vi 0 0), (vr 1107), (vi 454 0), (vi 0 0), (vr 1114), (vi 456 0), (vi 0 0), (vr 1119), (vi 460 0), (vi 0 0), (vr 1126), (vi 463 0), (vi 0 0), (vr 1133), (vi 467 0), (vi 0 0), (vr 1140), (vi 471 0), (vi 0 0), (vr 1145), (vi 477 0), (vi 0 0), (vr 1152), (vi 483 0), (vi 0 0), (vr 1159), (vi 495 0), (vi 0 0), (vr 1166), (vi 500 0), (vi 0 0), (vr 1171), (vi 510 0), (vi 0 0), (vr 1178), (vi 530 0), (vi 0 0), (vr 1219), (vi 559 0), (vi 0 0), (vr 1290), (vi 602 0), (vi 0 0), (vr 1356), (vi 606 0), (vi 0 0), (vr 1363), (vi 611 0), (vi 0 0), (vr 1368), (vi 616 0), (vi 0 0), (vr 1375), (vi 622 0), (vi 0 0), (vr 1382), (vi 657 0), (vi 0 0), (vr 1455), (vi 768 0), (vi 0 0), (vr 1622), (vi 770 0), (vi 0 0), (vr 1627), (vi 772 0), (vi 0 0), (vr 1634), (vi 779 0), (vi 0 0), (vr 1641), (vi 781 0), (vi 0 0), (vr 1648), (vi 783 0), (vi 0 0), (vr 1653), (vi 786 0), (vi 0 0), (vr 1660), (vi 793 0), (vi 0 0), (vr 1667), (vi 799 0), (vi 0 0), (vr 1672), (vi 802 0), (vi 0 0), (vr 1677), (vi 808 0), (vi 0 0), (vr 1682), (vi 811 0), (vi 0 0), (vr 1687), (vi 815 0), (vi 0 0), (vr 1692), (vi 820 0), (vi 0 0), (vr 1699), (vi 827 0), (vi 0 0), (vr 1704), (vi 835 0), (vi 0 0), (vr 1711), (vi 881 0), (vi 0 0), (vr 1793), (vi 889 0), (vi 0 0), (vr 1800), (vi 891 0), (vi 0 0), (vr 1807), (vi 894 0), (vi 0 0), (vr 1814), (vi 898 0), (vi 0 0), (vr 1819), (vi 901 0), (vi 0 0), (vr 1826), (vi 907 0), (vi 0 0), (vr 1833), (vi 909 0), (vi 0 0), (vr 1840), (vi 915 0), (vi 0 0), (vr 1845), (vi 927 0), (vi 0 0), (vr 1852), (vi 936 0), (vi 0 0), (vr 1859), (vi 942 0), (vi 0 0), (vr 1866), (vi 949 0), (vi 0 0), (vr 1873), (vi 961 0), (vi 0 0), (vr 1878), (vi 964 0), (vi 0 0), (vr 1885), (vi 966 0), (vi 0 0), (vr 1892), (vi 981 0), (vi 0 0), (vr 1899), (vi 999 0), (vi 0 0), (vr 1906), (vi 1001 0), (vi 0 0), (vr 1911), (vi 1003 0), (vi 0 0), (vr 1918), (vi 1005 0), (vi 0 0), (vr 1925), (vi 1027 0), (vi 0 0), (vr 1958), (vi 1033 0), (vi 0 0), (vr 1965), (vi 1039 0), (vi 0 0), (vr 1972), (vi 1045 0), (vi 0 0), (vr 1979), (vi 1050 0), (vi 0 0), (vr 1986), (vi 1059 0), (vi 0 0), (vr 1993), (vi 1065 0), (vi 0 0), (vr 2007), (vi 1070 0), (vi 0 0), (vr 2014), (vi 1076 0), (vi 0 0), (vr 2021), (vi 1080 0), (vi 0 0), (vr 2028), (vi 1084 0), (vi 0 0), (vr 2033), (vi 1086 0), (vi 0 0), (vr 2040), (vi 1088 0), (vi 0 0), (vr 2045), (vi 1090 0), (vi 0 0), (vr 2050), (vi 1094 0), (vi 0 0), (vr 2055), (vi 1096 0), (vi 0 0), (vr 2062), (vi 1102 0), (vi 0 0), (vr 2069), (vi 1112 0), (vi 0 0), (vr 2076), (vi 1197 0), (vi 0 0), (vr 2194), (vi 1202 0), (vi 0 0), (vr 2201), (vi 1212 0), (vi 0 0), (vr 2208), (vi 1289 0), (vi 0 0), (vr 2283), (vi 1291 0), (vi 0 0), (vr 2291), (vi 1301 0), (vi 0 0), (vr 2298), (vi 1310 0), (vi 0 0), (vr 2305), (vi 1315 0), (vi 0 0), (vr 2312), (vi 1339 0), (vi 0 0), (vr 2370), (vi 1345 0), (vi 0 0), (vr 2375), (vi 1347 0), (vi 0 0), (vr 2380)]) []),
  (ob (vt "code") none (fi [(vs "<module>" 182), (vs "<module>" 183), (vs "/claim/cut.py" 184), (vi 1 0), (vi 0 0), (vi 0 0), (vi 0 0), (vi 0 0), (vr 11), vF, (vi 181 0), (vr 12), vN, vN, vN, vN, (vi 185 0), (vi 1 0), (vs "/claim/cut.py" 186)]) []),
  (ob (vt "frame") none .plain [(some (vr 13)), (some (vr 3)), (some (vr 3)), none, (some (vs "__main__" 164)), none, (some (vr 0))]),
  (ob (vt "tuple") none (sq [] 0) [])]
def o7_125 (P : Params) : List Obj := [
  (ob (vt "tuple") none (sq [(vi 4 2927), (vr 1987)] 0) []),
  (ob (vt "tuple") none (sq [(vi 3 2928), (vr 1994)] 0) []),
  (ob (vt "tuple") none (sq [] 0) []),
  (ob vN none (fi []) []),
  (ob (vt "tuple") none (sq [(vs "places" 2939), (vs "line" 2940), (vs "size" 2941), (vs "told" 2942)] 0) []),
  (ob (vt "tuple") none (sq [] 0) []),
  (ob vN none (.func (fu (top 178) "box_of" "box_of" 0 [] vN vN vN vN none vN vN 0)) []),
  (ob (vt "code") none (fi [(vs "box_of" 2936), (vs "box_of" 2937), (vs "/claim/cut.py" 2938), (vi 1065 0), (vi 2 0), (vi 0 0), (vi 0 0), (vi 3 0), (vr 2002), vT, (vi 181 0), (vr 2003), vN, (vr 2004), (vr 2005), (vr 2006), (vi 2943 0), (vi 1065 0), (vs "/claim/cut.py" 2944)]) []),
  (ob (vt "function") none (.func (fu (top 178) "box_of" "box_of" 3 [] vN vN vN (vs "coverstore.papers" 2761) none (vr 2007) vN 0)) []),
  (ob (vt "tuple") none (sq [] 0) []),
  (ob vN none (fi []) []),
  (ob (vt "tuple") none (sq [(vs "bits" 2949), (vs "query" 2950), (vs "lines" 2951), (vs "places" 2952), (vs "position" 2953), (vs "line" 2954)] 0) []),
  (ob (vt "tuple") none (sq [] 0) []),
  (ob vN none (.func (fu (top 179) "boxes_of" "boxes_of" 0 [] vN vN vN vN none vN vN 0)) []),
  (ob (vt "code") none (fi [(vs "boxes_of" 2946), (vs "boxes_of" 2947), (vs "/claim/cut.py" 2948), (vi 1070 0), (vi 3 0), (vi 0 0), (vi 0 0), (vi 3 0), (vr 2009), vT, (vi 181 0), (vr 2010), vN, (vr 2011), (vr 2012), (vr 2013), (vi 2955 0), (vi 1070 0), (vs "/claim/cut.py" 2956)]) []),
  (ob (vt "function") none (.func (fu (top 179) "boxes_of" "boxes_of" 3 [] vN vN vN (vs "coverstore.papers" 2761) none (vr 2014) vN 0)) [])]
def o7_126 (P : Params) : List Obj := [
  (ob (vt "tuple") none (sq [] 0) []),
  (ob vN none (fi []) []),
  (ob (vt "tuple") none (sq [(vs "line" 2961)] 0) []),
  (ob (vt "tuple") none (sq [] 0) []),
  (ob vN none (.func (fu (top 180) "named_by" "named_by" 0 [] vN vN vN vN none vN vN 0)) []),
  (ob (vt "code") none (fi [(vs "named_by" 2958), (vs "named_by" 2959), (vs "/claim/cut.py" 2960), (vi 1076 0), (vi 1 0), (vi 0 0), (vi 0 0), (vi 3 0), (vr 2016), vT, (vi 181 0), (vr 2017), vN, (vr 2018), (vr 2019), (vr 2020), (vi 2962 0), (vi 1076 0), (vs "/claim/cut.py" 2963)]) []),
  (ob (vt "function") none (.func (fu (top 180) "named_by" "named_by" 3 [] vN vN vN (vs "coverstore.papers" 2761) none (vr 2021) vN 0)) []),
  (ob (vt "tuple") none (sq [] 0) []),
  (ob vN none (fi []) []),
  (ob (vt "tuple") none (sq [(vs "line" 2968), (vs "numbers" 2969)] 0) []),
  (ob (vt "tuple") none (sq [] 0) []),
  (ob vN none (.func (fu (top 181) "renamed" "renamed" 0 [] vN vN vN vN none vN vN 0)) []),
  (ob (vt "code") none (fi [(vs "renamed" 2965), (vs "renamed" 2966), (vs "/claim/cut.py" 2967), (vi 1080 0), (vi 2 0), (vi 0 0), (vi 0 0), (vi 3 0), (vr 2023), vT, (vi 181 0), (vr 2024), vN, (vr 2025), (vr 2026), (vr 2027), (vi 2970 0), (vi 1080 0), (vs "/claim/cut.py" 2971)]) []),
  (ob (vt "function") none (.func (fu (top 181) "renamed" "renamed" 3 [] vN vN vN (vs "coverstore.papers" 2761) none (vr 2028) vN 0)) []),
  (ob (vt "tuple") none (sq [] 0) []),
  (ob vN none (fi []) [])]
def o7_127 (P : Params) : List Obj := [
  (ob vN none (.func (fu (top 182) "values_text" "values_text" 0 [] vN vN vN vN none vN vN 0)) []),
  (ob (vt "code") none (fi [(vs "values_text" 2973), (vs "values_text" 2974), (vs "/claim/cut.py" 2975), (vi 1084 0), (vi 1 0), (vi 0 0), (vi 0 0), (vi 3 0), (vr 2030), vT, (vi 181 0), (vr 2031), vN, vN, vN, (vr 2032), (vi 2976 0), (vi 1084 0), (vs "/claim/cut.py" 2977)]) []),
  (ob (vt "function") none (.func (fu (top 182) "values_text" "values_text" 3 [] vN vN vN (vs "coverstore.papers" 2761) none (vr 2033) vN 0)) []),
  (ob (vt "tuple") none (sq [] 0) []),
  (ob vN none (fi []) []),
  (ob (vt "tuple") none (sq [(vs "part" 2982)] 0) []),
  (ob (vt "tuple") none (sq [] 0) []),
  (ob vN none (.func (fu (top 183) "part_text" "part_text" 0 [] vN vN vN vN none vN vN 0)) []),
  (ob (vt "code") none (fi [(vs "part_text" 2979), (vs "part_text" 2980), (vs "/claim/cut.py" 2981), (vi 1086 0), (vi 1 0), (vi 0 0), (vi 0 0), (vi 3 0), (vr 2035), vT, (vi 181 0), (vr 2036), vN, (vr 2037), (vr 2038), (vr 2039), (vi 2983 0), (vi 1086 0), (vs "/claim/cut.py" 2984)]) []),
  (ob (vt "function") none (.func (fu (top 183) "part_text" "part_text" 3 [] vN vN vN (vs "coverstore.papers" 2761) none (vr 2040) vN 0)) []),
  (ob (vt "tuple") none (sq [] 0) []),
  (ob vN none (fi []) []),
  (ob vN none (.func (fu (top 184) "line_text" "line_text" 0 [] vN vN vN vN none vN vN 0)) []),
  (ob (vt "code") none (fi [(vs "line_text" 2986), (vs "line_text" 2987), (vs "/claim/cut.py" 2988), (vi 1088 0), (vi 1 0), (vi 0 0), (vi 0 0), (vi 3 0), (vr 2042), vT, (vi 181 0), (vr 2043), vN, vN, vN, (vr 2044), (vi 2989 0), (vi 1088 0), (vs "/claim/cut.py" 2990)]) []),
  (ob (vt "function") none (.func (fu (top 184) "line_text" "line_text" 3 [] vN vN vN (vs "coverstore.papers" 2761) none (vr 2045) vN 0)) []),
  (ob (vt "tuple") none (sq [] 0) [])]
def o7_128 (P : Params) : List Obj := [
  (ob vN none (fi []) []),
  (ob vN none (.func (fu (top 185) "number_in" "number_in" 0 [] vN vN vN vN none vN vN 0)) []),
  (ob (vt "code") none (fi [(vs "number_in" 2992), (vs "number_in" 2993), (vs "/claim/cut.py" 2994), (vi 1090 0), (vi 1 0), (vi 0 0), (vi 0 0), (vi 3 0), (vr 2047), vT, (vi 181 0), (vr 2048), vN, vN, vN, (vr 2049), (vi 2995 0), (vi 1090 0), (vs "/claim/cut.py" 2996)]) []),
  (ob (vt "function") none (.func (fu (top 185) "number_in" "number_in" 3 [] vN vN vN (vs "coverstore.papers" 2761) none (vr 2050) vN 0)) []),
  (ob (vt "tuple") none (sq [] 0) []),
  (ob vN none (fi []) []),
  (ob vN none (.func (fu (top 186) "values_in" "values_in" 0 [] vN vN vN vN none vN vN 0)) []),
  (ob (vt "code") none (fi [(vs "values_in" 2998), (vs "values_in" 2999), (vs "/claim/cut.py" 3000), (vi 1094 0), (vi 1 0), (vi 0 0), (vi 0 0), (vi 3 0), (vr 2052), vT, (vi 181 0), (vr 2053), vN, vN, vN, (vr 2054), (vi 3001 0), (vi 1094 0), (vs "/claim/cut.py" 3002)]) []),
  (ob (vt "function") none (.func (fu (top 186) "values_in" "values_in" 3 [] vN vN vN (vs "coverstore.papers" 2761) none (vr 2055) vN 0)) []),
  (ob (vt "tuple") none (sq [] 0) []),
  (ob vN none (fi []) []),
  (ob (vt "tuple") none (sq [(vs "word" 3007), (vs "bits" 3008), (vs "found" 3009)] 0) []),
  (ob (vt "tuple") none (sq [] 0) []),
  (ob vN none (.func (fu (top 187) "box_in" "box_in" 0 [] vN vN vN vN none vN vN 0)) []),
  (ob (vt "code") none (fi [(vs "box_in" 3004), (vs "box_in" 3005), (vs "/claim/cut.py" 3006), (vi 1096 0), (vi 2 0), (vi 0 0), (vi 0 0), (vi 3 0), (vr 2057), vT, (vi 181 0), (vr 2058), vN, (vr 2059), (vr 2060), (vr 2061), (vi 3010 0), (vi 1096 0), (vs "/claim/cut.py" 3011)]) []),
  (ob (vt "function") none (.func (fu (top 187) "box_in" "box_in" 3 [] vN vN vN (vs "coverstore.papers" 2761) none (vr 2062) vN 0)) [])]
def o7_129 (P : Params) : List Obj := [
  (ob (vt "tuple") none (sq [] 0) []),
  (ob vN none (fi []) []),
  (ob (vt "tuple") none (sq [(vs "text" 3016), (vs "bits" 3017), (vs "kind" 3018), (vs "words" 3019), (vs "last" 3020)] 0) []),
  (ob (vt "tuple") none (sq [] 0) []),
  (ob vN none (.func (fu (top 188) "line_in" "line_in" 0 [] vN vN vN vN none vN vN 0)) []),
  (ob (vt "code") none (fi [(vs "line_in" 3013), (vs "line_in" 3014), (vs "/claim/cut.py" 3015), (vi 1102 0), (vi 2 0), (vi 0 0), (vi 0 0), (vi 3 0), (vr 2064), vT, (vi 181 0), (vr 2065), vN, (vr 2066), (vr 2067), (vr 2068), (vi 3021 0), (vi 1102 0), (vs "/claim/cut.py" 3022)]) []),
  (ob (vt "function") none (.func (fu (top 188) "line_in" "line_in" 3 [] vN vN vN (vs "coverstore.papers" 2761) none (vr 2069) vN 0)) []),
  (ob (vt "tuple") none (sq [] 0) []),
  (ob (vt "builtin_function_or_method") none (fi [(vb "type.__prepare__"), (vt "type")]) []),
  (ob (vt "dict") none (di [de P "__module__" 3031 (vs "coverstore.papers" 2761), de P "__qualname__" 3033 (vs "Paper" 3032), de P "__firstlineno__" 3035 (vi 1112 3034), de P "__init__" 3045 (vr 2084), de P "read" 3063 (vr 2091), de P "bits" 3071 (vr 2100), de P "query" 3079 (vr 2108), de P "closing" 3087 (vr 2116), de P "is_trimmed" 3095 (vr 2124), de P "__len__" 3102 (vr 2131), de P "__eq__" 3111 (vr 2138), de P "__str__" 3117 (vr 2143), de P "__repr__" 3124 (vr 2150), de P "lines" 3131 (vr 2157), de P "box" 3139 (vr 2164), de P "points" 3145 (vr 2169), de P "needed" 3155 (vr 2176), de P "trimmed" 3161 (vr 2181), de P "__static_attributes__" 3166 (vr 2182)] 19) []),
  (ob (vt "tuple") none (sq [] 0) []),
  (ob vN none (fi [(vi 1114 0), (vi 4 0), (vr 2083), (vi 1124 0), (vi 4 0), (vr 2088), (vi 1138 0), (vi 4 0), (vr 2098), (vi 1142 0), (vi 4 0), (vr 2106), (vi 1146 0), (vi 4 0), (vr 2114), (vi 1150 0), (vi 4 0), (vr 2122), (vi 1153 0), (vi 4 0), (vr 2130), (vi 1156 0), (vi 4 0), (vr 2137), (vi 1162 0), (vi 4 0), (vr 2142), (vi 1165 0), (vi 4 0), (vr 2149), (vi 1168 0), (vi 4 0), (vr 2156), (vi 1171 0), (vi 4 0), (vr 2163), (vi 1176 0), (vi 4 0), (vr 2168), (vi 1179 0), (vi 4 0), (vr 2175), (vi 1187 0), (vi 4 0), (vr 2180)]) []),
  (ob (vt "code") none (fi [(vs "Paper" 3026), (vs "Paper" 3027), (vs "/claim/cut.py" 3028), (vi 1112 0), (vi 0 0), (vi 0 0), (vi 0 0), (vi 0 0), (vr 2074), vF, (vi 181 0), (vr 2075), vN, vN, vN, vN, (vi 3029 0), (vi 1112 0), (vs "/claim/cut.py" 3030)]) []),
  (ob (vt "frame") none .plain [(some (vr 2076)), (some (vr 3)), (some (vr 2073)), none, (some (vs "coverstore.papers" 2761)), none, (some (vr 0))]),
  (ob (vt "tuple") none (sq [] 0) []),
  (ob vN none (fi []) [])]
def o7_130 (P : Params) : List Obj := [
  (ob (vt "tuple") none (sq [(vs "self" 3039), (vs "bits" 3040), (vs "query" 3041), (vs "lines" 3042)] 0) []),
  (ob (vt "tuple") none (sq [] 0) []),
  (ob vN none (.func (fu (inClass (top 189) 0) "__init__" "Paper.__init__" 0 [] vN vN vN vN none vN vN 0)) []),
  (ob (vt "code") none (fi [(vs "__init__" 3036), (vs "Paper.__init__" 3037), (vs "/claim/cut.py" 3038), (vi 1114 0), (vi 4 0), (vi 0 0), (vi 0 0), (vi 3 0), (vr 2078), vT, (vi 181 0), (vr 2079), vN, (vr 2080), (vr 2081), (vr 2082), (vi 3043 0), (vi 1114 0), (vs "/claim/cut.py" 3044)]) []),
  (ob (vt "function") none (.func (fu (inClass (top 189) 0) "__init__" "Paper.__init__" 3 [] vN vN vN (vs "coverstore.papers" 2761) none (vr 2083) vN 0)) []),
  (ob (vt "tuple") none (sq [] 0) []),
  (ob vN none (fi []) []),
  (ob vN none (.func (fu (inClass (top 189) 1) "read" "Paper.read" 0 [] vN vN vN vN none vN vN 0)) []),
  (ob (vt "code") none (fi [(vs "read" 3046), (vs "Paper.read" 3047), (vs "/claim/cut.py" 3048), (vi 1123 0), (vi 4 0), (vi 0 0), (vi 0 0), (vi 3 0), (vr 2085), vT, (vi 181 0), (vr 2086), vN, vN, vN, (vr 2087), (vi 3049 0), (vi 1123 0), (vs "/claim/cut.py" 3050)]) []),
  (ob (vt "function") none (.func (fu (inClass (top 189) 1) "read" "Paper.read" 3 [] vN vN vN (vs "coverstore.papers" 2761) (some 2092) (vr 2088) vN 0)) []),
  (ob (vt "dict") none (di [de P "__module__" 3052 (vs "coverstore.papers" 2761), de P "__name__" 3055 (vs "read" 3054), de P "__qualname__" 3058 (vs "Paper.read" 3057), de P "__doc__" 3060 vN, de P "__annotations__" 3062 (vr 2092)] 5) []),
  (ob (vt "classmethod") (some 2090) (fi [(vr 2089), vF]) []),
  (ob (vt "dict") none (di [] 0) []),
  (ob (vt "tuple") none (sq [] 0) []),
  (ob vN none (fi []) []),
  (ob (vt "tuple") none (sq [(vs "self" 3067)] 0) [])]
def o7_131 (P : Params) : List Obj := [
  (ob (vt "tuple") none (sq [] 0) []),
  (ob vN none (.func (fu (inClass (top 189) 2) "bits" "Paper.bits" 0 [] vN vN vN vN none vN vN 0)) []),
  (ob (vt "code") none (fi [(vs "bits" 3064), (vs "Paper.bits" 3065), (vs "/claim/cut.py" 3066), (vi 1137 0), (vi 1 0), (vi 0 0), (vi 0 0), (vi 3 0), (vr 2093), vT, (vi 181 0), (vr 2094), vN, (vr 2095), (vr 2096), (vr 2097), (vi 3068 0), (vi 1137 0), (vs "/claim/cut.py" 3069)]) []),
  (ob (vt "function") none (.func (fu (inClass (top 189) 2) "bits" "Paper.bits" 3 [] vN vN vN (vs "coverstore.papers" 2761) none (vr 2098) vN 0)) []),
  (ob (vt "property") none (fi [(vr 2099), vN, vN, vN, (vs "bits" 3071), vF]) []),
  (ob (vt "tuple") none (sq [] 0) []),
  (ob vN none (fi []) []),
  (ob (vt "tuple") none (sq [(vs "self" 3075)] 0) []),
  (ob (vt "tuple") none (sq [] 0) []),
  (ob vN none (.func (fu (inClass (top 189) 3) "query" "Paper.query" 0 [] vN vN vN vN none vN vN 0)) []),
  (ob (vt "code") none (fi [(vs "query" 3072), (vs "Paper.query" 3073), (vs "/claim/cut.py" 3074), (vi 1141 0), (vi 1 0), (vi 0 0), (vi 0 0), (vi 3 0), (vr 2101), vT, (vi 181 0), (vr 2102), vN, (vr 2103), (vr 2104), (vr 2105), (vi 3076 0), (vi 1141 0), (vs "/claim/cut.py" 3077)]) []),
  (ob (vt "function") none (.func (fu (inClass (top 189) 3) "query" "Paper.query" 3 [] vN vN vN (vs "coverstore.papers" 2761) none (vr 2106) vN 0)) []),
  (ob (vt "property") none (fi [(vr 2107), vN, vN, vN, (vs "query" 3079), vF]) []),
  (ob (vt "tuple") none (sq [] 0) []),
  (ob vN none (fi []) []),
  (ob (vt "tuple") none (sq [(vs "self" 3083)] 0) [])]
def o7_132 (P : Params) : List Obj := [
  (ob (vt "tuple") none (sq [] 0) []),
  (ob vN none (.func (fu (inClass (top 189) 4) "closing" "Paper.closing" 0 [] vN vN vN vN none vN vN 0)) []),
  (ob (vt "code") none (fi [(vs "closing" 3080), (vs "Paper.closing" 3081), (vs "/claim/cut.py" 3082), (vi 1145 0), (vi 1 0), (vi 0 0), (vi 0 0), (vi 3 0), (vr 2109), vT, (vi 181 0), (vr 2110), vN, (vr 2111), (vr 2112), (vr 2113), (vi 3084 0), (vi 1145 0), (vs "/claim/cut.py" 3085)]) []),
  (ob (vt "function") none (.func (fu (inClass (top 189) 4) "closing" "Paper.closing" 3 [] vN vN vN (vs "coverstore.papers" 2761) none (vr 2114) vN 0)) []),
  (ob (vt "property") none (fi [(vr 2115), vN, vN, vN, (vs "closing" 3087), vF]) []),
  (ob (vt "tuple") none (sq [] 0) []),
  (ob vN none (fi []) []),
  (ob (vt "tuple") none (sq [(vs "self" 3091)] 0) []),
  (ob (vt "tuple") none (sq [] 0) []),
  (ob vN none (.func (fu (inClass (top 189) 5) "is_trimmed" "Paper.is_trimmed" 0 [] vN vN vN vN none vN vN 0)) []),
  (ob (vt "code") none (fi [(vs "is_trimmed" 3088), (vs "Paper.is_trimmed" 3089), (vs "/claim/cut.py" 3090), (vi 1149 0), (vi 1 0), (vi 0 0), (vi 0 0), (vi 3 0), (vr 2117), vT, (vi 181 0), (vr 2118), vN, (vr 2119), (vr 2120), (vr 2121), (vi 3092 0), (vi 1149 0), (vs "/claim/cut.py" 3093)]) []),
  (ob (vt "function") none (.func (fu (inClass (top 189) 5) "is_trimmed" "Paper.is_trimmed" 3 [] vN vN vN (vs "coverstore.papers" 2761) none (vr 2122) vN 0)) []),
  (ob (vt "property") none (fi [(vr 2123), vN, vN, vN, (vs "is_trimmed" 3095), vF]) []),
  (ob (vt "tuple") none (sq [] 0) []),
  (ob vN none (fi []) []),
  (ob (vt "tuple") none (sq [(vs "self" 3099)] 0) [])]
def o7_133 (P : Params) : List Obj := [
  (ob (vt "tuple") none (sq [] 0) []),
  (ob vN none (.func (fu (inClass (top 189) 6) "__len__" "Paper.__len__" 0 [] vN vN vN vN none vN vN 0)) []),
  (ob (vt "code") none (fi [(vs "__len__" 3096), (vs "Paper.__len__" 3097), (vs "/claim/cut.py" 3098), (vi 1153 0), (vi 1 0), (vi 0 0), (vi 0 0), (vi 3 0), (vr 2125), vT, (vi 181 0), (vr 2126), vN, (vr 2127), (vr 2128), (vr 2129), (vi 3100 0), (vi 1153 0), (vs "/claim/cut.py" 3101)]) []),
  (ob (vt "function") none (.func (fu (inClass (top 189) 6) "__len__" "Paper.__len__" 3 [] vN vN vN (vs "coverstore.papers" 2761) none (vr 2130) vN 0)) []),
  (ob (vt "tuple") none (sq [] 0) []),
  (ob vN none (fi []) []),
  (ob (vt "tuple") none (sq [(vs "self" 3106), (vs "other" 3107), (vs "mine" 3108)] 0) []),
  (ob (vt "tuple") none (sq [] 0) []),
  (ob vN none (.func (fu (inClass (top 189) 7) "__eq__" "Paper.__eq__" 0 [] vN vN vN vN none vN vN 0)) []),
  (ob (vt "code") none (fi [(vs "__eq__" 3103), (vs "Paper.__eq__" 3104), (vs "/claim/cut.py" 3105), (vi 1156 0), (vi 2 0), (vi 0 0), (vi 0 0), (vi 3 0), (vr 2132), vT, (vi 181 0), (vr 2133), vN, (vr 2134), (vr 2135), (vr 2136), (vi 3109 0), (vi 1156 0), (vs "/claim/cut.py" 3110)]) []),
  (ob (vt "function") none (.func (fu (inClass (top 189) 7) "__eq__" "Paper.__eq__" 3 [] vN vN vN (vs "coverstore.papers" 2761) none (vr 2137) vN 0)) []),
  (ob (vt "tuple") none (sq [] 0) []),
  (ob vN none (fi []) []),
  (ob vN none (.func (fu (inClass (top 189) 8) "__str__" "Paper.__str__" 0 [] vN vN vN vN none vN vN 0)) []),
  (ob (vt "code") none (fi [(vs "__str__" 3112), (vs "Paper.__str__" 3113), (vs "/claim/cut.py" 3114), (vi 1162 0), (vi 1 0), (vi 0 0), (vi 0 0), (vi 3 0), (vr 2139), vT, (vi 181 0), (vr 2140), vN, vN, vN, (vr 2141), (vi 3115 0), (vi 1162 0), (vs "/claim/cut.py" 3116)]) []),
  (ob (vt "function") none (.func (fu (inClass (top 189) 8) "__str__" "Paper.__str__" 3 [] vN vN vN (vs "coverstore.papers" 2761) none (vr 2142) vN 0)) [])]
def o7_134 (P : Params) : List Obj := [
  (ob (vt "tuple") none (sq [] 0) []),
  (ob vN none (fi []) []),
  (ob (vt "tuple") none (sq [(vs "self" 3121)] 0) []),
  (ob (vt "tuple") none (sq [] 0) []),
  (ob vN none (.func (fu (inClass (top 189) 9) "__repr__" "Paper.__repr__" 0 [] vN vN vN vN none vN vN 0)) []),
  (ob (vt "code") none (fi [(vs "__repr__" 3118), (vs "Paper.__repr__" 3119), (vs "/claim/cut.py" 3120), (vi 1165 0), (vi 1 0), (vi 0 0), (vi 0 0), (vi 3 0), (vr 2144), vT, (vi 181 0), (vr 2145), vN, (vr 2146), (vr 2147), (vr 2148), (vi 3122 0), (vi 1165 0), (vs "/claim/cut.py" 3123)]) []),
  (ob (vt "function") none (.func (fu (inClass (top 189) 9) "__repr__" "Paper.__repr__" 3 [] vN vN vN (vs "coverstore.papers" 2761) none (vr 2149) vN 0)) []),
  (ob (vt "tuple") none (sq [] 0) []),
  (ob vN none (fi []) []),
  (ob (vt "tuple") none (sq [(vs "self" 3128)] 0) []),
  (ob (vt "tuple") none (sq [] 0) []),
  (ob vN none (.func (fu (inClass (top 189) 10) "lines" "Paper.lines" 0 [] vN vN vN vN none vN vN 0)) []),
  (ob (vt "code") none (fi [(vs "lines" 3125), (vs "Paper.lines" 3126), (vs "/claim/cut.py" 3127), (vi 1168 0), (vi 1 0), (vi 0 0), (vi 0 0), (vi 3 0), (vr 2151), vT, (vi 181 0), (vr 2152), vN, (vr 2153), (vr 2154), (vr 2155), (vi 3129 0), (vi 1168 0), (vs "/claim/cut.py" 3130)]) []),
  (ob (vt "function") none (.func (fu (inClass (top 189) 10) "lines" "Paper.lines" 3 [] vN vN vN (vs "coverstore.papers" 2761) none (vr 2156) vN 0)) []),
  (ob (vt "tuple") none (sq [] 0) []),
  (ob vN none (fi []) [])]
def o7_135 (P : Params) : List Obj := [
  (ob (vt "tuple") none (sq [(vs "self" 3135), (vs "number" 3136)] 0) []),
  (ob (vt "tuple") none (sq [] 0) []),
  (ob vN none (.func (fu (inClass (top 189) 11) "box" "Paper.box" 0 [] vN vN vN vN none vN vN 0)) []),
  (ob (vt "code") none (fi [(vs "box" 3132), (vs "Paper.box" 3133), (vs "/claim/cut.py" 3134), (vi 1171 0), (vi 2 0), (vi 0 0), (vi 0 0), (vi 3 0), (vr 2158), vT, (vi 181 0), (vr 2159), vN, (vr 2160), (vr 2161), (vr 2162), (vi 3137 0), (vi 1171 0), (vs "/claim/cut.py" 3138)]) []),
  (ob (vt "function") none (.func (fu (inClass (top 189) 11) "box" "Paper.box" 3 [] vN vN vN (vs "coverstore.papers" 2761) none (vr 2163) vN 0)) []),
  (ob (vt "tuple") none (sq [] 0) []),
  (ob vN none (fi []) []),
  (ob vN none (.func (fu (inClass (top 189) 12) "points" "Paper.points" 0 [] vN vN vN vN none vN vN 0)) []),
  (ob (vt "code") none (fi [(vs "points" 3140), (vs "Paper.points" 3141), (vs "/claim/cut.py" 3142), (vi 1176 0), (vi 1 0), (vi 0 0), (vi 0 0), (vi 3 0), (vr 2165), vT, (vi 181 0), (vr 2166), vN, vN, vN, (vr 2167), (vi 3143 0), (vi 1176 0), (vs "/claim/cut.py" 3144)]) []),
  (ob (vt "function") none (.func (fu (inClass (top 189) 12) "points" "Paper.points" 3 [] vN vN vN (vs "coverstore.papers" 2761) none (vr 2168) vN 0)) []),
  (ob (vt "tuple") none (sq [] 0) []),
  (ob vN none (fi []) []),
  (ob (vt "tuple") none (sq [(vs "self" 3149), (vs "found" 3150), (vs "number" 3151), (vs "other" 3152)] 0) []),
  (ob (vt "tuple") none (sq [] 0) []),
  (ob vN none (.func (fu (inClass (top 189) 13) "needed" "Paper.needed" 0 [] vN vN vN vN none vN vN 0)) []),
  (ob (vt "code") none (fi [(vs "needed" 3146), (vs "Paper.needed" 3147), (vs "/claim/cut.py" 3148), (vi 1179 0), (vi 1 0), (vi 0 0), (vi 0 0), (vi 3 0), (vr 2170), vT, (vi 181 0), (vr 2171), vN, (vr 2172), (vr 2173), (vr 2174), (vi 3153 0), (vi 1179 0), (vs "/claim/cut.py" 3154)]) [])]
def o7_136 (P : Params) : List Obj := [
  (ob (vt "function") none (.func (fu (inClass (top 189) 13) "needed" "Paper.needed" 3 [] vN vN vN (vs "coverstore.papers" 2761) none (vr 2175) vN 0)) []),
  (ob (vt "tuple") none (sq [] 0) []),
  (ob vN none (fi []) []),
  (ob vN none (.func (fu (inClass (top 189) 14) "trimmed" "Paper.trimmed" 0 [] vN vN vN vN none vN vN 0)) []),
  (ob (vt "code") none (fi [(vs "trimmed" 3156), (vs "Paper.trimmed" 3157), (vs "/claim/cut.py" 3158), (vi 1187 0), (vi 1 0), (vi 0 0), (vi 0 0), (vi 3 0), (vr 2177), vT, (vi 181 0), (vr 2178), vN, vN, vN, (vr 2179), (vi 3159 0), (vi 1187 0), (vs "/claim/cut.py" 3160)]) []),
  (ob (vt "function") none (.func (fu (inClass (top 189) 14) "trimmed" "Paper.trimmed" 3 [] vN vN vN (vs "coverstore.papers" 2761) none (vr 2180) vN 0)) []),
  (ob (vt "tuple") none (sq [(vs "own_bits" 3162), (vs "own_boxes" 3163), (vs "own_lines" 3164), (vs "own_query" 3165)] 0) []),
  (ob (vt "dict") none (di [de P "__module__" 3031 (vs "coverstore.papers" 2761), de P "__firstlineno__" 3035 (vi 1112 3034), de P "__init__" 3045 (vr 2084), de P "read" 3063 (vr 2091), de P "bits" 3071 (vr 2100), de P "query" 3079 (vr 2108), de P "closing" 3087 (vr 2116), de P "is_trimmed" 3095 (vr 2124), de P "__len__" 3102 (vr 2131), de P "__eq__" 3111 (vr 2138), de P "__str__" 3117 (vr 2143), de P "__repr__" 3124 (vr 2150), de P "lines" 3131 (vr 2157), de P "box" 3139 (vr 2164), de P "points" 3145 (vr 2169), de P "needed" 3155 (vr 2176), de P "trimmed" 3161 (vr 2181), de P "__static_attributes__" 3166 (vr 2182), de P "__dict__" 3168 (vr 2185), de P "__weakref__" 3170 (vr 2186), de P "__doc__" 3171 vN, de P "__hash__" 3172 vN] 5) []),
  (ob (vt "type") none (.cls ⟨"Paper", [(vt "object")], [(vr 2184), (vt "object")], 2183, "Paper", true, [], [], false, none, false⟩) [none, none, (some (vs "Paper" 3024)), (some (vs "Paper" 3032)), (some (vb "object.__new__")), (some vT)]),
  (ob (vt "getset_descriptor") none (fi [(vs "__dict__" 3167), (vr 2184), (vb "function.__dict__"), (vb "function.__dict__#set")]) []),
  (ob (vt "getset_descriptor") none (fi [(vs "__weakref__" 3169), (vr 2184), (vb "ExceptionGroup.__weakref__"), vN]) []),
  (ob (vt "super") none (fi [(vr 2184), (vr 2184), (vr 2184)]) []),
  (ob (vt "builtin_function_or_method") none (fi [(vb "object.__init_subclass__"), (vr 2184)]) []),
  (ob (vt "tuple") none (sq [] 0) []),
  (ob vN none (fi []) []),
  (ob (vt "tuple") none (sq [(vs "tree" 3182), (vs "ranges" 3183), (vs "number" 3184), (vs "here" 3185), (vs "prefix" 3186)] 0) [])]
def o7_137 (P : Params) : List Obj := [
  (ob (vt "tuple") none (sq [] 0) []),
  (ob vN none (.func (fu (top 192) "add_box" "add_box" 0 [] vN vN vN vN none vN vN 0)) []),
  (ob (vt "code") none (fi [(vs "add_box" 3179), (vs "add_box" 3180), (vs "/claim/cut.py" 3181), (vi 1197 0), (vi 3 0), (vi 0 0), (vi 0 0), (vi 3 0), (vr 2189), vT, (vi 181 0), (vr 2190), vN, (vr 2191), (vr 2192), (vr 2193), (vi 3187 0), (vi 1197 0), (vs "/claim/cut.py" 3188)]) []),
  (ob (vt "function") none (.func (fu (top 192) "add_box" "add_box" 3 [] vN vN vN (vs "coverstore.engine" 3175) none (vr 2194) vN 0)) []),
  (ob (vt "tuple") none (sq [] 0) []),
  (ob vN none (fi []) []),
  (ob (vt "tuple") none (sq [(vs "tree" 3193), (vs "ranges" 3194), (vs "first" 3195), (vs "rest" 3196), (vs "found" 3197), (vs "size" 3198), (vs "below" 3199), (vs "number" 3200)] 0) []),
  (ob (vt "tuple") none (sq [] 0) []),
  (ob vN none (.func (fu (top 193) "first_around" "first_around" 0 [] vN vN vN vN none vN vN 0)) []),
  (ob (vt "code") none (fi [(vs "first_around" 3190), (vs "first_around" 3191), (vs "/claim/cut.py" 3192), (vi 1202 0), (vi 2 0), (vi 0 0), (vi 0 0), (vi 3 0), (vr 2196), vT, (vi 181 0), (vr 2197), vN, (vr 2198), (vr 2199), (vr 2200), (vi 3201 0), (vi 1202 0), (vs "/claim/cut.py" 3202)]) []),
  (ob (vt "function") none (.func (fu (top 193) "first_around" "first_around" 3 [] vN vN vN (vs "coverstore.engine" 3175) none (vr 2201) vN 0)) []),
  (ob (vt "tuple") none (sq [] 0) []),
  (ob (vt "builtin_function_or_method") none (fi [(vb "type.__prepare__"), (vt "type")]) []),
  (ob (vt "dict") none (di [de P "__module__" 3211 (vs "coverstore.engine" 3175), de P "__qualname__" 3213 (vs "Search" 3212), de P "__firstlineno__" 3215 (vi 1212 3214), de P "__init__" 3225 (vr 2216), de P "add_line" 3235 (vr 2223), de P "known" 3243 (vr 2230), de P "widest_gap" 3257 (vr 2237), de P "failing_line" 3270 (vr 2244), de P "probe" 3281 (vr 2251), de P "cover" 3287 (vr 2256), de P "cover_exactly" 3296 (vr 2263), de P "ending" 3304 (vr 2270), de P "__static_attributes__" 3312 (vr 2271)] 13) []),
  (ob (vt "tuple") none (sq [] 0) []),
  (ob vN none (fi [(vi 1214 0), (vi 4 0), (vr 2215), (vi 1223 0), (vi 4 0), (vr 2222), (vi 1233 0), (vi 4 0), (vr 2229), (vi 1238 0), (vi 4 0), (vr 2236), (vi 1247 0), (vi 4 0), (vr 2243), (vi 1258 0), (vi 4 0), (vr 2250), (vi 1266 0), (vi 4 0), (vr 2255), (vi 1281 0), (vi 4 0), (vr 2262), (vi 1287 0), (vi 4 0), (vr 2269)]) [])]
def o7_138 (P : Params) : List Obj := [
  (ob (vt "code") none (fi [(vs "Search" 3206), (vs "Search" 3207), (vs "/claim/cut.py" 3208), (vi 1212 0), (vi 0 0), (vi 0 0), (vi 0 0), (vi 0 0), (vr 2206), vF, (vi 181 0), (vr 2207), vN, vN, vN, vN, (vi 3209 0), (vi 1212 0), (vs "/claim/cut.py" 3210)]) []),
  (ob (vt "frame") none .plain [(some (vr 2208)), (some (vr 3)), (some (vr 2205)), none, (some (vs "coverstore.engine" 3175)), none, (some (vr 0))]),
  (ob (vt "tuple") none (sq [] 0) []),
  (ob vN none (fi []) []),
  (ob (vt "tuple") none (sq [(vs "self" 3219), (vs "source" 3220), (vs "query" 3221), (vs "limit" 3222)] 0) []),
  (ob (vt "tuple") none (sq [] 0) []),
  (ob vN none (.func (fu (inClass (top 194) 0) "__init__" "Search.__init__" 0 [] vN vN vN vN none vN vN 0)) []),
  (ob (vt "code") none (fi [(vs "__init__" 3216), (vs "Search.__init__" 3217), (vs "/claim/cut.py" 3218), (vi 1214 0), (vi 4 0), (vi 0 0), (vi 0 0), (vi 3 0), (vr 2210), vT, (vi 181 0), (vr 2211), vN, (vr 2212), (vr 2213), (vr 2214), (vi 3223 0), (vi 1214 0), (vs "/claim/cut.py" 3224)]) []),
  (ob (vt "function") none (.func (fu (inClass (top 194) 0) "__init__" "Search.__init__" 3 [] vN vN vN (vs "coverstore.engine" 3175) none (vr 2215) vN 0)) []),
  (ob (vt "tuple") none (sq [] 0) []),
  (ob vN none (fi []) []),
  (ob (vt "tuple") none (sq [(vs "self" 3229), (vs "line" 3230), (vs "box" 3231), (vs "number" 3232)] 0) []),
  (ob (vt "tuple") none (sq [] 0) []),
  (ob vN none (.func (fu (inClass (top 194) 1) "add_line" "Search.add_line" 0 [] vN vN vN vN none vN vN 0)) []),
  (ob (vt "code") none (fi [(vs "add_line" 3226), (vs "Search.add_line" 3227), (vs "/claim/cut.py" 3228), (vi 1223 0), (vi 3 0), (vi 0 0), (vi 0 0), (vi 3 0), (vr 2217), vT, (vi 181 0), (vr 2218), vN, (vr 2219), (vr 2220), (vr 2221), (vi 3233 0), (vi 1223 0), (vs "/claim/cut.py" 3234)]) []),
  (ob (vt "function") none (.func (fu (inClass (top 194) 1) "add_line" "Search.add_line" 3 [] vN vN vN (vs "coverstore.engine" 3175) none (vr 2222) vN 0)) [])]
def o7_139 (P : Params) : List Obj := [
  (ob (vt "tuple") none (sq [] 0) []),
  (ob vN none (fi []) []),
  (ob (vt "tuple") none (sq [(vs "self" 3239), (vs "box" 3240)] 0) []),
  (ob (vt "tuple") none (sq [] 0) []),
  (ob vN none (.func (fu (inClass (top 194) 2) "known" "Search.known" 0 [] vN vN vN vN none vN vN 0)) []),
  (ob (vt "code") none (fi [(vs "known" 3236), (vs "Search.known" 3237), (vs "/claim/cut.py" 3238), (vi 1233 0), (vi 2 0), (vi 0 0), (vi 0 0), (vi 3 0), (vr 2224), vT, (vi 181 0), (vr 2225), vN, (vr 2226), (vr 2227), (vr 2228), (vi 3241 0), (vi 1233 0), (vs "/claim/cut.py" 3242)]) []),
  (ob (vt "function") none (.func (fu (inClass (top 194) 2) "known" "Search.known" 3 [] vN vN vN (vs "coverstore.engine" 3175) none (vr 2229) vN 0)) []),
  (ob (vt "tuple") none (sq [] 0) []),
  (ob vN none (fi []) []),
  (ob (vt "tuple") none (sq [(vs "self" 3247), (vs "position" 3248), (vs "key" 3249), (vs "table" 3250), (vs "best" 3251), (vs "best_size" 3252), (vs "gap" 3253), (vs "size" 3254)] 0) []),
  (ob (vt "tuple") none (sq [] 0) []),
  (ob vN none (.func (fu (inClass (top 194) 3) "widest_gap" "Search.widest_gap" 0 [] vN vN vN vN none vN vN 0)) []),
  (ob (vt "code") none (fi [(vs "widest_gap" 3244), (vs "Search.widest_gap" 3245), (vs "/claim/cut.py" 3246), (vi 1238 0), (vi 3 0), (vi 0 0), (vi 0 0), (vi 3 0), (vr 2231), vT, (vi 181 0), (vr 2232), vN, (vr 2233), (vr 2234), (vr 2235), (vi 3255 0), (vi 1238 0), (vs "/claim/cut.py" 3256)]) []),
  (ob (vt "function") none (.func (fu (inClass (top 194) 3) "widest_gap" "Search.widest_gap" 3 [] vN vN vN (vs "coverstore.engine" 3175) none (vr 2236) vN 0)) []),
  (ob (vt "tuple") none (sq [] 0) []),
  (ob vN none (fi []) [])]
def o7_140 (P : Params) : List Obj := [
  (ob (vt "tuple") none (sq [(vs "self" 3261), (vs "position" 3262), (vs "point" 3263), (vs "word" 3264), (vs "gap" 3265), (vs "key" 3266), (vs "box" 3267)] 0) []),
  (ob (vt "tuple") none (sq [] 0) []),
  (ob vN none (.func (fu (inClass (top 194) 4) "failing_line" "Search.failing_line" 0 [] vN vN vN vN none vN vN 0)) []),
  (ob (vt "code") none (fi [(vs "failing_line" 3258), (vs "Search.failing_line" 3259), (vs "/claim/cut.py" 3260), (vi 1247 0), (vi 3 0), (vi 0 0), (vi 0 0), (vi 3 0), (vr 2238), vT, (vi 181 0), (vr 2239), vN, (vr 2240), (vr 2241), (vr 2242), (vi 3268 0), (vi 1247 0), (vs "/claim/cut.py" 3269)]) []),
  (ob (vt "function") none (.func (fu (inClass (top 194) 4) "failing_line" "Search.failing_line" 3 [] vN vN vN (vs "coverstore.engine" 3175) none (vr 2243) vN 0)) []),
  (ob (vt "tuple") none (sq [] 0) []),
  (ob vN none (fi []) []),
  (ob (vt "tuple") none (sq [(vs "self" 3274), (vs "point" 3275), (vs "position" 3276), (vs "line" 3277), (vs "box" 3278)] 0) []),
  (ob (vt "tuple") none (sq [] 0) []),
  (ob vN none (.func (fu (inClass (top 194) 5) "probe" "Search.probe" 0 [] vN vN vN vN none vN vN 0)) []),
  (ob (vt "code") none (fi [(vs "probe" 3271), (vs "Search.probe" 3272), (vs "/claim/cut.py" 3273), (vi 1258 0), (vi 2 0), (vi 0 0), (vi 0 0), (vi 3 0), (vr 2245), vT, (vi 181 0), (vr 2246), vN, (vr 2247), (vr 2248), (vr 2249), (vi 3279 0), (vi 1258 0), (vs "/claim/cut.py" 3280)]) []),
  (ob (vt "function") none (.func (fu (inClass (top 194) 5) "probe" "Search.probe" 3 [] vN vN vN (vs "coverstore.engine" 3175) none (vr 2250) vN 0)) []),
  (ob (vt "tuple") none (sq [] 0) []),
  (ob vN none (fi []) []),
  (ob vN none (.func (fu (inClass (top 194) 6) "cover" "Search.cover" 0 [] vN vN vN vN none vN vN 0)) []),
  (ob (vt "code") none (fi [(vs "cover" 3282), (vs "Search.cover" 3283), (vs "/claim/cut.py" 3284), (vi 1266 0), (vi 2 0), (vi 0 0), (vi 0 0), (vi 3 0), (vr 2252), vT, (vi 181 0), (vr 2253), vN, vN, vN, (vr 2254), (vi 3285 0), (vi 1266 0), (vs "/claim/cut.py" 3286)]) [])]
def o7_141 (P : Params) : List Obj := [
  (ob (vt "function") none (.func (fu (inClass (top 194) 6) "cover" "Search.cover" 3 [] vN vN vN (vs "coverstore.engine" 3175) none (vr 2255) vN 0)) []),
  (ob (vt "tuple") none (sq [] 0) []),
  (ob vN none (fi []) []),
  (ob (vt "tuple") none (sq [(vs "self" 3291), (vs "box" 3292), (vs "number" 3293)] 0) []),
  (ob (vt "tuple") none (sq [] 0) []),
  (ob vN none (.func (fu (inClass (top 194) 7) "cover_exactly" "Search.cover_exactly" 0 [] vN vN vN vN none vN vN 0)) []),
  (ob (vt "code") none (fi [(vs "cover_exactly" 3288), (vs "Search.cover_exactly" 3289), (vs "/claim/cut.py" 3290), (vi 1281 0), (vi 2 0), (vi 0 0), (vi 0 0), (vi 3 0), (vr 2257), vT, (vi 181 0), (vr 2258), vN, (vr 2259), (vr 2260), (vr 2261), (vi 3294 0), (vi 1281 0), (vs "/claim/cut.py" 3295)]) []),
  (ob (vt "function") none (.func (fu (inClass (top 194) 7) "cover_exactly" "Search.cover_exactly" 3 [] vN vN vN (vs "coverstore.engine" 3175) none (vr 2262) vN 0)) []),
  (ob (vt "tuple") none (sq [] 0) []),
  (ob vN none (fi []) []),
  (ob (vt "tuple") none (sq [(vs "self" 3300), (vs "number" 3301)] 0) []),
  (ob (vt "tuple") none (sq [] 0) []),
  (ob vN none (.func (fu (inClass (top 194) 8) "ending" "Search.ending" 0 [] vN vN vN vN none vN vN 0)) []),
  (ob (vt "code") none (fi [(vs "ending" 3297), (vs "Search.ending" 3298), (vs "/claim/cut.py" 3299), (vi 1287 0), (vi 2 0), (vi 0 0), (vi 0 0), (vi 3 0), (vr 2264), vT, (vi 181 0), (vr 2265), vN, (vr 2266), (vr 2267), (vr 2268), (vi 3302 0), (vi 1287 0), (vs "/claim/cut.py" 3303)]) []),
  (ob (vt "function") none (.func (fu (inClass (top 194) 8) "ending" "Search.ending" 3 [] vN vN vN (vs "coverstore.engine" 3175) none (vr 2269) vN 0)) []),
  (ob (vt "tuple") none (sq [(vs "limit" 3305), (vs "new_boxes" 3306), (vs "new_lines" 3307), (vs "own_query" 3308), (vs "probed_points" 3309), (vs "source" 3310), (vs "tree" 3311)] 0) [])]
def o7_142 (P : Params) : List Obj := [
  (ob (vt "dict") none (di [de P "__module__" 3211 (vs "coverstore.engine" 3175), de P "__firstlineno__" 3215 (vi 1212 3214), de P "__init__" 3225 (vr 2216), de P "add_line" 3235 (vr 2223), de P "known" 3243 (vr 2230), de P "widest_gap" 3257 (vr 2237), de P "failing_line" 3270 (vr 2244), de P "probe" 3281 (vr 2251), de P "cover" 3287 (vr 2256), de P "cover_exactly" 3296 (vr 2263), de P "ending" 3304 (vr 2270), de P "__static_attributes__" 3312 (vr 2271), de P "__dict__" 3314 (vr 2274), de P "__weakref__" 3316 (vr 2275), de P "__doc__" 3317 vN] 4) []),
  (ob (vt "type") none (.cls ⟨"Search", [(vt "object")], [(vr 2273), (vt "object")], 2272, "Search", true, [], [], false, none, false⟩) [none, none, (some (vs "Search" 3204)), (some (vs "Search" 3212)), (some (vb "object.__new__")), (some vT)]),
  (ob (vt "getset_descriptor") none (fi [(vs "__dict__" 3313), (vr 2273), (vb "function.__dict__"), (vb "function.__dict__#set")]) []),
  (ob (vt "getset_descriptor") none (fi [(vs "__weakref__" 3315), (vr 2273), (vb "ExceptionGroup.__weakref__"), vN]) []),
  (ob (vt "super") none (fi [(vr 2273), (vr 2273), (vr 2273)]) []),
  (ob (vt "builtin_function_or_method") none (fi [(vb "object.__init_subclass__"), (vr 2273)]) []),
  (ob (vt "tuple") none (sq [] 0) []),
  (ob vN none (fi []) []),
  (ob (vt "tuple") none (sq [(vs "value" 3323)] 0) []),
  (ob (vt "tuple") none (sq [] 0) []),
  (ob vN none (.func (fu (top 195) "is_limit" "is_limit" 0 [] vN vN vN vN none vN vN 0)) []),
  (ob (vt "code") none (fi [(vs "is_limit" 3320), (vs "is_limit" 3321), (vs "/claim/cut.py" 3322), (vi 1289 0), (vi 1 0), (vi 0 0), (vi 0 0), (vi 3 0), (vr 2278), vT, (vi 181 0), (vr 2279), vN, (vr 2280), (vr 2281), (vr 2282), (vi 3324 0), (vi 1289 0), (vs "/claim/cut.py" 3325)]) []),
  (ob (vt "function") none (.func (fu (top 195) "is_limit" "is_limit" 3 [] vN vN vN (vs "coverstore.engine" 3175) none (vr 2283) vN 0)) []),
  (ob (vt "dict") none (di [de P "box" 3328 vN, de P "limit" 3329 (vi 2000 3327)] 2) []),
  (ob (vt "tuple") none (sq [] 0) []),
  (ob vN none (fi []) [])]
def o7_143 (P : Params) : List Obj := [
  (ob (vt "tuple") none (sq [(vs "source" 3333), (vs "query" 3334), (vs "box" 3335), (vs "limit" 3336), (vs "asked" 3337), (vs "search" 3338)] 0) []),
  (ob (vt "tuple") none (sq [] 0) []),
  (ob vN none (.func (fu (top 196) "paper_of" "paper_of" 0 [] vN vN vN vN none vN vN 0)) []),
  (ob (vt "code") none (fi [(vs "paper_of" 3330), (vs "paper_of" 3331), (vs "/claim/cut.py" 3332), (vi 1291 0), (vi 2 0), (vi 0 0), (vi 2 0), (vi 3 0), (vr 2286), vT, (vi 181 0), (vr 2287), vN, (vr 2288), (vr 2289), (vr 2290), (vi 3339 0), (vi 1291 0), (vs "/claim/cut.py" 3340)]) []),
  (ob (vt "function") none (.func (fu (top 196) "paper_of" "paper_of" 3 [] vN (vr 2285) vN (vs "coverstore.engine" 3175) none (vr 2291) vN 0)) []),
  (ob (vt "tuple") none (sq [] 0) []),
  (ob vN none (fi []) []),
  (ob (vt "tuple") none (sq [(vs "source" 3347), (vs "query" 3348), (vs "line" 3349), (vs "table" 3350)] 0) []),
  (ob (vt "tuple") none (sq [] 0) []),
  (ob vN none (.func (fu (top 198) "is_wrong" "is_wrong" 0 [] vN vN vN vN none vN vN 0)) []),
  (ob (vt "code") none (fi [(vs "is_wrong" 3344), (vs "is_wrong" 3345), (vs "/claim/cut.py" 3346), (vi 1301 0), (vi 3 0), (vi 0 0), (vi 0 0), (vi 3 0), (vr 2293), vT, (vi 181 0), (vr 2294), vN, (vr 2295), (vr 2296), (vr 2297), (vi 3351 0), (vi 1301 0), (vs "/claim/cut.py" 3352)]) []),
  (ob (vt "function") none (.func (fu (top 198) "is_wrong" "is_wrong" 3 [] vN vN vN (vs "coverstore.checks" 3342) none (vr 2298) vN 0)) []),
  (ob (vt "tuple") none (sq [] 0) []),
  (ob vN none (fi []) []),
  (ob (vt "tuple") none (sq [(vs "source" 3357), (vs "paper" 3358)] 0) []),
  (ob (vt "tuple") none (sq [] 0) [])]
def o7_144 (P : Params) : List Obj := [
  (ob vN none (.func (fu (top 199) "require_fit" "require_fit" 0 [] vN vN vN vN none vN vN 0)) []),
  (ob (vt "code") none (fi [(vs "require_fit" 3354), (vs "require_fit" 3355), (vs "/claim/cut.py" 3356), (vi 1310 0), (vi 2 0), (vi 0 0), (vi 0 0), (vi 3 0), (vr 2300), vT, (vi 181 0), (vr 2301), vN, (vr 2302), (vr 2303), (vr 2304), (vi 3359 0), (vi 1310 0), (vs "/claim/cut.py" 3360)]) []),
  (ob (vt "function") none (.func (fu (top 199) "require_fit" "require_fit" 3 [] vN vN vN (vs "coverstore.checks" 3342) none (vr 2305) vN 0)) []),
  (ob (vt "tuple") none (sq [] 0) []),
  (ob (vt "builtin_function_or_method") none (fi [(vb "type.__prepare__"), (vt "type")]) []),
  (ob (vt "dict") none (di [de P "__module__" 3371 (vs "coverstore.repair" 3362), de P "__qualname__" 3373 (vs "Repair" 3372), de P "__firstlineno__" 3375 (vi 1315 3374), de P "__init__" 3386 (vr 2320), de P "paper" 3394 (vr 2328), de P "is_changed" 3402 (vr 2336), de P "lost" 3409 (vr 2343), de P "found" 3416 (vr 2350), de P "probed" 3423 (vr 2357), de P "__static_attributes__" 3428 (vr 2358)] 10) []),
  (ob (vt "tuple") none (sq [] 0) []),
  (ob vN none (fi [(vi 1317 0), (vi 4 0), (vr 2319), (vi 1324 0), (vi 4 0), (vr 2326), (vi 1328 0), (vi 4 0), (vr 2334), (vi 1331 0), (vi 4 0), (vr 2342), (vi 1334 0), (vi 4 0), (vr 2349), (vi 1337 0), (vi 4 0), (vr 2356)]) []),
  (ob (vt "code") none (fi [(vs "Repair" 3366), (vs "Repair" 3367), (vs "/claim/cut.py" 3368), (vi 1315 0), (vi 0 0), (vi 0 0), (vi 0 0), (vi 0 0), (vr 2310), vF, (vi 181 0), (vr 2311), vN, vN, vN, vN, (vi 3369 0), (vi 1315 0), (vs "/claim/cut.py" 3370)]) []),
  (ob (vt "frame") none .plain [(some (vr 2312)), (some (vr 3)), (some (vr 2309)), none, (some (vs "coverstore.repair" 3362)), none, (some (vr 0))]),
  (ob (vt "tuple") none (sq [] 0) []),
  (ob vN none (fi []) []),
  (ob (vt "tuple") none (sq [(vs "self" 3379), (vs "paper" 3380), (vs "lost" 3381), (vs "found" 3382), (vs "probed" 3383)] 0) []),
  (ob (vt "tuple") none (sq [] 0) []),
  (ob vN none (.func (fu (inClass (top 201) 0) "__init__" "Repair.__init__" 0 [] vN vN vN vN none vN vN 0)) []),
  (ob (vt "code") none (fi [(vs "__init__" 3376), (vs "Repair.__init__" 3377), (vs "/claim/cut.py" 3378), (vi 1317 0), (vi 5 0), (vi 0 0), (vi 0 0), (vi 3 0), (vr 2314), vT, (vi 181 0), (vr 2315), vN, (vr 2316), (vr 2317), (vr 2318), (vi 3384 0), (vi 1317 0), (vs "/claim/cut.py" 3385)]) [])]
def o7_145 (P : Params) : List Obj := [
  (ob (vt "function") none (.func (fu (inClass (top 201) 0) "__init__" "Repair.__init__" 3 [] vN vN vN (vs "coverstore.repair" 3362) none (vr 2319) vN 0)) []),
  (ob (vt "tuple") none (sq [] 0) []),
  (ob vN none (fi []) []),
  (ob (vt "tuple") none (sq [(vs "self" 3390)] 0) []),
  (ob (vt "tuple") none (sq [] 0) []),
  (ob vN none (.func (fu (inClass (top 201) 1) "paper" "Repair.paper" 0 [] vN vN vN vN none vN vN 0)) []),
  (ob (vt "code") none (fi [(vs "paper" 3387), (vs "Repair.paper" 3388), (vs "/claim/cut.py" 3389), (vi 1323 0), (vi 1 0), (vi 0 0), (vi 0 0), (vi 3 0), (vr 2321), vT, (vi 181 0), (vr 2322), vN, (vr 2323), (vr 2324), (vr 2325), (vi 3391 0), (vi 1323 0), (vs "/claim/cut.py" 3392)]) []),
  (ob (vt "function") none (.func (fu (inClass (top 201) 1) "paper" "Repair.paper" 3 [] vN vN vN (vs "coverstore.repair" 3362) none (vr 2326) vN 0)) []),
  (ob (vt "property") none (fi [(vr 2327), vN, vN, vN, (vs "paper" 3394), vF]) []),
  (ob (vt "tuple") none (sq [] 0) []),
  (ob vN none (fi []) []),
  (ob (vt "tuple") none (sq [(vs "self" 3398)] 0) []),
  (ob (vt "tuple") none (sq [] 0) []),
  (ob vN none (.func (fu (inClass (top 201) 2) "is_changed" "Repair.is_changed" 0 [] vN vN vN vN none vN vN 0)) []),
  (ob (vt "code") none (fi [(vs "is_changed" 3395), (vs "Repair.is_changed" 3396), (vs "/claim/cut.py" 3397), (vi 1327 0), (vi 1 0), (vi 0 0), (vi 0 0), (vi 3 0), (vr 2329), vT, (vi 181 0), (vr 2330), vN, (vr 2331), (vr 2332), (vr 2333), (vi 3399 0), (vi 1327 0), (vs "/claim/cut.py" 3400)]) []),
  (ob (vt "function") none (.func (fu (inClass (top 201) 2) "is_changed" "Repair.is_changed" 3 [] vN vN vN (vs "coverstore.repair" 3362) none (vr 2334) vN 0)) [])]
def o7_146 (P : Params) : List Obj := [
  (ob (vt "property") none (fi [(vr 2335), vN, vN, vN, (vs "is_changed" 3402), vF]) []),
  (ob (vt "tuple") none (sq [] 0) []),
  (ob vN none (fi []) []),
  (ob (vt "tuple") none (sq [(vs "self" 3406)] 0) []),
  (ob (vt "tuple") none (sq [] 0) []),
  (ob vN none (.func (fu (inClass (top 201) 3) "lost" "Repair.lost" 0 [] vN vN vN vN none vN vN 0)) []),
  (ob (vt "code") none (fi [(vs "lost" 3403), (vs "Repair.lost" 3404), (vs "/claim/cut.py" 3405), (vi 1331 0), (vi 1 0), (vi 0 0), (vi 0 0), (vi 3 0), (vr 2337), vT, (vi 181 0), (vr 2338), vN, (vr 2339), (vr 2340), (vr 2341), (vi 3407 0), (vi 1331 0), (vs "/claim/cut.py" 3408)]) []),
  (ob (vt "function") none (.func (fu (inClass (top 201) 3) "lost" "Repair.lost" 3 [] vN vN vN (vs "coverstore.repair" 3362) none (vr 2342) vN 0)) []),
  (ob (vt "tuple") none (sq [] 0) []),
  (ob vN none (fi []) []),
  (ob (vt "tuple") none (sq [(vs "self" 3413)] 0) []),
  (ob (vt "tuple") none (sq [] 0) []),
  (ob vN none (.func (fu (inClass (top 201) 4) "found" "Repair.found" 0 [] vN vN vN vN none vN vN 0)) []),
  (ob (vt "code") none (fi [(vs "found" 3410), (vs "Repair.found" 3411), (vs "/claim/cut.py" 3412), (vi 1334 0), (vi 1 0), (vi 0 0), (vi 0 0), (vi 3 0), (vr 2344), vT, (vi 181 0), (vr 2345), vN, (vr 2346), (vr 2347), (vr 2348), (vi 3414 0), (vi 1334 0), (vs "/claim/cut.py" 3415)]) []),
  (ob (vt "function") none (.func (fu (inClass (top 201) 4) "found" "Repair.found" 3 [] vN vN vN (vs "coverstore.repair" 3362) none (vr 2349) vN 0)) []),
  (ob (vt "tuple") none (sq [] 0) [])]
def o7_147 (P : Params) : List Obj := [
  (ob vN none (fi []) []),
  (ob (vt "tuple") none (sq [(vs "self" 3420)] 0) []),
  (ob (vt "tuple") none (sq [] 0) []),
  (ob vN none (.func (fu (inClass (top 201) 5) "probed" "Repair.probed" 0 [] vN vN vN vN none vN vN 0)) []),
  (ob (vt "code") none (fi [(vs "probed" 3417), (vs "Repair.probed" 3418), (vs "/claim/cut.py" 3419), (vi 1337 0), (vi 1 0), (vi 0 0), (vi 0 0), (vi 3 0), (vr 2351), vT, (vi 181 0), (vr 2352), vN, (vr 2353), (vr 2354), (vr 2355), (vi 3421 0), (vi 1337 0), (vs "/claim/cut.py" 3422)]) []),
  (ob (vt "function") none (.func (fu (inClass (top 201) 5) "probed" "Repair.probed" 3 [] vN vN vN (vs "coverstore.repair" 3362) none (vr 2356) vN 0)) []),
  (ob (vt "tuple") none (sq [(vs "found_points" 3424), (vs "lost_points" 3425), (vs "probed_points" 3426), (vs "repaired_paper" 3427)] 0) []),
  (ob (vt "dict") none (di [de P "__module__" 3371 (vs "coverstore.repair" 3362), de P "__firstlineno__" 3375 (vi 1315 3374), de P "__init__" 3386 (vr 2320), de P "paper" 3394 (vr 2328), de P "is_changed" 3402 (vr 2336), de P "lost" 3409 (vr 2343), de P "found" 3416 (vr 2350), de P "probed" 3423 (vr 2357), de P "__static_attributes__" 3428 (vr 2358), de P "__dict__" 3430 (vr 2361), de P "__weakref__" 3432 (vr 2362), de P "__doc__" 3433 vN] 4) []),
  (ob (vt "type") none (.cls ⟨"Repair", [(vt "object")], [(vr 2360), (vt "object")], 2359, "Repair", true, [], [], false, none, false⟩) [none, none, (some (vs "Repair" 3364)), (some (vs "Repair" 3372)), (some (vb "object.__new__")), (some vT)]),
  (ob (vt "getset_descriptor") none (fi [(vs "__dict__" 3429), (vr 2360), (vb "function.__dict__"), (vb "function.__dict__#set")]) []),
  (ob (vt "getset_descriptor") none (fi [(vs "__weakref__" 3431), (vr 2360), (vb "ExceptionGroup.__weakref__"), vN]) []),
  (ob (vt "super") none (fi [(vr 2360), (vr 2360), (vr 2360)]) []),
  (ob (vt "builtin_function_or_method") none (fi [(vb "object.__init_subclass__"), (vr 2360)]) []),
  (ob (vt "tuple") none (sq [] 0) []),
  (ob vN none (fi []) []),
  (ob (vt "tuple") none (sq [(vs "line" 3439), (vs "numbers" 3440)] 0) [])]
def o7_148 (P : Params) : List Obj := [
  (ob (vt "tuple") none (sq [] 0) []),
  (ob vN none (.func (fu (top 202) "renumbered" "renumbered" 0 [] vN vN vN vN none vN vN 0)) []),
  (ob (vt "code") none (fi [(vs "renumbered" 3436), (vs "renumbered" 3437), (vs "/claim/cut.py" 3438), (vi 1339 0), (vi 2 0), (vi 0 0), (vi 0 0), (vi 3 0), (vr 2365), vT, (vi 181 0), (vr 2366), vN, (vr 2367), (vr 2368), (vr 2369), (vi 3441 0), (vi 1339 0), (vs "/claim/cut.py" 3442)]) []),
  (ob (vt "function") none (.func (fu (top 202) "renumbered" "renumbered" 3 [] vN vN vN (vs "coverstore.repair" 3362) none (vr 2370) vN 0)) []),
  (ob (vt "tuple") none (sq [] 0) []),
  (ob vN none (fi []) []),
  (ob vN none (.func (fu (top 203) "lost_points" "lost_points" 0 [] vN vN vN vN none vN vN 0)) []),
  (ob (vt "code") none (fi [(vs "lost_points" 3444), (vs "lost_points" 3445), (vs "/claim/cut.py" 3446), (vi 1345 0), (vi 2 0), (vi 0 0), (vi 0 0), (vi 3 0), (vr 2372), vT, (vi 181 0), (vr 2373), vN, vN, vN, (vr 2374), (vi 3447 0), (vi 1345 0), (vs "/claim/cut.py" 3448)]) []),
  (ob (vt "function") none (.func (fu (top 203) "lost_points" "lost_points" 3 [] vN vN vN (vs "coverstore.repair" 3362) none (vr 2375) vN 0)) []),
  (ob (vt "tuple") none (sq [] 0) []),
  (ob vN none (fi []) []),
  (ob vN none (.func (fu (top 204) "repaired" "repaired" 0 [] vN vN vN vN none vN vN 0)) []),
  (ob (vt "code") none (fi [(vs "repaired" 3450), (vs "repaired" 3451), (vs "/claim/cut.py" 3452), (vi 1347 0), (vi 2 0), (vi 0 0), (vi 0 0), (vi 3 0), (vr 2377), vT, (vi 181 0), (vr 2378), vN, vN, vN, (vr 2379), (vi 3453 0), (vi 1347 0), (vs "/claim/cut.py" 3454)]) []),
  (ob (vt "function") none (.func (fu (top 204) "repaired" "repaired" 3 [] vN vN vN (vs "coverstore.repair" 3362) none (vr 2380) vN 0)) [])]
def o7 (P : Params) : List Obj := o7_0 P ++ (o1_1 P ++ (o1_2 P ++ (o1_3 P ++ (o1_4 P ++ (o1_5 P ++ (o1_6 P ++ (o1_7 P ++ (o1_8 P ++ (o1_9 P ++ (o1_10 P ++ (o1_11 P ++ (o1_12 P ++ (o1_13 P ++ (o1_14 P ++ (o1_15 P ++ (o1_16 P ++ (o1_17 P ++ (o1_18 P ++ (o1_19 P ++ (o1_20 P ++ (o1_21 P ++ (o1_22 P ++ (o1_23 P ++ (o1_24 P ++ (o1_25 P ++ (o1_26 P ++ (o1_27 P ++ (o1_28 P ++ (o1_29 P ++ (o1_30 P ++ (o1_31 P ++ (o1_32 P ++ (o1_33 P ++ (o1_34 P ++ (o1_35 P ++ (o1_36 P ++ (o1_37 P ++ (o1_38 P ++ (o1_39 P ++ (o2_40 P ++ (o2_41 P ++ (o2_42 P ++ (o2_43 P ++ (o2_44 P ++ (o2_45 P ++ (o2_46 P ++ (o2_47 P ++ (o2_48 P ++ (o2_49 P ++ (o2_50 P ++ (o2_51 P ++ (o2_52 P ++ (o2_53 P ++ (o2_54 P ++ (o2_55 P ++ (o2_56 P ++ (o2_57 P ++ (o2_58 P ++ (o2_59 P ++ (o2_60 P ++ (o2_61 P ++ (o2_62 P ++ (o2_63 P ++ (o2_64 P ++ (o2_65 P ++ (o2_66 P ++ (o2_67 P ++ (o3_68 P ++ (o3_69 P ++ (o4_70 P ++ (o4_71 P ++ (o4_72 P ++ (o4_73 P ++ (o4_74 P ++ (o4_75 P ++ (o4_76 P ++ (o4_77 P ++ (o4_78 P ++ (o4_79 P ++ (o4_80 P ++ (o4_81 P ++ (o4_82 P ++ (o4_83 P ++ (o4_84 P ++ (o4_85 P ++ (o4_86 P ++ (o4_87 P ++ (o4_88 P ++ (o4_89 P ++ (o5_90 P ++ (o5_91 P ++ (o5_92 P ++ (o5_93 P ++ (o5_94 P ++ (o5_95 P ++ (o5_96 P ++ (o5_97 P ++ (o5_98 P ++ (o5_99 P ++ (o5_100 P ++ (o5_101 P ++ (o5_102 P ++ (o5_103 P ++ (o5_104 P ++ (o5_105 P ++ (o5_106 P ++ (o5_107 P ++ (o5_108 P ++ (o5_109 P ++ (o5_110 P ++ (o5_111 P ++ (o5_112 P ++ (o5_113 P ++ (o5_114 P ++ (o5_115 P ++ (o5_116 P ++ (o5_117 P ++ (o6_118 P ++ (o6_119 P ++ (o6_120 P ++ (o6_121 P ++ (o6_122 P ++ (o6_123 P ++ (o6_124 P ++ (o7_125 P ++ (o7_126 P ++ (o7_127 P ++ (o7_128 P ++ (o7_129 P ++ (o7_130 P ++ (o7_131 P ++ (o7_132 P ++ (o7_133 P ++ (o7_134 P ++ (o7_135 P ++ (o7_136 P ++ (o7_137 P ++ (o7_138 P ++ (o7_139 P ++ (o7_140 P ++ (o7_141 P ++ (o7_142 P ++ (o7_143 P ++ (o7_144 P ++ (o7_145 P ++ (o7_146 P ++ (o7_147 P ++ (o7_148 P))))))))))))))))))))))))))))))))))))))))))))))))))))))))))))))))))))))))))))))))))))))))))))))))))))))))))))))))))))))))))))))))))))))))))))))))))))
def S7 (w : World) (os : OsState) : SharedT := ⟨lay (o7 w.params) .nil 0, 2382, {}, #[], {}, 3458, os⟩
def pos7 : Pos := ⟨1362, 0, 1362, 8⟩
def n7 : Nat := 2677
def o8_0 (P : Params) : List Obj := [
  boot_o_0 P,
  boot_o_1 P,
  (ob vN none (di [de P "type.__subclasses__.ArithmeticError.0" 1110 (vi 693 0), de P "type.__subclasses__.ArithmeticError.n" 1111 (vi 1 0)] 2) []),
  (ob (vt "dict") none (di [de P "__name__" 165 (vs "law_coverstore_k91_disks" 4282), de P "__doc__" 166 vN, de P "__package__" 167 vN, de P "__loader__" 168 (vb "__main__.__loader__#opaque"), de P "__spec__" 169 vN, de P "__annotations__" 170 (vr 6), de P "__builtins__" 171 (vr 4), de P "__file__" 173 (vs "/claim/cut.py" 172), de P "__cached__" 174 vN, de P "_wall" 193 (vr 21), de P "CoverError" 213 (vr 31), de P "InvalidBits" 238 (vr 51), de P "InvalidValue" 263 (vr 70), de P "InvalidRange" 288 (vr 89), de P "InvalidBox" 313 (vr 108), de P "InvalidPlace" 338 (vr 127), de P "InvalidCount" 363 (vr 146), de P "InvalidName" 388 (vr 165), de P "InvalidColumns" 413 (vr 184), de P "InvalidOrder" 438 (vr 203), de P "InvalidKey" 463 (vr 222), de P "InvalidWrite" 488 (vr 241), de P "InvalidQuery" 515 (vr 260), de P "InvalidText" 540 (vr 279), de P "InvalidPaper" 565 (vr 298), de P "InvalidLimit" 590 (vr 317), de P "InvalidPage" 615 (vr 336), de P "UnknownTable" 642 (vr 355), de P "UnknownVersion" 669 (vr 375), de P "TooOld" 696 (vr 395), de P "UnknownName" 723 (vr 415), de P "NameTaken" 750 (vr 435), de P "KeyTaken" 779 (vr 455), de P "NoSuchRow" 808 (vr 475), de P "Unlike" 826 (vr 488), de P "NoHalf" 853 (vr 508), de P "NotJoined" 880 (vr 528), de P "NotAPoint" 898 (vr 541), de P "WrongColumns" 925 (vr 561), de P "NotEmpty" 952 (vr 581), de P "Ended" 970 (vr 594), de P "Changed" 999 (vr 614), de P "Violated" 1028 (vr 634), de P "Crashed" 1046 (vr 647), de P "DiskInUse" 1064 (vr 660), de P "NoStore" 1082 (vr 673), de P "TooMany" 1113 (vr 693), de P "MAX_BITS" 1117 (vi 10 1116), de P "DIGITS_ranges" 1119 (vs "01" 1118), de P "is_integer" 1126 (vr 703), de P "is_bits" 1133 (vr 710), de P "is_value" 1141 (vr 717), de P "is_range" 1147 (vr 722), de P "require_bits" 1154 (vr 729), de P "require_value" 1162 (vr 736), de P "require_range" 1170 (vr 743), de P "number_of" 1179 (vr 750), de P "range_of" 1185 (vr 755), de P "bounds" 1195 (vr 762), de P "common_range" 1204 (vr 769), de P "common_length" 1213 (vr 776), de P "widest_range" 1225 (vr 785), de P "PAGE_SIZE" 1229 (vi 32 1228), de P "require_page" 1236 (vr 792), de P "Disk" 1330 (vr 866), de P "MOST_RANGES" 1334 (vi 5 1333), de P "ALL" 1336 (vs "*" 1335), de P "NO_RANGES" 1338 (vs "-" 1337), de P "COMMA_boxes" 1340 (vs "," 1339), de P "require_ranges" 1350 (vr 877), de P "ranges_text" 1356 (vr 882), de P "ranges_in" 1362 (vr 887), de P "Box" 1643 (vr 1096), de P "MOST_PAYLOAD" 1649 (vi 1000000000 1648), de P "INSERT" 1651 (vs "insert" 1650), de P "UPDATE" 1653 (vs "update" 1652), de P "DELETE" 1655 (vs "delete" 1654), de P "WRITE_SIZES" 1662 (vr 1101), de P "is_payload" 1669 (vr 1108), de P "is_table" 1677 (vr 1115), de P "is_key" 1683 (vr 1120), de P "require_table" 1691 (vr 1127), de P "require_key" 1700 (vr 1134), de P "require_box" 1709 (vr 1141), de P "is_write" 1715 (vr 1146), de P "require_writes" 1725 (vr 1153), de P "rows_after" 1740 (vr 1160), de P "alike_columns" 1750 (vr 1167), de P "gap_between" 1756 (vr 1172), de P "Source" 1811 (vr 1209), de P "Snapshot" 1895 (vr 1282), de P "Overlay" 1978 (vr 1349), de P "LETTERS" 1982 (vs "abcdefghijklmnopqrstuvwxyz" 1981), de P "MOST_LETTERS" 1984 (vi 8 1983), de P "RESERVED" 1987 (vr 1352), de P "MOST_TABLES" 1989 (vi 8 1988), de P "MOST_COLUMNS" 1991 (vi 4 1990), de P "MOST_OTHER_ORDERS" 1993 (vi 2 1992), de P "is_name" 1999 (vr 1357), de P "require_name" 2007 (vr 1364), de P "is_order" 2013 (vr 1673), de P "is_order_bases" 2014 (vr 1369), de P "require_orders" 2025 (vr 1376), de P "Table" 2126 (vr 1445), de P "Base" 2330 (vr 1611), de P "POSITIVE" 2334 (vs "row" 2333), de P "DENIED" 2336 (vs "none" 2335), de P "SIGNS" 2341 (vr 1616), de P "LITERAL_LENGTH" 2343 (vi 3 2342), de P "MOST_TERMS" 2345 (vi 4 2344), de P "MOST_LITERALS" 2347 (vi 8 2346), de P "MOST_VARIABLES" 2349 (vi 5 2348), de P "MOST_INTEGER" 2351 (vi 1023 2350), de P "MOST_DIGITS_queries" 2353 (vi 4 2352), de P "DIGITS_queries" 2355 (vs "0123456789" 2354), de P "COMMA_queries" 2357 (vs "," 2356), de P "BETWEEN" 2359 (vs ", " 2358), de P "BEFORE_ORDER" 2361 (vs " by " 2360), de P "NOT" 2363 (vs "not" 2362), de P "is_term" 2370 (vr 1623), de P "are_terms" 2376 (vr 1628), de P "is_literal" 2386 (vr 1635), de P "is_comparison" 2393 (vr 1642), de P "terms_of" 2400 (vr 1649), de P "integers_in" 2406 (vr 2882), de P "integers_in_queries" 2407 (vr 1654), de P "variables_in" 2417 (vr 1661), de P "require_literals" 2426 (vr 1668), de P "is_order_queries" 2433 (vr 1673), de P "literal_text" 2439 (vr 1678), de P "query_text" 2445 (vr 1683), de P "term_in" 2451 (vr 1688), de P "row_literal_in" 2457 (vr 1693), de P "literal_in" 2465 (vr 1700), de P "query_in" 2471 (vr 1705), de P "Query" 2584 (vr 1783), de P "fit" 2595 (vr 1794), de P "is_position" 2605 (vr 1801), de P "require_comparison" 2613 (vr 1808), de P "require_values" 2623 (vr 1815), de P "values_at" 2629 (vr 1820), de P "is_so" 2638 (vr 1827), de P "key_of" 2647 (vr 1834), de P "is_true" 2661 (vr 1841), de P "laid" 2667 (vr 1846), de P "false_span" 2678 (vr 1853), de P "false_span_behind" 2688 (vr 1860), de P "widest_between" 2701 (vr 1867), de P "false_ranges" 2719 (vr 1874), de P "false_around" 2725 (vr 1879), de P "term_range" 2734 (vr 1886), de P "is_false_in" 2750 (vr 1893), de P "failing_at" 2760 (vr 1900), de P "GAP" 2764 (vs "gap" 2763), de P "ROW" 2766 (vs "row" 2765), de P "FALSE" 2768 (vs "false" 2767), de P "POINT" 2770 (vs "point" 2769), de P "JOIN" 2772 (vs "join" 2771), de P "PART" 2774 (vs "part" 2773), de P "FIGURES" 2776 (vs "0123456789" 2775), de P "MOST_FIGURES" 2778 (vi 10 2777), de P "EMPTY" 2780 (vs "-" 2779), de P "COMMA_papers" 2782 (vs "," 2781), de P "BLANK" 2784 (vs " " 2783), de P "FEED" 2786 (vs "\n" 2785), de P "is_number" 2794 (vr 1907), de P "are_values" 2800 (vr 1912), de P "is_box" 2809 (vr 1919), de P "Places" 2857 (vr 1948), de P "gap_box" 2868 (vr 1959), de P "row_box" 2879 (vr 1966), de P "false_line_box" 2890 (vr 1973), de P "point_box" 2900 (vr 1980), de P "join_box" 2912 (vr 1987), de P "part_box" 2922 (vr 1994), de P "KINDS" 2935 (vr 1995), de P "box_of" 2945 (vr 2008), de P "boxes_of" 2957 (vr 2015), de P "named_by" 2964 (vr 2022), de P "renamed" 2972 (vr 2029), de P "values_text" 2978 (vr 2034), de P "part_text" 2985 (vr 2041), de P "line_text" 2991 (vr 2046), de P "number_in" 2997 (vr 2051), de P "values_in" 3003 (vr 2056), de P "box_in" 3012 (vr 2063), de P "line_in" 3023 (vr 2070), de P "Paper" 3174 (vr 2184), de P "MOST_LINES" 3178 (vi 100000 3177), de P "add_box" 3189 (vr 2195), de P "first_around" 3203 (vr 2202), de P "Search" 3319 (vr 2273), de P "is_limit" 3326 (vr 2284), de P "paper_of" 3341 (vr 2292), de P "is_wrong" 3353 (vr 2299), de P "require_fit" 3361 (vr 2306), de P "Repair" 3435 (vr 2360), de P "renumbered" 3443 (vr 2371), de P "lost_points" 3449 (vr 2376), de P "repaired" 3455 (vr 2381), de P "LIMIT" 3459 (vi 2000 3458), de P "Keeper" 3616 (vr 2503), de P "Transaction" 3796 (vr 2640), de P "Store" 4013 (vr 2817), de P "PART_SIZE" 4018 (vi 31 4017), de P "MORE" 4020 (vs "+" 4019), de P "LAST" 4022 (vs "." 4021), de P "NO_ORDERS" 4024 (vs "-" 4023), de P "CHECK_DIGITS" 4026 (vi 4 4025), de P "CHECK_MODULUS" 4028 (vi 9973 4027), de P "BITS" 4030 (vs "bits" 4029), de P "TABLE" 4032 (vs "table" 4031), de P "REQUIRE" 4034 (vs "require" 4033), de P "COMMIT" 4036 (vs "commit" 4035), de P "DIGITS_durable" 4038 (vs "0123456789" 4037), de P "MOST_DIGITS_durable" 4040 (vi 10 4039), de P "check_sum" 4046 (vr 2826), de P "record_text" 4053 (vr 2833), de P "pages_of" 4059 (vr 2838), de P "joined" 4065 (vr 2843), de P "bits_body" 4072 (vr 2850), de P "table_body" 4078 (vr 2855), de P "require_body" 4086 (vr 2862), de P "write_text" 4092 (vr 2867), de P "commit_body" 4098 (vr 2872), de P "integer_in" 4104 (vr 2877), de P "integers_in_durable" 4111 (vr 2882), de P "write_in" 4117 (vr 2887), de P "NextRecord" 4151 (vr 2907), de P "DurableStore" 4273 (vr 2992), de P "bits_in" 4281 (vr 3001), de P "_law_pot" 4293 (vr 3008), de P "_law_take" 4302 (vr 3015), de P "_law_pick" 4310 (vr 3022), de P "_law_page" 4316 (vr 3027), de P "_law_is_page" 4323 (vr 3034), de P "_law_number" 4331 (vr 3041), de P "_law_is_count" 4338 (vr 3048), de P "_law_told" 4351 (vr 3055), de P "_law_write_right" 4361 (vr 3062), de P "_law_crash_right" 4371 (vr 3069), de P "_law_spoil_right" 4382 (vr 3076), de P "_law_state_right" 4388 (vr 3081), de P "_law_named_right" 4400 (vr 3088), de P "_law_right" 4412 (vr 3095), de P "law" 4418 (vr 3100)] 246) []),
  boot_o_4 P,
  boot_o_5 P,
  boot_o_6 P,
  boot_o_7 P,
  boot_o_8 P,
  boot_o_9 P,
  boot_o_10 P,
  (ob (vt "tuple") none (sq [] 0) []),
  (ob vN none (fi [(vi 1 0), (vi 0 0), (vr 20), (vi 5 0), (vi 0 0), (vr 27), (vi 7 0), (vi 0 0), (vr 40), (vi 12 0), (vi 0 0), (vr 59), (vi 17 0), (vi 0 0), (vr 78), (vi 22 0), (vi 0 0), (vr 97), (vi 27 0), (vi 0 0), (vr 116), (vi 32 0), (vi 0 0), (vr 135), (vi 37 0), (vi 0 0), (vr 154), (vi 42 0), (vi 0 0), (vr 173), (vi 47 0), (vi 0 0), (vr 192), (vi 52 0), (vi 0 0), (vr 211), (vi 57 0), (vi 0 0), (vr 230), (vi 62 0), (vi 0 0), (vr 249), (vi 68 0), (vi 0 0), (vr 268), (vi 73 0), (vi 0 0), (vr 287), (vi 78 0), (vi 0 0), (vr 306), (vi 83 0), (vi 0 0), (vr 325), (vi 88 0), (vi 0 0), (vr 344), (vi 93 0), (vi 0 0), (vr 364), (vi 98 0), (vi 0 0), (vr 384), (vi 103 0), (vi 0 0), (vr 404), (vi 108 0), (vi 0 0), (vr 424), (vi 113 0), (vi 0 0), (vr 444), (vi 119 0), (vi 0 0), (vr 464), (vi 125 0), (vi 0 0), (vr 484), (vi 127 0), (vi 0 0), (vr 497), (vi 132 0), (vi 0 0), (vr 517), (vi 137 0), (vi 0 0), (vr 537), (vi 139 0), (vi 0 0), (vr 550), (vi 144 0), (vi 0 0), (vr 570), (vi 149 0), (vi 0 0), (vr 590), (vi 151 0), (vi 0 0), (vr 603), (vi 157 0), (vi 0 0), (vr 623), (vi 163 0), (vi 0 0), (vr 643), (vi 165 0), (vi 0 0), (vr 656), (vi 167 0), (vi 0 0), (vr 669), (vi 169 0), (vi 0 0), (vr 682), (vi 178 0), (vi 0 0), (vr 702), (vi 180 0), (vi 0 0), (vr 709), (vi 182 0), (vi 0 0), (vr 716), (vi 184 0), (vi 0 0), (vr 721), (vi 188 0), (vi 0 0), (vr 728), (vi 191 0), (vi 0 0), (vr 735), (vi 194 0), (vi 0 0), (vr 742), (vi 197 0), (vi 0 0), (vr 749), (vi 202 0), (vi 0 0), (vr 754), (vi 206 0), (vi 0 0), (vr 761), (vi 212 0), (vi 0 0), (vr 768), (vi 219 0), (vi 0 0), (vr 775), (vi 224 0), (vi 0 0), (vr 784), (vi 234 0), (vi 0 0), (vr 791), (vi 237 0), (vi 0 0), (vr 798), (vi 286 0), (vi 0 0), (vr 876), (vi 292 0), (vi 0 0), (vr 881), (vi 296 0), (vi 0 0), (vr 886), (vi 306 0), (vi 0 0), (vr 893), (vi 452 0), (vi 0 0), (vr 1107), (vi 454 0), (vi 0 0), (vr 1114), (vi 456 0), (vi 0 0), (vr 1119), (vi 460 0), (vi 0 0), (vr 1126), (vi 463 0), (vi 0 0), (vr 1133), (vi 467 0), (vi 0 0), (vr 1140), (vi 471 0), (vi 0 0), (vr 1145), (vi 477 0), (vi 0 0), (vr 1152), (vi 483 0), (vi 0 0), (vr 1159), (vi 495 0), (vi 0 0), (vr 1166), (vi 500 0), (vi 0 0), (vr 1171), (vi 510 0), (vi 0 0), (vr 1178), (vi 530 0), (vi 0 0), (vr 1219), (vi 559 0), (vi 0 0), (vr 1290), (vi 602 0), (vi 0 0), (vr 1356), (vi 606 0), (vi 0 0), (vr 1363), (vi 611 0), (vi 0 0), (vr 1368), (vi 616 0), (vi 0 0), (vr 1375), (vi 622 0), (vi 0 0), (vr 1382), (vi 657 0), (vi 0 0), (vr 1455), (vi 768 0), (vi 0 0), (vr 1622), (vi 770 0), (vi 0 0), (vr 1627), (vi 772 0), (vi 0 0), (vr 1634), (vi 779 0), (vi 0 0), (vr 1641), (vi 781 0), (vi 0 0), (vr 1648), (vi 783 0), (vi 0 0), (vr 1653), (vi 786 0), (vi 0 0), (vr 1660), (vi 793 0), (vi 0 0), (vr 1667), (vi 799 0), (vi 0 0), (vr 1672), (vi 802 0), (vi 0 0), (vr 1677), (vi 808 0), (vi 0 0), (vr 1682), (vi 811 0), (vi 0 0), (vr 1687), (vi 815 0), (vi 0 0), (vr 1692), (vi 820 0), (vi 0 0), (vr 1699), (vi 827 0), (vi 0 0), (vr 1704), (vi 835 0), (vi 0 0), (vr 1711), (vi 881 0), (vi 0 0), (vr 1793), (vi 889 0), (vi 0 0), (vr 1800), (vi 891 0), (vi 0 0), (vr 1807), (vi 894 0), (vi 0 0), (vr 1814), (vi 898 0), (vi 0 0), (vr 1819), (vi 901 0), (vi 0 0), (vr 1826), (vi 907 0), (vi 0 0), (vr 1833), (vi 909 0), (vi 0 0), (vr 1840), (vi 915 0), (vi 0 0), (vr 1845), (vi 927 0), (vi 0 0), (vr 1852), (vi 936 0), (vi 0 0), (vr 1859), (vi 942 0), (vi 0 0), (vr 1866), (vi 949 0), (vi 0 0), (vr 1873), (vi 961 0), (vi 0 0), (vr 1878), (vi 964 0), (vi 0 0), (vr 1885), (vi 966 0), (vi 0 0), (vr 1892), (vi 981 0), (vi 0 0), (vr 1899), (vi 999 0), (vi 0 0), (vr 1906), (vi 1001 0), (vi 0 0), (vr 1911), (vi 1003 0), (vi 0 0), (vr 1918), (vi 1005 0), (vi 0 0), (vr 1925), (vi 1027 0), (vi 0 0), (vr 1958), (vi 1033 0), (vi 0 0), (vr 1965), (vi 1039 0), (vi 0 0), (vr 1972), (vi 1045 0), (vi 0 0), (vr 1979), (vi 1050 0), (vi 0 0), (vr 1986), (vi 1059 0), (vi 0 0), (vr 1993), (vi 1065 0), (vi 0 0), (vr 2007), (vi 1070 0), (vi 0 0), (vr 2014), (vi 1076 0), (vi 0 0), (vr 2021), (vi 1080 0), (vi 0 0), (vr 2028), (vi 1084 0), (vi 0 0), (vr 2033), (vi 1086 0), (vi 0 0), (vr 2040), (vi 1088 0), (vi 0 0), (vr 2045), (vi 1090 0), (vi 0 0), (vr 2050), (vi 1094 0), (vi 0 0), (vr 2055), (vi 1096 0), (vi 0 0), (vr 2062), (vi 1102 0), (vi 0 0), (vr 2069), (vi 1112 0), (vi 0 0), (vr 2076), (vi 1197 0), (vi 0 0), (vr 2194), (vi 1202 0), (vi 0 0), (vr 2201), (vi 1212 0), (vi 0 0), (vr 2208), (vi 1289 0), (vi 0 0), (vr 2283), (vi 1291 0), (vi 0 0), (vr 2291), (vi 1301 0), (vi 0 0), (vr 2298), (vi 1310 0), (vi 0 0), (vr 2305), (vi 1315 0), (vi 0 0), (vr 2312), (vi 1339 0), (vi 0 0), (vr 2370), (vi 1345 0), (vi 0 0), (vr 2375), (vi 1347 0), (vi 0 0), (vr 2380), (vi 1364 0), (vi 0 0), (vr 2387), (vi 1440 0), (vi 0 0), (vr 2513), (vi 1513 0), (vi 0 0), (vr 2650), (vi 1618 0), (vi 0 0), (vr 2825), (vi 1621 0), (vi 0 0), (vr 2832), (vi 1623 0), (vi 0 0), (vr 2837), (vi 1626 0), (vi 0 0), (vr 2842), (vi 1628 0), (vi 0 0), (vr 2849), (vi 1630 0), (vi 0 0), (vr 2854), (vi 1633 0), (vi 0 0), (vr 2861), (vi 1635 0), (vi 0 0), (vr 2866), (vi 1638 0), (vi 0 0), (vr 2871), (vi 1640 0), (vi 0 0), (vr 2876), (vi 1645 0), (vi 0 0), (vr 2881), (vi 1648 0), (vi 0 0), (vr 2886), (vi 1654 0), (vi 0 0), (vr 2893), (vi 1669 0), (vi 0 0), (vr 2918), (vi 1744 0), (vi 0 0), (vr 3000), (vi 1750 0), (vi 0 0), (vr 3007), (vi 1754 0), (vi 0 0), (vr 3014), (vi 1761 0), (vi 0 0), (vr 3021), (vi 1763 0), (vi 0 0), (vr 3026), (vi 1768 0), (vi 0 0), (vr 3033), (vi 1770 0), (vi 0 0), (vr 3040), (vi 1772 0), (vi 0 0), (vr 3047), (vi 1774 0), (vi 0 0), (vr 3054), (vi 1796 0), (vi 0 0), (vr 3061), (vi 1806 0), (vi 0 0), (vr 3068), (vi 1813 0), (vi 0 0), (vr 3075), (vi 1822 0), (vi 0 0), (vr 3080), (vi 1833 0), (vi 0 0), (vr 3087), (vi 1841 0), (vi 0 0), (vr 3094), (vi 1857 0), (vi 0 0), (vr 3099)]) []),
  (ob (vt "code") none (fi [(vs "<module>" 182), (vs "<module>" 183), (vs "/claim/cut.py" 184), (vi 1 0), (vi 0 0), (vi 0 0), (vi 0 0), (vi 0 0), (vr 11), vF, (vi 181 0), (vr 12), vN, vN, vN, vN, (vi 185 0), (vi 1 0), (vs "/claim/cut.py" 186)]) []),
  (ob (vt "frame") none .plain [(some (vr 13)), (some (vr 3)), (some (vr 3)), none, (some (vs "__main__" 164)), none, (some (vr 0))]),
  (ob (vt "tuple") none (sq [] 0) [])]
def o8_148 (P : Params) : List Obj := [
  (ob (vt "tuple") none (sq [] 0) []),
  (ob vN none (.func (fu (top 202) "renumbered" "renumbered" 0 [] vN vN vN vN none vN vN 0)) []),
  (ob (vt "code") none (fi [(vs "renumbered" 3436), (vs "renumbered" 3437), (vs "/claim/cut.py" 3438), (vi 1339 0), (vi 2 0), (vi 0 0), (vi 0 0), (vi 3 0), (vr 2365), vT, (vi 181 0), (vr 2366), vN, (vr 2367), (vr 2368), (vr 2369), (vi 3441 0), (vi 1339 0), (vs "/claim/cut.py" 3442)]) []),
  (ob (vt "function") none (.func (fu (top 202) "renumbered" "renumbered" 3 [] vN vN vN (vs "coverstore.repair" 3362) none (vr 2370) vN 0)) []),
  (ob (vt "tuple") none (sq [] 0) []),
  (ob vN none (fi []) []),
  (ob vN none (.func (fu (top 203) "lost_points" "lost_points" 0 [] vN vN vN vN none vN vN 0)) []),
  (ob (vt "code") none (fi [(vs "lost_points" 3444), (vs "lost_points" 3445), (vs "/claim/cut.py" 3446), (vi 1345 0), (vi 2 0), (vi 0 0), (vi 0 0), (vi 3 0), (vr 2372), vT, (vi 181 0), (vr 2373), vN, vN, vN, (vr 2374), (vi 3447 0), (vi 1345 0), (vs "/claim/cut.py" 3448)]) []),
  (ob (vt "function") none (.func (fu (top 203) "lost_points" "lost_points" 3 [] vN vN vN (vs "coverstore.repair" 3362) none (vr 2375) vN 0)) []),
  (ob (vt "tuple") none (sq [] 0) []),
  (ob vN none (fi []) []),
  (ob vN none (.func (fu (top 204) "repaired" "repaired" 0 [] vN vN vN vN none vN vN 0)) []),
  (ob (vt "code") none (fi [(vs "repaired" 3450), (vs "repaired" 3451), (vs "/claim/cut.py" 3452), (vi 1347 0), (vi 2 0), (vi 0 0), (vi 0 0), (vi 3 0), (vr 2377), vT, (vi 181 0), (vr 2378), vN, vN, vN, (vr 2379), (vi 3453 0), (vi 1347 0), (vs "/claim/cut.py" 3454)]) []),
  (ob (vt "function") none (.func (fu (top 204) "repaired" "repaired" 3 [] vN vN vN (vs "coverstore.repair" 3362) none (vr 2380) vN 0)) []),
  (ob (vt "tuple") none (sq [] 0) []),
  (ob (vt "builtin_function_or_method") none (fi [(vb "type.__prepare__"), (vt "type")]) [])]
def o8_149 (P : Params) : List Obj := [
  (ob (vt "dict") none (di [de P "__module__" 3467 (vs "coverstore.keepers" 3456), de P "__qualname__" 3469 (vs "Keeper" 3468), de P "__firstlineno__" 3471 (vi 1364 3470), de P "__init__" 3479 (vr 2395), de P "__len__" 3486 (vr 2402), de P "__contains__" 3494 (vr 2409), de P "entry" 3502 (vr 2416), de P "keep" 3513 (vr 2424), de P "release" 3521 (vr 2431), de P "names" 3528 (vr 2438), de P "kept_query" 3536 (vr 2445), de P "kept_paper" 3544 (vr 2452), de P "version_of" 3552 (vr 2459), de P "number_of" 3560 (vr 2466), de P "can_be_broken" 3572 (vr 2473), de P "bring" 3580 (vr 2480), de P "answer" 3591 (vr 2488), de P "catch_up" 3599 (vr 2495), de P "hits" 3605 (vr 2500), de P "__static_attributes__" 3609 (vr 2501)] 20) []),
  (ob (vt "tuple") none (sq [] 0) []),
  (ob vN none (fi [(vi 1366 0), (vi 4 0), (vr 2394), (vi 1371 0), (vi 4 0), (vr 2401), (vi 1374 0), (vi 4 0), (vr 2408), (vi 1377 0), (vi 4 0), (vr 2415), (vi 1382 0), (vi 4 0), (vr 2423), (vi 1385 0), (vi 4 0), (vr 2430), (vi 1388 0), (vi 4 0), (vr 2437), (vi 1391 0), (vi 4 0), (vr 2444), (vi 1394 0), (vi 4 0), (vr 2451), (vi 1397 0), (vi 4 0), (vr 2458), (vi 1400 0), (vi 4 0), (vr 2465), (vi 1403 0), (vi 4 0), (vr 2472), (vi 1413 0), (vi 4 0), (vr 2479), (vi 1420 0), (vi 4 0), (vr 2487), (vi 1428 0), (vi 4 0), (vr 2494), (vi 1431 0), (vi 4 0), (vr 2499)]) []),
  (ob (vt "code") none (fi [(vs "Keeper" 3462), (vs "Keeper" 3463), (vs "/claim/cut.py" 3464), (vi 1364 0), (vi 0 0), (vi 0 0), (vi 0 0), (vi 0 0), (vr 2385), vF, (vi 181 0), (vr 2386), vN, vN, vN, vN, (vi 3465 0), (vi 1364 0), (vs "/claim/cut.py" 3466)]) []),
  (ob (vt "frame") none .plain [(some (vr 2387)), (some (vr 3)), (some (vr 2384)), none, (some (vs "coverstore.keepers" 3456)), none, (some (vr 0))]),
  (ob (vt "tuple") none (sq [] 0) []),
  (ob vN none (fi []) []),
  (ob (vt "tuple") none (sq [(vs "self" 3475), (vs "base" 3476)] 0) []),
  (ob (vt "tuple") none (sq [] 0) []),
  (ob vN none (.func (fu (inClass (top 207) 0) "__init__" "Keeper.__init__" 0 [] vN vN vN vN none vN vN 0)) []),
  (ob (vt "code") none (fi [(vs "__init__" 3472), (vs "Keeper.__init__" 3473), (vs "/claim/cut.py" 3474), (vi 1366 0), (vi 2 0), (vi 0 0), (vi 0 0), (vi 3 0), (vr 2389), vT, (vi 181 0), (vr 2390), vN, (vr 2391), (vr 2392), (vr 2393), (vi 3477 0), (vi 1366 0), (vs "/claim/cut.py" 3478)]) []),
  (ob (vt "function") none (.func (fu (inClass (top 207) 0) "__init__" "Keeper.__init__" 3 [] vN vN vN (vs "coverstore.keepers" 3456) none (vr 2394) vN 0)) []),
  (ob (vt "tuple") none (sq [] 0) []),
  (ob vN none (fi []) []),
  (ob (vt "tuple") none (sq [(vs "self" 3483)] 0) []),
  (ob (vt "tuple") none (sq [] 0) [])]
def o8_150 (P : Params) : List Obj := [
  (ob vN none (.func (fu (inClass (top 207) 1) "__len__" "Keeper.__len__" 0 [] vN vN vN vN none vN vN 0)) []),
  (ob (vt "code") none (fi [(vs "__len__" 3480), (vs "Keeper.__len__" 3481), (vs "/claim/cut.py" 3482), (vi 1371 0), (vi 1 0), (vi 0 0), (vi 0 0), (vi 3 0), (vr 2396), vT, (vi 181 0), (vr 2397), vN, (vr 2398), (vr 2399), (vr 2400), (vi 3484 0), (vi 1371 0), (vs "/claim/cut.py" 3485)]) []),
  (ob (vt "function") none (.func (fu (inClass (top 207) 1) "__len__" "Keeper.__len__" 3 [] vN vN vN (vs "coverstore.keepers" 3456) none (vr 2401) vN 0)) []),
  (ob (vt "tuple") none (sq [] 0) []),
  (ob vN none (fi []) []),
  (ob (vt "tuple") none (sq [(vs "self" 3490), (vs "value" 3491)] 0) []),
  (ob (vt "tuple") none (sq [] 0) []),
  (ob vN none (.func (fu (inClass (top 207) 2) "__contains__" "Keeper.__contains__" 0 [] vN vN vN vN none vN vN 0)) []),
  (ob (vt "code") none (fi [(vs "__contains__" 3487), (vs "Keeper.__contains__" 3488), (vs "/claim/cut.py" 3489), (vi 1374 0), (vi 2 0), (vi 0 0), (vi 0 0), (vi 3 0), (vr 2403), vT, (vi 181 0), (vr 2404), vN, (vr 2405), (vr 2406), (vr 2407), (vi 3492 0), (vi 1374 0), (vs "/claim/cut.py" 3493)]) []),
  (ob (vt "function") none (.func (fu (inClass (top 207) 2) "__contains__" "Keeper.__contains__" 3 [] vN vN vN (vs "coverstore.keepers" 3456) none (vr 2408) vN 0)) []),
  (ob (vt "tuple") none (sq [] 0) []),
  (ob vN none (fi []) []),
  (ob (vt "tuple") none (sq [(vs "self" 3498), (vs "name" 3499)] 0) []),
  (ob (vt "tuple") none (sq [] 0) []),
  (ob vN none (.func (fu (inClass (top 207) 3) "entry" "Keeper.entry" 0 [] vN vN vN vN none vN vN 0)) []),
  (ob (vt "code") none (fi [(vs "entry" 3495), (vs "Keeper.entry" 3496), (vs "/claim/cut.py" 3497), (vi 1377 0), (vi 2 0), (vi 0 0), (vi 0 0), (vi 3 0), (vr 2410), vT, (vi 181 0), (vr 2411), vN, (vr 2412), (vr 2413), (vr 2414), (vi 3500 0), (vi 1377 0), (vs "/claim/cut.py" 3501)]) [])]
def o8_151 (P : Params) : List Obj := [
  (ob (vt "function") none (.func (fu (inClass (top 207) 3) "entry" "Keeper.entry" 3 [] vN vN vN (vs "coverstore.keepers" 3456) none (vr 2415) vN 0)) []),
  (ob (vt "dict") none (di [de P "limit" 3503 (vi 2000 3458)] 1) []),
  (ob (vt "tuple") none (sq [] 0) []),
  (ob vN none (fi []) []),
  (ob (vt "tuple") none (sq [(vs "self" 3507), (vs "name" 3508), (vs "query" 3509), (vs "limit" 3510)] 0) []),
  (ob (vt "tuple") none (sq [] 0) []),
  (ob vN none (.func (fu (inClass (top 207) 4) "keep" "Keeper.keep" 0 [] vN vN vN vN none vN vN 0)) []),
  (ob (vt "code") none (fi [(vs "keep" 3504), (vs "Keeper.keep" 3505), (vs "/claim/cut.py" 3506), (vi 1382 0), (vi 3 0), (vi 0 0), (vi 1 0), (vi 3 0), (vr 2418), vT, (vi 181 0), (vr 2419), vN, (vr 2420), (vr 2421), (vr 2422), (vi 3511 0), (vi 1382 0), (vs "/claim/cut.py" 3512)]) []),
  (ob (vt "function") none (.func (fu (inClass (top 207) 4) "keep" "Keeper.keep" 3 [] vN (vr 2417) vN (vs "coverstore.keepers" 3456) none (vr 2423) vN 0)) []),
  (ob (vt "tuple") none (sq [] 0) []),
  (ob vN none (fi []) []),
  (ob (vt "tuple") none (sq [(vs "self" 3517), (vs "name" 3518)] 0) []),
  (ob (vt "tuple") none (sq [] 0) []),
  (ob vN none (.func (fu (inClass (top 207) 5) "release" "Keeper.release" 0 [] vN vN vN vN none vN vN 0)) []),
  (ob (vt "code") none (fi [(vs "release" 3514), (vs "Keeper.release" 3515), (vs "/claim/cut.py" 3516), (vi 1385 0), (vi 2 0), (vi 0 0), (vi 0 0), (vi 3 0), (vr 2425), vT, (vi 181 0), (vr 2426), vN, (vr 2427), (vr 2428), (vr 2429), (vi 3519 0), (vi 1385 0), (vs "/claim/cut.py" 3520)]) []),
  (ob (vt "function") none (.func (fu (inClass (top 207) 5) "release" "Keeper.release" 3 [] vN vN vN (vs "coverstore.keepers" 3456) none (vr 2430) vN 0)) [])]
def o8_152 (P : Params) : List Obj := [
  (ob (vt "tuple") none (sq [] 0) []),
  (ob vN none (fi []) []),
  (ob (vt "tuple") none (sq [(vs "self" 3525)] 0) []),
  (ob (vt "tuple") none (sq [] 0) []),
  (ob vN none (.func (fu (inClass (top 207) 6) "names" "Keeper.names" 0 [] vN vN vN vN none vN vN 0)) []),
  (ob (vt "code") none (fi [(vs "names" 3522), (vs "Keeper.names" 3523), (vs "/claim/cut.py" 3524), (vi 1388 0), (vi 1 0), (vi 0 0), (vi 0 0), (vi 3 0), (vr 2432), vT, (vi 181 0), (vr 2433), vN, (vr 2434), (vr 2435), (vr 2436), (vi 3526 0), (vi 1388 0), (vs "/claim/cut.py" 3527)]) []),
  (ob (vt "function") none (.func (fu (inClass (top 207) 6) "names" "Keeper.names" 3 [] vN vN vN (vs "coverstore.keepers" 3456) none (vr 2437) vN 0)) []),
  (ob (vt "tuple") none (sq [] 0) []),
  (ob vN none (fi []) []),
  (ob (vt "tuple") none (sq [(vs "self" 3532), (vs "name" 3533)] 0) []),
  (ob (vt "tuple") none (sq [] 0) []),
  (ob vN none (.func (fu (inClass (top 207) 7) "kept_query" "Keeper.kept_query" 0 [] vN vN vN vN none vN vN 0)) []),
  (ob (vt "code") none (fi [(vs "kept_query" 3529), (vs "Keeper.kept_query" 3530), (vs "/claim/cut.py" 3531), (vi 1391 0), (vi 2 0), (vi 0 0), (vi 0 0), (vi 3 0), (vr 2439), vT, (vi 181 0), (vr 2440), vN, (vr 2441), (vr 2442), (vr 2443), (vi 3534 0), (vi 1391 0), (vs "/claim/cut.py" 3535)]) []),
  (ob (vt "function") none (.func (fu (inClass (top 207) 7) "kept_query" "Keeper.kept_query" 3 [] vN vN vN (vs "coverstore.keepers" 3456) none (vr 2444) vN 0)) []),
  (ob (vt "tuple") none (sq [] 0) []),
  (ob vN none (fi []) [])]
def o8_153 (P : Params) : List Obj := [
  (ob (vt "tuple") none (sq [(vs "self" 3540), (vs "name" 3541)] 0) []),
  (ob (vt "tuple") none (sq [] 0) []),
  (ob vN none (.func (fu (inClass (top 207) 8) "kept_paper" "Keeper.kept_paper" 0 [] vN vN vN vN none vN vN 0)) []),
  (ob (vt "code") none (fi [(vs "kept_paper" 3537), (vs "Keeper.kept_paper" 3538), (vs "/claim/cut.py" 3539), (vi 1394 0), (vi 2 0), (vi 0 0), (vi 0 0), (vi 3 0), (vr 2446), vT, (vi 181 0), (vr 2447), vN, (vr 2448), (vr 2449), (vr 2450), (vi 3542 0), (vi 1394 0), (vs "/claim/cut.py" 3543)]) []),
  (ob (vt "function") none (.func (fu (inClass (top 207) 8) "kept_paper" "Keeper.kept_paper" 3 [] vN vN vN (vs "coverstore.keepers" 3456) none (vr 2451) vN 0)) []),
  (ob (vt "tuple") none (sq [] 0) []),
  (ob vN none (fi []) []),
  (ob (vt "tuple") none (sq [(vs "self" 3548), (vs "name" 3549)] 0) []),
  (ob (vt "tuple") none (sq [] 0) []),
  (ob vN none (.func (fu (inClass (top 207) 9) "version_of" "Keeper.version_of" 0 [] vN vN vN vN none vN vN 0)) []),
  (ob (vt "code") none (fi [(vs "version_of" 3545), (vs "Keeper.version_of" 3546), (vs "/claim/cut.py" 3547), (vi 1397 0), (vi 2 0), (vi 0 0), (vi 0 0), (vi 3 0), (vr 2453), vT, (vi 181 0), (vr 2454), vN, (vr 2455), (vr 2456), (vr 2457), (vi 3550 0), (vi 1397 0), (vs "/claim/cut.py" 3551)]) []),
  (ob (vt "function") none (.func (fu (inClass (top 207) 9) "version_of" "Keeper.version_of" 3 [] vN vN vN (vs "coverstore.keepers" 3456) none (vr 2458) vN 0)) []),
  (ob (vt "tuple") none (sq [] 0) []),
  (ob vN none (fi []) []),
  (ob (vt "tuple") none (sq [(vs "self" 3556), (vs "name" 3557)] 0) []),
  (ob (vt "tuple") none (sq [] 0) [])]
def o8_154 (P : Params) : List Obj := [
  (ob vN none (.func (fu (inClass (top 207) 10) "number_of" "Keeper.number_of" 0 [] vN vN vN vN none vN vN 0)) []),
  (ob (vt "code") none (fi [(vs "number_of" 3553), (vs "Keeper.number_of" 3554), (vs "/claim/cut.py" 3555), (vi 1400 0), (vi 2 0), (vi 0 0), (vi 0 0), (vi 3 0), (vr 2460), vT, (vi 181 0), (vr 2461), vN, (vr 2462), (vr 2463), (vr 2464), (vi 3558 0), (vi 1400 0), (vs "/claim/cut.py" 3559)]) []),
  (ob (vt "function") none (.func (fu (inClass (top 207) 10) "number_of" "Keeper.number_of" 3 [] vN vN vN (vs "coverstore.keepers" 3456) none (vr 2465) vN 0)) []),
  (ob (vt "tuple") none (sq [] 0) []),
  (ob vN none (fi []) []),
  (ob (vt "tuple") none (sq [(vs "self" 3564), (vs "kept" 3565), (vs "parts" 3566), (vs "version" 3567), (vs "table" 3568), (vs "key" 3569)] 0) []),
  (ob (vt "tuple") none (sq [] 0) []),
  (ob vN none (.func (fu (inClass (top 207) 11) "can_be_broken" "Keeper.can_be_broken" 0 [] vN vN vN vN none vN vN 0)) []),
  (ob (vt "code") none (fi [(vs "can_be_broken" 3561), (vs "Keeper.can_be_broken" 3562), (vs "/claim/cut.py" 3563), (vi 1403 0), (vi 2 0), (vi 0 0), (vi 0 0), (vi 3 0), (vr 2467), vT, (vi 181 0), (vr 2468), vN, (vr 2469), (vr 2470), (vr 2471), (vi 3570 0), (vi 1403 0), (vs "/claim/cut.py" 3571)]) []),
  (ob (vt "function") none (.func (fu (inClass (top 207) 11) "can_be_broken" "Keeper.can_be_broken" 3 [] vN vN vN (vs "coverstore.keepers" 3456) none (vr 2472) vN 0)) []),
  (ob (vt "tuple") none (sq [] 0) []),
  (ob vN none (fi []) []),
  (ob (vt "tuple") none (sq [(vs "self" 3576), (vs "kept" 3577)] 0) []),
  (ob (vt "tuple") none (sq [] 0) []),
  (ob vN none (.func (fu (inClass (top 207) 12) "bring" "Keeper.bring" 0 [] vN vN vN vN none vN vN 0)) []),
  (ob (vt "code") none (fi [(vs "bring" 3573), (vs "Keeper.bring" 3574), (vs "/claim/cut.py" 3575), (vi 1413 0), (vi 2 0), (vi 0 0), (vi 0 0), (vi 3 0), (vr 2474), vT, (vi 181 0), (vr 2475), vN, (vr 2476), (vr 2477), (vr 2478), (vi 3578 0), (vi 1413 0), (vs "/claim/cut.py" 3579)]) [])]
def o8_155 (P : Params) : List Obj := [
  (ob (vt "function") none (.func (fu (inClass (top 207) 12) "bring" "Keeper.bring" 3 [] vN vN vN (vs "coverstore.keepers" 3456) none (vr 2479) vN 0)) []),
  (ob (vt "tuple") none (sq [vN] 0) []),
  (ob (vt "tuple") none (sq [] 0) []),
  (ob vN none (fi []) []),
  (ob (vt "tuple") none (sq [(vs "self" 3584), (vs "name" 3585), (vs "version" 3586), (vs "kept" 3587), (vs "snapshot" 3588)] 0) []),
  (ob (vt "tuple") none (sq [] 0) []),
  (ob vN none (.func (fu (inClass (top 207) 13) "answer" "Keeper.answer" 0 [] vN vN vN vN none vN vN 0)) []),
  (ob (vt "code") none (fi [(vs "answer" 3581), (vs "Keeper.answer" 3582), (vs "/claim/cut.py" 3583), (vi 1420 0), (vi 3 0), (vi 0 0), (vi 0 0), (vi 3 0), (vr 2482), vT, (vi 181 0), (vr 2483), vN, (vr 2484), (vr 2485), (vr 2486), (vi 3589 0), (vi 1420 0), (vs "/claim/cut.py" 3590)]) []),
  (ob (vt "function") none (.func (fu (inClass (top 207) 13) "answer" "Keeper.answer" 3 [] (vr 2481) vN vN (vs "coverstore.keepers" 3456) none (vr 2487) vN 0)) []),
  (ob (vt "tuple") none (sq [] 0) []),
  (ob vN none (fi []) []),
  (ob (vt "tuple") none (sq [(vs "self" 3595), (vs "names" 3596)] 0) []),
  (ob (vt "tuple") none (sq [] 0) []),
  (ob vN none (.func (fu (inClass (top 207) 14) "catch_up" "Keeper.catch_up" 0 [] vN vN vN vN none vN vN 0)) []),
  (ob (vt "code") none (fi [(vs "catch_up" 3592), (vs "Keeper.catch_up" 3593), (vs "/claim/cut.py" 3594), (vi 1428 0), (vi 1 0), (vi 0 0), (vi 0 0), (vi 7 0), (vr 2489), vT, (vi 181 0), (vr 2490), vN, (vr 2491), (vr 2492), (vr 2493), (vi 3597 0), (vi 1428 0), (vs "/claim/cut.py" 3598)]) []),
  (ob (vt "function") none (.func (fu (inClass (top 207) 14) "catch_up" "Keeper.catch_up" 3 [] vN vN vN (vs "coverstore.keepers" 3456) none (vr 2494) vN 0)) [])]
def o8_156 (P : Params) : List Obj := [
  (ob (vt "tuple") none (sq [] 0) []),
  (ob vN none (fi []) []),
  (ob vN none (.func (fu (inClass (top 207) 15) "hits" "Keeper.hits" 0 [] vN vN vN vN none vN vN 0)) []),
  (ob (vt "code") none (fi [(vs "hits" 3600), (vs "Keeper.hits" 3601), (vs "/claim/cut.py" 3602), (vi 1431 0), (vi 3 0), (vi 0 0), (vi 0 0), (vi 3 0), (vr 2496), vT, (vi 181 0), (vr 2497), vN, vN, vN, (vr 2498), (vi 3603 0), (vi 1431 0), (vs "/claim/cut.py" 3604)]) []),
  (ob (vt "function") none (.func (fu (inClass (top 207) 15) "hits" "Keeper.hits" 3 [] vN vN vN (vs "coverstore.keepers" 3456) none (vr 2499) vN 0)) []),
  (ob (vt "tuple") none (sq [(vs "base" 3606), (vs "entries" 3607), (vs "many_kept" 3608)] 0) []),
  (ob (vt "dict") none (di [de P "__module__" 3467 (vs "coverstore.keepers" 3456), de P "__firstlineno__" 3471 (vi 1364 3470), de P "__init__" 3479 (vr 2395), de P "__len__" 3486 (vr 2402), de P "__contains__" 3494 (vr 2409), de P "entry" 3502 (vr 2416), de P "keep" 3513 (vr 2424), de P "release" 3521 (vr 2431), de P "names" 3528 (vr 2438), de P "kept_query" 3536 (vr 2445), de P "kept_paper" 3544 (vr 2452), de P "version_of" 3552 (vr 2459), de P "number_of" 3560 (vr 2466), de P "can_be_broken" 3572 (vr 2473), de P "bring" 3580 (vr 2480), de P "answer" 3591 (vr 2488), de P "catch_up" 3599 (vr 2495), de P "hits" 3605 (vr 2500), de P "__static_attributes__" 3609 (vr 2501), de P "__dict__" 3611 (vr 2504), de P "__weakref__" 3613 (vr 2505), de P "__doc__" 3614 vN] 4) []),
  (ob (vt "type") none (.cls ⟨"Keeper", [(vt "object")], [(vr 2503), (vt "object")], 2502, "Keeper", true, [], [], false, none, false⟩) [none, none, (some (vs "Keeper" 3460)), (some (vs "Keeper" 3468)), (some (vb "object.__new__")), (some vT)]),
  (ob (vt "getset_descriptor") none (fi [(vs "__dict__" 3610), (vr 2503), (vb "function.__dict__"), (vb "function.__dict__#set")]) []),
  (ob (vt "getset_descriptor") none (fi [(vs "__weakref__" 3612), (vr 2503), (vb "ExceptionGroup.__weakref__"), vN]) []),
  (ob (vt "super") none (fi [(vr 2503), (vr 2503), (vr 2503)]) []),
  (ob (vt "builtin_function_or_method") none (fi [(vb "object.__init_subclass__"), (vr 2503)]) []),
  (ob (vt "tuple") none (sq [] 0) []),
  (ob (vt "builtin_function_or_method") none (fi [(vb "type.__prepare__"), (vt "type")]) []),
  (ob (vt "dict") none (di [de P "__module__" 3626 (vs "coverstore.transactions" 3617), de P "__qualname__" 3628 (vs "Transaction" 3627), de P "__firstlineno__" 3630 (vi 1440 3629), de P "__init__" 3639 (vr 2521), de P "version" 3647 (vr 2529), de P "is_open" 3655 (vr 2537), de P "require_open" 3662 (vr 2544), de P "here" 3669 (vr 2551), de P "ask" 3680 (vr 2559), de P "groups" 3695 (vr 2569), de P "perform" 3703 (vr 2576), de P "require_payload" 3713 (vr 2583), de P "add_row" 3723 (vr 2590), de P "change_row" 3733 (vr 2597), de P "drop_row" 3742 (vr 2604), de P "acts" 3748 (vr 2609), de P "writes" 3755 (vr 2616), de P "check_acts" 3767 (vr 2623), de P "commit" 3775 (vr 2630), de P "abandon" 3782 (vr 2637), de P "__static_attributes__" 3789 (vr 2638)] 21) []),
  (ob (vt "tuple") none (sq [] 0) [])]
def o8_157 (P : Params) : List Obj := [
  (ob vN none (fi [(vi 1442 0), (vi 4 0), (vr 2520), (vi 1451 0), (vi 4 0), (vr 2527), (vi 1455 0), (vi 4 0), (vr 2535), (vi 1458 0), (vi 4 0), (vr 2543), (vi 1462 0), (vi 4 0), (vr 2550), (vi 1465 0), (vi 4 0), (vr 2558), (vi 1468 0), (vi 4 0), (vr 2568), (vi 1471 0), (vi 4 0), (vr 2575), (vi 1474 0), (vi 4 0), (vr 2582), (vi 1477 0), (vi 4 0), (vr 2589), (vi 1480 0), (vi 4 0), (vr 2596), (vi 1483 0), (vi 4 0), (vr 2603), (vi 1486 0), (vi 4 0), (vr 2608), (vi 1489 0), (vi 4 0), (vr 2615), (vi 1492 0), (vi 4 0), (vr 2622), (vi 1500 0), (vi 4 0), (vr 2629), (vi 1510 0), (vi 4 0), (vr 2636)]) []),
  (ob (vt "code") none (fi [(vs "Transaction" 3621), (vs "Transaction" 3622), (vs "/claim/cut.py" 3623), (vi 1440 0), (vi 0 0), (vi 0 0), (vi 0 0), (vi 0 0), (vr 2511), vF, (vi 181 0), (vr 2512), vN, vN, vN, vN, (vi 3624 0), (vi 1440 0), (vs "/claim/cut.py" 3625)]) []),
  (ob (vt "frame") none .plain [(some (vr 2513)), (some (vr 3)), (some (vr 2510)), none, (some (vs "coverstore.transactions" 3617)), none, (some (vr 0))]),
  (ob (vt "tuple") none (sq [] 0) []),
  (ob vN none (fi []) []),
  (ob (vt "tuple") none (sq [(vs "self" 3634), (vs "store" 3635), (vs "snapshot" 3636)] 0) []),
  (ob (vt "tuple") none (sq [] 0) []),
  (ob vN none (.func (fu (inClass (top 209) 0) "__init__" "Transaction.__init__" 0 [] vN vN vN vN none vN vN 0)) []),
  (ob (vt "code") none (fi [(vs "__init__" 3631), (vs "Transaction.__init__" 3632), (vs "/claim/cut.py" 3633), (vi 1442 0), (vi 3 0), (vi 0 0), (vi 0 0), (vi 3 0), (vr 2515), vT, (vi 181 0), (vr 2516), vN, (vr 2517), (vr 2518), (vr 2519), (vi 3637 0), (vi 1442 0), (vs "/claim/cut.py" 3638)]) []),
  (ob (vt "function") none (.func (fu (inClass (top 209) 0) "__init__" "Transaction.__init__" 3 [] vN vN vN (vs "coverstore.transactions" 3617) none (vr 2520) vN 0)) []),
  (ob (vt "tuple") none (sq [] 0) []),
  (ob vN none (fi []) []),
  (ob (vt "tuple") none (sq [(vs "self" 3643)] 0) []),
  (ob (vt "tuple") none (sq [] 0) []),
  (ob vN none (.func (fu (inClass (top 209) 1) "version" "Transaction.version" 0 [] vN vN vN vN none vN vN 0)) []),
  (ob (vt "code") none (fi [(vs "version" 3640), (vs "Transaction.version" 3641), (vs "/claim/cut.py" 3642), (vi 1450 0), (vi 1 0), (vi 0 0), (vi 0 0), (vi 3 0), (vr 2522), vT, (vi 181 0), (vr 2523), vN, (vr 2524), (vr 2525), (vr 2526), (vi 3644 0), (vi 1450 0), (vs "/claim/cut.py" 3645)]) [])]
def o8_158 (P : Params) : List Obj := [
  (ob (vt "function") none (.func (fu (inClass (top 209) 1) "version" "Transaction.version" 3 [] vN vN vN (vs "coverstore.transactions" 3617) none (vr 2527) vN 0)) []),
  (ob (vt "property") none (fi [(vr 2528), vN, vN, vN, (vs "version" 3647), vF]) []),
  (ob (vt "tuple") none (sq [] 0) []),
  (ob vN none (fi []) []),
  (ob (vt "tuple") none (sq [(vs "self" 3651)] 0) []),
  (ob (vt "tuple") none (sq [] 0) []),
  (ob vN none (.func (fu (inClass (top 209) 2) "is_open" "Transaction.is_open" 0 [] vN vN vN vN none vN vN 0)) []),
  (ob (vt "code") none (fi [(vs "is_open" 3648), (vs "Transaction.is_open" 3649), (vs "/claim/cut.py" 3650), (vi 1454 0), (vi 1 0), (vi 0 0), (vi 0 0), (vi 3 0), (vr 2530), vT, (vi 181 0), (vr 2531), vN, (vr 2532), (vr 2533), (vr 2534), (vi 3652 0), (vi 1454 0), (vs "/claim/cut.py" 3653)]) []),
  (ob (vt "function") none (.func (fu (inClass (top 209) 2) "is_open" "Transaction.is_open" 3 [] vN vN vN (vs "coverstore.transactions" 3617) none (vr 2535) vN 0)) []),
  (ob (vt "property") none (fi [(vr 2536), vN, vN, vN, (vs "is_open" 3655), vF]) []),
  (ob (vt "tuple") none (sq [] 0) []),
  (ob vN none (fi []) []),
  (ob (vt "tuple") none (sq [(vs "self" 3659)] 0) []),
  (ob (vt "tuple") none (sq [] 0) []),
  (ob vN none (.func (fu (inClass (top 209) 3) "require_open" "Transaction.require_open" 0 [] vN vN vN vN none vN vN 0)) []),
  (ob (vt "code") none (fi [(vs "require_open" 3656), (vs "Transaction.require_open" 3657), (vs "/claim/cut.py" 3658), (vi 1458 0), (vi 1 0), (vi 0 0), (vi 0 0), (vi 3 0), (vr 2538), vT, (vi 181 0), (vr 2539), vN, (vr 2540), (vr 2541), (vr 2542), (vi 3660 0), (vi 1458 0), (vs "/claim/cut.py" 3661)]) [])]
def o8_159 (P : Params) : List Obj := [
  (ob (vt "function") none (.func (fu (inClass (top 209) 3) "require_open" "Transaction.require_open" 3 [] vN vN vN (vs "coverstore.transactions" 3617) none (vr 2543) vN 0)) []),
  (ob (vt "tuple") none (sq [] 0) []),
  (ob vN none (fi []) []),
  (ob (vt "tuple") none (sq [(vs "self" 3666)] 0) []),
  (ob (vt "tuple") none (sq [] 0) []),
  (ob vN none (.func (fu (inClass (top 209) 4) "here" "Transaction.here" 0 [] vN vN vN vN none vN vN 0)) []),
  (ob (vt "code") none (fi [(vs "here" 3663), (vs "Transaction.here" 3664), (vs "/claim/cut.py" 3665), (vi 1462 0), (vi 1 0), (vi 0 0), (vi 0 0), (vi 3 0), (vr 2545), vT, (vi 181 0), (vr 2546), vN, (vr 2547), (vr 2548), (vr 2549), (vi 3667 0), (vi 1462 0), (vs "/claim/cut.py" 3668)]) []),
  (ob (vt "function") none (.func (fu (inClass (top 209) 4) "here" "Transaction.here" 3 [] vN vN vN (vs "coverstore.transactions" 3617) none (vr 2550) vN 0)) []),
  (ob (vt "dict") none (di [de P "limit" 3671 (vi 2000 3670)] 1) []),
  (ob (vt "tuple") none (sq [] 0) []),
  (ob vN none (fi []) []),
  (ob (vt "tuple") none (sq [(vs "self" 3675), (vs "query" 3676), (vs "limit" 3677)] 0) []),
  (ob (vt "tuple") none (sq [] 0) []),
  (ob vN none (.func (fu (inClass (top 209) 5) "ask" "Transaction.ask" 0 [] vN vN vN vN none vN vN 0)) []),
  (ob (vt "code") none (fi [(vs "ask" 3672), (vs "Transaction.ask" 3673), (vs "/claim/cut.py" 3674), (vi 1465 0), (vi 2 0), (vi 0 0), (vi 1 0), (vi 3 0), (vr 2553), vT, (vi 181 0), (vr 2554), vN, (vr 2555), (vr 2556), (vr 2557), (vi 3678 0), (vi 1465 0), (vs "/claim/cut.py" 3679)]) []),
  (ob (vt "function") none (.func (fu (inClass (top 209) 5) "ask" "Transaction.ask" 3 [] vN (vr 2552) vN (vs "coverstore.transactions" 3617) none (vr 2558) vN 0)) [])]
def o8_160 (P : Params) : List Obj := [
  (ob (vt "tuple") none (sq [] 0) []),
  (ob (vt "tuple") none (sq [(vr 2560), (vs "count" 3681), vN] 0) []),
  (ob (vt "dict") none (di [de P "limit" 3683 (vi 2000 3682)] 1) []),
  (ob (vt "tuple") none (sq [] 0) []),
  (ob vN none (fi []) []),
  (ob (vt "tuple") none (sq [(vs "self" 3687), (vs "query" 3688), (vs "by" 3689), (vs "what" 3690), (vs "of" 3691), (vs "limit" 3692)] 0) []),
  (ob (vt "tuple") none (sq [] 0) []),
  (ob vN none (.func (fu (inClass (top 209) 6) "groups" "Transaction.groups" 0 [] vN vN vN vN none vN vN 0)) []),
  (ob (vt "code") none (fi [(vs "groups" 3684), (vs "Transaction.groups" 3685), (vs "/claim/cut.py" 3686), (vi 1468 0), (vi 5 0), (vi 0 0), (vi 1 0), (vi 3 0), (vr 2563), vT, (vi 181 0), (vr 2564), vN, (vr 2565), (vr 2566), (vr 2567), (vi 3693 0), (vi 1468 0), (vs "/claim/cut.py" 3694)]) []),
  (ob (vt "function") none (.func (fu (inClass (top 209) 6) "groups" "Transaction.groups" 3 [] (vr 2561) (vr 2562) vN (vs "coverstore.transactions" 3617) none (vr 2568) vN 0)) []),
  (ob (vt "tuple") none (sq [] 0) []),
  (ob vN none (fi []) []),
  (ob (vt "tuple") none (sq [(vs "self" 3699), (vs "write" 3700)] 0) []),
  (ob (vt "tuple") none (sq [] 0) []),
  (ob vN none (.func (fu (inClass (top 209) 7) "perform" "Transaction.perform" 0 [] vN vN vN vN none vN vN 0)) []),
  (ob (vt "code") none (fi [(vs "perform" 3696), (vs "Transaction.perform" 3697), (vs "/claim/cut.py" 3698), (vi 1471 0), (vi 2 0), (vi 0 0), (vi 0 0), (vi 3 0), (vr 2570), vT, (vi 181 0), (vr 2571), vN, (vr 2572), (vr 2573), (vr 2574), (vi 3701 0), (vi 1471 0), (vs "/claim/cut.py" 3702)]) [])]
def o8_161 (P : Params) : List Obj := [
  (ob (vt "function") none (.func (fu (inClass (top 209) 7) "perform" "Transaction.perform" 3 [] vN vN vN (vs "coverstore.transactions" 3617) none (vr 2575) vN 0)) []),
  (ob (vt "tuple") none (sq [] 0) []),
  (ob vN none (fi []) []),
  (ob (vt "tuple") none (sq [(vs "self" 3707), (vs "table" 3708), (vs "key" 3709), (vs "payload" 3710)] 0) []),
  (ob (vt "tuple") none (sq [] 0) []),
  (ob vN none (.func (fu (inClass (top 209) 8) "require_payload" "Transaction.require_payload" 0 [] vN vN vN vN none vN vN 0)) []),
  (ob (vt "code") none (fi [(vs "require_payload" 3704), (vs "Transaction.require_payload" 3705), (vs "/claim/cut.py" 3706), (vi 1474 0), (vi 4 0), (vi 0 0), (vi 0 0), (vi 3 0), (vr 2577), vT, (vi 181 0), (vr 2578), vN, (vr 2579), (vr 2580), (vr 2581), (vi 3711 0), (vi 1474 0), (vs "/claim/cut.py" 3712)]) []),
  (ob (vt "function") none (.func (fu (inClass (top 209) 8) "require_payload" "Transaction.require_payload" 3 [] vN vN vN (vs "coverstore.transactions" 3617) none (vr 2582) vN 0)) []),
  (ob (vt "tuple") none (sq [] 0) []),
  (ob vN none (fi []) []),
  (ob (vt "tuple") none (sq [(vs "self" 3717), (vs "table" 3718), (vs "key" 3719), (vs "payload" 3720)] 0) []),
  (ob (vt "tuple") none (sq [] 0) []),
  (ob vN none (.func (fu (inClass (top 209) 9) "add_row" "Transaction.add_row" 0 [] vN vN vN vN none vN vN 0)) []),
  (ob (vt "code") none (fi [(vs "add_row" 3714), (vs "Transaction.add_row" 3715), (vs "/claim/cut.py" 3716), (vi 1477 0), (vi 4 0), (vi 0 0), (vi 0 0), (vi 3 0), (vr 2584), vT, (vi 181 0), (vr 2585), vN, (vr 2586), (vr 2587), (vr 2588), (vi 3721 0), (vi 1477 0), (vs "/claim/cut.py" 3722)]) []),
  (ob (vt "function") none (.func (fu (inClass (top 209) 9) "add_row" "Transaction.add_row" 3 [] vN vN vN (vs "coverstore.transactions" 3617) none (vr 2589) vN 0)) []),
  (ob (vt "tuple") none (sq [] 0) [])]
def o8_162 (P : Params) : List Obj := [
  (ob vN none (fi []) []),
  (ob (vt "tuple") none (sq [(vs "self" 3727), (vs "table" 3728), (vs "key" 3729), (vs "payload" 3730)] 0) []),
  (ob (vt "tuple") none (sq [] 0) []),
  (ob vN none (.func (fu (inClass (top 209) 10) "change_row" "Transaction.change_row" 0 [] vN vN vN vN none vN vN 0)) []),
  (ob (vt "code") none (fi [(vs "change_row" 3724), (vs "Transaction.change_row" 3725), (vs "/claim/cut.py" 3726), (vi 1480 0), (vi 4 0), (vi 0 0), (vi 0 0), (vi 3 0), (vr 2591), vT, (vi 181 0), (vr 2592), vN, (vr 2593), (vr 2594), (vr 2595), (vi 3731 0), (vi 1480 0), (vs "/claim/cut.py" 3732)]) []),
  (ob (vt "function") none (.func (fu (inClass (top 209) 10) "change_row" "Transaction.change_row" 3 [] vN vN vN (vs "coverstore.transactions" 3617) none (vr 2596) vN 0)) []),
  (ob (vt "tuple") none (sq [] 0) []),
  (ob vN none (fi []) []),
  (ob (vt "tuple") none (sq [(vs "self" 3737), (vs "table" 3738), (vs "key" 3739)] 0) []),
  (ob (vt "tuple") none (sq [] 0) []),
  (ob vN none (.func (fu (inClass (top 209) 11) "drop_row" "Transaction.drop_row" 0 [] vN vN vN vN none vN vN 0)) []),
  (ob (vt "code") none (fi [(vs "drop_row" 3734), (vs "Transaction.drop_row" 3735), (vs "/claim/cut.py" 3736), (vi 1483 0), (vi 3 0), (vi 0 0), (vi 0 0), (vi 3 0), (vr 2598), vT, (vi 181 0), (vr 2599), vN, (vr 2600), (vr 2601), (vr 2602), (vi 3740 0), (vi 1483 0), (vs "/claim/cut.py" 3741)]) []),
  (ob (vt "function") none (.func (fu (inClass (top 209) 11) "drop_row" "Transaction.drop_row" 3 [] vN vN vN (vs "coverstore.transactions" 3617) none (vr 2603) vN 0)) []),
  (ob (vt "tuple") none (sq [] 0) []),
  (ob vN none (fi []) []),
  (ob vN none (.func (fu (inClass (top 209) 12) "acts" "Transaction.acts" 0 [] vN vN vN vN none vN vN 0)) [])]
def o8_163 (P : Params) : List Obj := [
  (ob (vt "code") none (fi [(vs "acts" 3743), (vs "Transaction.acts" 3744), (vs "/claim/cut.py" 3745), (vi 1486 0), (vi 1 0), (vi 0 0), (vi 0 0), (vi 3 0), (vr 2605), vT, (vi 181 0), (vr 2606), vN, vN, vN, (vr 2607), (vi 3746 0), (vi 1486 0), (vs "/claim/cut.py" 3747)]) []),
  (ob (vt "function") none (.func (fu (inClass (top 209) 12) "acts" "Transaction.acts" 3 [] vN vN vN (vs "coverstore.transactions" 3617) none (vr 2608) vN 0)) []),
  (ob (vt "tuple") none (sq [] 0) []),
  (ob vN none (fi []) []),
  (ob (vt "tuple") none (sq [(vs "self" 3752)] 0) []),
  (ob (vt "tuple") none (sq [] 0) []),
  (ob vN none (.func (fu (inClass (top 209) 13) "writes" "Transaction.writes" 0 [] vN vN vN vN none vN vN 0)) []),
  (ob (vt "code") none (fi [(vs "writes" 3749), (vs "Transaction.writes" 3750), (vs "/claim/cut.py" 3751), (vi 1489 0), (vi 1 0), (vi 0 0), (vi 0 0), (vi 3 0), (vr 2610), vT, (vi 181 0), (vr 2611), vN, (vr 2612), (vr 2613), (vr 2614), (vi 3753 0), (vi 1489 0), (vs "/claim/cut.py" 3754)]) []),
  (ob (vt "function") none (.func (fu (inClass (top 209) 13) "writes" "Transaction.writes" 3 [] vN vN vN (vs "coverstore.transactions" 3617) none (vr 2615) vN 0)) []),
  (ob (vt "tuple") none (sq [] 0) []),
  (ob vN none (fi []) []),
  (ob (vt "tuple") none (sq [(vs "self" 3759), (vs "newest" 3760), (vs "earlier" 3761), (vs "number" 3762), (vs "act" 3763), (vs "item" 3764)] 0) []),
  (ob (vt "tuple") none (sq [] 0) []),
  (ob vN none (.func (fu (inClass (top 209) 14) "check_acts" "Transaction.check_acts" 0 [] vN vN vN vN none vN vN 0)) []),
  (ob (vt "code") none (fi [(vs "check_acts" 3756), (vs "Transaction.check_acts" 3757), (vs "/claim/cut.py" 3758), (vi 1492 0), (vi 2 0), (vi 0 0), (vi 0 0), (vi 3 0), (vr 2617), vT, (vi 181 0), (vr 2618), vN, (vr 2619), (vr 2620), (vr 2621), (vi 3765 0), (vi 1492 0), (vs "/claim/cut.py" 3766)]) []),
  (ob (vt "function") none (.func (fu (inClass (top 209) 14) "check_acts" "Transaction.check_acts" 3 [] vN vN vN (vs "coverstore.transactions" 3617) none (vr 2622) vN 0)) [])]
def o8_164 (P : Params) : List Obj := [
  (ob (vt "tuple") none (sq [] 0) []),
  (ob vN none (fi []) []),
  (ob (vt "tuple") none (sq [(vs "self" 3771), (vs "newest" 3772)] 0) []),
  (ob (vt "tuple") none (sq [] 0) []),
  (ob vN none (.func (fu (inClass (top 209) 15) "commit" "Transaction.commit" 0 [] vN vN vN vN none vN vN 0)) []),
  (ob (vt "code") none (fi [(vs "commit" 3768), (vs "Transaction.commit" 3769), (vs "/claim/cut.py" 3770), (vi 1500 0), (vi 1 0), (vi 0 0), (vi 0 0), (vi 3 0), (vr 2624), vT, (vi 181 0), (vr 2625), vN, (vr 2626), (vr 2627), (vr 2628), (vi 3773 0), (vi 1500 0), (vs "/claim/cut.py" 3774)]) []),
  (ob (vt "function") none (.func (fu (inClass (top 209) 15) "commit" "Transaction.commit" 3 [] vN vN vN (vs "coverstore.transactions" 3617) none (vr 2629) vN 0)) []),
  (ob (vt "tuple") none (sq [] 0) []),
  (ob vN none (fi []) []),
  (ob (vt "tuple") none (sq [(vs "self" 3779)] 0) []),
  (ob (vt "tuple") none (sq [] 0) []),
  (ob vN none (.func (fu (inClass (top 209) 16) "abandon" "Transaction.abandon" 0 [] vN vN vN vN none vN vN 0)) []),
  (ob (vt "code") none (fi [(vs "abandon" 3776), (vs "Transaction.abandon" 3777), (vs "/claim/cut.py" 3778), (vi 1510 0), (vi 1 0), (vi 0 0), (vi 0 0), (vi 3 0), (vr 2631), vT, (vi 181 0), (vr 2632), vN, (vr 2633), (vr 2634), (vr 2635), (vi 3780 0), (vi 1510 0), (vs "/claim/cut.py" 3781)]) []),
  (ob (vt "function") none (.func (fu (inClass (top 209) 16) "abandon" "Transaction.abandon" 3 [] vN vN vN (vs "coverstore.transactions" 3617) none (vr 2636) vN 0)) []),
  (ob (vt "tuple") none (sq [(vs "has_ended" 3783), (vs "own_acts" 3784), (vs "own_snapshot" 3785), (vs "own_store" 3786), (vs "own_version" 3787), (vs "own_writes" 3788)] 0) []),
  (ob (vt "dict") none (di [de P "__module__" 3626 (vs "coverstore.transactions" 3617), de P "__firstlineno__" 3630 (vi 1440 3629), de P "__init__" 3639 (vr 2521), de P "version" 3647 (vr 2529), de P "is_open" 3655 (vr 2537), de P "require_open" 3662 (vr 2544), de P "here" 3669 (vr 2551), de P "ask" 3680 (vr 2559), de P "groups" 3695 (vr 2569), de P "perform" 3703 (vr 2576), de P "require_payload" 3713 (vr 2583), de P "add_row" 3723 (vr 2590), de P "change_row" 3733 (vr 2597), de P "drop_row" 3742 (vr 2604), de P "acts" 3748 (vr 2609), de P "writes" 3755 (vr 2616), de P "check_acts" 3767 (vr 2623), de P "commit" 3775 (vr 2630), de P "abandon" 3782 (vr 2637), de P "__static_attributes__" 3789 (vr 2638), de P "__dict__" 3791 (vr 2641), de P "__weakref__" 3793 (vr 2642), de P "__doc__" 3794 vN] 4) [])]
def o8_165 (P : Params) : List Obj := [
  (ob (vt "type") none (.cls ⟨"Transaction", [(vt "object")], [(vr 2640), (vt "object")], 2639, "Transaction", true, [], [], false, none, false⟩) [none, none, (some (vs "Transaction" 3619)), (some (vs "Transaction" 3627)), (some (vb "object.__new__")), (some vT)]),
  (ob (vt "getset_descriptor") none (fi [(vs "__dict__" 3790), (vr 2640), (vb "function.__dict__"), (vb "function.__dict__#set")]) []),
  (ob (vt "getset_descriptor") none (fi [(vs "__weakref__" 3792), (vr 2640), (vb "ExceptionGroup.__weakref__"), vN]) []),
  (ob (vt "super") none (fi [(vr 2640), (vr 2640), (vr 2640)]) []),
  (ob (vt "builtin_function_or_method") none (fi [(vb "object.__init_subclass__"), (vr 2640)]) []),
  (ob (vt "tuple") none (sq [] 0) []),
  (ob (vt "builtin_function_or_method") none (fi [(vb "type.__prepare__"), (vt "type")]) []),
  (ob (vt "dict") none (di [de P "__module__" 3806 (vs "coverstore.stores" 3797), de P "__qualname__" 3808 (vs "Store" 3807), de P "__firstlineno__" 3810 (vi 1513 3809), de P "__init__" 3818 (vr 2658), de P "bits" 3826 (vr 2666), de P "version" 3834 (vr 2674), de P "oldest" 3842 (vr 2682), de P "keeper" 3850 (vr 2690), de P "add_table" 3860 (vr 2697), de P "tables" 3867 (vr 2704), de P "columns" 3875 (vr 2711), de P "orders" 3883 (vr 2718), de P "require" 3894 (vr 2725), de P "constraints" 3900 (vr 2730), de P "begin" 3906 (vr 2735), de P "snapshot" 3914 (vr 2743), de P "pin" 3923 (vr 2751), de P "unpin" 3931 (vr 2758), de P "pins" 3938 (vr 2765), de P "held_versions" 3945 (vr 2772), de P "forget" 3953 (vr 2779), de P "check_constraints" 3964 (vr 2786), de P "accept" 3972 (vr 2793), de P "before_table" 3982 (vr 2800), de P "before_constraint" 3991 (vr 2807), de P "before_commit" 4000 (vr 2814), de P "__static_attributes__" 4006 (vr 2815)] 27) []),
  (ob (vt "tuple") none (sq [] 0) []),
  (ob vN none (fi [(vi 1515 0), (vi 4 0), (vr 2657), (vi 1523 0), (vi 4 0), (vr 2664), (vi 1527 0), (vi 4 0), (vr 2672), (vi 1531 0), (vi 4 0), (vr 2680), (vi 1535 0), (vi 4 0), (vr 2688), (vi 1538 0), (vi 4 0), (vr 2696), (vi 1543 0), (vi 4 0), (vr 2703), (vi 1546 0), (vi 4 0), (vr 2710), (vi 1549 0), (vi 4 0), (vr 2717), (vi 1552 0), (vi 4 0), (vr 2724), (vi 1561 0), (vi 4 0), (vr 2729), (vi 1564 0), (vi 4 0), (vr 2734), (vi 1569 0), (vi 4 0), (vr 2742), (vi 1572 0), (vi 4 0), (vr 2750), (vi 1575 0), (vi 4 0), (vr 2757), (vi 1578 0), (vi 4 0), (vr 2764), (vi 1581 0), (vi 4 0), (vr 2771), (vi 1584 0), (vi 4 0), (vr 2778), (vi 1587 0), (vi 4 0), (vr 2785), (vi 1593 0), (vi 4 0), (vr 2792), (vi 1597 0), (vi 4 0), (vr 2799), (vi 1600 0), (vi 4 0), (vr 2806), (vi 1603 0), (vi 4 0), (vr 2813)]) []),
  (ob (vt "code") none (fi [(vs "Store" 3801), (vs "Store" 3802), (vs "/claim/cut.py" 3803), (vi 1513 0), (vi 0 0), (vi 0 0), (vi 0 0), (vi 0 0), (vr 2648), vF, (vi 181 0), (vr 2649), vN, vN, vN, vN, (vi 3804 0), (vi 1513 0), (vs "/claim/cut.py" 3805)]) []),
  (ob (vt "frame") none .plain [(some (vr 2650)), (some (vr 3)), (some (vr 2647)), none, (some (vs "coverstore.stores" 3797)), none, (some (vr 0))]),
  (ob (vt "tuple") none (sq [] 0) []),
  (ob vN none (fi []) []),
  (ob (vt "tuple") none (sq [(vs "self" 3814), (vs "bits" 3815)] 0) []),
  (ob (vt "tuple") none (sq [] 0) [])]
def o8_166 (P : Params) : List Obj := [
  (ob vN none (.func (fu (inClass (top 211) 0) "__init__" "Store.__init__" 0 [] vN vN vN vN none vN vN 0)) []),
  (ob (vt "code") none (fi [(vs "__init__" 3811), (vs "Store.__init__" 3812), (vs "/claim/cut.py" 3813), (vi 1515 0), (vi 2 0), (vi 0 0), (vi 0 0), (vi 3 0), (vr 2652), vT, (vi 181 0), (vr 2653), vN, (vr 2654), (vr 2655), (vr 2656), (vi 3816 0), (vi 1515 0), (vs "/claim/cut.py" 3817)]) []),
  (ob (vt "function") none (.func (fu (inClass (top 211) 0) "__init__" "Store.__init__" 3 [] vN vN vN (vs "coverstore.stores" 3797) none (vr 2657) vN 0)) []),
  (ob (vt "tuple") none (sq [] 0) []),
  (ob vN none (fi []) []),
  (ob (vt "tuple") none (sq [(vs "self" 3822)] 0) []),
  (ob (vt "tuple") none (sq [] 0) []),
  (ob vN none (.func (fu (inClass (top 211) 1) "bits" "Store.bits" 0 [] vN vN vN vN none vN vN 0)) []),
  (ob (vt "code") none (fi [(vs "bits" 3819), (vs "Store.bits" 3820), (vs "/claim/cut.py" 3821), (vi 1522 0), (vi 1 0), (vi 0 0), (vi 0 0), (vi 3 0), (vr 2659), vT, (vi 181 0), (vr 2660), vN, (vr 2661), (vr 2662), (vr 2663), (vi 3823 0), (vi 1522 0), (vs "/claim/cut.py" 3824)]) []),
  (ob (vt "function") none (.func (fu (inClass (top 211) 1) "bits" "Store.bits" 3 [] vN vN vN (vs "coverstore.stores" 3797) none (vr 2664) vN 0)) []),
  (ob (vt "property") none (fi [(vr 2665), vN, vN, vN, (vs "bits" 3826), vF]) []),
  (ob (vt "tuple") none (sq [] 0) []),
  (ob vN none (fi []) []),
  (ob (vt "tuple") none (sq [(vs "self" 3830)] 0) []),
  (ob (vt "tuple") none (sq [] 0) []),
  (ob vN none (.func (fu (inClass (top 211) 2) "version" "Store.version" 0 [] vN vN vN vN none vN vN 0)) [])]
def o8_167 (P : Params) : List Obj := [
  (ob (vt "code") none (fi [(vs "version" 3827), (vs "Store.version" 3828), (vs "/claim/cut.py" 3829), (vi 1526 0), (vi 1 0), (vi 0 0), (vi 0 0), (vi 3 0), (vr 2667), vT, (vi 181 0), (vr 2668), vN, (vr 2669), (vr 2670), (vr 2671), (vi 3831 0), (vi 1526 0), (vs "/claim/cut.py" 3832)]) []),
  (ob (vt "function") none (.func (fu (inClass (top 211) 2) "version" "Store.version" 3 [] vN vN vN (vs "coverstore.stores" 3797) none (vr 2672) vN 0)) []),
  (ob (vt "property") none (fi [(vr 2673), vN, vN, vN, (vs "version" 3834), vF]) []),
  (ob (vt "tuple") none (sq [] 0) []),
  (ob vN none (fi []) []),
  (ob (vt "tuple") none (sq [(vs "self" 3838)] 0) []),
  (ob (vt "tuple") none (sq [] 0) []),
  (ob vN none (.func (fu (inClass (top 211) 3) "oldest" "Store.oldest" 0 [] vN vN vN vN none vN vN 0)) []),
  (ob (vt "code") none (fi [(vs "oldest" 3835), (vs "Store.oldest" 3836), (vs "/claim/cut.py" 3837), (vi 1530 0), (vi 1 0), (vi 0 0), (vi 0 0), (vi 3 0), (vr 2675), vT, (vi 181 0), (vr 2676), vN, (vr 2677), (vr 2678), (vr 2679), (vi 3839 0), (vi 1530 0), (vs "/claim/cut.py" 3840)]) []),
  (ob (vt "function") none (.func (fu (inClass (top 211) 3) "oldest" "Store.oldest" 3 [] vN vN vN (vs "coverstore.stores" 3797) none (vr 2680) vN 0)) []),
  (ob (vt "property") none (fi [(vr 2681), vN, vN, vN, (vs "oldest" 3842), vF]) []),
  (ob (vt "tuple") none (sq [] 0) []),
  (ob vN none (fi []) []),
  (ob (vt "tuple") none (sq [(vs "self" 3846)] 0) []),
  (ob (vt "tuple") none (sq [] 0) []),
  (ob vN none (.func (fu (inClass (top 211) 4) "keeper" "Store.keeper" 0 [] vN vN vN vN none vN vN 0)) [])]
def o8_168 (P : Params) : List Obj := [
  (ob (vt "code") none (fi [(vs "keeper" 3843), (vs "Store.keeper" 3844), (vs "/claim/cut.py" 3845), (vi 1534 0), (vi 1 0), (vi 0 0), (vi 0 0), (vi 3 0), (vr 2683), vT, (vi 181 0), (vr 2684), vN, (vr 2685), (vr 2686), (vr 2687), (vi 3847 0), (vi 1534 0), (vs "/claim/cut.py" 3848)]) []),
  (ob (vt "function") none (.func (fu (inClass (top 211) 4) "keeper" "Store.keeper" 3 [] vN vN vN (vs "coverstore.stores" 3797) none (vr 2688) vN 0)) []),
  (ob (vt "property") none (fi [(vr 2689), vN, vN, vN, (vs "keeper" 3850), vF]) []),
  (ob (vt "tuple") none (sq [] 0) []),
  (ob vN none (fi []) []),
  (ob (vt "tuple") none (sq [(vs "self" 3854), (vs "name" 3855), (vs "columns" 3856), (vs "orders" 3857)] 0) []),
  (ob (vt "tuple") none (sq [] 0) []),
  (ob vN none (.func (fu (inClass (top 211) 5) "add_table" "Store.add_table" 0 [] vN vN vN vN none vN vN 0)) []),
  (ob (vt "code") none (fi [(vs "add_table" 3851), (vs "Store.add_table" 3852), (vs "/claim/cut.py" 3853), (vi 1538 0), (vi 3 0), (vi 0 0), (vi 0 0), (vi 7 0), (vr 2691), vT, (vi 181 0), (vr 2692), vN, (vr 2693), (vr 2694), (vr 2695), (vi 3858 0), (vi 1538 0), (vs "/claim/cut.py" 3859)]) []),
  (ob (vt "function") none (.func (fu (inClass (top 211) 5) "add_table" "Store.add_table" 3 [] vN vN vN (vs "coverstore.stores" 3797) none (vr 2696) vN 0)) []),
  (ob (vt "tuple") none (sq [] 0) []),
  (ob vN none (fi []) []),
  (ob (vt "tuple") none (sq [(vs "self" 3864)] 0) []),
  (ob (vt "tuple") none (sq [] 0) []),
  (ob vN none (.func (fu (inClass (top 211) 6) "tables" "Store.tables" 0 [] vN vN vN vN none vN vN 0)) []),
  (ob (vt "code") none (fi [(vs "tables" 3861), (vs "Store.tables" 3862), (vs "/claim/cut.py" 3863), (vi 1543 0), (vi 1 0), (vi 0 0), (vi 0 0), (vi 3 0), (vr 2698), vT, (vi 181 0), (vr 2699), vN, (vr 2700), (vr 2701), (vr 2702), (vi 3865 0), (vi 1543 0), (vs "/claim/cut.py" 3866)]) [])]
def o8_169 (P : Params) : List Obj := [
  (ob (vt "function") none (.func (fu (inClass (top 211) 6) "tables" "Store.tables" 3 [] vN vN vN (vs "coverstore.stores" 3797) none (vr 2703) vN 0)) []),
  (ob (vt "tuple") none (sq [] 0) []),
  (ob vN none (fi []) []),
  (ob (vt "tuple") none (sq [(vs "self" 3871), (vs "table" 3872)] 0) []),
  (ob (vt "tuple") none (sq [] 0) []),
  (ob vN none (.func (fu (inClass (top 211) 7) "columns" "Store.columns" 0 [] vN vN vN vN none vN vN 0)) []),
  (ob (vt "code") none (fi [(vs "columns" 3868), (vs "Store.columns" 3869), (vs "/claim/cut.py" 3870), (vi 1546 0), (vi 2 0), (vi 0 0), (vi 0 0), (vi 3 0), (vr 2705), vT, (vi 181 0), (vr 2706), vN, (vr 2707), (vr 2708), (vr 2709), (vi 3873 0), (vi 1546 0), (vs "/claim/cut.py" 3874)]) []),
  (ob (vt "function") none (.func (fu (inClass (top 211) 7) "columns" "Store.columns" 3 [] vN vN vN (vs "coverstore.stores" 3797) none (vr 2710) vN 0)) []),
  (ob (vt "tuple") none (sq [] 0) []),
  (ob vN none (fi []) []),
  (ob (vt "tuple") none (sq [(vs "self" 3879), (vs "table" 3880)] 0) []),
  (ob (vt "tuple") none (sq [] 0) []),
  (ob vN none (.func (fu (inClass (top 211) 8) "orders" "Store.orders" 0 [] vN vN vN vN none vN vN 0)) []),
  (ob (vt "code") none (fi [(vs "orders" 3876), (vs "Store.orders" 3877), (vs "/claim/cut.py" 3878), (vi 1549 0), (vi 2 0), (vi 0 0), (vi 0 0), (vi 3 0), (vr 2712), vT, (vi 181 0), (vr 2713), vN, (vr 2714), (vr 2715), (vr 2716), (vi 3881 0), (vi 1549 0), (vs "/claim/cut.py" 3882)]) []),
  (ob (vt "function") none (.func (fu (inClass (top 211) 8) "orders" "Store.orders" 3 [] vN vN vN (vs "coverstore.stores" 3797) none (vr 2717) vN 0)) []),
  (ob (vt "tuple") none (sq [] 0) [])]
def o8_170 (P : Params) : List Obj := [
  (ob vN none (fi []) []),
  (ob (vt "tuple") none (sq [(vs "self" 3887), (vs "name" 3888), (vs "query" 3889), (vs "paper" 3890), (vs "points" 3891)] 0) []),
  (ob (vt "tuple") none (sq [] 0) []),
  (ob vN none (.func (fu (inClass (top 211) 9) "require" "Store.require" 0 [] vN vN vN vN none vN vN 0)) []),
  (ob (vt "code") none (fi [(vs "require" 3884), (vs "Store.require" 3885), (vs "/claim/cut.py" 3886), (vi 1552 0), (vi 3 0), (vi 0 0), (vi 0 0), (vi 3 0), (vr 2719), vT, (vi 181 0), (vr 2720), vN, (vr 2721), (vr 2722), (vr 2723), (vi 3892 0), (vi 1552 0), (vs "/claim/cut.py" 3893)]) []),
  (ob (vt "function") none (.func (fu (inClass (top 211) 9) "require" "Store.require" 3 [] vN vN vN (vs "coverstore.stores" 3797) none (vr 2724) vN 0)) []),
  (ob (vt "tuple") none (sq [] 0) []),
  (ob vN none (fi []) []),
  (ob vN none (.func (fu (inClass (top 211) 10) "constraints" "Store.constraints" 0 [] vN vN vN vN none vN vN 0)) []),
  (ob (vt "code") none (fi [(vs "constraints" 3895), (vs "Store.constraints" 3896), (vs "/claim/cut.py" 3897), (vi 1561 0), (vi 1 0), (vi 0 0), (vi 0 0), (vi 3 0), (vr 2726), vT, (vi 181 0), (vr 2727), vN, vN, vN, (vr 2728), (vi 3898 0), (vi 1561 0), (vs "/claim/cut.py" 3899)]) []),
  (ob (vt "function") none (.func (fu (inClass (top 211) 10) "constraints" "Store.constraints" 3 [] vN vN vN (vs "coverstore.stores" 3797) none (vr 2729) vN 0)) []),
  (ob (vt "tuple") none (sq [] 0) []),
  (ob vN none (fi []) []),
  (ob vN none (.func (fu (inClass (top 211) 11) "begin" "Store.begin" 0 [] vN vN vN vN none vN vN 0)) []),
  (ob (vt "code") none (fi [(vs "begin" 3901), (vs "Store.begin" 3902), (vs "/claim/cut.py" 3903), (vi 1564 0), (vi 1 0), (vi 0 0), (vi 0 0), (vi 3 0), (vr 2731), vT, (vi 181 0), (vr 2732), vN, vN, vN, (vr 2733), (vi 3904 0), (vi 1564 0), (vs "/claim/cut.py" 3905)]) []),
  (ob (vt "function") none (.func (fu (inClass (top 211) 11) "begin" "Store.begin" 3 [] vN vN vN (vs "coverstore.stores" 3797) none (vr 2734) vN 0)) [])]
def o8_171 (P : Params) : List Obj := [
  (ob (vt "tuple") none (sq [vN] 0) []),
  (ob (vt "tuple") none (sq [] 0) []),
  (ob vN none (fi []) []),
  (ob (vt "tuple") none (sq [(vs "self" 3910), (vs "version" 3911)] 0) []),
  (ob (vt "tuple") none (sq [] 0) []),
  (ob vN none (.func (fu (inClass (top 211) 12) "snapshot" "Store.snapshot" 0 [] vN vN vN vN none vN vN 0)) []),
  (ob (vt "code") none (fi [(vs "snapshot" 3907), (vs "Store.snapshot" 3908), (vs "/claim/cut.py" 3909), (vi 1569 0), (vi 2 0), (vi 0 0), (vi 0 0), (vi 3 0), (vr 2737), vT, (vi 181 0), (vr 2738), vN, (vr 2739), (vr 2740), (vr 2741), (vi 3912 0), (vi 1569 0), (vs "/claim/cut.py" 3913)]) []),
  (ob (vt "function") none (.func (fu (inClass (top 211) 12) "snapshot" "Store.snapshot" 3 [] (vr 2736) vN vN (vs "coverstore.stores" 3797) none (vr 2742) vN 0)) []),
  (ob (vt "tuple") none (sq [vN] 0) []),
  (ob (vt "tuple") none (sq [] 0) []),
  (ob vN none (fi []) []),
  (ob (vt "tuple") none (sq [(vs "self" 3918), (vs "name" 3919), (vs "version" 3920)] 0) []),
  (ob (vt "tuple") none (sq [] 0) []),
  (ob vN none (.func (fu (inClass (top 211) 13) "pin" "Store.pin" 0 [] vN vN vN vN none vN vN 0)) []),
  (ob (vt "code") none (fi [(vs "pin" 3915), (vs "Store.pin" 3916), (vs "/claim/cut.py" 3917), (vi 1572 0), (vi 3 0), (vi 0 0), (vi 0 0), (vi 3 0), (vr 2745), vT, (vi 181 0), (vr 2746), vN, (vr 2747), (vr 2748), (vr 2749), (vi 3921 0), (vi 1572 0), (vs "/claim/cut.py" 3922)]) []),
  (ob (vt "function") none (.func (fu (inClass (top 211) 13) "pin" "Store.pin" 3 [] (vr 2744) vN vN (vs "coverstore.stores" 3797) none (vr 2750) vN 0)) [])]
def o8_172 (P : Params) : List Obj := [
  (ob (vt "tuple") none (sq [] 0) []),
  (ob vN none (fi []) []),
  (ob (vt "tuple") none (sq [(vs "self" 3927), (vs "name" 3928)] 0) []),
  (ob (vt "tuple") none (sq [] 0) []),
  (ob vN none (.func (fu (inClass (top 211) 14) "unpin" "Store.unpin" 0 [] vN vN vN vN none vN vN 0)) []),
  (ob (vt "code") none (fi [(vs "unpin" 3924), (vs "Store.unpin" 3925), (vs "/claim/cut.py" 3926), (vi 1575 0), (vi 2 0), (vi 0 0), (vi 0 0), (vi 3 0), (vr 2752), vT, (vi 181 0), (vr 2753), vN, (vr 2754), (vr 2755), (vr 2756), (vi 3929 0), (vi 1575 0), (vs "/claim/cut.py" 3930)]) []),
  (ob (vt "function") none (.func (fu (inClass (top 211) 14) "unpin" "Store.unpin" 3 [] vN vN vN (vs "coverstore.stores" 3797) none (vr 2757) vN 0)) []),
  (ob (vt "tuple") none (sq [] 0) []),
  (ob vN none (fi []) []),
  (ob (vt "tuple") none (sq [(vs "self" 3935)] 0) []),
  (ob (vt "tuple") none (sq [] 0) []),
  (ob vN none (.func (fu (inClass (top 211) 15) "pins" "Store.pins" 0 [] vN vN vN vN none vN vN 0)) []),
  (ob (vt "code") none (fi [(vs "pins" 3932), (vs "Store.pins" 3933), (vs "/claim/cut.py" 3934), (vi 1578 0), (vi 1 0), (vi 0 0), (vi 0 0), (vi 3 0), (vr 2759), vT, (vi 181 0), (vr 2760), vN, (vr 2761), (vr 2762), (vr 2763), (vi 3936 0), (vi 1578 0), (vs "/claim/cut.py" 3937)]) []),
  (ob (vt "function") none (.func (fu (inClass (top 211) 15) "pins" "Store.pins" 3 [] vN vN vN (vs "coverstore.stores" 3797) none (vr 2764) vN 0)) []),
  (ob (vt "tuple") none (sq [] 0) []),
  (ob vN none (fi []) [])]
def o8_173 (P : Params) : List Obj := [
  (ob (vt "tuple") none (sq [(vs "self" 3942)] 0) []),
  (ob (vt "tuple") none (sq [] 0) []),
  (ob vN none (.func (fu (inClass (top 211) 16) "held_versions" "Store.held_versions" 0 [] vN vN vN vN none vN vN 0)) []),
  (ob (vt "code") none (fi [(vs "held_versions" 3939), (vs "Store.held_versions" 3940), (vs "/claim/cut.py" 3941), (vi 1581 0), (vi 1 0), (vi 0 0), (vi 0 0), (vi 3 0), (vr 2766), vT, (vi 181 0), (vr 2767), vN, (vr 2768), (vr 2769), (vr 2770), (vi 3943 0), (vi 1581 0), (vs "/claim/cut.py" 3944)]) []),
  (ob (vt "function") none (.func (fu (inClass (top 211) 16) "held_versions" "Store.held_versions" 3 [] vN vN vN (vs "coverstore.stores" 3797) none (vr 2771) vN 0)) []),
  (ob (vt "tuple") none (sq [] 0) []),
  (ob vN none (fi []) []),
  (ob (vt "tuple") none (sq [(vs "self" 3949), (vs "version" 3950)] 0) []),
  (ob (vt "tuple") none (sq [] 0) []),
  (ob vN none (.func (fu (inClass (top 211) 17) "forget" "Store.forget" 0 [] vN vN vN vN none vN vN 0)) []),
  (ob (vt "code") none (fi [(vs "forget" 3946), (vs "Store.forget" 3947), (vs "/claim/cut.py" 3948), (vi 1584 0), (vi 2 0), (vi 0 0), (vi 0 0), (vi 3 0), (vr 2773), vT, (vi 181 0), (vr 2774), vN, (vr 2775), (vr 2776), (vr 2777), (vi 3951 0), (vi 1584 0), (vs "/claim/cut.py" 3952)]) []),
  (ob (vt "function") none (.func (fu (inClass (top 211) 17) "forget" "Store.forget" 3 [] vN vN vN (vs "coverstore.stores" 3797) none (vr 2778) vN 0)) []),
  (ob (vt "tuple") none (sq [] 0) []),
  (ob vN none (fi []) []),
  (ob (vt "tuple") none (sq [(vs "self" 3957), (vs "source" 3958), (vs "name" 3959), (vs "paper" 3960), (vs "points" 3961)] 0) []),
  (ob (vt "tuple") none (sq [] 0) [])]
def o8_174 (P : Params) : List Obj := [
  (ob vN none (.func (fu (inClass (top 211) 18) "check_constraints" "Store.check_constraints" 0 [] vN vN vN vN none vN vN 0)) []),
  (ob (vt "code") none (fi [(vs "check_constraints" 3954), (vs "Store.check_constraints" 3955), (vs "/claim/cut.py" 3956), (vi 1587 0), (vi 2 0), (vi 0 0), (vi 0 0), (vi 3 0), (vr 2780), vT, (vi 181 0), (vr 2781), vN, (vr 2782), (vr 2783), (vr 2784), (vi 3962 0), (vi 1587 0), (vs "/claim/cut.py" 3963)]) []),
  (ob (vt "function") none (.func (fu (inClass (top 211) 18) "check_constraints" "Store.check_constraints" 3 [] vN vN vN (vs "coverstore.stores" 3797) none (vr 2785) vN 0)) []),
  (ob (vt "tuple") none (sq [] 0) []),
  (ob vN none (fi []) []),
  (ob (vt "tuple") none (sq [(vs "self" 3968), (vs "writes" 3969)] 0) []),
  (ob (vt "tuple") none (sq [] 0) []),
  (ob vN none (.func (fu (inClass (top 211) 19) "accept" "Store.accept" 0 [] vN vN vN vN none vN vN 0)) []),
  (ob (vt "code") none (fi [(vs "accept" 3965), (vs "Store.accept" 3966), (vs "/claim/cut.py" 3967), (vi 1593 0), (vi 2 0), (vi 0 0), (vi 0 0), (vi 3 0), (vr 2787), vT, (vi 181 0), (vr 2788), vN, (vr 2789), (vr 2790), (vr 2791), (vi 3970 0), (vi 1593 0), (vs "/claim/cut.py" 3971)]) []),
  (ob (vt "function") none (.func (fu (inClass (top 211) 19) "accept" "Store.accept" 3 [] vN vN vN (vs "coverstore.stores" 3797) none (vr 2792) vN 0)) []),
  (ob (vt "tuple") none (sq [] 0) []),
  (ob vN none (fi []) []),
  (ob (vt "tuple") none (sq [(vs "self" 3976), (vs "name" 3977), (vs "columns" 3978), (vs "orders" 3979)] 0) []),
  (ob (vt "tuple") none (sq [] 0) []),
  (ob vN none (.func (fu (inClass (top 211) 20) "before_table" "Store.before_table" 0 [] vN vN vN vN none vN vN 0)) []),
  (ob (vt "code") none (fi [(vs "before_table" 3973), (vs "Store.before_table" 3974), (vs "/claim/cut.py" 3975), (vi 1597 0), (vi 4 0), (vi 0 0), (vi 0 0), (vi 3 0), (vr 2794), vT, (vi 181 0), (vr 2795), vN, (vr 2796), (vr 2797), (vr 2798), (vi 3980 0), (vi 1597 0), (vs "/claim/cut.py" 3981)]) [])]
def o8_175 (P : Params) : List Obj := [
  (ob (vt "function") none (.func (fu (inClass (top 211) 20) "before_table" "Store.before_table" 3 [] vN vN vN (vs "coverstore.stores" 3797) none (vr 2799) vN 0)) []),
  (ob (vt "tuple") none (sq [] 0) []),
  (ob vN none (fi []) []),
  (ob (vt "tuple") none (sq [(vs "self" 3986), (vs "name" 3987), (vs "query" 3988)] 0) []),
  (ob (vt "tuple") none (sq [] 0) []),
  (ob vN none (.func (fu (inClass (top 211) 21) "before_constraint" "Store.before_constraint" 0 [] vN vN vN vN none vN vN 0)) []),
  (ob (vt "code") none (fi [(vs "before_constraint" 3983), (vs "Store.before_constraint" 3984), (vs "/claim/cut.py" 3985), (vi 1600 0), (vi 3 0), (vi 0 0), (vi 0 0), (vi 3 0), (vr 2801), vT, (vi 181 0), (vr 2802), vN, (vr 2803), (vr 2804), (vr 2805), (vi 3989 0), (vi 1600 0), (vs "/claim/cut.py" 3990)]) []),
  (ob (vt "function") none (.func (fu (inClass (top 211) 21) "before_constraint" "Store.before_constraint" 3 [] vN vN vN (vs "coverstore.stores" 3797) none (vr 2806) vN 0)) []),
  (ob (vt "tuple") none (sq [] 0) []),
  (ob vN none (fi []) []),
  (ob (vt "tuple") none (sq [(vs "self" 3995), (vs "version" 3996), (vs "writes" 3997)] 0) []),
  (ob (vt "tuple") none (sq [] 0) []),
  (ob vN none (.func (fu (inClass (top 211) 22) "before_commit" "Store.before_commit" 0 [] vN vN vN vN none vN vN 0)) []),
  (ob (vt "code") none (fi [(vs "before_commit" 3992), (vs "Store.before_commit" 3993), (vs "/claim/cut.py" 3994), (vi 1603 0), (vi 3 0), (vi 0 0), (vi 0 0), (vi 3 0), (vr 2808), vT, (vi 181 0), (vr 2809), vN, (vr 2810), (vr 2811), (vr 2812), (vi 3998 0), (vi 1603 0), (vs "/claim/cut.py" 3999)]) []),
  (ob (vt "function") none (.func (fu (inClass (top 211) 22) "before_commit" "Store.before_commit" 3 [] vN vN vN (vs "coverstore.stores" 3797) none (vr 2813) vN 0)) []),
  (ob (vt "tuple") none (sq [(vs "base" 4001), (vs "begun" 4002), (vs "own_constraints" 4003), (vs "own_keeper" 4004), (vs "own_pins" 4005)] 0) [])]
def o8_176 (P : Params) : List Obj := [
  (ob (vt "dict") none (di [de P "__module__" 3806 (vs "coverstore.stores" 3797), de P "__firstlineno__" 3810 (vi 1513 3809), de P "__init__" 3818 (vr 2658), de P "bits" 3826 (vr 2666), de P "version" 3834 (vr 2674), de P "oldest" 3842 (vr 2682), de P "keeper" 3850 (vr 2690), de P "add_table" 3860 (vr 2697), de P "tables" 3867 (vr 2704), de P "columns" 3875 (vr 2711), de P "orders" 3883 (vr 2718), de P "require" 3894 (vr 2725), de P "constraints" 3900 (vr 2730), de P "begin" 3906 (vr 2735), de P "snapshot" 3914 (vr 2743), de P "pin" 3923 (vr 2751), de P "unpin" 3931 (vr 2758), de P "pins" 3938 (vr 2765), de P "held_versions" 3945 (vr 2772), de P "forget" 3953 (vr 2779), de P "check_constraints" 3964 (vr 2786), de P "accept" 3972 (vr 2793), de P "before_table" 3982 (vr 2800), de P "before_constraint" 3991 (vr 2807), de P "before_commit" 4000 (vr 2814), de P "__static_attributes__" 4006 (vr 2815), de P "__dict__" 4008 (vr 2818), de P "__weakref__" 4010 (vr 2819), de P "__doc__" 4011 vN] 4) []),
  (ob (vt "type") none (.cls ⟨"Store", [(vt "object")], [(vr 2817), (vt "object")], 2816, "Store", true, [], [(vr 2992)], false, none, false⟩) [none, none, (some (vs "Store" 3799)), (some (vs "Store" 3807)), (some (vb "object.__new__")), (some vT)]),
  (ob (vt "getset_descriptor") none (fi [(vs "__dict__" 4007), (vr 2817), (vb "function.__dict__"), (vb "function.__dict__#set")]) []),
  (ob (vt "getset_descriptor") none (fi [(vs "__weakref__" 4009), (vr 2817), (vb "ExceptionGroup.__weakref__"), vN]) []),
  (ob (vt "super") none (fi [(vr 2817), (vr 2817), (vr 2817)]) []),
  (ob (vt "builtin_function_or_method") none (fi [(vb "object.__init_subclass__"), (vr 2817)]) []),
  (ob (vt "tuple") none (sq [] 0) []),
  (ob vN none (fi []) []),
  (ob vN none (.func (fu (top 225) "check_sum" "check_sum" 0 [] vN vN vN vN none vN vN 0)) []),
  (ob (vt "code") none (fi [(vs "check_sum" 4041), (vs "check_sum" 4042), (vs "/claim/cut.py" 4043), (vi 1618 0), (vi 1 0), (vi 0 0), (vi 0 0), (vi 3 0), (vr 2822), vT, (vi 181 0), (vr 2823), vN, vN, vN, (vr 2824), (vi 4044 0), (vi 1618 0), (vs "/claim/cut.py" 4045)]) []),
  (ob (vt "function") none (.func (fu (top 225) "check_sum" "check_sum" 3 [] vN vN vN (vs "coverstore.durable" 4014) none (vr 2825) vN 0)) []),
  (ob (vt "tuple") none (sq [] 0) []),
  (ob vN none (fi []) []),
  (ob (vt "tuple") none (sq [(vs "body" 4050)] 0) []),
  (ob (vt "tuple") none (sq [] 0) []),
  (ob vN none (.func (fu (top 226) "record_text" "record_text" 0 [] vN vN vN vN none vN vN 0)) [])]
def o8_177 (P : Params) : List Obj := [
  (ob (vt "code") none (fi [(vs "record_text" 4047), (vs "record_text" 4048), (vs "/claim/cut.py" 4049), (vi 1621 0), (vi 1 0), (vi 0 0), (vi 0 0), (vi 3 0), (vr 2827), vT, (vi 181 0), (vr 2828), vN, (vr 2829), (vr 2830), (vr 2831), (vi 4051 0), (vi 1621 0), (vs "/claim/cut.py" 4052)]) []),
  (ob (vt "function") none (.func (fu (top 226) "record_text" "record_text" 3 [] vN vN vN (vs "coverstore.durable" 4014) none (vr 2832) vN 0)) []),
  (ob (vt "tuple") none (sq [] 0) []),
  (ob vN none (fi []) []),
  (ob vN none (.func (fu (top 227) "pages_of" "pages_of" 0 [] vN vN vN vN none vN vN 0)) []),
  (ob (vt "code") none (fi [(vs "pages_of" 4054), (vs "pages_of" 4055), (vs "/claim/cut.py" 4056), (vi 1623 0), (vi 1 0), (vi 0 0), (vi 0 0), (vi 3 0), (vr 2834), vT, (vi 181 0), (vr 2835), vN, vN, vN, (vr 2836), (vi 4057 0), (vi 1623 0), (vs "/claim/cut.py" 4058)]) []),
  (ob (vt "function") none (.func (fu (top 227) "pages_of" "pages_of" 3 [] vN vN vN (vs "coverstore.durable" 4014) none (vr 2837) vN 0)) []),
  (ob (vt "tuple") none (sq [] 0) []),
  (ob vN none (fi []) []),
  (ob vN none (.func (fu (top 228) "joined" "joined" 0 [] vN vN vN vN none vN vN 0)) []),
  (ob (vt "code") none (fi [(vs "joined" 4060), (vs "joined" 4061), (vs "/claim/cut.py" 4062), (vi 1626 0), (vi 1 0), (vi 0 0), (vi 0 0), (vi 3 0), (vr 2839), vT, (vi 181 0), (vr 2840), vN, vN, vN, (vr 2841), (vi 4063 0), (vi 1626 0), (vs "/claim/cut.py" 4064)]) []),
  (ob (vt "function") none (.func (fu (top 228) "joined" "joined" 3 [] vN vN vN (vs "coverstore.durable" 4014) none (vr 2842) vN 0)) []),
  (ob (vt "tuple") none (sq [] 0) []),
  (ob vN none (fi []) []),
  (ob (vt "tuple") none (sq [(vs "bits" 4069)] 0) []),
  (ob (vt "tuple") none (sq [] 0) [])]
def o8_178 (P : Params) : List Obj := [
  (ob vN none (.func (fu (top 229) "bits_body" "bits_body" 0 [] vN vN vN vN none vN vN 0)) []),
  (ob (vt "code") none (fi [(vs "bits_body" 4066), (vs "bits_body" 4067), (vs "/claim/cut.py" 4068), (vi 1628 0), (vi 1 0), (vi 0 0), (vi 0 0), (vi 3 0), (vr 2844), vT, (vi 181 0), (vr 2845), vN, (vr 2846), (vr 2847), (vr 2848), (vi 4070 0), (vi 1628 0), (vs "/claim/cut.py" 4071)]) []),
  (ob (vt "function") none (.func (fu (top 229) "bits_body" "bits_body" 3 [] vN vN vN (vs "coverstore.durable" 4014) none (vr 2849) vN 0)) []),
  (ob (vt "tuple") none (sq [] 0) []),
  (ob vN none (fi []) []),
  (ob vN none (.func (fu (top 230) "table_body" "table_body" 0 [] vN vN vN vN none vN vN 0)) []),
  (ob (vt "code") none (fi [(vs "table_body" 4073), (vs "table_body" 4074), (vs "/claim/cut.py" 4075), (vi 1630 0), (vi 3 0), (vi 0 0), (vi 0 0), (vi 3 0), (vr 2851), vT, (vi 181 0), (vr 2852), vN, vN, vN, (vr 2853), (vi 4076 0), (vi 1630 0), (vs "/claim/cut.py" 4077)]) []),
  (ob (vt "function") none (.func (fu (top 230) "table_body" "table_body" 3 [] vN vN vN (vs "coverstore.durable" 4014) none (vr 2854) vN 0)) []),
  (ob (vt "tuple") none (sq [] 0) []),
  (ob vN none (fi []) []),
  (ob (vt "tuple") none (sq [(vs "name" 4082), (vs "query" 4083)] 0) []),
  (ob (vt "tuple") none (sq [] 0) []),
  (ob vN none (.func (fu (top 231) "require_body" "require_body" 0 [] vN vN vN vN none vN vN 0)) []),
  (ob (vt "code") none (fi [(vs "require_body" 4079), (vs "require_body" 4080), (vs "/claim/cut.py" 4081), (vi 1633 0), (vi 2 0), (vi 0 0), (vi 0 0), (vi 3 0), (vr 2856), vT, (vi 181 0), (vr 2857), vN, (vr 2858), (vr 2859), (vr 2860), (vi 4084 0), (vi 1633 0), (vs "/claim/cut.py" 4085)]) []),
  (ob (vt "function") none (.func (fu (top 231) "require_body" "require_body" 3 [] vN vN vN (vs "coverstore.durable" 4014) none (vr 2861) vN 0)) []),
  (ob (vt "tuple") none (sq [] 0) [])]
def o8_179 (P : Params) : List Obj := [
  (ob vN none (fi []) []),
  (ob vN none (.func (fu (top 232) "write_text" "write_text" 0 [] vN vN vN vN none vN vN 0)) []),
  (ob (vt "code") none (fi [(vs "write_text" 4087), (vs "write_text" 4088), (vs "/claim/cut.py" 4089), (vi 1635 0), (vi 1 0), (vi 0 0), (vi 0 0), (vi 3 0), (vr 2863), vT, (vi 181 0), (vr 2864), vN, vN, vN, (vr 2865), (vi 4090 0), (vi 1635 0), (vs "/claim/cut.py" 4091)]) []),
  (ob (vt "function") none (.func (fu (top 232) "write_text" "write_text" 3 [] vN vN vN (vs "coverstore.durable" 4014) none (vr 2866) vN 0)) []),
  (ob (vt "tuple") none (sq [] 0) []),
  (ob vN none (fi []) []),
  (ob vN none (.func (fu (top 233) "commit_body" "commit_body" 0 [] vN vN vN vN none vN vN 0)) []),
  (ob (vt "code") none (fi [(vs "commit_body" 4093), (vs "commit_body" 4094), (vs "/claim/cut.py" 4095), (vi 1638 0), (vi 2 0), (vi 0 0), (vi 0 0), (vi 3 0), (vr 2868), vT, (vi 181 0), (vr 2869), vN, vN, vN, (vr 2870), (vi 4096 0), (vi 1638 0), (vs "/claim/cut.py" 4097)]) []),
  (ob (vt "function") none (.func (fu (top 233) "commit_body" "commit_body" 3 [] vN vN vN (vs "coverstore.durable" 4014) none (vr 2871) vN 0)) []),
  (ob (vt "tuple") none (sq [] 0) []),
  (ob vN none (fi []) []),
  (ob vN none (.func (fu (top 234) "integer_in" "integer_in" 0 [] vN vN vN vN none vN vN 0)) []),
  (ob (vt "code") none (fi [(vs "integer_in" 4099), (vs "integer_in" 4100), (vs "/claim/cut.py" 4101), (vi 1640 0), (vi 1 0), (vi 0 0), (vi 0 0), (vi 3 0), (vr 2873), vT, (vi 181 0), (vr 2874), vN, vN, vN, (vr 2875), (vi 4102 0), (vi 1640 0), (vs "/claim/cut.py" 4103)]) []),
  (ob (vt "function") none (.func (fu (top 234) "integer_in" "integer_in" 3 [] vN vN vN (vs "coverstore.durable" 4014) none (vr 2876) vN 0)) []),
  (ob (vt "tuple") none (sq [] 0) []),
  (ob vN none (fi []) [])]
def o8_180 (P : Params) : List Obj := [
  (ob vN none (.func (fu (top 235) "integers_in" "integers_in" 0 [] vN vN vN vN none vN vN 0)) []),
  (ob (vt "code") none (fi [(vs "integers_in" 4105), (vs "integers_in" 4106), (vs "/claim/cut.py" 4107), (vi 1645 0), (vi 1 0), (vi 0 0), (vi 0 0), (vi 3 0), (vr 2878), vT, (vi 181 0), (vr 2879), vN, vN, vN, (vr 2880), (vi 4108 0), (vi 1645 0), (vs "/claim/cut.py" 4109)]) []),
  (ob (vt "function") none (.func (fu (top 235) "integers_in" "integers_in" 3 [] vN vN vN (vs "coverstore.durable" 4014) none (vr 2881) vN 0)) []),
  (ob (vt "tuple") none (sq [] 0) []),
  (ob vN none (fi []) []),
  (ob vN none (.func (fu (top 237) "write_in" "write_in" 0 [] vN vN vN vN none vN vN 0)) []),
  (ob (vt "code") none (fi [(vs "write_in" 4112), (vs "write_in" 4113), (vs "/claim/cut.py" 4114), (vi 1648 0), (vi 1 0), (vi 0 0), (vi 0 0), (vi 3 0), (vr 2883), vT, (vi 181 0), (vr 2884), vN, vN, vN, (vr 2885), (vi 4115 0), (vi 1648 0), (vs "/claim/cut.py" 4116)]) []),
  (ob (vt "function") none (.func (fu (top 237) "write_in" "write_in" 3 [] vN vN vN (vs "coverstore.durable" 4014) none (vr 2886) vN 0)) []),
  (ob (vt "tuple") none (sq [] 0) []),
  (ob (vt "builtin_function_or_method") none (fi [(vb "type.__prepare__"), (vt "type")]) []),
  (ob (vt "dict") none (di [de P "__module__" 4125 (vs "coverstore.durable" 4014), de P "__qualname__" 4127 (vs "NextRecord" 4126), de P "__firstlineno__" 4129 (vi 1654 4128), de P "__init__" 4135 (vr 2899), de P "take_pages" 4141 (vr 2904), de P "__static_attributes__" 4144 (vr 2905)] 6) []),
  (ob (vt "tuple") none (sq [] 0) []),
  (ob vN none (fi [(vi 1656 0), (vi 4 0), (vr 2898), (vi 1663 0), (vi 4 0), (vr 2903)]) []),
  (ob (vt "code") none (fi [(vs "NextRecord" 4120), (vs "NextRecord" 4121), (vs "/claim/cut.py" 4122), (vi 1654 0), (vi 0 0), (vi 0 0), (vi 0 0), (vi 0 0), (vr 2891), vF, (vi 181 0), (vr 2892), vN, vN, vN, vN, (vi 4123 0), (vi 1654 0), (vs "/claim/cut.py" 4124)]) []),
  (ob (vt "frame") none .plain [(some (vr 2893)), (some (vr 3)), (some (vr 2890)), none, (some (vs "coverstore.durable" 4014)), none, (some (vr 0))]),
  (ob (vt "tuple") none (sq [] 0) [])]
def o8_181 (P : Params) : List Obj := [
  (ob vN none (fi []) []),
  (ob vN none (.func (fu (inClass (top 238) 0) "__init__" "NextRecord.__init__" 0 [] vN vN vN vN none vN vN 0)) []),
  (ob (vt "code") none (fi [(vs "__init__" 4130), (vs "NextRecord.__init__" 4131), (vs "/claim/cut.py" 4132), (vi 1656 0), (vi 2 0), (vi 0 0), (vi 0 0), (vi 3 0), (vr 2895), vT, (vi 181 0), (vr 2896), vN, vN, vN, (vr 2897), (vi 4133 0), (vi 1656 0), (vs "/claim/cut.py" 4134)]) []),
  (ob (vt "function") none (.func (fu (inClass (top 238) 0) "__init__" "NextRecord.__init__" 3 [] vN vN vN (vs "coverstore.durable" 4014) none (vr 2898) vN 0)) []),
  (ob (vt "tuple") none (sq [] 0) []),
  (ob vN none (fi []) []),
  (ob vN none (.func (fu (inClass (top 238) 1) "take_pages" "NextRecord.take_pages" 0 [] vN vN vN vN none vN vN 0)) []),
  (ob (vt "code") none (fi [(vs "take_pages" 4136), (vs "NextRecord.take_pages" 4137), (vs "/claim/cut.py" 4138), (vi 1663 0), (vi 2 0), (vi 0 0), (vi 0 0), (vi 3 0), (vr 2900), vT, (vi 181 0), (vr 2901), vN, vN, vN, (vr 2902), (vi 4139 0), (vi 1663 0), (vs "/claim/cut.py" 4140)]) []),
  (ob (vt "function") none (.func (fu (inClass (top 238) 1) "take_pages" "NextRecord.take_pages" 3 [] vN vN vN (vs "coverstore.durable" 4014) none (vr 2903) vN 0)) []),
  (ob (vt "tuple") none (sq [(vs "body" 4142), (vs "count" 4143)] 0) []),
  (ob (vt "dict") none (di [de P "__module__" 4125 (vs "coverstore.durable" 4014), de P "__firstlineno__" 4129 (vi 1654 4128), de P "__init__" 4135 (vr 2899), de P "take_pages" 4141 (vr 2904), de P "__static_attributes__" 4144 (vr 2905), de P "__dict__" 4146 (vr 2908), de P "__weakref__" 4148 (vr 2909), de P "__doc__" 4149 vN] 4) []),
  (ob (vt "type") none (.cls ⟨"NextRecord", [(vt "object")], [(vr 2907), (vt "object")], 2906, "NextRecord", true, [], [], false, none, false⟩) [none, none, (some (vs "NextRecord" 4118)), (some (vs "NextRecord" 4126)), (some (vb "object.__new__")), (some vT)]),
  (ob (vt "getset_descriptor") none (fi [(vs "__dict__" 4145), (vr 2907), (vb "function.__dict__"), (vb "function.__dict__#set")]) []),
  (ob (vt "getset_descriptor") none (fi [(vs "__weakref__" 4147), (vr 2907), (vb "ExceptionGroup.__weakref__"), vN]) []),
  (ob (vt "super") none (fi [(vr 2907), (vr 2907), (vr 2907)]) []),
  (ob (vt "builtin_function_or_method") none (fi [(vb "object.__init_subclass__"), (vr 2907)]) [])]
def o8_182 (P : Params) : List Obj := [
  (ob (vt "tuple") none (sq [(vr 2817)] 0) []),
  (ob (vt "builtin_function_or_method") none (fi [(vb "type.__prepare__"), (vt "type")]) []),
  (ob (vt "dict") none (di [de P "__module__" 4159 (vs "coverstore.durable" 4014), de P "__qualname__" 4161 (vs "DurableStore" 4160), de P "__firstlineno__" 4163 (vi 1669 4162), de P "__init__" 4173 (vr 2927), de P "recovered" 4198 (vr 2936), de P "write_record" 4207 (vr 2944), de P "before_table" 4217 (vr 2951), de P "before_constraint" 4226 (vr 2958), de P "before_commit" 4235 (vr 2965), de P "redo" 4244 (vr 2972), de P "redo_table" 4250 (vr 2977), de P "redo_constraint" 4261 (vr 2984), de P "redo_commit" 4267 (vr 2989), de P "__static_attributes__" 4269 (vr 2990), de P "__classcell__" 4270 (vr 2915)] 15) []),
  (ob (vt "cell") none (.cell (some (vr 2992))) []),
  (ob (vt "tuple") none (sq [] 0) []),
  (ob vN none (fi [(vi 1671 0), (vi 4 0), (vr 2926), (vi 1679 0), (vi 4 0), (vr 2933), (vi 1696 0), (vi 4 0), (vr 2943), (vi 1700 0), (vi 4 0), (vr 2950), (vi 1703 0), (vi 4 0), (vr 2957), (vi 1706 0), (vi 4 0), (vr 2964), (vi 1709 0), (vi 4 0), (vr 2971), (vi 1722 0), (vi 4 0), (vr 2976), (vi 1730 0), (vi 4 0), (vr 2983), (vi 1735 0), (vi 4 0), (vr 2988)]) []),
  (ob (vt "code") none (fi [(vs "DurableStore" 4154), (vs "DurableStore" 4155), (vs "/claim/cut.py" 4156), (vi 1669 0), (vi 0 0), (vi 0 0), (vi 0 0), (vi 0 0), (vr 2916), vF, (vi 181 0), (vr 2917), vN, vN, vN, vN, (vi 4157 0), (vi 1669 0), (vs "/claim/cut.py" 4158)]) []),
  (ob (vt "frame") none .plain [(some (vr 2918)), (some (vr 3)), (some (vr 2914)), none, (some (vs "coverstore.durable" 4014)), none, (some (vr 0))]),
  (ob (vt "tuple") none (sq [(vr 2915)] 0) []),
  (ob (vt "tuple") none (sq [(vs "__class__" 4167)] 0) []),
  (ob vN none (fi []) []),
  (ob (vt "tuple") none (sq [(vs "self" 4168), (vs "bits" 4169), (vs "disk" 4170)] 0) []),
  (ob (vt "tuple") none (sq [] 0) []),
  (ob vN none (.func (fu (inClass (top 239) 0) "__init__" "DurableStore.__init__" 0 [] vN vN vN vN none vN vN 0)) []),
  (ob (vt "code") none (fi [(vs "__init__" 4164), (vs "DurableStore.__init__" 4165), (vs "/claim/cut.py" 4166), (vi 1671 0), (vi 3 0), (vi 0 0), (vi 0 0), (vi 3 0), (vr 2921), vT, (vi 181 0), (vr 2922), vN, (vr 2923), (vr 2924), (vr 2925), (vi 4171 0), (vi 1671 0), (vs "/claim/cut.py" 4172)]) []),
  (ob (vt "function") none (.func (fu (inClass (top 239) 0) "__init__" "DurableStore.__init__" 3 [("__class__", 2915)] vN vN vN (vs "coverstore.durable" 4014) none (vr 2926) (vr 2920) 0)) [])]
def o8_183 (P : Params) : List Obj := [
  (ob (vt "tuple") none (sq [] 0) []),
  (ob vN none (fi []) []),
  (ob (vt "tuple") none (sq [(vs "cls" 4177), (vs "disk" 4178), (vs "pages" 4179), (vs "record" 4180), (vs "bits" 4181), (vs "found" 4182), (vs "count" 4183)] 0) []),
  (ob (vt "tuple") none (sq [] 0) []),
  (ob vN none (.func (fu (inClass (top 239) 1) "recovered" "DurableStore.recovered" 0 [] vN vN vN vN none vN vN 0)) []),
  (ob (vt "code") none (fi [(vs "recovered" 4174), (vs "DurableStore.recovered" 4175), (vs "/claim/cut.py" 4176), (vi 1678 0), (vi 2 0), (vi 0 0), (vi 0 0), (vi 3 0), (vr 2928), vT, (vi 181 0), (vr 2929), vN, (vr 2930), (vr 2931), (vr 2932), (vi 4184 0), (vi 1678 0), (vs "/claim/cut.py" 4185)]) []),
  (ob (vt "function") none (.func (fu (inClass (top 239) 1) "recovered" "DurableStore.recovered" 3 [] vN vN vN (vs "coverstore.durable" 4014) (some 2937) (vr 2933) vN 0)) []),
  (ob (vt "dict") none (di [de P "__module__" 4187 (vs "coverstore.durable" 4014), de P "__name__" 4190 (vs "recovered" 4189), de P "__qualname__" 4193 (vs "DurableStore.recovered" 4192), de P "__doc__" 4195 vN, de P "__annotations__" 4197 (vr 2937)] 5) []),
  (ob (vt "classmethod") (some 2935) (fi [(vr 2934), vF]) []),
  (ob (vt "dict") none (di [] 0) []),
  (ob (vt "tuple") none (sq [] 0) []),
  (ob vN none (fi []) []),
  (ob (vt "tuple") none (sq [(vs "self" 4202), (vs "body" 4203), (vs "page" 4204)] 0) []),
  (ob (vt "tuple") none (sq [] 0) []),
  (ob vN none (.func (fu (inClass (top 239) 2) "write_record" "DurableStore.write_record" 0 [] vN vN vN vN none vN vN 0)) []),
  (ob (vt "code") none (fi [(vs "write_record" 4199), (vs "DurableStore.write_record" 4200), (vs "/claim/cut.py" 4201), (vi 1696 0), (vi 2 0), (vi 0 0), (vi 0 0), (vi 3 0), (vr 2938), vT, (vi 181 0), (vr 2939), vN, (vr 2940), (vr 2941), (vr 2942), (vi 4205 0), (vi 1696 0), (vs "/claim/cut.py" 4206)]) [])]
def o8_184 (P : Params) : List Obj := [
  (ob (vt "function") none (.func (fu (inClass (top 239) 2) "write_record" "DurableStore.write_record" 3 [] vN vN vN (vs "coverstore.durable" 4014) none (vr 2943) vN 0)) []),
  (ob (vt "tuple") none (sq [] 0) []),
  (ob vN none (fi []) []),
  (ob (vt "tuple") none (sq [(vs "self" 4211), (vs "name" 4212), (vs "columns" 4213), (vs "orders" 4214)] 0) []),
  (ob (vt "tuple") none (sq [] 0) []),
  (ob vN none (.func (fu (inClass (top 239) 3) "before_table" "DurableStore.before_table" 0 [] vN vN vN vN none vN vN 0)) []),
  (ob (vt "code") none (fi [(vs "before_table" 4208), (vs "DurableStore.before_table" 4209), (vs "/claim/cut.py" 4210), (vi 1700 0), (vi 4 0), (vi 0 0), (vi 0 0), (vi 3 0), (vr 2945), vT, (vi 181 0), (vr 2946), vN, (vr 2947), (vr 2948), (vr 2949), (vi 4215 0), (vi 1700 0), (vs "/claim/cut.py" 4216)]) []),
  (ob (vt "function") none (.func (fu (inClass (top 239) 3) "before_table" "DurableStore.before_table" 3 [] vN vN vN (vs "coverstore.durable" 4014) none (vr 2950) vN 0)) []),
  (ob (vt "tuple") none (sq [] 0) []),
  (ob vN none (fi []) []),
  (ob (vt "tuple") none (sq [(vs "self" 4221), (vs "name" 4222), (vs "query" 4223)] 0) []),
  (ob (vt "tuple") none (sq [] 0) []),
  (ob vN none (.func (fu (inClass (top 239) 4) "before_constraint" "DurableStore.before_constraint" 0 [] vN vN vN vN none vN vN 0)) []),
  (ob (vt "code") none (fi [(vs "before_constraint" 4218), (vs "DurableStore.before_constraint" 4219), (vs "/claim/cut.py" 4220), (vi 1703 0), (vi 3 0), (vi 0 0), (vi 0 0), (vi 3 0), (vr 2952), vT, (vi 181 0), (vr 2953), vN, (vr 2954), (vr 2955), (vr 2956), (vi 4224 0), (vi 1703 0), (vs "/claim/cut.py" 4225)]) []),
  (ob (vt "function") none (.func (fu (inClass (top 239) 4) "before_constraint" "DurableStore.before_constraint" 3 [] vN vN vN (vs "coverstore.durable" 4014) none (vr 2957) vN 0)) []),
  (ob (vt "tuple") none (sq [] 0) [])]
def o8_185 (P : Params) : List Obj := [
  (ob vN none (fi []) []),
  (ob (vt "tuple") none (sq [(vs "self" 4230), (vs "version" 4231), (vs "writes" 4232)] 0) []),
  (ob (vt "tuple") none (sq [] 0) []),
  (ob vN none (.func (fu (inClass (top 239) 5) "before_commit" "DurableStore.before_commit" 0 [] vN vN vN vN none vN vN 0)) []),
  (ob (vt "code") none (fi [(vs "before_commit" 4227), (vs "DurableStore.before_commit" 4228), (vs "/claim/cut.py" 4229), (vi 1706 0), (vi 3 0), (vi 0 0), (vi 0 0), (vi 3 0), (vr 2959), vT, (vi 181 0), (vr 2960), vN, (vr 2961), (vr 2962), (vr 2963), (vi 4233 0), (vi 1706 0), (vs "/claim/cut.py" 4234)]) []),
  (ob (vt "function") none (.func (fu (inClass (top 239) 5) "before_commit" "DurableStore.before_commit" 3 [] vN vN vN (vs "coverstore.durable" 4014) none (vr 2964) vN 0)) []),
  (ob (vt "tuple") none (sq [] 0) []),
  (ob vN none (fi []) []),
  (ob (vt "tuple") none (sq [(vs "self" 4239), (vs "body" 4240), (vs "is_made" 4241)] 0) []),
  (ob (vt "tuple") none (sq [] 0) []),
  (ob vN none (.func (fu (inClass (top 239) 6) "redo" "DurableStore.redo" 0 [] vN vN vN vN none vN vN 0)) []),
  (ob (vt "code") none (fi [(vs "redo" 4236), (vs "DurableStore.redo" 4237), (vs "/claim/cut.py" 4238), (vi 1709 0), (vi 2 0), (vi 0 0), (vi 0 0), (vi 3 0), (vr 2966), vT, (vi 181 0), (vr 2967), vN, (vr 2968), (vr 2969), (vr 2970), (vi 4242 0), (vi 1709 0), (vs "/claim/cut.py" 4243)]) []),
  (ob (vt "function") none (.func (fu (inClass (top 239) 6) "redo" "DurableStore.redo" 3 [] vN vN vN (vs "coverstore.durable" 4014) none (vr 2971) vN 0)) []),
  (ob (vt "tuple") none (sq [] 0) []),
  (ob vN none (fi []) []),
  (ob vN none (.func (fu (inClass (top 239) 7) "redo_table" "DurableStore.redo_table" 0 [] vN vN vN vN none vN vN 0)) [])]
def o8_186 (P : Params) : List Obj := [
  (ob (vt "code") none (fi [(vs "redo_table" 4245), (vs "DurableStore.redo_table" 4246), (vs "/claim/cut.py" 4247), (vi 1722 0), (vi 2 0), (vi 0 0), (vi 0 0), (vi 3 0), (vr 2973), vT, (vi 181 0), (vr 2974), vN, vN, vN, (vr 2975), (vi 4248 0), (vi 1722 0), (vs "/claim/cut.py" 4249)]) []),
  (ob (vt "function") none (.func (fu (inClass (top 239) 7) "redo_table" "DurableStore.redo_table" 3 [] vN vN vN (vs "coverstore.durable" 4014) none (vr 2976) vN 0)) []),
  (ob (vt "tuple") none (sq [] 0) []),
  (ob vN none (fi []) []),
  (ob (vt "tuple") none (sq [(vs "self" 4254), (vs "body" 4255), (vs "word" 4256), (vs "name" 4257), (vs "text" 4258)] 0) []),
  (ob (vt "tuple") none (sq [] 0) []),
  (ob vN none (.func (fu (inClass (top 239) 8) "redo_constraint" "DurableStore.redo_constraint" 0 [] vN vN vN vN none vN vN 0)) []),
  (ob (vt "code") none (fi [(vs "redo_constraint" 4251), (vs "DurableStore.redo_constraint" 4252), (vs "/claim/cut.py" 4253), (vi 1730 0), (vi 2 0), (vi 0 0), (vi 0 0), (vi 3 0), (vr 2978), vT, (vi 181 0), (vr 2979), vN, (vr 2980), (vr 2981), (vr 2982), (vi 4259 0), (vi 1730 0), (vs "/claim/cut.py" 4260)]) []),
  (ob (vt "function") none (.func (fu (inClass (top 239) 8) "redo_constraint" "DurableStore.redo_constraint" 3 [] vN vN vN (vs "coverstore.durable" 4014) none (vr 2983) vN 0)) []),
  (ob (vt "tuple") none (sq [] 0) []),
  (ob vN none (fi []) []),
  (ob vN none (.func (fu (inClass (top 239) 9) "redo_commit" "DurableStore.redo_commit" 0 [] vN vN vN vN none vN vN 0)) []),
  (ob (vt "code") none (fi [(vs "redo_commit" 4262), (vs "DurableStore.redo_commit" 4263), (vs "/claim/cut.py" 4264), (vi 1735 0), (vi 2 0), (vi 0 0), (vi 0 0), (vi 3 0), (vr 2985), vT, (vi 181 0), (vr 2986), vN, vN, vN, (vr 2987), (vi 4265 0), (vi 1735 0), (vs "/claim/cut.py" 4266)]) []),
  (ob (vt "function") none (.func (fu (inClass (top 239) 9) "redo_commit" "DurableStore.redo_commit" 3 [] vN vN vN (vs "coverstore.durable" 4014) none (vr 2988) vN 0)) []),
  (ob (vt "tuple") none (sq [(vs "own_disk" 4268)] 0) []),
  (ob (vt "dict") none (di [de P "__module__" 4159 (vs "coverstore.durable" 4014), de P "__firstlineno__" 4163 (vi 1669 4162), de P "__init__" 4173 (vr 2927), de P "recovered" 4198 (vr 2936), de P "write_record" 4207 (vr 2944), de P "before_table" 4217 (vr 2951), de P "before_constraint" 4226 (vr 2958), de P "before_commit" 4235 (vr 2965), de P "redo" 4244 (vr 2972), de P "redo_table" 4250 (vr 2977), de P "redo_constraint" 4261 (vr 2984), de P "redo_commit" 4267 (vr 2989), de P "__static_attributes__" 4269 (vr 2990), de P "__doc__" 4271 vN] 3) [])]
def o8_187 (P : Params) : List Obj := [
  (ob (vt "type") none (.cls ⟨"DurableStore", [(vr 2817)], [(vr 2992), (vr 2817), (vt "object")], 2991, "DurableStore", true, [], [], false, none, false⟩) [(some (vr 2912)), none, (some (vs "DurableStore" 4152)), (some (vs "DurableStore" 4160)), (some (vb "object.__new__")), (some vT)]),
  (ob (vt "super") none (fi [(vr 2992), (vr 2992), (vr 2992)]) []),
  (ob (vt "builtin_function_or_method") none (fi [(vb "object.__init_subclass__"), (vr 2992)]) []),
  (ob (vt "tuple") none (sq [] 0) []),
  (ob vN none (fi []) []),
  (ob (vt "tuple") none (sq [(vs "body" 4277), (vs "bits" 4278)] 0) []),
  (ob (vt "tuple") none (sq [] 0) []),
  (ob vN none (.func (fu (top 240) "bits_in" "bits_in" 0 [] vN vN vN vN none vN vN 0)) []),
  (ob (vt "code") none (fi [(vs "bits_in" 4274), (vs "bits_in" 4275), (vs "/claim/cut.py" 4276), (vi 1744 0), (vi 1 0), (vi 0 0), (vi 0 0), (vi 3 0), (vr 2995), vT, (vi 181 0), (vr 2996), vN, (vr 2997), (vr 2998), (vr 2999), (vi 4279 0), (vi 1744 0), (vs "/claim/cut.py" 4280)]) []),
  (ob (vt "function") none (.func (fu (top 240) "bits_in" "bits_in" 3 [] vN vN vN (vs "coverstore.durable" 4014) none (vr 3000) vN 0)) []),
  (ob (vt "tuple") none (sq [] 0) []),
  (ob vN none (fi []) []),
  (ob (vt "tuple") none (sq [(vs "_law_script" 4287), (vs "_law_k" 4288), (vs "_law_cell" 4289), (vs "_law_seed" 4290)] 0) []),
  (ob (vt "tuple") none (sq [] 0) []),
  (ob vN none (.func (fu (top 242) "_law_pot" "_law_pot" 0 [] vN vN vN vN none vN vN 0)) []),
  (ob (vt "code") none (fi [(vs "_law_pot" 4284), (vs "_law_pot" 4285), (vs "/claim/cut.py" 4286), (vi 1750 0), (vi 2 0), (vi 0 0), (vi 0 0), (vi 3 0), (vr 3002), vT, (vi 181 0), (vr 3003), vN, (vr 3004), (vr 3005), (vr 3006), (vi 4291 0), (vi 1750 0), (vs "/claim/cut.py" 4292)]) [])]
def o8_188 (P : Params) : List Obj := [
  (ob (vt "function") none (.func (fu (top 242) "_law_pot" "_law_pot" 3 [] vN vN vN (vs "law_coverstore_k91_disks" 4282) none (vr 3007) vN 0)) []),
  (ob (vt "tuple") none (sq [] 0) []),
  (ob vN none (fi []) []),
  (ob (vt "tuple") none (sq [(vs "_law_pot_here" 4297), (vs "_law_many" 4298), (vs "_law_digit" 4299)] 0) []),
  (ob (vt "tuple") none (sq [] 0) []),
  (ob vN none (.func (fu (top 243) "_law_take" "_law_take" 0 [] vN vN vN vN none vN vN 0)) []),
  (ob (vt "code") none (fi [(vs "_law_take" 4294), (vs "_law_take" 4295), (vs "/claim/cut.py" 4296), (vi 1754 0), (vi 2 0), (vi 0 0), (vi 0 0), (vi 3 0), (vr 3009), vT, (vi 181 0), (vr 3010), vN, (vr 3011), (vr 3012), (vr 3013), (vi 4300 0), (vi 1754 0), (vs "/claim/cut.py" 4301)]) []),
  (ob (vt "function") none (.func (fu (top 243) "_law_take" "_law_take" 3 [] vN vN vN (vs "law_coverstore_k91_disks" 4282) none (vr 3014) vN 0)) []),
  (ob (vt "tuple") none (sq [] 0) []),
  (ob vN none (fi []) []),
  (ob (vt "tuple") none (sq [(vs "_law_pot_here" 4306), (vs "_law_some" 4307)] 0) []),
  (ob (vt "tuple") none (sq [] 0) []),
  (ob vN none (.func (fu (top 244) "_law_pick" "_law_pick" 0 [] vN vN vN vN none vN vN 0)) []),
  (ob (vt "code") none (fi [(vs "_law_pick" 4303), (vs "_law_pick" 4304), (vs "/claim/cut.py" 4305), (vi 1761 0), (vi 2 0), (vi 0 0), (vi 0 0), (vi 3 0), (vr 3016), vT, (vi 181 0), (vr 3017), vN, (vr 3018), (vr 3019), (vr 3020), (vi 4308 0), (vi 1761 0), (vs "/claim/cut.py" 4309)]) []),
  (ob (vt "function") none (.func (fu (top 244) "_law_pick" "_law_pick" 3 [] vN vN vN (vs "law_coverstore_k91_disks" 4282) none (vr 3021) vN 0)) []),
  (ob (vt "tuple") none (sq [] 0) [])]
def o8_189 (P : Params) : List Obj := [
  (ob vN none (fi []) []),
  (ob vN none (.func (fu (top 245) "_law_page" "_law_page" 0 [] vN vN vN vN none vN vN 0)) []),
  (ob (vt "code") none (fi [(vs "_law_page" 4311), (vs "_law_page" 4312), (vs "/claim/cut.py" 4313), (vi 1763 0), (vi 1 0), (vi 0 0), (vi 0 0), (vi 3 0), (vr 3023), vT, (vi 181 0), (vr 3024), vN, vN, vN, (vr 3025), (vi 4314 0), (vi 1763 0), (vs "/claim/cut.py" 4315)]) []),
  (ob (vt "function") none (.func (fu (top 245) "_law_page" "_law_page" 3 [] vN vN vN (vs "law_coverstore_k91_disks" 4282) none (vr 3026) vN 0)) []),
  (ob (vt "tuple") none (sq [] 0) []),
  (ob vN none (fi []) []),
  (ob (vt "tuple") none (sq [(vs "_law_sheet" 4320)] 0) []),
  (ob (vt "tuple") none (sq [] 0) []),
  (ob vN none (.func (fu (top 246) "_law_is_page" "_law_is_page" 0 [] vN vN vN vN none vN vN 0)) []),
  (ob (vt "code") none (fi [(vs "_law_is_page" 4317), (vs "_law_is_page" 4318), (vs "/claim/cut.py" 4319), (vi 1768 0), (vi 1 0), (vi 0 0), (vi 0 0), (vi 3 0), (vr 3028), vT, (vi 181 0), (vr 3029), vN, (vr 3030), (vr 3031), (vr 3032), (vi 4321 0), (vi 1768 0), (vs "/claim/cut.py" 4322)]) []),
  (ob (vt "function") none (.func (fu (top 246) "_law_is_page" "_law_is_page" 3 [] vN vN vN (vs "law_coverstore_k91_disks" 4282) none (vr 3033) vN 0)) []),
  (ob (vt "tuple") none (sq [] 0) []),
  (ob vN none (fi []) []),
  (ob (vt "tuple") none (sq [(vs "_law_pot_here" 4327), (vs "_law_most" 4328)] 0) []),
  (ob (vt "tuple") none (sq [] 0) []),
  (ob vN none (.func (fu (top 247) "_law_number" "_law_number" 0 [] vN vN vN vN none vN vN 0)) [])]
def o8_190 (P : Params) : List Obj := [
  (ob (vt "code") none (fi [(vs "_law_number" 4324), (vs "_law_number" 4325), (vs "/claim/cut.py" 4326), (vi 1770 0), (vi 2 0), (vi 0 0), (vi 0 0), (vi 3 0), (vr 3035), vT, (vi 181 0), (vr 3036), vN, (vr 3037), (vr 3038), (vr 3039), (vi 4329 0), (vi 1770 0), (vs "/claim/cut.py" 4330)]) []),
  (ob (vt "function") none (.func (fu (top 247) "_law_number" "_law_number" 3 [] vN vN vN (vs "law_coverstore_k91_disks" 4282) none (vr 3040) vN 0)) []),
  (ob (vt "tuple") none (sq [] 0) []),
  (ob vN none (fi []) []),
  (ob (vt "tuple") none (sq [(vs "_law_value" 4335)] 0) []),
  (ob (vt "tuple") none (sq [] 0) []),
  (ob vN none (.func (fu (top 248) "_law_is_count" "_law_is_count" 0 [] vN vN vN vN none vN vN 0)) []),
  (ob (vt "code") none (fi [(vs "_law_is_count" 4332), (vs "_law_is_count" 4333), (vs "/claim/cut.py" 4334), (vi 1772 0), (vi 1 0), (vi 0 0), (vi 0 0), (vi 3 0), (vr 3042), vT, (vi 181 0), (vr 3043), vN, (vr 3044), (vr 3045), (vr 3046), (vi 4336 0), (vi 1772 0), (vs "/claim/cut.py" 4337)]) []),
  (ob (vt "function") none (.func (fu (top 248) "_law_is_count" "_law_is_count" 3 [] vN vN vN (vs "law_coverstore_k91_disks" 4282) none (vr 3047) vN 0)) []),
  (ob (vt "tuple") none (sq [] 0) []),
  (ob vN none (fi []) []),
  (ob (vt "tuple") none (sq [(vs "_law_plate" 4342), (vs "_law_way" 4343), (vs "_law_sheet" 4344), (vs "_law_spot" 4345), (vs "_law_told_here" 4346), (vs "_law_is_named" 4347), (vs "e" 4348)] 0) []),
  (ob (vt "tuple") none (sq [] 0) []),
  (ob vN none (.func (fu (top 249) "_law_told" "_law_told" 0 [] vN vN vN vN none vN vN 0)) []),
  (ob (vt "code") none (fi [(vs "_law_told" 4339), (vs "_law_told" 4340), (vs "/claim/cut.py" 4341), (vi 1774 0), (vi 4 0), (vi 0 0), (vi 0 0), (vi 3 0), (vr 3049), vT, (vi 181 0), (vr 3050), vN, (vr 3051), (vr 3052), (vr 3053), (vi 4349 0), (vi 1774 0), (vs "/claim/cut.py" 4350)]) []),
  (ob (vt "function") none (.func (fu (top 249) "_law_told" "_law_told" 3 [] vN vN vN (vs "law_coverstore_k91_disks" 4282) none (vr 3054) vN 0)) [])]
def o8_191 (P : Params) : List Obj := [
  (ob (vt "tuple") none (sq [] 0) []),
  (ob vN none (fi []) []),
  (ob (vt "tuple") none (sq [(vs "_law_pot_here" 4355), (vs "_law_scene" 4356), (vs "_law_sheet" 4357), (vs "_law_due" 4358)] 0) []),
  (ob (vt "tuple") none (sq [] 0) []),
  (ob vN none (.func (fu (top 250) "_law_write_right" "_law_write_right" 0 [] vN vN vN vN none vN vN 0)) []),
  (ob (vt "code") none (fi [(vs "_law_write_right" 4352), (vs "_law_write_right" 4353), (vs "/claim/cut.py" 4354), (vi 1796 0), (vi 2 0), (vi 0 0), (vi 0 0), (vi 3 0), (vr 3056), vT, (vi 181 0), (vr 3057), vN, (vr 3058), (vr 3059), (vr 3060), (vi 4359 0), (vi 1796 0), (vs "/claim/cut.py" 4360)]) []),
  (ob (vt "function") none (.func (fu (top 250) "_law_write_right" "_law_write_right" 3 [] vN vN vN (vs "law_coverstore_k91_disks" 4282) none (vr 3061) vN 0)) []),
  (ob (vt "tuple") none (sq [] 0) []),
  (ob vN none (fi []) []),
  (ob (vt "tuple") none (sq [(vs "_law_pot_here" 4365), (vs "_law_scene" 4366), (vs "_law_far" 4367), (vs "_law_due" 4368)] 0) []),
  (ob (vt "tuple") none (sq [] 0) []),
  (ob vN none (.func (fu (top 251) "_law_crash_right" "_law_crash_right" 0 [] vN vN vN vN none vN vN 0)) []),
  (ob (vt "code") none (fi [(vs "_law_crash_right" 4362), (vs "_law_crash_right" 4363), (vs "/claim/cut.py" 4364), (vi 1806 0), (vi 2 0), (vi 0 0), (vi 0 0), (vi 3 0), (vr 3063), vT, (vi 181 0), (vr 3064), vN, (vr 3065), (vr 3066), (vr 3067), (vi 4369 0), (vi 1806 0), (vs "/claim/cut.py" 4370)]) []),
  (ob (vt "function") none (.func (fu (top 251) "_law_crash_right" "_law_crash_right" 3 [] vN vN vN (vs "law_coverstore_k91_disks" 4282) none (vr 3068) vN 0)) []),
  (ob (vt "tuple") none (sq [] 0) []),
  (ob vN none (fi []) [])]
def o8_192 (P : Params) : List Obj := [
  (ob (vt "tuple") none (sq [(vs "_law_pot_here" 4375), (vs "_law_scene" 4376), (vs "_law_spot" 4377), (vs "_law_sheet" 4378), (vs "_law_due" 4379)] 0) []),
  (ob (vt "tuple") none (sq [] 0) []),
  (ob vN none (.func (fu (top 252) "_law_spoil_right" "_law_spoil_right" 0 [] vN vN vN vN none vN vN 0)) []),
  (ob (vt "code") none (fi [(vs "_law_spoil_right" 4372), (vs "_law_spoil_right" 4373), (vs "/claim/cut.py" 4374), (vi 1813 0), (vi 2 0), (vi 0 0), (vi 0 0), (vi 3 0), (vr 3070), vT, (vi 181 0), (vr 3071), vN, (vr 3072), (vr 3073), (vr 3074), (vi 4380 0), (vi 1813 0), (vs "/claim/cut.py" 4381)]) []),
  (ob (vt "function") none (.func (fu (top 252) "_law_spoil_right" "_law_spoil_right" 3 [] vN vN vN (vs "law_coverstore_k91_disks" 4282) none (vr 3075) vN 0)) []),
  (ob (vt "tuple") none (sq [] 0) []),
  (ob vN none (fi []) []),
  (ob vN none (.func (fu (top 253) "_law_state_right" "_law_state_right" 0 [] vN vN vN vN none vN vN 0)) []),
  (ob (vt "code") none (fi [(vs "_law_state_right" 4383), (vs "_law_state_right" 4384), (vs "/claim/cut.py" 4385), (vi 1822 0), (vi 1 0), (vi 0 0), (vi 0 0), (vi 3 0), (vr 3077), vT, (vi 181 0), (vr 3078), vN, vN, vN, (vr 3079), (vi 4386 0), (vi 1822 0), (vs "/claim/cut.py" 4387)]) []),
  (ob (vt "function") none (.func (fu (top 253) "_law_state_right" "_law_state_right" 3 [] vN vN vN (vs "law_coverstore_k91_disks" 4282) none (vr 3080) vN 0)) []),
  (ob (vt "tuple") none (sq [] 0) []),
  (ob vN none (fi []) []),
  (ob (vt "tuple") none (sq [(vs "_law_pot_here" 4392), (vs "_law_most" 4393), (vs "_law_plate" 4394), (vs "_law_text" 4395), (vs "_law_store" 4396), (vs "_law_again" 4397)] 0) []),
  (ob (vt "tuple") none (sq [] 0) []),
  (ob vN none (.func (fu (top 254) "_law_named_right" "_law_named_right" 0 [] vN vN vN vN none vN vN 0)) []),
  (ob (vt "code") none (fi [(vs "_law_named_right" 4389), (vs "_law_named_right" 4390), (vs "/claim/cut.py" 4391), (vi 1833 0), (vi 1 0), (vi 0 0), (vi 0 0), (vi 3 0), (vr 3082), vT, (vi 181 0), (vr 3083), vN, (vr 3084), (vr 3085), (vr 3086), (vi 4398 0), (vi 1833 0), (vs "/claim/cut.py" 4399)]) [])]
def o8_193 (P : Params) : List Obj := [
  (ob (vt "function") none (.func (fu (top 254) "_law_named_right" "_law_named_right" 3 [] vN vN vN (vs "law_coverstore_k91_disks" 4282) none (vr 3087) vN 0)) []),
  (ob (vt "tuple") none (sq [] 0) []),
  (ob vN none (fi []) []),
  (ob (vt "tuple") none (sq [(vs "_law_pot_here" 4404), (vs "_law_scenes" 4405), (vs "_law_turn" 4406), (vs "_law_scene" 4407), (vs "_law_way" 4408), (vs "_law_is_right" 4409)] 0) []),
  (ob (vt "tuple") none (sq [] 0) []),
  (ob vN none (.func (fu (top 255) "_law_right" "_law_right" 0 [] vN vN vN vN none vN vN 0)) []),
  (ob (vt "code") none (fi [(vs "_law_right" 4401), (vs "_law_right" 4402), (vs "/claim/cut.py" 4403), (vi 1841 0), (vi 1 0), (vi 0 0), (vi 0 0), (vi 3 0), (vr 3089), vT, (vi 181 0), (vr 3090), vN, (vr 3091), (vr 3092), (vr 3093), (vi 4410 0), (vi 1841 0), (vs "/claim/cut.py" 4411)]) []),
  (ob (vt "function") none (.func (fu (top 255) "_law_right" "_law_right" 3 [] vN vN vN (vs "law_coverstore_k91_disks" 4282) none (vr 3094) vN 0)) []),
  (ob (vt "tuple") none (sq [] 0) []),
  (ob vN none (fi []) []),
  (ob vN none (.func (fu (top 256) "law" "law" 0 [] vN vN vN vN none vN vN 0)) []),
  (ob (vt "code") none (fi [(vs "law" 4413), (vs "law" 4414), (vs "/claim/cut.py" 4415), (vi 1857 0), (vi 1 0), (vi 0 0), (vi 0 0), (vi 3 0), (vr 3096), vT, (vi 181 0), (vr 3097), vN, vN, vN, (vr 3098), (vi 4416 0), (vi 1857 0), (vs "/claim/cut.py" 4417)]) []),
  (ob (vt "function") none (.func (fu (top 256) "law" "law" 3 [] vN vN vN (vs "law_coverstore_k91_disks" 4282) none (vr 3099) vN 0)) [])]
def o8 (P : Params) : List Obj := o8_0 P ++ (o1_1 P ++ (o1_2 P ++ (o1_3 P ++ (o1_4 P ++ (o1_5 P ++ (o1_6 P ++ (o1_7 P ++ (o1_8 P ++ (o1_9 P ++ (o1_10 P ++ (o1_11 P ++ (o1_12 P ++ (o1_13 P ++ (o1_14 P ++ (o1_15 P ++ (o1_16 P ++ (o1_17 P ++ (o1_18 P ++ (o1_19 P ++ (o1_20 P ++ (o1_21 P ++ (o1_22 P ++ (o1_23 P ++ (o1_24 P ++ (o1_25 P ++ (o1_26 P ++ (o1_27 P ++ (o1_28 P ++ (o1_29 P ++ (o1_30 P ++ (o1_31 P ++ (o1_32 P ++ (o1_33 P ++ (o1_34 P ++ (o1_35 P ++ (o1_36 P ++ (o1_37 P ++ (o1_38 P ++ (o1_39 P ++ (o2_40 P ++ (o2_41 P ++ (o2_42 P ++ (o2_43 P ++ (o2_44 P ++ (o2_45 P ++ (o2_46 P ++ (o2_47 P ++ (o2_48 P ++ (o2_49 P ++ (o2_50 P ++ (o2_51 P ++ (o2_52 P ++ (o2_53 P ++ (o2_54 P ++ (o2_55 P ++ (o2_56 P ++ (o2_57 P ++ (o2_58 P ++ (o2_59 P ++ (o2_60 P ++ (o2_61 P ++ (o2_62 P ++ (o2_63 P ++ (o2_64 P ++ (o2_65 P ++ (o2_66 P ++ (o2_67 P ++ (o3_68 P ++ (o3_69 P ++ (o4_70 P ++ (o4_71 P ++ (o4_72 P ++ (o4_73 P ++ (o4_74 P ++ (o4_75 P ++ (o4_76 P ++ (o4_77 P ++ (o4_78 P ++ (o4_79 P ++ (o4_80 P ++ (o4_81 P ++ (o4_82 P ++ (o4_83 P ++ (o4_84 P ++ (o4_85 P ++ (o4_86 P ++ (o4_87 P ++ (o4_88 P ++ (o4_89 P ++ (o5_90 P ++ (o5_91 P ++ (o5_92 P ++ (o5_93 P ++ (o5_94 P ++ (o5_95 P ++ (o5_96 P ++ (o5_97 P ++ (o5_98 P ++ (o5_99 P ++ (o5_100 P ++ (o5_101 P ++ (o5_102 P ++ (o5_103 P ++ (o5_104 P ++ (o5_105 P ++ (o5_106 P ++ (o5_107 P ++ (o5_108 P ++ (o5_109 P ++ (o5_110 P ++ (o5_111 P ++ (o5_112 P ++ (o5_113 P ++ (o5_114 P ++ (o5_115 P ++ (o5_116 P ++ (o5_117 P ++ (o6_118 P ++ (o6_119 P ++ (o6_120 P ++ (o6_121 P ++ (o6_122 P ++ (o6_123 P ++ (o6_124 P ++ (o7_125 P ++ (o7_126 P ++ (o7_127 P ++ (o7_128 P ++ (o7_129 P ++ (o7_130 P ++ (o7_131 P ++ (o7_132 P ++ (o7_133 P ++ (o7_134 P ++ (o7_135 P ++ (o7_136 P ++ (o7_137 P ++ (o7_138 P ++ (o7_139 P ++ (o7_140 P ++ (o7_141 P ++ (o7_142 P ++ (o7_143 P ++ (o7_144 P ++ (o7_145 P ++ (o7_146 P ++ (o7_147 P ++ (o8_148 P ++ (o8_149 P ++ (o8_150 P ++ (o8_151 P ++ (o8_152 P ++ (o8_153 P ++ (o8_154 P ++ (o8_155 P ++ (o8_156 P ++ (o8_157 P ++ (o8_158 P ++ (o8_159 P ++ (o8_160 P ++ (o8_161 P ++ (o8_162 P ++ (o8_163 P ++ (o8_164 P ++ (o8_165 P ++ (o8_166 P ++ (o8_167 P ++ (o8_168 P ++ (o8_169 P ++ (o8_170 P ++ (o8_171 P ++ (o8_172 P ++ (o8_173 P ++ (o8_174 P ++ (o8_175 P ++ (o8_176 P ++ (o8_177 P ++ (o8_178 P ++ (o8_179 P ++ (o8_180 P ++ (o8_181 P ++ (o8_182 P ++ (o8_183 P ++ (o8_184 P ++ (o8_185 P ++ (o8_186 P ++ (o8_187 P ++ (o8_188 P ++ (o8_189 P ++ (o8_190 P ++ (o8_191 P ++ (o8_192 P ++ (o8_193 P)))))))))))))))))))))))))))))))))))))))))))))))))))))))))))))))))))))))))))))))))))))))))))))))))))))))))))))))))))))))))))))))))))))))))))))))))))))))))))))))))))))))))))))))))))))))))))))))))
def S8 (w : World) (os : OsState) : SharedT := ⟨lay (o8 w.params) .nil 0, 3101, {}, #[], {}, 4419, os⟩
def pos8 : Pos := ⟨1857, 0, 1858, 113⟩
def n8 : Nat := 4674
def nEnd : Nat := 11
def kl0 (P : Params) : List (Addr × Obj) := [
  (0, boot_o_0 P),
  (2, (ob vN none (di [de P "type.__subclasses__.ArithmeticError.0" 1110 (vi 693 0), de P "type.__subclasses__.ArithmeticError.n" 1111 (vi 1 0)] 2) [])),
  (3, (ob (vt "dict") none (di [de P "__name__" 165 (vs "law_coverstore_k91_disks" 4282), de P "__doc__" 166 vN, de P "__package__" 167 vN, de P "__loader__" 168 (vb "__main__.__loader__#opaque"), de P "__spec__" 169 vN, de P "__annotations__" 170 (vr 6), de P "__builtins__" 171 (vr 4), de P "__file__" 173 (vs "/claim/cut.py" 172), de P "__cached__" 174 vN, de P "_wall" 193 (vr 21), de P "CoverError" 213 (vr 31), de P "InvalidBits" 238 (vr 51), de P "InvalidValue" 263 (vr 70), de P "InvalidRange" 288 (vr 89), de P "InvalidBox" 313 (vr 108), de P "InvalidPlace" 338 (vr 127), de P "InvalidCount" 363 (vr 146), de P "InvalidName" 388 (vr 165), de P "InvalidColumns" 413 (vr 184), de P "InvalidOrder" 438 (vr 203), de P "InvalidKey" 463 (vr 222), de P "InvalidWrite" 488 (vr 241), de P "InvalidQuery" 515 (vr 260), de P "InvalidText" 540 (vr 279), de P "InvalidPaper" 565 (vr 298), de P "InvalidLimit" 590 (vr 317), de P "InvalidPage" 615 (vr 336), de P "UnknownTable" 642 (vr 355), de P "UnknownVersion" 669 (vr 375), de P "TooOld" 696 (vr 395), de P "UnknownName" 723 (vr 415), de P "NameTaken" 750 (vr 435), de P "KeyTaken" 779 (vr 455), de P "NoSuchRow" 808 (vr 475), de P "Unlike" 826 (vr 488), de P "NoHalf" 853 (vr 508), de P "NotJoined" 880 (vr 528), de P "NotAPoint" 898 (vr 541), de P "WrongColumns" 925 (vr 561), de P "NotEmpty" 952 (vr 581), de P "Ended" 970 (vr 594), de P "Changed" 999 (vr 614), de P "Violated" 1028 (vr 634), de P "Crashed" 1046 (vr 647), de P "DiskInUse" 1064 (vr 660), de P "NoStore" 1082 (vr 673), de P "TooMany" 1113 (vr 693), de P "MAX_BITS" 1117 (vi 10 1116), de P "DIGITS_ranges" 1119 (vs "01" 1118), de P "is_integer" 1126 (vr 703), de P "is_bits" 1133 (vr 710), de P "is_value" 1141 (vr 717), de P "is_range" 1147 (vr 722), de P "require_bits" 1154 (vr 729), de P "require_value" 1162 (vr 736), de P "require_range" 1170 (vr 743), de P "number_of" 1179 (vr 750), de P "range_of" 1185 (vr 755), de P "bounds" 1195 (vr 762), de P "common_range" 1204 (vr 769), de P "common_length" 1213 (vr 776), de P "widest_range" 1225 (vr 785), de P "PAGE_SIZE" 1229 (vi 32 1228), de P "require_page" 1236 (vr 792), de P "Disk" 1330 (vr 866), de P "MOST_RANGES" 1334 (vi 5 1333), de P "ALL" 1336 (vs "*" 1335), de P "NO_RANGES" 1338 (vs "-" 1337), de P "COMMA_boxes" 1340 (vs "," 1339), de P "require_ranges" 1350 (vr 877), de P "ranges_text" 1356 (vr 882), de P "ranges_in" 1362 (vr 887), de P "Box" 1643 (vr 1096), de P "MOST_PAYLOAD" 1649 (vi 1000000000 1648), de P "INSERT" 1651 (vs "insert" 1650), de P "UPDATE" 1653 (vs "update" 1652), de P "DELETE" 1655 (vs "delete" 1654), de P "WRITE_SIZES" 1662 (vr 1101), de P "is_payload" 1669 (vr 1108), de P "is_table" 1677 (vr 1115), de P "is_key" 1683 (vr 1120), de P "require_table" 1691 (vr 1127), de P "require_key" 1700 (vr 1134), de P "require_box" 1709 (vr 1141), de P "is_write" 1715 (vr 1146), de P "require_writes" 1725 (vr 1153), de P "rows_after" 1740 (vr 1160), de P "alike_columns" 1750 (vr 1167), de P "gap_between" 1756 (vr 1172), de P "Source" 1811 (vr 1209), de P "Snapshot" 1895 (vr 1282), de P "Overlay" 1978 (vr 1349), de P "LETTERS" 1982 (vs "abcdefghijklmnopqrstuvwxyz" 1981), de P "MOST_LETTERS" 1984 (vi 8 1983), de P "RESERVED" 1987 (vr 1352), de P "MOST_TABLES" 1989 (vi 8 1988), de P "MOST_COLUMNS" 1991 (vi 4 1990), de P "MOST_OTHER_ORDERS" 1993 (vi 2 1992), de P "is_name" 1999 (vr 1357), de P "require_name" 2007 (vr 1364), de P "is_order" 2013 (vr 1673), de P "is_order_bases" 2014 (vr 1369), de P "require_orders" 2025 (vr 1376), de P "Table" 2126 (vr 1445), de P "Base" 2330 (vr 1611), de P "POSITIVE" 2334 (vs "row" 2333), de P "DENIED" 2336 (vs "none" 2335), de P "SIGNS" 2341 (vr 1616), de P "LITERAL_LENGTH" 2343 (vi 3 2342), de P "MOST_TERMS" 2345 (vi 4 2344), de P "MOST_LITERALS" 2347 (vi 8 2346), de P "MOST_VARIABLES" 2349 (vi 5 2348), de P "MOST_INTEGER" 2351 (vi 1023 2350), de P "MOST_DIGITS_queries" 2353 (vi 4 2352), de P "DIGITS_queries" 2355 (vs "0123456789" 2354), de P "COMMA_queries" 2357 (vs "," 2356), de P "BETWEEN" 2359 (vs ", " 2358), de P "BEFORE_ORDER" 2361 (vs " by " 2360), de P "NOT" 2363 (vs "not" 2362), de P "is_term" 2370 (vr 1623), de P "are_terms" 2376 (vr 1628), de P "is_literal" 2386 (vr 1635), de P "is_comparison" 2393 (vr 1642), de P "terms_of" 2400 (vr 1649), de P "integers_in" 2406 (vr 2882), de P "integers_in_queries" 2407 (vr 1654), de P "variables_in" 2417 (vr 1661), de P "require_literals" 2426 (vr 1668), de P "is_order_queries" 2433 (vr 1673), de P "literal_text" 2439 (vr 1678), de P "query_text" 2445 (vr 1683), de P "term_in" 2451 (vr 1688), de P "row_literal_in" 2457 (vr 1693), de P "literal_in" 2465 (vr 1700), de P "query_in" 2471 (vr 1705), de P "Query" 2584 (vr 1783), de P "fit" 2595 (vr 1794), de P "is_position" 2605 (vr 1801), de P "require_comparison" 2613 (vr 1808), de P "require_values" 2623 (vr 1815), de P "values_at" 2629 (vr 1820), de P "is_so" 2638 (vr 1827), de P "key_of" 2647 (vr 1834), de P "is_true" 2661 (vr 1841), de P "laid" 2667 (vr 1846), de P "false_span" 2678 (vr 1853), de P "false_span_behind" 2688 (vr 1860), de P "widest_between" 2701 (vr 1867), de P "false_ranges" 2719 (vr 1874), de P "false_around" 2725 (vr 1879), de P "term_range" 2734 (vr 1886), de P "is_false_in" 2750 (vr 1893), de P "failing_at" 2760 (vr 1900), de P "GAP" 2764 (vs "gap" 2763), de P "ROW" 2766 (vs "row" 2765), de P "FALSE" 2768 (vs "false" 2767), de P "POINT" 2770 (vs "point" 2769), de P "JOIN" 2772 (vs "join" 2771), de P "PART" 2774 (vs "part" 2773), de P "FIGURES" 2776 (vs "0123456789" 2775), de P "MOST_FIGURES" 2778 (vi 10 2777), de P "EMPTY" 2780 (vs "-" 2779), de P "COMMA_papers" 2782 (vs "," 2781), de P "BLANK" 2784 (vs " " 2783), de P "FEED" 2786 (vs "\n" 2785), de P "is_number" 2794 (vr 1907), de P "are_values" 2800 (vr 1912), de P "is_box" 2809 (vr 1919), de P "Places" 2857 (vr 1948), de P "gap_box" 2868 (vr 1959), de P "row_box" 2879 (vr 1966), de P "false_line_box" 2890 (vr 1973), de P "point_box" 2900 (vr 1980), de P "join_box" 2912 (vr 1987), de P "part_box" 2922 (vr 1994), de P "KINDS" 2935 (vr 1995), de P "box_of" 2945 (vr 2008), de P "boxes_of" 2957 (vr 2015), de P "named_by" 2964 (vr 2022), de P "renamed" 2972 (vr 2029), de P "values_text" 2978 (vr 2034), de P "part_text" 2985 (vr 2041), de P "line_text" 2991 (vr 2046), de P "number_in" 2997 (vr 2051), de P "values_in" 3003 (vr 2056), de P "box_in" 3012 (vr 2063), de P "line_in" 3023 (vr 2070), de P "Paper" 3174 (vr 2184), de P "MOST_LINES" 3178 (vi 100000 3177), de P "add_box" 3189 (vr 2195), de P "first_around" 3203 (vr 2202), de P "Search" 3319 (vr 2273), de P "is_limit" 3326 (vr 2284), de P "paper_of" 3341 (vr 2292), de P "is_wrong" 3353 (vr 2299), de P "require_fit" 3361 (vr 2306), de P "Repair" 3435 (vr 2360), de P "renumbered" 3443 (vr 2371), de P "lost_points" 3449 (vr 2376), de P "repaired" 3455 (vr 2381), de P "LIMIT" 3459 (vi 2000 3458), de P "Keeper" 3616 (vr 2503), de P "Transaction" 3796 (vr 2640), de P "Store" 4013 (vr 2817), de P "PART_SIZE" 4018 (vi 31 4017), de P "MORE" 4020 (vs "+" 4019), de P "LAST" 4022 (vs "." 4021), de P "NO_ORDERS" 4024 (vs "-" 4023), de P "CHECK_DIGITS" 4026 (vi 4 4025), de P "CHECK_MODULUS" 4028 (vi 9973 4027), de P "BITS" 4030 (vs "bits" 4029), de P "TABLE" 4032 (vs "table" 4031), de P "REQUIRE" 4034 (vs "require" 4033), de P "COMMIT" 4036 (vs "commit" 4035), de P "DIGITS_durable" 4038 (vs "0123456789" 4037), de P "MOST_DIGITS_durable" 4040 (vi 10 4039), de P "check_sum" 4046 (vr 2826), de P "record_text" 4053 (vr 2833), de P "pages_of" 4059 (vr 2838), de P "joined" 4065 (vr 2843), de P "bits_body" 4072 (vr 2850), de P "table_body" 4078 (vr 2855), de P "require_body" 4086 (vr 2862), de P "write_text" 4092 (vr 2867), de P "commit_body" 4098 (vr 2872), de P "integer_in" 4104 (vr 2877), de P "integers_in_durable" 4111 (vr 2882), de P "write_in" 4117 (vr 2887), de P "NextRecord" 4151 (vr 2907), de P "DurableStore" 4273 (vr 2992), de P "bits_in" 4281 (vr 3001), de P "_law_pot" 4293 (vr 3008), de P "_law_take" 4302 (vr 3015), de P "_law_pick" 4310 (vr 3022), de P "_law_page" 4316 (vr 3027), de P "_law_is_page" 4323 (vr 3034), de P "_law_number" 4331 (vr 3041), de P "_law_is_count" 4338 (vr 3048), de P "_law_told" 4351 (vr 3055), de P "_law_write_right" 4361 (vr 3062), de P "_law_crash_right" 4371 (vr 3069), de P "_law_spoil_right" 4382 (vr 3076), de P "_law_state_right" 4388 (vr 3081), de P "_law_named_right" 4400 (vr 3088), de P "_law_right" 4412 (vr 3095), de P "law" 4418 (vr 3100)] 246) [])),
  (30, (ob (vt "dict") none (di [de P "__module__" 203 (vs "coverstore.errors" 194), de P "__firstlineno__" 207 (vi 5 206), de P "__static_attributes__" 208 (vr 29), de P "__weakref__" 210 (vr 32), de P "__doc__" 211 vN] 3) [])),
  (31, (ob (vt "type") none (.cls ⟨"CoverError", [(vt "ValueError")], [(vr 31), (vt "ValueError"), (vt "Exception"), (vt "BaseException"), (vt "object")], 30, "CoverError", true, [], [(vr 51), (vr 70), (vr 89), (vr 108), (vr 127), (vr 146), (vr 165), (vr 184), (vr 203), (vr 222), (vr 241), (vr 260), (vr 279), (vr 298), (vr 317), (vr 336)], false, none, false⟩) [(some (vr 22)), none, (some (vs "CoverError" 196)), (some (vs "CoverError" 204)), (some (vb "ValueError.__new__")), (some vT)])),
  (111, (ob (vt "tuple") none (sq [(vr 31)] 0) [])),
  (123, (ob (vt "code") none (fi [(vs "__init__" 326), (vs "InvalidPlace.__init__" 327), (vs "/claim/cut.py" 328), (vi 29 0), (vi 2 0), (vi 0 0), (vi 0 0), (vi 3 0), (vr 118), vT, (vi 181 0), (vr 119), vN, (vr 120), (vr 121), (vr 122), (vi 331 0), (vi 29 0), (vs "/claim/cut.py" 332)]) [])),
  (124, (ob (vt "function") none (.func (fu (inClass (top 7) 0) "__init__" "InvalidPlace.__init__" 3 [] vN vN vN (vs "coverstore.errors" 194) none (vr 123) vN 0)) [])),
  (126, (ob (vt "dict") none (di [de P "__module__" 321 (vs "coverstore.errors" 194), de P "__firstlineno__" 325 (vi 27 324), de P "__init__" 333 (vr 124), de P "__static_attributes__" 335 (vr 125), de P "__doc__" 336 vN] 2) [])),
  (127, (ob (vt "type") none (.cls ⟨"InvalidPlace", [(vr 31)], [(vr 127), (vr 31), (vt "ValueError"), (vt "Exception"), (vt "BaseException"), (vt "object")], 126, "InvalidPlace", true, [], [], false, none, false⟩) [(some (vr 111)), none, (some (vs "InvalidPlace" 314)), (some (vs "InvalidPlace" 322)), (some (vb "ValueError.__new__")), (some vT)])),
  (130, (ob (vt "tuple") none (sq [(vr 31)] 0) [])),
  (142, (ob (vt "code") none (fi [(vs "__init__" 351), (vs "InvalidCount.__init__" 352), (vs "/claim/cut.py" 353), (vi 34 0), (vi 2 0), (vi 0 0), (vi 0 0), (vi 3 0), (vr 137), vT, (vi 181 0), (vr 138), vN, (vr 139), (vr 140), (vr 141), (vi 356 0), (vi 34 0), (vs "/claim/cut.py" 357)]) [])),
  (143, (ob (vt "function") none (.func (fu (inClass (top 8) 0) "__init__" "InvalidCount.__init__" 3 [] vN vN vN (vs "coverstore.errors" 194) none (vr 142) vN 0)) [])),
  (145, (ob (vt "dict") none (di [de P "__module__" 346 (vs "coverstore.errors" 194), de P "__firstlineno__" 350 (vi 32 349), de P "__init__" 358 (vr 143), de P "__static_attributes__" 360 (vr 144), de P "__doc__" 361 vN] 2) [])),
  (146, (ob (vt "type") none (.cls ⟨"InvalidCount", [(vr 31)], [(vr 146), (vr 31), (vt "ValueError"), (vt "Exception"), (vt "BaseException"), (vt "object")], 145, "InvalidCount", true, [], [], false, none, false⟩) [(some (vr 130)), none, (some (vs "InvalidCount" 339)), (some (vs "InvalidCount" 347)), (some (vb "ValueError.__new__")), (some vT)])),
  (320, (ob (vt "tuple") none (sq [(vr 31)] 0) []))]
def kl1 (P : Params) : List (Addr × Obj) := [
  (332, (ob (vt "code") none (fi [(vs "__init__" 603), (vs "InvalidPage.__init__" 604), (vs "/claim/cut.py" 605), (vi 85 0), (vi 2 0), (vi 0 0), (vi 0 0), (vi 3 0), (vr 327), vT, (vi 181 0), (vr 328), vN, (vr 329), (vr 330), (vr 331), (vi 608 0), (vi 85 0), (vs "/claim/cut.py" 609)]) [])),
  (333, (ob (vt "function") none (.func (fu (inClass (top 18) 0) "__init__" "InvalidPage.__init__" 3 [] vN vN vN (vs "coverstore.errors" 194) none (vr 332) vN 0)) [])),
  (335, (ob (vt "dict") none (di [de P "__module__" 598 (vs "coverstore.errors" 194), de P "__firstlineno__" 602 (vi 83 601), de P "__init__" 610 (vr 333), de P "__static_attributes__" 612 (vr 334), de P "__doc__" 613 vN] 2) [])),
  (336, (ob (vt "type") none (.cls ⟨"InvalidPage", [(vr 31)], [(vr 336), (vr 31), (vt "ValueError"), (vt "Exception"), (vt "BaseException"), (vt "object")], 335, "InvalidPage", true, [], [], false, none, false⟩) [(some (vr 320)), none, (some (vs "InvalidPage" 591)), (some (vs "InvalidPage" 599)), (some (vb "ValueError.__new__")), (some vT)])),
  (646, (ob (vt "dict") none (di [de P "__module__" 1036 (vs "coverstore.errors" 194), de P "__firstlineno__" 1040 (vi 163 1039), de P "__static_attributes__" 1041 (vr 645), de P "__weakref__" 1043 (vr 648), de P "__doc__" 1044 vN] 3) [])),
  (647, (ob (vt "type") none (.cls ⟨"Crashed", [(vt "RuntimeError")], [(vr 647), (vt "RuntimeError"), (vt "Exception"), (vt "BaseException"), (vt "object")], 646, "Crashed", true, [], [], false, none, false⟩) [(some (vr 638)), none, (some (vs "Crashed" 1029)), (some (vs "Crashed" 1037)), (some (vb "RuntimeError.__new__")), (some vT)])),
  (702, (ob (vt "code") none (fi [(vs "is_integer" 1120), (vs "is_integer" 1121), (vs "/claim/cut.py" 1122), (vi 178 0), (vi 1 0), (vi 0 0), (vi 0 0), (vi 3 0), (vr 697), vT, (vi 181 0), (vr 698), vN, (vr 699), (vr 700), (vr 701), (vi 1124 0), (vi 178 0), (vs "/claim/cut.py" 1125)]) [])),
  (703, (ob (vt "function") none (.func (fu (top 42) "is_integer" "is_integer" 3 [] vN vN vN (vs "coverstore.ranges" 1114) none (vr 702) vN 0)) [])),
  (709, (ob (vt "code") none (fi [(vs "is_bits" 1127), (vs "is_bits" 1128), (vs "/claim/cut.py" 1129), (vi 180 0), (vi 1 0), (vi 0 0), (vi 0 0), (vi 3 0), (vr 704), vT, (vi 181 0), (vr 705), vN, (vr 706), (vr 707), (vr 708), (vi 1131 0), (vi 180 0), (vs "/claim/cut.py" 1132)]) [])),
  (710, (ob (vt "function") none (.func (fu (top 43) "is_bits" "is_bits" 3 [] vN vN vN (vs "coverstore.ranges" 1114) none (vr 709) vN 0)) [])),
  (728, (ob (vt "code") none (fi [(vs "require_bits" 1148), (vs "require_bits" 1149), (vs "/claim/cut.py" 1150), (vi 188 0), (vi 1 0), (vi 0 0), (vi 0 0), (vi 3 0), (vr 723), vT, (vi 181 0), (vr 724), vN, (vr 725), (vr 726), (vr 727), (vi 1152 0), (vi 188 0), (vs "/claim/cut.py" 1153)]) [])),
  (729, (ob (vt "function") none (.func (fu (top 46) "require_bits" "require_bits" 3 [] vN vN vN (vs "coverstore.ranges" 1114) none (vr 728) vN 0)) [])),
  (791, (ob (vt "code") none (fi [(vs "require_page" 1230), (vs "require_page" 1231), (vs "/claim/cut.py" 1232), (vi 234 0), (vi 1 0), (vi 0 0), (vi 0 0), (vi 3 0), (vr 786), vT, (vi 181 0), (vr 787), vN, (vr 788), (vr 789), (vr 790), (vi 1234 0), (vi 234 0), (vs "/claim/cut.py" 1235)]) [])),
  (792, (ob (vt "function") none (.func (fu (top 57) "require_page" "require_page" 3 [] vN vN vN (vs "coverstore.disks" 1226) none (vr 791) vN 0)) [])),
  (805, (ob (vt "code") none (fi [(vs "__init__" 1251), (vs "Disk.__init__" 1252), (vs "/claim/cut.py" 1253), (vi 240 0), (vi 1 0), (vi 0 0), (vi 0 0), (vi 3 0), (vr 800), vT, (vi 181 0), (vr 801), vN, (vr 802), (vr 803), (vr 804), (vi 1255 0), (vi 240 0), (vs "/claim/cut.py" 1256)]) [])),
  (806, (ob (vt "function") none (.func (fu (inClass (top 58) 1) "__init__" "Disk.__init__" 3 [] vN vN vN (vs "coverstore.disks" 1226) none (vr 805) vN 0)) []))]
def kl2 (P : Params) : List (Addr × Obj) := [
  (812, (ob (vt "code") none (fi [(vs "__len__" 1258), (vs "Disk.__len__" 1259), (vs "/claim/cut.py" 1260), (vi 244 0), (vi 1 0), (vi 0 0), (vi 0 0), (vi 3 0), (vr 807), vT, (vi 181 0), (vr 808), vN, (vr 809), (vr 810), (vr 811), (vi 1262 0), (vi 244 0), (vs "/claim/cut.py" 1263)]) [])),
  (813, (ob (vt "function") none (.func (fu (inClass (top 58) 2) "__len__" "Disk.__len__" 3 [] vN vN vN (vs "coverstore.disks" 1226) none (vr 812) vN 0)) [])),
  (819, (ob (vt "code") none (fi [(vs "has_crashed" 1265), (vs "Disk.has_crashed" 1266), (vs "/claim/cut.py" 1267), (vi 247 0), (vi 1 0), (vi 0 0), (vi 0 0), (vi 3 0), (vr 814), vT, (vi 181 0), (vr 815), vN, (vr 816), (vr 817), (vr 818), (vi 1269 0), (vi 247 0), (vs "/claim/cut.py" 1270)]) [])),
  (820, (ob (vt "function") none (.func (fu (inClass (top 58) 3) "has_crashed" "Disk.has_crashed" 3 [] vN vN vN (vs "coverstore.disks" 1226) none (vr 819) vN 0)) [])),
  (821, (ob (vt "property") none (fi [(vr 820), vN, vN, vN, (vs "has_crashed" 1272), vF]) [])),
  (827, (ob (vt "code") none (fi [(vs "pages" 1273), (vs "Disk.pages" 1274), (vs "/claim/cut.py" 1275), (vi 251 0), (vi 1 0), (vi 0 0), (vi 0 0), (vi 3 0), (vr 822), vT, (vi 181 0), (vr 823), vN, (vr 824), (vr 825), (vr 826), (vi 1277 0), (vi 251 0), (vs "/claim/cut.py" 1278)]) [])),
  (828, (ob (vt "function") none (.func (fu (inClass (top 58) 4) "pages" "Disk.pages" 3 [] vN vN vN (vs "coverstore.disks" 1226) none (vr 827) vN 0)) [])),
  (834, (ob (vt "code") none (fi [(vs "write" 1280), (vs "Disk.write" 1281), (vs "/claim/cut.py" 1282), (vi 254 0), (vi 2 0), (vi 0 0), (vi 0 0), (vi 3 0), (vr 829), vT, (vi 181 0), (vr 830), vN, (vr 831), (vr 832), (vr 833), (vi 1285 0), (vi 254 0), (vs "/claim/cut.py" 1286)]) [])),
  (835, (ob (vt "function") none (.func (fu (inClass (top 58) 5) "write" "Disk.write" 3 [] vN vN vN (vs "coverstore.disks" 1226) none (vr 834) vN 0)) [])),
  (841, (ob (vt "code") none (fi [(vs "crash_after" 1288), (vs "Disk.crash_after" 1289), (vs "/claim/cut.py" 1290), (vi 262 0), (vi 2 0), (vi 0 0), (vi 0 0), (vi 3 0), (vr 836), vT, (vi 181 0), (vr 837), vN, (vr 838), (vr 839), (vr 840), (vi 1293 0), (vi 262 0), (vs "/claim/cut.py" 1294)]) [])),
  (842, (ob (vt "function") none (.func (fu (inClass (top 58) 6) "crash_after" "Disk.crash_after" 3 [] vN vN vN (vs "coverstore.disks" 1226) none (vr 841) vN 0)) [])),
  (848, (ob (vt "code") none (fi [(vs "restarted" 1296), (vs "Disk.restarted" 1297), (vs "/claim/cut.py" 1298), (vi 268 0), (vi 1 0), (vi 0 0), (vi 0 0), (vi 3 0), (vr 843), vT, (vi 181 0), (vr 844), vN, (vr 845), (vr 846), (vr 847), (vi 1301 0), (vi 268 0), (vs "/claim/cut.py" 1302)]) [])),
  (849, (ob (vt "function") none (.func (fu (inClass (top 58) 7) "restarted" "Disk.restarted" 3 [] vN vN vN (vs "coverstore.disks" 1226) none (vr 848) vN 0)) [])),
  (855, (ob (vt "code") none (fi [(vs "spoil" 1304), (vs "Disk.spoil" 1305), (vs "/claim/cut.py" 1306), (vi 273 0), (vi 3 0), (vi 0 0), (vi 0 0), (vi 3 0), (vr 850), vT, (vi 181 0), (vr 851), vN, (vr 852), (vr 853), (vr 854), (vi 1310 0), (vi 273 0), (vs "/claim/cut.py" 1311)]) [])),
  (856, (ob (vt "function") none (.func (fu (inClass (top 58) 8) "spoil" "Disk.spoil" 3 [] vN vN vN (vs "coverstore.disks" 1226) none (vr 855) vN 0)) [])),
  (862, (ob (vt "code") none (fi [(vs "keep_first" 1313), (vs "Disk.keep_first" 1314), (vs "/claim/cut.py" 1315), (vi 279 0), (vi 2 0), (vi 0 0), (vi 0 0), (vi 3 0), (vr 857), vT, (vi 181 0), (vr 858), vN, (vr 859), (vr 860), (vr 861), (vi 1318 0), (vi 279 0), (vs "/claim/cut.py" 1319)]) []))]
def kl3 (P : Params) : List (Addr × Obj) := [
  (863, (ob (vt "function") none (.func (fu (inClass (top 58) 9) "keep_first" "Disk.keep_first" 3 [] vN vN vN (vs "coverstore.disks" 1226) none (vr 862) vN 0)) [])),
  (865, (ob (vt "dict") none (di [de P "__module__" 1244 (vs "coverstore.disks" 1226), de P "__firstlineno__" 1248 (vi 237 1247), de P "PAGE" 1250 (vi 32 1249), de P "__init__" 1257 (vr 806), de P "__len__" 1264 (vr 813), de P "has_crashed" 1272 (vr 821), de P "pages" 1279 (vr 828), de P "write" 1287 (vr 835), de P "crash_after" 1295 (vr 842), de P "restarted" 1303 (vr 849), de P "spoil" 1312 (vr 856), de P "keep_first" 1320 (vr 863), de P "__static_attributes__" 1323 (vr 864), de P "__dict__" 1325 (vr 867), de P "__weakref__" 1327 (vr 868), de P "__doc__" 1328 vN] 4) [])),
  (866, (ob (vt "type") none (.cls ⟨"Disk", [(vt "object")], [(vr 866), (vt "object")], 865, "Disk", true, [], [], false, none, false⟩) [none, none, (some (vs "Disk" 1237)), (some (vs "Disk" 1245)), (some (vb "object.__new__")), (some vT)])),
  (1462, (ob (vt "code") none (fi [(vs "__init__" 2143), (vs "Base.__init__" 2144), (vs "/claim/cut.py" 2145), (vi 661 0), (vi 2 0), (vi 0 0), (vi 0 0), (vi 3 0), (vr 1457), vT, (vi 181 0), (vr 1458), vN, (vr 1459), (vr 1460), (vr 1461), (vi 2148 0), (vi 661 0), (vs "/claim/cut.py" 2149)]) [])),
  (1463, (ob (vt "function") none (.func (fu (inClass (top 102) 2) "__init__" "Base.__init__" 3 [] vN vN vN (vs "coverstore.bases" 1979) none (vr 1462) vN 0)) [])),
  (1469, (ob (vt "code") none (fi [(vs "bits" 2151), (vs "Base.bits" 2152), (vs "/claim/cut.py" 2153), (vi 668 0), (vi 1 0), (vi 0 0), (vi 0 0), (vi 3 0), (vr 1464), vT, (vi 181 0), (vr 1465), vN, (vr 1466), (vr 1467), (vr 1468), (vi 2155 0), (vi 668 0), (vs "/claim/cut.py" 2156)]) [])),
  (1470, (ob (vt "function") none (.func (fu (inClass (top 102) 3) "bits" "Base.bits" 3 [] vN vN vN (vs "coverstore.bases" 1979) none (vr 1469) vN 0)) [])),
  (1471, (ob (vt "property") none (fi [(vr 1470), vN, vN, vN, (vs "bits" 2158), vF]) [])),
  (1477, (ob (vt "code") none (fi [(vs "version" 2159), (vs "Base.version" 2160), (vs "/claim/cut.py" 2161), (vi 672 0), (vi 1 0), (vi 0 0), (vi 0 0), (vi 3 0), (vr 1472), vT, (vi 181 0), (vr 1473), vN, (vr 1474), (vr 1475), (vr 1476), (vi 2163 0), (vi 672 0), (vs "/claim/cut.py" 2164)]) [])),
  (1478, (ob (vt "function") none (.func (fu (inClass (top 102) 4) "version" "Base.version" 3 [] vN vN vN (vs "coverstore.bases" 1979) none (vr 1477) vN 0)) [])),
  (1479, (ob (vt "property") none (fi [(vr 1478), vN, vN, vN, (vs "version" 2166), vF]) [])),
  (1514, (ob (vt "code") none (fi [(vs "tables" 2203), (vs "Base.tables" 2204), (vs "/claim/cut.py" 2205), (vi 701 0), (vi 1 0), (vi 0 0), (vi 0 0), (vi 3 0), (vr 1509), vT, (vi 181 0), (vr 1510), vN, (vr 1511), (vr 1512), (vr 1513), (vi 2207 0), (vi 701 0), (vs "/claim/cut.py" 2208)]) [])),
  (1515, (ob (vt "function") none (.func (fu (inClass (top 102) 9) "tables" "Base.tables" 3 [] vN vN vN (vs "coverstore.bases" 1979) none (vr 1514) vN 0)) [])),
  (1610, (ob (vt "dict") none (di [de P "__module__" 2134 (vs "coverstore.bases" 1979), de P "__firstlineno__" 2138 (vi 657 2137), de P "MAX_TABLES" 2140 (vi 8 2139), de P "MAX_PAYLOAD" 2142 (vi 1000000000 2141), de P "__init__" 2150 (vr 1463), de P "bits" 2158 (vr 1471), de P "version" 2166 (vr 1479), de P "oldest" 2174 (vr 1487), de P "required_version" 2182 (vr 1494), de P "require_new_table" 2192 (vr 1501), de P "add_table" 2202 (vr 1508), de P "tables" 2209 (vr 1515), de P "table_named" 2217 (vr 1522), de P "columns" 2225 (vr 1529), de P "orders" 2233 (vr 1536), de P "commit" 2244 (vr 1543), de P "payload" 2254 (vr 1551), de P "rows" 2260 (vr 1557), de P "keys_in" 2266 (vr 1563), de P "changed_keys" 2272 (vr 1569), de P "presence_break" 2282 (vr 1577), de P "payload_break" 2292 (vr 1585), de P "clear_break" 2302 (vr 1593), de P "forget" 2310 (vr 1600), de P "snapshot" 2318 (vr 1608), de P "__static_attributes__" 2323 (vr 1609), de P "__dict__" 2325 (vr 1612), de P "__weakref__" 2327 (vr 1613), de P "__doc__" 2328 vN] 4) [])),
  (1611, (ob (vt "type") none (.cls ⟨"Base", [(vt "object")], [(vr 1611), (vt "object")], 1610, "Base", true, [], [], false, none, false⟩) [none, none, (some (vs "Base" 2127)), (some (vs "Base" 2135)), (some (vb "object.__new__")), (some vT)])),
  (2394, (ob (vt "code") none (fi [(vs "__init__" 3472), (vs "Keeper.__init__" 3473), (vs "/claim/cut.py" 3474), (vi 1366 0), (vi 2 0), (vi 0 0), (vi 0 0), (vi 3 0), (vr 2389), vT, (vi 181 0), (vr 2390), vN, (vr 2391), (vr 2392), (vr 2393), (vi 3477 0), (vi 1366 0), (vs "/claim/cut.py" 3478)]) []))]
def kl4 (P : Params) : List (Addr × Obj) := [
  (2395, (ob (vt "function") none (.func (fu (inClass (top 207) 0) "__init__" "Keeper.__init__" 3 [] vN vN vN (vs "coverstore.keepers" 3456) none (vr 2394) vN 0)) [])),
  (2502, (ob (vt "dict") none (di [de P "__module__" 3467 (vs "coverstore.keepers" 3456), de P "__firstlineno__" 3471 (vi 1364 3470), de P "__init__" 3479 (vr 2395), de P "__len__" 3486 (vr 2402), de P "__contains__" 3494 (vr 2409), de P "entry" 3502 (vr 2416), de P "keep" 3513 (vr 2424), de P "release" 3521 (vr 2431), de P "names" 3528 (vr 2438), de P "kept_query" 3536 (vr 2445), de P "kept_paper" 3544 (vr 2452), de P "version_of" 3552 (vr 2459), de P "number_of" 3560 (vr 2466), de P "can_be_broken" 3572 (vr 2473), de P "bring" 3580 (vr 2480), de P "answer" 3591 (vr 2488), de P "catch_up" 3599 (vr 2495), de P "hits" 3605 (vr 2500), de P "__static_attributes__" 3609 (vr 2501), de P "__dict__" 3611 (vr 2504), de P "__weakref__" 3613 (vr 2505), de P "__doc__" 3614 vN] 4) [])),
  (2503, (ob (vt "type") none (.cls ⟨"Keeper", [(vt "object")], [(vr 2503), (vt "object")], 2502, "Keeper", true, [], [], false, none, false⟩) [none, none, (some (vs "Keeper" 3460)), (some (vs "Keeper" 3468)), (some (vb "object.__new__")), (some vT)])),
  (2657, (ob (vt "code") none (fi [(vs "__init__" 3811), (vs "Store.__init__" 3812), (vs "/claim/cut.py" 3813), (vi 1515 0), (vi 2 0), (vi 0 0), (vi 0 0), (vi 3 0), (vr 2652), vT, (vi 181 0), (vr 2653), vN, (vr 2654), (vr 2655), (vr 2656), (vi 3816 0), (vi 1515 0), (vs "/claim/cut.py" 3817)]) [])),
  (2658, (ob (vt "function") none (.func (fu (inClass (top 211) 0) "__init__" "Store.__init__" 3 [] vN vN vN (vs "coverstore.stores" 3797) none (vr 2657) vN 0)) [])),
  (2664, (ob (vt "code") none (fi [(vs "bits" 3819), (vs "Store.bits" 3820), (vs "/claim/cut.py" 3821), (vi 1522 0), (vi 1 0), (vi 0 0), (vi 0 0), (vi 3 0), (vr 2659), vT, (vi 181 0), (vr 2660), vN, (vr 2661), (vr 2662), (vr 2663), (vi 3823 0), (vi 1522 0), (vs "/claim/cut.py" 3824)]) [])),
  (2665, (ob (vt "function") none (.func (fu (inClass (top 211) 1) "bits" "Store.bits" 3 [] vN vN vN (vs "coverstore.stores" 3797) none (vr 2664) vN 0)) [])),
  (2666, (ob (vt "property") none (fi [(vr 2665), vN, vN, vN, (vs "bits" 3826), vF]) [])),
  (2672, (ob (vt "code") none (fi [(vs "version" 3827), (vs "Store.version" 3828), (vs "/claim/cut.py" 3829), (vi 1526 0), (vi 1 0), (vi 0 0), (vi 0 0), (vi 3 0), (vr 2667), vT, (vi 181 0), (vr 2668), vN, (vr 2669), (vr 2670), (vr 2671), (vi 3831 0), (vi 1526 0), (vs "/claim/cut.py" 3832)]) [])),
  (2673, (ob (vt "function") none (.func (fu (inClass (top 211) 2) "version" "Store.version" 3 [] vN vN vN (vs "coverstore.stores" 3797) none (vr 2672) vN 0)) [])),
  (2674, (ob (vt "property") none (fi [(vr 2673), vN, vN, vN, (vs "version" 3834), vF]) [])),
  (2703, (ob (vt "code") none (fi [(vs "tables" 3861), (vs "Store.tables" 3862), (vs "/claim/cut.py" 3863), (vi 1543 0), (vi 1 0), (vi 0 0), (vi 0 0), (vi 3 0), (vr 2698), vT, (vi 181 0), (vr 2699), vN, (vr 2700), (vr 2701), (vr 2702), (vi 3865 0), (vi 1543 0), (vs "/claim/cut.py" 3866)]) [])),
  (2704, (ob (vt "function") none (.func (fu (inClass (top 211) 6) "tables" "Store.tables" 3 [] vN vN vN (vs "coverstore.stores" 3797) none (vr 2703) vN 0)) [])),
  (2816, (ob (vt "dict") none (di [de P "__module__" 3806 (vs "coverstore.stores" 3797), de P "__firstlineno__" 3810 (vi 1513 3809), de P "__init__" 3818 (vr 2658), de P "bits" 3826 (vr 2666), de P "version" 3834 (vr 2674), de P "oldest" 3842 (vr 2682), de P "keeper" 3850 (vr 2690), de P "add_table" 3860 (vr 2697), de P "tables" 3867 (vr 2704), de P "columns" 3875 (vr 2711), de P "orders" 3883 (vr 2718), de P "require" 3894 (vr 2725), de P "constraints" 3900 (vr 2730), de P "begin" 3906 (vr 2735), de P "snapshot" 3914 (vr 2743), de P "pin" 3923 (vr 2751), de P "unpin" 3931 (vr 2758), de P "pins" 3938 (vr 2765), de P "held_versions" 3945 (vr 2772), de P "forget" 3953 (vr 2779), de P "check_constraints" 3964 (vr 2786), de P "accept" 3972 (vr 2793), de P "before_table" 3982 (vr 2800), de P "before_constraint" 3991 (vr 2807), de P "before_commit" 4000 (vr 2814), de P "__static_attributes__" 4006 (vr 2815), de P "__dict__" 4008 (vr 2818), de P "__weakref__" 4010 (vr 2819), de P "__doc__" 4011 vN] 4) [])),
  (2817, (ob (vt "type") none (.cls ⟨"Store", [(vt "object")], [(vr 2817), (vt "object")], 2816, "Store", true, [], [(vr 2992)], false, none, false⟩) [none, none, (some (vs "Store" 3799)), (some (vs "Store" 3807)), (some (vb "object.__new__")), (some vT)])),
  (2825, (ob (vt "code") none (fi [(vs "check_sum" 4041), (vs "check_sum" 4042), (vs "/claim/cut.py" 4043), (vi 1618 0), (vi 1 0), (vi 0 0), (vi 0 0), (vi 3 0), (vr 2822), vT, (vi 181 0), (vr 2823), vN, vN, vN, (vr 2824), (vi 4044 0), (vi 1618 0), (vs "/claim/cut.py" 4045)]) []))]
def kl5 (P : Params) : List (Addr × Obj) := [
  (2826, (ob (vt "function") none (.func (fu (top 225) "check_sum" "check_sum" 3 [] vN vN vN (vs "coverstore.durable" 4014) none (vr 2825) vN 0)) [])),
  (2832, (ob (vt "code") none (fi [(vs "record_text" 4047), (vs "record_text" 4048), (vs "/claim/cut.py" 4049), (vi 1621 0), (vi 1 0), (vi 0 0), (vi 0 0), (vi 3 0), (vr 2827), vT, (vi 181 0), (vr 2828), vN, (vr 2829), (vr 2830), (vr 2831), (vi 4051 0), (vi 1621 0), (vs "/claim/cut.py" 4052)]) [])),
  (2833, (ob (vt "function") none (.func (fu (top 226) "record_text" "record_text" 3 [] vN vN vN (vs "coverstore.durable" 4014) none (vr 2832) vN 0)) [])),
  (2837, (ob (vt "code") none (fi [(vs "pages_of" 4054), (vs "pages_of" 4055), (vs "/claim/cut.py" 4056), (vi 1623 0), (vi 1 0), (vi 0 0), (vi 0 0), (vi 3 0), (vr 2834), vT, (vi 181 0), (vr 2835), vN, vN, vN, (vr 2836), (vi 4057 0), (vi 1623 0), (vs "/claim/cut.py" 4058)]) [])),
  (2838, (ob (vt "function") none (.func (fu (top 227) "pages_of" "pages_of" 3 [] vN vN vN (vs "coverstore.durable" 4014) none (vr 2837) vN 0)) [])),
  (2849, (ob (vt "code") none (fi [(vs "bits_body" 4066), (vs "bits_body" 4067), (vs "/claim/cut.py" 4068), (vi 1628 0), (vi 1 0), (vi 0 0), (vi 0 0), (vi 3 0), (vr 2844), vT, (vi 181 0), (vr 2845), vN, (vr 2846), (vr 2847), (vr 2848), (vi 4070 0), (vi 1628 0), (vs "/claim/cut.py" 4071)]) [])),
  (2850, (ob (vt "function") none (.func (fu (top 229) "bits_body" "bits_body" 3 [] vN vN vN (vs "coverstore.durable" 4014) none (vr 2849) vN 0)) [])),
  (2876, (ob (vt "code") none (fi [(vs "integer_in" 4099), (vs "integer_in" 4100), (vs "/claim/cut.py" 4101), (vi 1640 0), (vi 1 0), (vi 0 0), (vi 0 0), (vi 3 0), (vr 2873), vT, (vi 181 0), (vr 2874), vN, vN, vN, (vr 2875), (vi 4102 0), (vi 1640 0), (vs "/claim/cut.py" 4103)]) [])),
  (2877, (ob (vt "function") none (.func (fu (top 234) "integer_in" "integer_in" 3 [] vN vN vN (vs "coverstore.durable" 4014) none (vr 2876) vN 0)) [])),
  (2898, (ob (vt "code") none (fi [(vs "__init__" 4130), (vs "NextRecord.__init__" 4131), (vs "/claim/cut.py" 4132), (vi 1656 0), (vi 2 0), (vi 0 0), (vi 0 0), (vi 3 0), (vr 2895), vT, (vi 181 0), (vr 2896), vN, vN, vN, (vr 2897), (vi 4133 0), (vi 1656 0), (vs "/claim/cut.py" 4134)]) [])),
  (2899, (ob (vt "function") none (.func (fu (inClass (top 238) 0) "__init__" "NextRecord.__init__" 3 [] vN vN vN (vs "coverstore.durable" 4014) none (vr 2898) vN 0)) [])),
  (2903, (ob (vt "code") none (fi [(vs "take_pages" 4136), (vs "NextRecord.take_pages" 4137), (vs "/claim/cut.py" 4138), (vi 1663 0), (vi 2 0), (vi 0 0), (vi 0 0), (vi 3 0), (vr 2900), vT, (vi 181 0), (vr 2901), vN, vN, vN, (vr 2902), (vi 4139 0), (vi 1663 0), (vs "/claim/cut.py" 4140)]) [])),
  (2904, (ob (vt "function") none (.func (fu (inClass (top 238) 1) "take_pages" "NextRecord.take_pages" 3 [] vN vN vN (vs "coverstore.durable" 4014) none (vr 2903) vN 0)) [])),
  (2906, (ob (vt "dict") none (di [de P "__module__" 4125 (vs "coverstore.durable" 4014), de P "__firstlineno__" 4129 (vi 1654 4128), de P "__init__" 4135 (vr 2899), de P "take_pages" 4141 (vr 2904), de P "__static_attributes__" 4144 (vr 2905), de P "__dict__" 4146 (vr 2908), de P "__weakref__" 4148 (vr 2909), de P "__doc__" 4149 vN] 4) [])),
  (2907, (ob (vt "type") none (.cls ⟨"NextRecord", [(vt "object")], [(vr 2907), (vt "object")], 2906, "NextRecord", true, [], [], false, none, false⟩) [none, none, (some (vs "NextRecord" 4118)), (some (vs "NextRecord" 4126)), (some (vb "object.__new__")), (some vT)])),
  (2915, (ob (vt "cell") none (.cell (some (vr 2992))) []))]
def kl6 (P : Params) : List (Addr × Obj) := [
  (2920, (ob (vt "tuple") none (sq [(vr 2915)] 0) [])),
  (2921, (ob (vt "tuple") none (sq [(vs "__class__" 4167)] 0) [])),
  (2922, (ob vN none (fi []) [])),
  (2923, (ob (vt "tuple") none (sq [(vs "self" 4168), (vs "bits" 4169), (vs "disk" 4170)] 0) [])),
  (2924, (ob (vt "tuple") none (sq [] 0) [])),
  (2925, (ob vN none (.func (fu (inClass (top 239) 0) "__init__" "DurableStore.__init__" 0 [] vN vN vN vN none vN vN 0)) [])),
  (2926, (ob (vt "code") none (fi [(vs "__init__" 4164), (vs "DurableStore.__init__" 4165), (vs "/claim/cut.py" 4166), (vi 1671 0), (vi 3 0), (vi 0 0), (vi 0 0), (vi 3 0), (vr 2921), vT, (vi 181 0), (vr 2922), vN, (vr 2923), (vr 2924), (vr 2925), (vi 4171 0), (vi 1671 0), (vs "/claim/cut.py" 4172)]) [])),
  (2927, (ob (vt "function") none (.func (fu (inClass (top 239) 0) "__init__" "DurableStore.__init__" 3 [("__class__", 2915)] vN vN vN (vs "coverstore.durable" 4014) none (vr 2926) (vr 2920) 0)) [])),
  (2933, (ob (vt "code") none (fi [(vs "recovered" 4174), (vs "DurableStore.recovered" 4175), (vs "/claim/cut.py" 4176), (vi 1678 0), (vi 2 0), (vi 0 0), (vi 0 0), (vi 3 0), (vr 2928), vT, (vi 181 0), (vr 2929), vN, (vr 2930), (vr 2931), (vr 2932), (vi 4184 0), (vi 1678 0), (vs "/claim/cut.py" 4185)]) [])),
  (2934, (ob (vt "function") none (.func (fu (inClass (top 239) 1) "recovered" "DurableStore.recovered" 3 [] vN vN vN (vs "coverstore.durable" 4014) (some 2937) (vr 2933) vN 0)) [])),
  (2936, (ob (vt "classmethod") (some 2935) (fi [(vr 2934), vF]) [])),
  (2943, (ob (vt "code") none (fi [(vs "write_record" 4199), (vs "DurableStore.write_record" 4200), (vs "/claim/cut.py" 4201), (vi 1696 0), (vi 2 0), (vi 0 0), (vi 0 0), (vi 3 0), (vr 2938), vT, (vi 181 0), (vr 2939), vN, (vr 2940), (vr 2941), (vr 2942), (vi 4205 0), (vi 1696 0), (vs "/claim/cut.py" 4206)]) [])),
  (2944, (ob (vt "function") none (.func (fu (inClass (top 239) 2) "write_record" "DurableStore.write_record" 3 [] vN vN vN (vs "coverstore.durable" 4014) none (vr 2943) vN 0)) [])),
  (2991, (ob (vt "dict") none (di [de P "__module__" 4159 (vs "coverstore.durable" 4014), de P "__firstlineno__" 4163 (vi 1669 4162), de P "__init__" 4173 (vr 2927), de P "recovered" 4198 (vr 2936), de P "write_record" 4207 (vr 2944), de P "before_table" 4217 (vr 2951), de P "before_constraint" 4226 (vr 2958), de P "before_commit" 4235 (vr 2965), de P "redo" 4244 (vr 2972), de P "redo_table" 4250 (vr 2977), de P "redo_constraint" 4261 (vr 2984), de P "redo_commit" 4267 (vr 2989), de P "__static_attributes__" 4269 (vr 2990), de P "__doc__" 4271 vN] 3) [])),
  (2992, (ob (vt "type") none (.cls ⟨"DurableStore", [(vr 2817)], [(vr 2992), (vr 2817), (vt "object")], 2991, "DurableStore", true, [], [], false, none, false⟩) [(some (vr 2912)), none, (some (vs "DurableStore" 4152)), (some (vs "DurableStore" 4160)), (some (vb "object.__new__")), (some vT)])),
  (3000, (ob (vt "code") none (fi [(vs "bits_in" 4274), (vs "bits_in" 4275), (vs "/claim/cut.py" 4276), (vi 1744 0), (vi 1 0), (vi 0 0), (vi 0 0), (vi 3 0), (vr 2995), vT, (vi 181 0), (vr 2996), vN, (vr 2997), (vr 2998), (vr 2999), (vi 4279 0), (vi 1744 0), (vs "/claim/cut.py" 4280)]) []))]
def kl7 (P : Params) : List (Addr × Obj) := [
  (3001, (ob (vt "function") none (.func (fu (top 240) "bits_in" "bits_in" 3 [] vN vN vN (vs "coverstore.durable" 4014) none (vr 3000) vN 0)) [])),
  (3007, (ob (vt "code") none (fi [(vs "_law_pot" 4284), (vs "_law_pot" 4285), (vs "/claim/cut.py" 4286), (vi 1750 0), (vi 2 0), (vi 0 0), (vi 0 0), (vi 3 0), (vr 3002), vT, (vi 181 0), (vr 3003), vN, (vr 3004), (vr 3005), (vr 3006), (vi 4291 0), (vi 1750 0), (vs "/claim/cut.py" 4292)]) [])),
  (3008, (ob (vt "function") none (.func (fu (top 242) "_law_pot" "_law_pot" 3 [] vN vN vN (vs "law_coverstore_k91_disks" 4282) none (vr 3007) vN 0)) [])),
  (3014, (ob (vt "code") none (fi [(vs "_law_take" 4294), (vs "_law_take" 4295), (vs "/claim/cut.py" 4296), (vi 1754 0), (vi 2 0), (vi 0 0), (vi 0 0), (vi 3 0), (vr 3009), vT, (vi 181 0), (vr 3010), vN, (vr 3011), (vr 3012), (vr 3013), (vi 4300 0), (vi 1754 0), (vs "/claim/cut.py" 4301)]) [])),
  (3015, (ob (vt "function") none (.func (fu (top 243) "_law_take" "_law_take" 3 [] vN vN vN (vs "law_coverstore_k91_disks" 4282) none (vr 3014) vN 0)) [])),
  (3021, (ob (vt "code") none (fi [(vs "_law_pick" 4303), (vs "_law_pick" 4304), (vs "/claim/cut.py" 4305), (vi 1761 0), (vi 2 0), (vi 0 0), (vi 0 0), (vi 3 0), (vr 3016), vT, (vi 181 0), (vr 3017), vN, (vr 3018), (vr 3019), (vr 3020), (vi 4308 0), (vi 1761 0), (vs "/claim/cut.py" 4309)]) [])),
  (3022, (ob (vt "function") none (.func (fu (top 244) "_law_pick" "_law_pick" 3 [] vN vN vN (vs "law_coverstore_k91_disks" 4282) none (vr 3021) vN 0)) [])),
  (3026, (ob (vt "code") none (fi [(vs "_law_page" 4311), (vs "_law_page" 4312), (vs "/claim/cut.py" 4313), (vi 1763 0), (vi 1 0), (vi 0 0), (vi 0 0), (vi 3 0), (vr 3023), vT, (vi 181 0), (vr 3024), vN, vN, vN, (vr 3025), (vi 4314 0), (vi 1763 0), (vs "/claim/cut.py" 4315)]) [])),
  (3027, (ob (vt "function") none (.func (fu (top 245) "_law_page" "_law_page" 3 [] vN vN vN (vs "law_coverstore_k91_disks" 4282) none (vr 3026) vN 0)) [])),
  (3033, (ob (vt "code") none (fi [(vs "_law_is_page" 4317), (vs "_law_is_page" 4318), (vs "/claim/cut.py" 4319), (vi 1768 0), (vi 1 0), (vi 0 0), (vi 0 0), (vi 3 0), (vr 3028), vT, (vi 181 0), (vr 3029), vN, (vr 3030), (vr 3031), (vr 3032), (vi 4321 0), (vi 1768 0), (vs "/claim/cut.py" 4322)]) [])),
  (3034, (ob (vt "function") none (.func (fu (top 246) "_law_is_page" "_law_is_page" 3 [] vN vN vN (vs "law_coverstore_k91_disks" 4282) none (vr 3033) vN 0)) [])),
  (3040, (ob (vt "code") none (fi [(vs "_law_number" 4324), (vs "_law_number" 4325), (vs "/claim/cut.py" 4326), (vi 1770 0), (vi 2 0), (vi 0 0), (vi 0 0), (vi 3 0), (vr 3035), vT, (vi 181 0), (vr 3036), vN, (vr 3037), (vr 3038), (vr 3039), (vi 4329 0), (vi 1770 0), (vs "/claim/cut.py" 4330)]) [])),
  (3041, (ob (vt "function") none (.func (fu (top 247) "_law_number" "_law_number" 3 [] vN vN vN (vs "law_coverstore_k91_disks" 4282) none (vr 3040) vN 0)) [])),
  (3047, (ob (vt "code") none (fi [(vs "_law_is_count" 4332), (vs "_law_is_count" 4333), (vs "/claim/cut.py" 4334), (vi 1772 0), (vi 1 0), (vi 0 0), (vi 0 0), (vi 3 0), (vr 3042), vT, (vi 181 0), (vr 3043), vN, (vr 3044), (vr 3045), (vr 3046), (vi 4336 0), (vi 1772 0), (vs "/claim/cut.py" 4337)]) [])),
  (3048, (ob (vt "function") none (.func (fu (top 248) "_law_is_count" "_law_is_count" 3 [] vN vN vN (vs "law_coverstore_k91_disks" 4282) none (vr 3047) vN 0)) [])),
  (3054, (ob (vt "code") none (fi [(vs "_law_told" 4339), (vs "_law_told" 4340), (vs "/claim/cut.py" 4341), (vi 1774 0), (vi 4 0), (vi 0 0), (vi 0 0), (vi 3 0), (vr 3049), vT, (vi 181 0), (vr 3050), vN, (vr 3051), (vr 3052), (vr 3053), (vi 4349 0), (vi 1774 0), (vs "/claim/cut.py" 4350)]) []))]
def kl8 (P : Params) : List (Addr × Obj) := [
  (3055, (ob (vt "function") none (.func (fu (top 249) "_law_told" "_law_told" 3 [] vN vN vN (vs "law_coverstore_k91_disks" 4282) none (vr 3054) vN 0)) [])),
  (3061, (ob (vt "code") none (fi [(vs "_law_write_right" 4352), (vs "_law_write_right" 4353), (vs "/claim/cut.py" 4354), (vi 1796 0), (vi 2 0), (vi 0 0), (vi 0 0), (vi 3 0), (vr 3056), vT, (vi 181 0), (vr 3057), vN, (vr 3058), (vr 3059), (vr 3060), (vi 4359 0), (vi 1796 0), (vs "/claim/cut.py" 4360)]) [])),
  (3062, (ob (vt "function") none (.func (fu (top 250) "_law_write_right" "_law_write_right" 3 [] vN vN vN (vs "law_coverstore_k91_disks" 4282) none (vr 3061) vN 0)) [])),
  (3068, (ob (vt "code") none (fi [(vs "_law_crash_right" 4362), (vs "_law_crash_right" 4363), (vs "/claim/cut.py" 4364), (vi 1806 0), (vi 2 0), (vi 0 0), (vi 0 0), (vi 3 0), (vr 3063), vT, (vi 181 0), (vr 3064), vN, (vr 3065), (vr 3066), (vr 3067), (vi 4369 0), (vi 1806 0), (vs "/claim/cut.py" 4370)]) [])),
  (3069, (ob (vt "function") none (.func (fu (top 251) "_law_crash_right" "_law_crash_right" 3 [] vN vN vN (vs "law_coverstore_k91_disks" 4282) none (vr 3068) vN 0)) [])),
  (3075, (ob (vt "code") none (fi [(vs "_law_spoil_right" 4372), (vs "_law_spoil_right" 4373), (vs "/claim/cut.py" 4374), (vi 1813 0), (vi 2 0), (vi 0 0), (vi 0 0), (vi 3 0), (vr 3070), vT, (vi 181 0), (vr 3071), vN, (vr 3072), (vr 3073), (vr 3074), (vi 4380 0), (vi 1813 0), (vs "/claim/cut.py" 4381)]) [])),
  (3076, (ob (vt "function") none (.func (fu (top 252) "_law_spoil_right" "_law_spoil_right" 3 [] vN vN vN (vs "law_coverstore_k91_disks" 4282) none (vr 3075) vN 0)) [])),
  (3080, (ob (vt "code") none (fi [(vs "_law_state_right" 4383), (vs "_law_state_right" 4384), (vs "/claim/cut.py" 4385), (vi 1822 0), (vi 1 0), (vi 0 0), (vi 0 0), (vi 3 0), (vr 3077), vT, (vi 181 0), (vr 3078), vN, vN, vN, (vr 3079), (vi 4386 0), (vi 1822 0), (vs "/claim/cut.py" 4387)]) [])),
  (3081, (ob (vt "function") none (.func (fu (top 253) "_law_state_right" "_law_state_right" 3 [] vN vN vN (vs "law_coverstore_k91_disks" 4282) none (vr 3080) vN 0)) [])),
  (3087, (ob (vt "code") none (fi [(vs "_law_named_right" 4389), (vs "_law_named_right" 4390), (vs "/claim/cut.py" 4391), (vi 1833 0), (vi 1 0), (vi 0 0), (vi 0 0), (vi 3 0), (vr 3082), vT, (vi 181 0), (vr 3083), vN, (vr 3084), (vr 3085), (vr 3086), (vi 4398 0), (vi 1833 0), (vs "/claim/cut.py" 4399)]) [])),
  (3088, (ob (vt "function") none (.func (fu (top 254) "_law_named_right" "_law_named_right" 3 [] vN vN vN (vs "law_coverstore_k91_disks" 4282) none (vr 3087) vN 0)) [])),
  (3094, (ob (vt "code") none (fi [(vs "_law_right" 4401), (vs "_law_right" 4402), (vs "/claim/cut.py" 4403), (vi 1841 0), (vi 1 0), (vi 0 0), (vi 0 0), (vi 3 0), (vr 3089), vT, (vi 181 0), (vr 3090), vN, (vr 3091), (vr 3092), (vr 3093), (vi 4410 0), (vi 1841 0), (vs "/claim/cut.py" 4411)]) [])),
  (3095, (ob (vt "function") none (.func (fu (top 255) "_law_right" "_law_right" 3 [] vN vN vN (vs "law_coverstore_k91_disks" 4282) none (vr 3094) vN 0)) [])),
  (3099, (ob (vt "code") none (fi [(vs "law" 4413), (vs "law" 4414), (vs "/claim/cut.py" 4415), (vi 1857 0), (vi 1 0), (vi 0 0), (vi 0 0), (vi 3 0), (vr 3096), vT, (vi 181 0), (vr 3097), vN, vN, vN, (vr 3098), (vi 4416 0), (vi 1857 0), (vs "/claim/cut.py" 4417)]) [])),
  (3100, (ob (vt "function") none (.func (fu (top 256) "law" "law" 3 [] vN vN vN (vs "law_coverstore_k91_disks" 4282) none (vr 3099) vN 0)) []))]
/-- the written part: what the top leaves at the addresses that the facts read -/
def KL (w : World) : Frag := kl0 w.params ++ (kl1 w.params ++ (kl2 w.params ++ (kl3 w.params ++ (kl4 w.params ++ (kl5 w.params ++ (kl6 w.params ++ (kl7 w.params ++ (kl8 w.params))))))))
def ad0 : List Addr := [0, 2, 3, 30, 31, 111, 123, 124, 126, 127, 130, 142, 143, 145, 146, 320, 332, 333, 335, 336, 646, 647, 702, 703]
def ad1 : List Addr := [709, 710, 728, 729, 791, 792, 805, 806, 812, 813, 819, 820, 821, 827, 828, 834, 835, 841, 842, 848, 849, 855, 856, 862]
def ad2 : List Addr := [863, 865, 866, 1462, 1463, 1469, 1470, 1471, 1477, 1478, 1479, 1514, 1515, 1610, 1611, 2394, 2395, 2502, 2503, 2657, 2658, 2664, 2665, 2666]
def ad3 : List Addr := [2672, 2673, 2674, 2703, 2704, 2816, 2817, 2825, 2826, 2832, 2833, 2837, 2838, 2849, 2850, 2876, 2877, 2898, 2899, 2903, 2904, 2906, 2907, 2915]
def ad4 : List Addr := [2920, 2921, 2922, 2923, 2924, 2925, 2926, 2927, 2933, 2934, 2936, 2943, 2944, 2991, 2992, 3000, 3001, 3007, 3008, 3014, 3015, 3021, 3022, 3026]
def ad5 : List Addr := [3027, 3033, 3034, 3040, 3041, 3047, 3048, 3054, 3055, 3061, 3062, 3068, 3069, 3075, 3076, 3080, 3081, 3087, 3088, 3094, 3095, 3099, 3100]
def adr : List Addr := ad0 ++ ad1 ++ ad2 ++ ad3 ++ ad4 ++ ad5
end
end Hd
namespace Hd
open PySem PySem.TablesWhole
theorem tw_0 : wSs holds PW.main.scope ⟨PW.main.scope, [], [], [], none⟩ PW.main.scope ((PW.main.body.drop 0).take 26) = true := by kernel_rfl
theorem tg_0 : wSs gather PW.main.scope ⟨PW.main.scope, [], [], [], none⟩ PW.main.scope ((PW.main.body.drop 0).take 26) = [] := by kernel_rfl
theorem tw_1 : wSs holds PW.main.scope ⟨PW.main.scope, [], [], [], none⟩ PW.main.scope ((PW.main.body.drop 26).take 26) = true := by kernel_rfl
theorem tg_1 : wSs gather PW.main.scope ⟨PW.main.scope, [], [], [], none⟩ PW.main.scope ((PW.main.body.drop 26).take 26) = [] := by kernel_rfl
theorem tw_2 : wSs holds PW.main.scope ⟨PW.main.scope, [], [], [], none⟩ PW.main.scope ((PW.main.body.drop 52).take 26) = true := by kernel_rfl
theorem tg_2 : wSs gather PW.main.scope ⟨PW.main.scope, [], [], [], none⟩ PW.main.scope ((PW.main.body.drop 52).take 26) = [] := by kernel_rfl
theorem tw_3 : wSs holds PW.main.scope ⟨PW.main.scope, [], [], [], none⟩ PW.main.scope ((PW.main.body.drop 78).take 26) = true := by kernel_rfl
theorem tg_3 : wSs gather PW.main.scope ⟨PW.main.scope, [], [], [], none⟩ PW.main.scope ((PW.main.body.drop 78).take 26) = [] := by kernel_rfl
theorem tw_4 : wSs holds PW.main.scope ⟨PW.main.scope, [], [], [], none⟩ PW.main.scope ((PW.main.body.drop 104).take 26) = true := by kernel_rfl
theorem tg_4 : wSs gather PW.main.scope ⟨PW.main.scope, [], [], [], none⟩ PW.main.scope ((PW.main.body.drop 104).take 26) = [] := by kernel_rfl
theorem tw_5 : wSs holds PW.main.scope ⟨PW.main.scope, [], [], [], none⟩ PW.main.scope ((PW.main.body.drop 130).take 26) = true := by kernel_rfl
theorem tg_5 : wSs gather PW.main.scope ⟨PW.main.scope, [], [], [], none⟩ PW.main.scope ((PW.main.body.drop 130).take 26) = [] := by kernel_rfl
theorem tw_6 : wSs holds PW.main.scope ⟨PW.main.scope, [], [], [], none⟩ PW.main.scope ((PW.main.body.drop 156).take 26) = true := by kernel_rfl
theorem tg_6 : wSs gather PW.main.scope ⟨PW.main.scope, [], [], [], none⟩ PW.main.scope ((PW.main.body.drop 156).take 26) = [] := by kernel_rfl
theorem tw_7 : wSs holds PW.main.scope ⟨PW.main.scope, [], [], [], none⟩ PW.main.scope ((PW.main.body.drop 182).take 26) = true := by kernel_rfl
theorem tg_7 : wSs gather PW.main.scope ⟨PW.main.scope, [], [], [], none⟩ PW.main.scope ((PW.main.body.drop 182).take 26) = [] := by kernel_rfl
theorem tw_8 : wSs holds PW.main.scope ⟨PW.main.scope, [], [], [], none⟩ PW.main.scope ((PW.main.body.drop 208).take 26) = true := by kernel_rfl
theorem tg_8 : wSs gather PW.main.scope ⟨PW.main.scope, [], [], [], none⟩ PW.main.scope ((PW.main.body.drop 208).take 26) = [] := by kernel_rfl
theorem tw_9 : wSs holds PW.main.scope ⟨PW.main.scope, [], [], [], none⟩ PW.main.scope ((PW.main.body.drop 234).take 23) = true := by kernel_rfl
theorem tg_9 : wSs gather PW.main.scope ⟨PW.main.scope, [], [], [], none⟩ PW.main.scope ((PW.main.body.drop 234).take 23) = [] := by kernel_rfl
theorem tn : noTwice PW.main.scope = true := by kernel_rfl
theorem drop_end : PW.main.body.drop 257 = [] := by kernel_rfl
theorem tw_e10 : wSs holds PW.main.scope ⟨PW.main.scope, [], [], [], none⟩ PW.main.scope (PW.main.body.drop 257) = true := by rw [drop_end] <;> rfl
theorem tw_e9 : wSs holds PW.main.scope ⟨PW.main.scope, [], [], [], none⟩ PW.main.scope (PW.main.body.drop 234) = true := Gd.holds_split 23 _ tw_9 (by rw [List.drop_drop] <;> exact tw_e10)
theorem tw_e8 : wSs holds PW.main.scope ⟨PW.main.scope, [], [], [], none⟩ PW.main.scope (PW.main.body.drop 208) = true := Gd.holds_split 26 _ tw_8 (by rw [List.drop_drop] <;> exact tw_e9)
theorem tw_e7 : wSs holds PW.main.scope ⟨PW.main.scope, [], [], [], none⟩ PW.main.scope (PW.main.body.drop 182) = true := Gd.holds_split 26 _ tw_7 (by rw [List.drop_drop] <;> exact tw_e8)
theorem tw_e6 : wSs holds PW.main.scope ⟨PW.main.scope, [], [], [], none⟩ PW.main.scope (PW.main.body.drop 156) = true := Gd.holds_split 26 _ tw_6 (by rw [List.drop_drop] <;> exact tw_e7)
theorem tw_e5 : wSs holds PW.main.scope ⟨PW.main.scope, [], [], [], none⟩ PW.main.scope (PW.main.body.drop 130) = true := Gd.holds_split 26 _ tw_5 (by rw [List.drop_drop] <;> exact tw_e6)
theorem tw_e4 : wSs holds PW.main.scope ⟨PW.main.scope, [], [], [], none⟩ PW.main.scope (PW.main.body.drop 104) = true := Gd.holds_split 26 _ tw_4 (by rw [List.drop_drop] <;> exact tw_e5)
theorem tw_e3 : wSs holds PW.main.scope ⟨PW.main.scope, [], [], [], none⟩ PW.main.scope (PW.main.body.drop 78) = true := Gd.holds_split 26 _ tw_3 (by rw [List.drop_drop] <;> exact tw_e4)
theorem tw_e2 : wSs holds PW.main.scope ⟨PW.main.scope, [], [], [], none⟩ PW.main.scope (PW.main.body.drop 52) = true := Gd.holds_split 26 _ tw_2 (by rw [List.drop_drop] <;> exact tw_e3)
theorem tw_e1 : wSs holds PW.main.scope ⟨PW.main.scope, [], [], [], none⟩ PW.main.scope (PW.main.body.drop 26) = true := Gd.holds_split 26 _ tw_1 (by rw [List.drop_drop] <;> exact tw_e2)
theorem tw_e0 : wSs holds PW.main.scope ⟨PW.main.scope, [], [], [], none⟩ PW.main.scope (PW.main.body.drop 0) = true := Gd.holds_split 26 _ tw_0 (by rw [List.drop_drop] <;> exact tw_e1)
theorem tg_e10 : wSs gather PW.main.scope ⟨PW.main.scope, [], [], [], none⟩ PW.main.scope (PW.main.body.drop 257) = [] := by rw [drop_end] <;> rfl
theorem tg_e9 : wSs gather PW.main.scope ⟨PW.main.scope, [], [], [], none⟩ PW.main.scope (PW.main.body.drop 234) = [] := Gd.gather_split 23 _ tg_9 (by rw [List.drop_drop] <;> exact tg_e10)
theorem tg_e8 : wSs gather PW.main.scope ⟨PW.main.scope, [], [], [], none⟩ PW.main.scope (PW.main.body.drop 208) = [] := Gd.gather_split 26 _ tg_8 (by rw [List.drop_drop] <;> exact tg_e9)
theorem tg_e7 : wSs gather PW.main.scope ⟨PW.main.scope, [], [], [], none⟩ PW.main.scope (PW.main.body.drop 182) = [] := Gd.gather_split 26 _ tg_7 (by rw [List.drop_drop] <;> exact tg_e8)
theorem tg_e6 : wSs gather PW.main.scope ⟨PW.main.scope, [], [], [], none⟩ PW.main.scope (PW.main.body.drop 156) = [] := Gd.gather_split 26 _ tg_6 (by rw [List.drop_drop] <;> exact tg_e7)
theorem tg_e5 : wSs gather PW.main.scope ⟨PW.main.scope, [], [], [], none⟩ PW.main.scope (PW.main.body.drop 130) = [] := Gd.gather_split 26 _ tg_5 (by rw [List.drop_drop] <;> exact tg_e6)
theorem tg_e4 : wSs gather PW.main.scope ⟨PW.main.scope, [], [], [], none⟩ PW.main.scope (PW.main.body.drop 104) = [] := Gd.gather_split 26 _ tg_4 (by rw [List.drop_drop] <;> exact tg_e5)
theorem tg_e3 : wSs gather PW.main.scope ⟨PW.main.scope, [], [], [], none⟩ PW.main.scope (PW.main.body.drop 78) = [] := Gd.gather_split 26 _ tg_3 (by rw [List.drop_drop] <;> exact tg_e4)
theorem tg_e2 : wSs gather PW.main.scope ⟨PW.main.scope, [], [], [], none⟩ PW.main.scope (PW.main.body.drop 52) = [] := Gd.gather_split 26 _ tg_2 (by rw [List.drop_drop] <;> exact tg_e3)
theorem tg_e1 : wSs gather PW.main.scope ⟨PW.main.scope, [], [], [], none⟩ PW.main.scope (PW.main.body.drop 26) = [] := Gd.gather_split 26 _ tg_1 (by rw [List.drop_drop] <;> exact tg_e2)
theorem tg_e0 : wSs gather PW.main.scope ⟨PW.main.scope, [], [], [], none⟩ PW.main.scope (PW.main.body.drop 0) = [] := Gd.gather_split 26 _ tg_0 (by rw [List.drop_drop] <;> exact tg_e1)
theorem pw_whole : PW.tablesWhole = true := Gd.whole_of rfl rfl rfl tg_e0 tn tw_e0
end Hd
namespace Hd
noncomputable section
open PySem PySem.W PySem.Calls PyProof.Rows HandSHeadRun L2
abbrev eM : Env := envM PW codeV frameA
abbrev cM : Code := .body (behindTheImports PW) eM
theorem h_pre (w : World) (os : OsState) : preF (stQ PW w) 11 (some (.ref 6)) nPre (bootS w os) (topStub PW) = some (S0 w os, ⟨denQ tabQ cM, cM, pos0, [topFrame posQ]⟩) := by kernel_rfl
theorem h_blk (w : World) (os : OsState) : segRunT treeTable PW w 11 (some (.ref 6)) 1 1 (S0 w os) (blockOf (behindTheImports PW) eM cM pos0 [topFrame posQ]) = some (.next, S0 w os, cM, pos0) := by kernel_rfl
theorem h_1 (w : World) (os : OsState) : SegT PW w codeV frameA posQ n1 0 36 pos0 pos1 (S0 w os) (S1 w os) := by kernel_rfl
theorem h_2 (w : World) (os : OsState) : SegT PW w codeV frameA posQ n2 36 32 pos1 pos2 (S1 w os) (S2 w os) := by kernel_rfl
theorem h_3 (w : World) : ∀ os : OsState, SegT PW w codeV frameA posQ n3 68 10 pos2 pos3 (S2 w os) (S3 w os) := byRow2 "special-get-raises" (P := fun w => ∀ os : OsState, SegT PW w codeV frameA posQ n3 68 10 pos2 pos3 (S2 w os) (S3 w os)) (fun w os => by kernel_rfl) (fun w os => by kernel_rfl) w
theorem h_4 (w : World) (os : OsState) : SegT PW w codeV frameA posQ n4 78 24 pos3 pos4 (S3 w os) (S4 w os) := by kernel_rfl
theorem h_5 (w : World) (os : OsState) : SegT PW w codeV frameA posQ n5 102 58 pos4 pos5 (S4 w os) (S5 w os) := by kernel_rfl
theorem h_6 (w : World) : ∀ os : OsState, SegT PW w codeV frameA posQ n6 160 18 pos5 pos6 (S5 w os) (S6 w os) := byRow2 "special-get-raises" (P := fun w => ∀ os : OsState, SegT PW w codeV frameA posQ n6 160 18 pos5 pos6 (S5 w os) (S6 w os)) (fun w os => by kernel_rfl) (fun w os => by kernel_rfl) w
theorem h_7 (w : World) (os : OsState) : SegT PW w codeV frameA posQ n7 178 28 pos6 pos7 (S6 w os) (S7 w os) := by kernel_rfl
theorem h_8 (w : World) (os : OsState) : SegT PW w codeV frameA posQ n8 206 51 pos7 pos8 (S7 w os) (S8 w os) := by kernel_rfl
def nm0 : List PySem.Str := ["_wall", "CoverError", "InvalidBits", "InvalidValue", "InvalidRange", "InvalidBox", "InvalidPlace", "InvalidCount", "InvalidName", "InvalidColumns", "InvalidOrder", "InvalidKey", "InvalidWrite", "InvalidQuery", "InvalidText", "InvalidPaper", "InvalidLimit", "InvalidPage", "UnknownTable", "UnknownVersion", "TooOld", "UnknownName", "NameTaken", "KeyTaken"]
def nm1 : List PySem.Str := ["NoSuchRow", "Unlike", "NoHalf", "NotJoined", "NotAPoint", "WrongColumns", "NotEmpty", "Ended", "Changed", "Violated", "Crashed", "DiskInUse", "NoStore", "TooMany", "MAX_BITS", "DIGITS_ranges", "is_integer", "is_bits", "is_value", "is_range", "require_bits", "require_value", "require_range", "number_of"]
def nm2 : List PySem.Str := ["range_of", "bounds", "common_range", "common_length", "widest_range", "PAGE_SIZE", "require_page", "Disk", "MOST_RANGES", "ALL", "NO_RANGES", "COMMA_boxes", "require_ranges", "ranges_text", "ranges_in", "Box", "MOST_PAYLOAD", "INSERT", "UPDATE", "DELETE", "WRITE_SIZES", "is_payload", "is_table", "is_key"]
def nm3 : List PySem.Str := ["require_table", "require_key", "require_box", "is_write", "require_writes", "rows_after", "alike_columns", "gap_between", "Source", "Snapshot", "Overlay", "LETTERS", "MOST_LETTERS", "RESERVED", "MOST_TABLES", "MOST_COLUMNS", "MOST_OTHER_ORDERS", "is_name", "require_name", "is_order", "is_order_bases", "require_orders", "Table", "Base"]
def nm4 : List PySem.Str := ["POSITIVE", "DENIED", "SIGNS", "LITERAL_LENGTH", "MOST_TERMS", "MOST_LITERALS", "MOST_VARIABLES", "MOST_INTEGER", "MOST_DIGITS_queries", "DIGITS_queries", "COMMA_queries", "BETWEEN", "BEFORE_ORDER", "NOT", "is_term", "are_terms", "is_literal", "is_comparison", "terms_of", "integers_in", "integers_in_queries", "variables_in", "require_literals", "is_order_queries"]
def nm5 : List PySem.Str := ["literal_text", "query_text", "term_in", "row_literal_in", "literal_in", "query_in", "Query", "fit", "is_position", "require_comparison", "require_values", "values_at", "is_so", "key_of", "is_true", "laid", "false_span", "false_span_behind", "widest_between", "false_ranges", "false_around", "term_range", "is_false_in", "failing_at"]
def nm6 : List PySem.Str := ["GAP", "ROW", "FALSE", "POINT", "JOIN", "PART", "FIGURES", "MOST_FIGURES", "EMPTY", "COMMA_papers", "BLANK", "FEED", "is_number", "are_values", "is_box", "Places", "gap_box", "row_box", "false_line_box", "point_box", "join_box", "part_box", "KINDS", "box_of"]
def nm7 : List PySem.Str := ["boxes_of", "named_by", "renamed", "values_text", "part_text", "line_text", "number_in", "values_in", "box_in", "line_in", "Paper", "MOST_LINES", "add_box", "first_around", "Search", "is_limit", "paper_of", "is_wrong", "require_fit", "Repair", "renumbered", "lost_points", "repaired", "LIMIT"]
def nm8 : List PySem.Str := ["Keeper", "Transaction", "Store", "PART_SIZE", "MORE", "LAST", "NO_ORDERS", "CHECK_DIGITS", "CHECK_MODULUS", "BITS", "TABLE", "REQUIRE", "COMMIT", "DIGITS_durable", "MOST_DIGITS_durable", "check_sum", "record_text", "pages_of", "joined", "bits_body", "table_body", "require_body", "write_text", "commit_body"]
def nm9 : List PySem.Str := ["integer_in", "integers_in_durable", "write_in", "NextRecord", "DurableStore", "bits_in", "_law_pot", "_law_take", "_law_pick", "_law_page", "_law_is_page", "_law_number", "_law_is_count", "_law_told", "_law_write_right", "_law_crash_right", "_law_spoil_right", "_law_state_right", "_law_named_right", "_law_right"]
def names : List PySem.Str := nm0 ++ nm1 ++ nm2 ++ nm3 ++ nm4 ++ nm5 ++ nm6 ++ nm7 ++ nm8 ++ nm9
abbrev R : PySem.W.OpenRow := PySem.W.OpenLaw.row PySem.Challenge.rw_coverstore_k91_disks
abbrev qv : Program := PySem.W.view PW [256]
abbrev hk : PySem.W.Hook := Gd.hookK KL adr (fun w => by kernel_rfl)
def obv (s : PySem.W.SharedT) : List (Option Obj) := adr.map (HandSHeadRun.getT s)
theorem obv_eq : obv = fun s => hk.obs s.abs := funext fun s => List.map_congr_left fun a _ => HandSHeadRun.getT_eq s a
theorem h_end (w : World) (os : OsState) : (goF (stQ PW w) 11 (some (.ref 6)) nEnd (S8 w os) (restOf ((behindTheImports PW).drop 257) eM cM pos8 [topFrame posQ])).map (fun s => (looksF PW (boot_heap w.params) s.abs, seenQ qv names (importedModules PW.main.body) (fun s => xlAt qv [] s && recOk R.toRowW.records s) s.abs, obv s)) = some (true, openGood qv names, hk.val w) := by kernel_rfl
theorem left (H : obv = fun s => hk.obs s.abs) : LeftO PW qv names (fun s => xlAt qv [] s && recOk R.toRowW.records s) hk.obs hk.val 60000 true := by
  refine left_run (m := nPre + (1 + (n1 + (n2 + (n3 + (n4 + (n5 + (n6 + (n7 + (n8 + (nEnd))))))))))) (by kernel_rfl) (fun s => by kernel_rfl) (by kernel_rfl) (by kernel_rfl) fun w os => ?_
  obtain ⟨s, hs, hv⟩ := Option.map_eq_some_iff.mp (h_end w os)
  rw [H, ← seenQ_eq] at hv
  exact ⟨s, run_pre (h_pre w os) (h_blk w os) (run_seg (k := 0) (j := 36) (h_1 w os) (run_seg (k := 36) (j := 32) (h_2 w os) (run_seg (k := 68) (j := 10) (h_3 w os) (run_seg (k := 78) (j := 24) (h_4 w os) (run_seg (k := 102) (j := 58) (h_5 w os) (run_seg (k := 160) (j := 18) (h_6 w os) (run_seg (k := 178) (j := 28) (h_7 w os) (run_seg (k := 206) (j := 51) (h_8 w os) (run_end hs))))))))), hv⟩
end
end Hd
/-! ### a def with its promise, in one piece -/
namespace Gd
open PySem PySem.Spec PyProof.Rows L2
section
variable (P : Program) (w : World) (K : PySem.W.Frag) (mg : Str → Option Value) (base : Heap)
/-- the def at f, all its parameters given by place, keeps sp (depth k) -/
def Fn (k : Nat) (f : Addr) (ps : List Str) (sp : Sp) : Prop := ∃ fd, FnOk P w K mg base (L2.CX P w) k f fd ps sp ∧ Binds K fd ps [] ∧ PySem.W.keepIn K (.ref f) = true ∧ ∃ oc od osl, K.lookup f = some ⟨oc, od, .func fd, osl⟩
end
theorem _root_.L2.FunD.at_ {K : PySem.W.Frag} {x qual : Str} {params : Arguments} {body : List Stmt} {scope : Scope} {dvs : List V} {kws : List (Str × V)} {f : Addr} {fd : FuncData} (F : FunD K x qual params body scope dvs kws f fd) : ∃ oc od osl, K.lookup f = some ⟨oc, od, .func fd, osl⟩ := by
  obtain ⟨oc, od, _, _, _, _, _, _, _, osl, _, h, _⟩ := F.ex
  exact ⟨oc, od, osl, h⟩
def sp0 (f : Hp → VK → XK → Prop) : Sp := fun vs H Q E => match vs with | [] => f H Q E | _ => False
def sp1 (f : V → Hp → VK → XK → Prop) : Sp := fun vs H Q E => match vs with | [x] => f x H Q E | _ => False
def sp2 (f : V → V → Hp → VK → XK → Prop) : Sp := fun vs H Q E => match vs with | [x, y] => f x y H Q E | _ => False
def sp3 (f : V → V → V → Hp → VK → XK → Prop) : Sp := fun vs H Q E => match vs with | [x, y, z] => f x y z H Q E | _ => False
def sp4 (f : V → V → V → V → Hp → VK → XK → Prop) : Sp := fun vs H Q E => match vs with | [x, y, z, u] => f x y z u H Q E | _ => False
section
variable {P : Program} {w : World} {K : PySem.W.Frag} {mg : Str → Option Value} {base : Heap} {x qual : Str} {params : Arguments} {body : List Stmt} {scope : Scope} {f : Addr} {fd : FuncData} {N : List Str} {k : Nat} {p q r o : Str}
theorem Fn.of0 {f0 : Hp → VK → XK → Prop} (F : ∃ fd, FunD K x qual params body scope [] [] f fd) (S : FnScope N [] scope) (hb : ∀ fd, FunD K x qual params body scope [] [] f fd → Binds K fd [] [])
    (h : ∀ (cdv : Value) (A : Around) (outer : List Env) (s : Shared) (H : Hp) (Q : VK) (E : XK), Room k (A.deeper (envOfC qual scope s.heap.objs.size f cdv)) → f0 H Q E →
      ∃ t, PSs (cxOf (L2.CX P w) P w K mg base N qual scope f cdv A outer s H E) body t ∧ t { nx := fun _ H' => Q .non H', rt := Q } (start N []) H) : Fn P w K mg base (k + 1) f [] (sp0 f0) := by
  obtain ⟨fd, F⟩ := F
  refine ⟨fd, F.ok S (fun vs H Q E z => ?_) (fun cdv A outer s H vs Q E hr z => ?_), hb fd F, F.kp, F.at_⟩
  · match vs, z with
    | [], _ => rfl
  · match vs, z with
    | [], z => exact h cdv A outer s H Q E hr z
theorem Fn.of1 {f1 : V → Hp → VK → XK → Prop} (F : ∃ fd, FunD K x qual params body scope [] [] f fd) (S : FnScope N [p] scope) (hb : ∀ fd, FunD K x qual params body scope [] [] f fd → Binds K fd [p] [])
    (h : ∀ (cdv : Value) (A : Around) (outer : List Env) (s : Shared) (H : Hp) (a : V) (Q : VK) (E : XK), Room k (A.deeper (envOfC qual scope s.heap.objs.size f cdv)) → f1 a H Q E →
      ∃ t, PSs (cxOf (L2.CX P w) P w K mg base N qual scope f cdv A outer s H E) body t ∧ t { nx := fun _ H' => Q .non H', rt := Q } (start N [a]) H) : Fn P w K mg base (k + 1) f [p] (sp1 f1) := by
  obtain ⟨fd, F⟩ := F
  refine ⟨fd, F.ok S (fun vs H Q E z => ?_) (fun cdv A outer s H vs Q E hr z => ?_), hb fd F, F.kp, F.at_⟩
  · match vs, z with
    | [_], _ => rfl
  · match vs, z with
    | [a], z => exact h cdv A outer s H a Q E hr z
theorem Fn.of2 {f2 : V → V → Hp → VK → XK → Prop} (F : ∃ fd, FunD K x qual params body scope [] [] f fd) (S : FnScope N [p, q] scope) (hb : ∀ fd, FunD K x qual params body scope [] [] f fd → Binds K fd [p, q] [])
    (h : ∀ (cdv : Value) (A : Around) (outer : List Env) (s : Shared) (H : Hp) (a b : V) (Q : VK) (E : XK), Room k (A.deeper (envOfC qual scope s.heap.objs.size f cdv)) → f2 a b H Q E →
      ∃ t, PSs (cxOf (L2.CX P w) P w K mg base N qual scope f cdv A outer s H E) body t ∧ t { nx := fun _ H' => Q .non H', rt := Q } (start N [a, b]) H) : Fn P w K mg base (k + 1) f [p, q] (sp2 f2) := by
  obtain ⟨fd, F⟩ := F
  refine ⟨fd, F.ok S (fun vs H Q E z => ?_) (fun cdv A outer s H vs Q E hr z => ?_), hb fd F, F.kp, F.at_⟩
  · match vs, z with
    | [_, _], _ => rfl
  · match vs, z with
    | [a, b], z => exact h cdv A outer s H a b Q E hr z
theorem Fn.of3 {f3 : V → V → V → Hp → VK → XK → Prop} (F : ∃ fd, FunD K x qual params body scope [] [] f fd) (S : FnScope N [p, q, r] scope) (hb : ∀ fd, FunD K x qual params body scope [] [] f fd → Binds K fd [p, q, r] [])
    (h : ∀ (cdv : Value) (A : Around) (outer : List Env) (s : Shared) (H : Hp) (a b c : V) (Q : VK) (E : XK), Room k (A.deeper (envOfC qual scope s.heap.objs.size f cdv)) → f3 a b c H Q E →
      ∃ t, PSs (cxOf (L2.CX P w) P w K mg base N qual scope f cdv A outer s H E) body t ∧ t { nx := fun _ H' => Q .non H', rt := Q } (start N [a, b, c]) H) : Fn P w K mg base (k + 1) f [p, q, r] (sp3 f3) := by
  obtain ⟨fd, F⟩ := F
  refine ⟨fd, F.ok S (fun vs H Q E z => ?_) (fun cdv A outer s H vs Q E hr z => ?_), hb fd F, F.kp, F.at_⟩
  · match vs, z with
    | [_, _, _], _ => rfl
  · match vs, z with
    | [a, b, c], z => exact h cdv A outer s H a b c Q E hr z
theorem Fn.of4 {f4 : V → V → V → V → Hp → VK → XK → Prop} (F : ∃ fd, FunD K x qual params body scope [] [] f fd) (S : FnScope N [p, q, r, o] scope) (hb : ∀ fd, FunD K x qual params body scope [] [] f fd → Binds K fd [p, q, r, o] [])
    (h : ∀ (cdv : Value) (A : Around) (outer : List Env) (s : Shared) (H : Hp) (a b c d : V) (Q : VK) (E : XK), Room k (A.deeper (envOfC qual scope s.heap.objs.size f cdv)) → f4 a b c d H Q E →
      ∃ t, PSs (cxOf (L2.CX P w) P w K mg base N qual scope f cdv A outer s H E) body t ∧ t { nx := fun _ H' => Q .non H', rt := Q } (start N [a, b, c, d]) H) : Fn P w K mg base (k + 1) f [p, q, r, o] (sp4 f4) := by
  obtain ⟨fd, F⟩ := F
  refine ⟨fd, F.ok S (fun vs H Q E z => ?_) (fun cdv A outer s H vs Q E hr z => ?_), hb fd F, F.kp, F.at_⟩
  · match vs, z with
    | [_, _, _, _], _ => rfl
  · match vs, z with
    | [a, b, c, d], z => exact h cdv A outer s H a b c d Q E hr z
end
section
variable {X : Cx} {j k : Nat} {f C : Addr} {ps : List Str} {sp : Sp} {E : XK} {x m : Str} {p pos apos : Pos} {e o : Expr} {es : List Expr} {ta : TE} {t : TA}
theorem pc (F : Fn X.prog X.w X.K X.mg X.base k f ps sp) (hr : Room j X.A) (hm : X.mg x = some (.ref f)) (hx : Passes (L2.CX X.prog X.w) X E) (ha : PA X (e :: es) t) (hk : k ≤ j := by decide) (hg : Gl X x := by rfl)
    (hdb : (x == ("__debug__" : Str)) = false := by decide) (he : starEach (e :: es) X.env = (false, eval e X.env) :: starEach es X.env := by rfl) (hpl : (backTo pos (starEach es X.env)).any (·.1) = false := by rfl) :
    PE X (.Call (.Name x p) (e :: es) [] pos) (tCall sp [] E t) := by
  obtain ⟨fd, F, hb, kp, _⟩ := F
  exact pe_call F (hr.mono hk) hg hm kp hb .nil hx ha hdb he hpl
theorem pc0 (F : Fn X.prog X.w X.K X.mg X.base k f ps sp) (hr : Room j X.A) (hm : X.mg x = some (.ref f)) (hx : Passes (L2.CX X.prog X.w) X E) (hk : k ≤ j := by decide) (hg : Gl X x := by rfl)
    (hdb : (x == ("__debug__" : Str)) = false := by decide) : PE X (.Call (.Name x p) [] [] pos) (tCall sp [] E tNil) := by
  obtain ⟨fd, F, hb, kp, _⟩ := F
  exact pe_call0 F (hr.mono hk) hg hm kp hb .nil hx hdb
theorem pcS {Es : L2.St → XK} (F : Fn X.prog X.w X.K X.mg X.base k f ps sp) (hr : Room j X.A) (hm : X.mg x = some (.ref f)) (hx : ∀ σ, PassesAt (L2.CX X.prog X.w) X σ (Es σ)) (ha : PA X (e :: es) t) (hk : k ≤ j := by decide) (hg : Gl X x := by rfl)
    (hdb : (x == ("__debug__" : Str)) = false := by decide) (he : starEach (e :: es) X.env = (false, eval e X.env) :: starEach es X.env := by rfl) (hpl : (backTo pos (starEach es X.env)).any (·.1) = false := by rfl) :
    PE X (.Call (.Name x p) (e :: es) [] pos) (tCallS sp Es t) := by
  obtain ⟨fd, F, hb, kp, _⟩ := F
  exact pe_callS F (hr.mono hk) hg hm kp hb hx ha hdb he hpl
theorem pm {pl : Sem Bool} (he : PE X o ta) (c : Cls X.K C) (hm : Meth X.K C m f) (F : Fn X.prog X.w X.K X.mg X.base k f ps sp) (hr : Room j X.A) (hx : Passes (L2.CX X.prog X.w) X E) (ha : PA X (e :: es) t) (hk : k ≤ j := by decide)
    (hst : starEach (e :: es) X.env = (false, eval e X.env) :: starEach es X.env := by rfl) (hpl : (backTo pos (starEach es X.env)).any (·.1) = false := by rfl)
    (ht : eval (.Call (.Attribute o m apos) (e :: es) [] pos) X.env = (do
      let ov ← eval o X.env
      standAt apos.atName
      let (f, first) ← holding [ov] (getMethod ov m pl)
      callWith pos f first (backTo pos (starEach (e :: es) X.env)) (backToKw pos (keywordEach [] X.env))) := by rfl) :
    PE X (.Call (.Attribute o m apos) (e :: es) [] pos) (tMeth C m sp [] E ta t) := by
  obtain ⟨fd, F, hb, kp, _⟩ := F
  exact pe_meth he c hm F (hr.mono hk) hb .nil hx ha hst hpl ht
theorem pm0 {pl : Sem Bool} (he : PE X o ta) (c : Cls X.K C) (hm : Meth X.K C m f) (F : Fn X.prog X.w X.K X.mg X.base k f ps sp) (hr : Room j X.A) (hx : Passes (L2.CX X.prog X.w) X E) (hk : k ≤ j := by decide)
    (ht : eval (.Call (.Attribute o m apos) [] [] pos) X.env = (do
      let ov ← eval o X.env
      standAt apos.atName
      let (f, first) ← holding [ov] (getMethod ov m pl)
      callWith pos f first (backTo pos (starEach [] X.env)) (backToKw pos (keywordEach [] X.env))) := by rfl) :
    PE X (.Call (.Attribute o m apos) [] [] pos) (tMeth C m sp [] E ta tNil) := by
  obtain ⟨fd, F, hb, kp, _⟩ := F
  exact pe_meth0 he c hm F (hr.mono hk) hb .nil hx ht
theorem pmk (M : Mk X.K C f) (F : Fn X.prog X.w X.K X.mg X.base k f ps sp) (hr : Room j X.A) (hm : X.mg x = some (.ref C)) (hx : Passes (L2.CX X.prog X.w) X E)
    (ha : PA X (e :: es) t) (hk : k + 1 ≤ j := by decide) (hg : Gl X x := by rfl) (hdb : (x == ("__debug__" : Str)) = false := by decide) (he : starEach (e :: es) X.env = (false, eval e X.env) :: starEach es X.env := by rfl) (hpl : (backTo pos (starEach es X.env)).any (·.1) = false := by rfl) :
    PE X (.Call (.Name x p) (e :: es) [] pos) (tMake C sp [] E t) := by
  obtain ⟨fd, F, hb, kp, _⟩ := F
  exact pe_make M F (hr.mono hk) hg hm hb .nil hx ha hdb he hpl
theorem pmk0 (M : Mk X.K C f) (F : Fn X.prog X.w X.K X.mg X.base k f ps sp) (hr : Room j X.A) (hm : X.mg x = some (.ref C)) (hx : Passes (L2.CX X.prog X.w) X E)
    (hk : k + 1 ≤ j := by decide) (hg : Gl X x := by rfl) (hdb : (x == ("__debug__" : Str)) = false := by decide) : PE X (.Call (.Name x p) [] [] pos) (tMake C sp [] E tNil) := by
  obtain ⟨fd, F, hb, kp, _⟩ := F
  exact pe_make0 M F (hr.mono hk) hg hm hb .nil hx hdb
theorem pprop {g pr : Addr} (he : PE X e ta) (c : Cls X.K C) (hp : PropOf X.K C m pr g) (F : Fn X.prog X.w X.K X.mg X.base k g ps sp) (hr : Room j X.A) (hx : Passes (L2.CX X.prog X.w) X.nox E) (hk : k + 1 ≤ j := by decide)
    (hab : attributeBase e m X.env (eval e X.env) = eval e X.env := by rfl) : PE X (.Attribute e m pos) (tProp C sp [] E ta) := by
  obtain ⟨fd, F, hb, kp, _⟩ := F
  exact pe_prop he c hp F (hr.mono hk) hb .nil hx hab
end
end Gd
/-! ### len(o), o of a class with a __len__ -/
namespace Gd
open PySem PySem.Spec PyProof.Rows L2
def rLenOwn (C : Addr) (sp : Sp) : List V → Hp → VK → Prop := fun xs H Q => ∃ a dx fs, xs = [.ref a] ∧ H a = some (.ins C dx fs) ∧ sp [.ref a] H (fun v H' => ∃ n : Int, v = .int n ∧ 0 ≤ n ∧ n < 2 ^ 63 ∧ Q (.int n) H') E0
section
variable {X : Cx} {j k : Nat} {f C : Addr} {ps : List Str} {sp : Sp}
theorem call_lenOwn (hm : Meth X.K C "__len__" f) (F : Fn X.prog X.w X.K X.mg X.base k f ps sp) (hr : Room j X.A) (hk : k + 1 ≤ j := by decide) : CallR X (.builtin "len") (rLenOwn C sp) := by
  intro pins s σ H xs us Q I r h
  obtain ⟨a, dx, fs, rfl, ea, q⟩ := h
  obtain ⟨u, rfl, ru⟩ := r.one
  obtain rfl : u = Value.ref a := ru
  obtain ⟨fd, F, hb, kp, _⟩ := F
  obtain ⟨mA, J, _⟩ := ins_get I.hok ea
  obtain ⟨od, J, _⟩ := J.look
  obtain ⟨m0, hF⟩ := I.fr
  have r2 : Vals [V.ref a] [Value.ref a] := .cons rfl .nil
  have hl := F.len _ _ _ _ q
  refine PySem.W.len_K hF I.ok.mod.kin J hm.at_ hm.fn ?_
  refine wpAny_call (codeAny_mono (F.run X.A.in1 X.stack s H ⟨[.ref a], []⟩ [.ref a] [.ref a] _ E0 (hr.mono hk).in1 I.env0.in1 (by
    have z := hb s [.ref a] I.kIn (by simpa using hl)
    simpa using z) r2 q) fun r s' hq => ?_)
  cases r with
  | error e =>
    obtain ⟨_, _, _, _, _, _, _, _, _, _, _, _, z⟩ := hq
    exact z.elim
  | ok fl =>
    cases fl with
    | next => exact False.elim hq
    | brk => exact False.elim hq
    | cont => exact False.elim hq
    | ret u =>
      obtain ⟨v, H', I', rv, n, ev, h0, h1, q2⟩ := I.after hq
      subst ev
      obtain ⟨t, rfl⟩ := rv
      exact ⟨⟨h0, h1⟩, .int n, H', I'.tok _, ⟨_, rfl⟩, q2⟩
end
theorem clsV_ty {n : String} {u : Value} : ClsV (.ty n) u ↔ u = .type n := ⟨fun h => by cases h; rfl, fun h => by subst h; exact .ty n⟩
theorem clsV_ref {C : Addr} {u : Value} : ClsV (.ref C) u ↔ u = .ref C := ⟨fun h => by cases h; rfl, fun h => by subst h; exact .own C⟩
end Gd
/-! ### raise: an own error with a value, an own error without arguments -/
namespace Gd
open PySem PySem.Spec PyProof.Rows L2
/-- an own error with a value is raised -/
def RaiseV (E : XK) (C : Addr) (x : V) (H : Hp) : Prop := ∀ d, H d = none → E (.ref C) (some d) (upd H d (.xd [("value", x)]))
/-- the promise of its __init__ -/
def spErr (C : Addr) : Sp := sp2 fun x v H Q _ => ∃ a, x = .ref a ∧ H a = some (exo a C none) ∧ ∀ dx, H dx = none → dx ≠ a → Q .non (upd (upd H dx (exd dx [("value", v)])) a (exo a C (some dx)))
theorem raiseV_of {E : XK} {C : Addr} {x : V} {H : Hp} (h : RaiseV E C x H) : ∀ a, H a = none → spErr C [.ref a, x] (upd H a (exo a C none)) (fun v H2 => v = .non ∧ ∃ (d : Addr) (fs : List (PySem.Str × V)), H2 a = some (exo a C (some d)) ∧ H2 d = some (exd d fs) ∧ H d = none ∧ E (.ref C) (some d) (upd (del H2 a) d (.xd fs))) (fun _ _ _ => False) := by
  intro a ha
  refine ⟨a, rfl, upd_same, fun dx hdx hne => ⟨rfl, dx, [("value", x)], upd_same, ?_, ?_, ?_⟩⟩
  · rw [upd_ne hne]; exact upd_same
  · rw [upd_ne hne] at hdx; exact hdx
  · have hd : H dx = none := by rw [upd_ne hne] at hdx; exact hdx
    have e : upd (del (upd (upd (upd H a (exo a C none)) dx (exd dx [("value", x)])) a (exo a C (some dx))) a) dx (.xd [("value", x)]) = upd H dx (.xd [("value", x)]) := by
      funext b
      by_cases h1 : b = dx
      · rw [h1, upd_same, upd_same]
      · rw [upd_ne h1, upd_ne h1]
        by_cases h2 : b = a
        · rw [h2, del_same, ha]
        · rw [del_ne h2, upd_ne h2, upd_ne h1, upd_ne h2]
    rw [e]
    exact h dx hd
/-- raise C(x): the reading -/
def tErr (C : Addr) (W : WX) (ta : TA) : TS := fun _ σ H => ta σ H fun vs H1 => ∃ x, vs = [x] ∧ RaiseV (fun cls d H' => W cls d σ H') C x H1
section
variable {X : Cx} {j k : Nat} {f C : Addr} {ps : List PySem.Str} {x : PySem.Str} {p pos rp : Pos} {e : Expr} {es : List Expr} {ta : TA} {W : WX}
theorem pa_mono (h : PA X es ta) : PA X es (fun σ H Q => ∃ Q0 : List V → Hp → Prop, ta σ H Q0 ∧ ∀ vs H1, Q0 vs H1 → Q vs H1) := ⟨fun pos pins s σ H Q I z => by
  obtain ⟨Q0, z, w⟩ := z
  refine wpAny_mono (h.run pos pins s σ H Q0 I z) (fun us s1 y => ?_) (fun _ _ y => y)
  obtain ⟨vs, H1, I1, r, q⟩ := y
  exact ⟨vs, H1, I1, r, w vs H1 q⟩⟩
theorem ps_err (hc : X.calm = true) (tk : Takes X W) (TT : OexC X.K C) (iC : PySem.W.findIn X.K (.ref C) "__init__" = some (some (.ref f))) (tI : PySem.W.typeIn X.K (.ref f) = some (.type "function"))
    (F : Fn X.prog X.w X.K X.mg X.base k f ps (spErr C)) (hr : Room j X.A) (hg : Gl X x) (hm : X.mg x = some (.ref C)) (ha : PA X (e :: es) ta) (hk : k + 1 ≤ j := by decide)
    (hdb : (x == ("__debug__" : PySem.Str)) = false := by decide) (he : starEach (e :: es) X.env = (false, eval e X.env) :: starEach es X.env := by rfl) (hpl : (backTo pos (starEach es X.env)).any (·.1) = false := by rfl) :
    PS X (.Raise (some (.Call (.Name x p) (e :: es) [] pos)) none rp) (tErr C W ta) := by
  obtain ⟨fd, F, hb, kp, _⟩ := F
  have R := ps_raise (pos := rp) hc tk (pmk_oex (pos := pos) (p := p) TT iC tI F (hr.mono hk) hb .nil passL hg hm (pa_mono ha) hdb he hpl)
  refine ⟨fun pins s σ H D I h => R.run pins s σ H D I ⟨_, h, fun vs H1 z => ?_⟩⟩
  obtain ⟨y, rfl, r⟩ := z
  exact ⟨by show 1 ≤ 1000; omega, raiseV_of r⟩
/-- raise C(), C without __init__ -/
def tErr0 (C : Addr) (W : WX) : TS := fun _ σ H => W (.ref C) none σ H
theorem ps_err0 {bmB : List Value} {B newId initId : String} (hc : X.calm = true) (tk : Takes X W) (F : ExcBaseFacts B newId initId bmB) (q : PySem.W.excIn X.K C bmB newId = true) (hm : X.mg x = some (.ref C)) (kC : PySem.W.keepIn X.K (.ref C) = true)
    (h1 : PySem.W.subIn X.K (.ref C) (.type "BaseException") = some true) (h2 : PySem.W.typeIn X.K (.ref C) = some (.type "type")) (hg : Gl X x) (hdb : (x == ("__debug__" : PySem.Str)) = false := by decide) :
    PS X (.Raise (some (.Call (.Name x p) [] [] pos)) none rp) (tErr0 C W) := by
  have M : PMk X (.Call (.Name x p) [] [] pos) (fun _ H Q => Q (.ref C) none H) := by
    intro pins s σ H Q I h
    refine wpAny_Call_Name_kw (ld_glob I hg hm ?_ hdb)
    refine PySem.W.callWith_K0 I.kIn kC ?_
    obtain ⟨bm, N, nm, qn, bs, hdct, sn, sub, ab, col, dd, k0, k1, k2, k3, k5, mN, hC, hN, hni, T⟩ := exc_obj I.kIn q
    exact wpAny_call_exc_subT (rest := []) F T hC hN hni (fun h' e hm' => mk_of I hm' (raises_own h1 h2) h (I.hok.gone hm'.new)) (by show 0 ≤ sizeLine; omega)
  have R := ps_raise (pos := rp) hc tk M
  exact ⟨fun pins s σ H D I h => R.run pins s σ H D I h⟩
end
end Gd
/-! ### comprehensions, loops: what one hands -/
namespace Gd
open PySem PySem.Spec PyProof.Rows L2
section
variable {K : PySem.W.Frag} {g : TG} {te : TE} {vs : List Nat} {σ : L2.St} {H : Hp} {Q : VK}
/-- [e for x in range(n)] -/
theorem tLcR {ta : TA} {n : Nat} {H1 : Hp} (Pv : Addr → Nat → Hp → Prop) (hn : n < 1000000) (hta : ∀ R : List V → Hp → Prop, R [.int n] H1 → ta σ H R) (h0 : ∀ D, H1 D = none → Pv D 0 (upd H1 D (.lst [])))
    (hs : ∀ D i H', i < n → Pv D i H' → g (.int i) (wipe σ vs) H' fun σ2 H2 => wipe σ2 vs = wipe σ vs ∧ te σ2 H2 fun y H4 => ∃ acc, H4 D = some (.lst acc) ∧ acc.length < sizeLine ∧ Pv D (i + 1) (upd H4 D (.lst (acc ++ [y]))))
    (hd : ∀ D H', H1 D = none → Pv D n H' → Q (.ref D) H') : tLc (iRng1 ta) g tYes te vs σ H Q := by
  refine hta _ ⟨n, rfl, by omega, by omega, fun D hD => ?_⟩
  rw [show ((n : Int).toNat) = n from rfl]
  refine lc_range (Pv D) (h0 D hD) (fun i H' hi p => ?_) fun H' p => hd D H' hD p
  have q := hs D i H' hi p
  rw [show (0 : Int) + (i : Int) = i by omega]
  simpa only [tYes, if_true] using q
/-- [e for x in xs], the list stays as it is -/
theorem tLcL {tl : TE} {a : Addr} {xs : List V} {H1 : Hp} (Pv : Addr → Nat → Hp → Prop) (htl : ∀ R : VK, R (.ref a) H1 → tl σ H R) (hS : SqL K H1 a xs) (h0 : ∀ D, H1 D = none → Pv D 0 (upd H1 D (.lst [])))
    (hl : ∀ D i H', H1 D = none → Pv D i H' → SqL K H' a xs)
    (hs : ∀ D i x H', H1 D = none → xs[i]? = some x → Pv D i H' → g x (wipe σ vs) H' fun σ2 H2 => wipe σ2 vs = wipe σ vs ∧ te σ2 H2 fun y H4 => ∃ acc, H4 D = some (.lst acc) ∧ acc.length < sizeLine ∧ Pv D (i + 1) (upd H4 D (.lst (acc ++ [y]))))
    (hd : ∀ D H', H1 D = none → Pv D xs.length H' → Q (.ref D) H') : tLc (iList K tl) g tYes te vs σ H Q := by
  refine htl _ ⟨a, rfl, ⟨xs, hS⟩, fun D hD => ?_⟩
  refine lc_list (xs := xs) (Pv D) (h0 D hD) (fun i H' _ p => hl D i H' hD p) (fun i x H' hx p => ?_) fun H' p => hd D H' hD p
  have q := hs D i x H' hD hx p
  simpa only [tYes, if_true] using q
end
/-! the rules whose readings name the written part, with the part given -/
section
variable {X : Cx}
theorem ixL (K : PySem.W.Frag) (h : X.K = K := by rfl) : IxR X (rIxL K) := h ▸ ix_list
theorem ixT (K : PySem.W.Frag) (h : X.K = K := by rfl) : IxR X (rIxT K) := h ▸ ix_tup
theorem lenK (K : PySem.W.Frag) (h : X.K = K := by rfl) : CallR X (.builtin "len") (rLen K) := h ▸ call_len
theorem isiK (K : PySem.W.Frag) (h : X.K = K := by rfl) : CallR X (.builtin "isinstance") (rIsi K) := h ▸ call_isi
theorem fldK (K : PySem.W.Frag) {e : Expr} {f : PySem.Str} {pos : Pos} {ta : TE} (he : PE X e ta) (hb : attributeBase e f X.env (eval e X.env) = eval e X.env := by rfl) (h : X.K = K := by rfl) : PE X (.Attribute e f pos) (tFld K ta f) := h ▸ pe_fld he hb
theorem piL (K : PySem.W.Frag) {tg l : Expr} {tl : TE} (hl : PE X l tl) (h : X.K = K := by rfl) : PI X tg l (iList K tl) := h ▸ pi_list hl
end
end Gd
/-! ### methods in a try's body: by place, by keywords -/
namespace Gd
open PySem PySem.Spec PyProof.Rows L2
section
variable {X : Cx} {CX : CXT} {j k n : Nat} {f C : Addr} {fd : FuncData} {ps ks : List PySem.Str} {sp : Sp} {E : L2.St → XK} {x m : PySem.Str} {p pos apos : Pos} {e o : Expr} {es : List Expr} {kws : List Keyword} {ta : TE} {t tk : TA} {g : List Value → List Value → List Value} {gV : List V → List V → List V}
/-- o.m(e, ..): the wish may depend on the slots -/
def tMethS (C : Addr) (m : PySem.Str) (sp : Sp) (E : L2.St → XK) (ta : TE) (t : TA) : TE := fun σ H Q => ta σ H fun x H1 => ∃ a dx fs, x = .ref a ∧ H1 a = some (.ins C dx fs) ∧ fs.lookup m = none ∧ t σ H1 fun vs H2 => sp (x :: vs) H2 Q (E σ)
theorem pmS {pl : Sem Bool} (he : PE X o ta) (c : Cls X.K C) (hm : Meth X.K C m f) (F : Fn X.prog X.w X.K X.mg X.base k f ps sp) (hr : Room j X.A) (hx : ∀ σ, PassesAt (L2.CX X.prog X.w) X σ (E σ)) (ha : PA X (e :: es) t) (hk : k ≤ j := by decide)
    (hst : starEach (e :: es) X.env = (false, eval e X.env) :: starEach es X.env := by rfl) (hpl : (backTo pos (starEach es X.env)).any (·.1) = false := by rfl)
    (ht : eval (.Call (.Attribute o m apos) (e :: es) [] pos) X.env = (do
      let ov ← eval o X.env
      standAt apos.atName
      let (f, first) ← holding [ov] (getMethod ov m pl)
      callWith pos f first (backTo pos (starEach (e :: es) X.env)) (backToKw pos (keywordEach [] X.env))) := by rfl) :
    PE X (.Call (.Attribute o m apos) (e :: es) [] pos) (tMethS C m sp E ta t) := by
  obtain ⟨fd, F, hb, kp, _⟩ := F
  refine ⟨fun pins s σ H Q I h => PySem.W.methodCall_KW (pl := pl) (thn (he.run pins s σ H _ I h) fun u s1 hh => ?_) ht⟩
  obtain ⟨y, H1, I1, rx, a, dx, fs, ey, ea, l, q⟩ := hh
  subst ey
  obtain rfl : u = Value.ref a := rx
  refine getmeth_ok I1 ea c hm l (PySem.W.callWith_K (first := [.ref a]) (h₀ := X.base) I.ok.mod.kin hm.kp (thn (ha.run pos pins s1 σ H1 _ I1 q) fun us s2 hh => ?_) hst hpl)
  obtain ⟨vs, H2, I2, r, q2⟩ := hh
  exact ⟨I2.kIn, run_fnS (us := .ref a :: us) (vs := .ref a :: vs) F (hr.mono hk) hb (hx σ) I2 (.cons rfl r) q2⟩
theorem run_kwS {pins : List (Addr × Obj)} {σ : L2.St} {H : Hp} {s : Shared} {Q : VK} {us ws : List Value} {vs zs : List V} {E1 : XK} (F : FnOk X.prog X.w X.K X.mg X.base CX k f fd ps sp) (hr : Room k X.A) (hb : KBn X.K fd ps n ks g gV) (hx : PassesAt CX X σ E1)
    (I : Inv X pins σ H s) (r : Vals vs us) (rz : Vals zs ws) (l1 : vs.length = n) (l2 : zs.length = ks.length) (h : sp (gV vs zs) H Q E1) : wpAny (model X.prog X.w) X.A (call (.ref f) us (ks.zip ws)) (EP X pins σ Q) X.xe s := by
  have to := hb.to s us ws I.kIn (r.length.symm.trans l1) (rz.length.symm.trans l2)
  refine wpAny_call (codeAny_mono (F.run X.A X.stack s H ⟨us, ks.zip ws⟩ (g us ws) (gV vs zs) Q E1 hr I.env0 to (hb.rel r rz) h) fun res s' hq => ?_)
  match res, hq with
  | .error e, hq => exact hx pins H s e s' I hq
  | .ok (.ret u), hq => exact I.after hq
/-- o.m(k = v, ..) -/
def tMethKS (C : Addr) (m : PySem.Str) (mm : Nat) (sp : Sp) (gV : List V → List V → List V) (E : L2.St → XK) (ta : TE) (tk : TA) : TE := fun σ H Q => ta σ H fun y H1 => ∃ a dx fs, y = .ref a ∧ H1 a = some (.ins C dx fs) ∧ fs.lookup m = none ∧
  tk σ H1 fun zs H2 => zs.length = mm ∧ sp (gV [.ref a] zs) H2 Q (E σ)
theorem Fn.kbn {K : PySem.W.Frag} {P : Program} {w : World} {mg : PySem.Str → Option Value} {base : Heap} {x qual : PySem.Str} {params : Arguments} {body : List Stmt} {scope : Scope} (F : Fn P w K mg base k f ps sp) (D : ∃ fd, FunD K x qual params body scope [] [] f fd) (n : Nat) (ks : List PySem.Str) (g : {α : Type} → List α → List α → List α)
    (hrel : ∀ {vs zs : List V} {us ws : List Value}, Vals vs us → Vals zs ws → Vals (g vs zs) (g us ws))
    (h : ∀ (kV doc pm : Value) (an : Option Addr) (cdv ct : Value) (us ws : List Value), us.length = n → ws.length = ks.length → bindArgs (PySem.W.fnOf x qual params body scope .none kV doc pm an cdv ct) ⟨us, ks.zip ws⟩ = pure (ps.zip (g us ws))) :
    ∃ fd, FnOk P w K mg base (L2.CX P w) k f fd ps sp ∧ KBn K fd ps n ks (fun us ws => g us ws) (fun vs zs => g vs zs) ∧ PySem.W.keepIn K (.ref f) = true := by
  obtain ⟨fd, F, hb, kp, oc, od, osl, l1⟩ := F
  obtain ⟨fd2, D⟩ := D
  obtain ⟨oc2, od2, osl2, l2⟩ := D.at_
  rw [l1] at l2
  cases l2
  exact ⟨_, F, kbn_of D n ks g hrel h, kp⟩
theorem pmKS {pl : Sem Bool} (he : PE X o ta) (c : Cls X.K C) (hm : Meth X.K C m f) (F : ∃ fd, FnOk X.prog X.w X.K X.mg X.base (L2.CX X.prog X.w) k f fd ps sp ∧ KBn X.K fd ps 1 ks g gV ∧ PySem.W.keepIn X.K (.ref f) = true) (hr : Room j X.A) (hx : ∀ σ, PassesAt (L2.CX X.prog X.w) X σ (E σ)) (hkw : PK X kws tk) (hk : k ≤ j := by decide)
    (hall : (backToKw pos (keywordEach kws X.env)).all (·.1.isSome) = true := by rfl) (hks : (backToKw pos (keywordEach kws X.env)).filterMap (·.1) = ks := by rfl)
    (hpl : ((backTo pos (starEach [] X.env)).any (·.1) || (backToKw pos (keywordEach kws X.env)).any (·.1.isNone)) = false := by rfl)
    (ht : eval (.Call (.Attribute o m apos) [] kws pos) X.env = (do
      let ov ← eval o X.env
      standAt apos.atName
      let (f, first) ← holding [ov] (getMethod ov m pl)
      callWith pos f first (backTo pos (starEach [] X.env)) (backToKw pos (keywordEach kws X.env))) := by rfl) :
    PE X (.Call (.Attribute o m apos) [] kws pos) (tMethKS C m ks.length sp gV E ta tk) := by
  obtain ⟨fd, F, hb, _⟩ := F
  refine ⟨fun pins s σ H Q I h => PySem.W.methodCall_KW (pl := pl) (thn (he.run pins s σ H _ I h) fun u s1 hh => ?_) ht⟩
  obtain ⟨y, H1, I1, rx, a, dx, fs, ey, ea, l, q⟩ := hh
  subst ey
  obtain rfl : u = Value.ref a := rx
  refine getmeth_ok I1 ea c hm l (PySem.W.callWith_KW0 (first := [.ref a]) (h₀ := X.base) I.ok.mod.kin hm.kp hall (thn (hkw.run pos pins s1 σ H1 _ I1 q) fun ws s2 hh => ?_) hpl)
  obtain ⟨zs, H2, I2, rz, l2, q2⟩ := hh
  refine ⟨I2.kIn, ?_⟩
  rw [hks]
  exact run_kwS (us := [.ref a]) (vs := [.ref a]) F (hr.mono hk) hb (hx σ) I2 (.cons rfl .nil) rz rfl l2 q2
end
end Gd
/-! ### isinstance of a caught error that has fields, or none -/
namespace Gd
open PySem PySem.Spec PyProof.Rows L2
def rIsG (K : PySem.W.Frag) (a : Addr) (cls : Value) (d : Option Addr) : List V → Hp → VK → Prop := fun xs H Q => ∃ (c : V) (cv : Value) (b : Bool) (C : Addr), xs = [.ref a, c] ∧ ClsV c cv ∧ cls = .ref C ∧ ExcC K C ∧ PySem.W.kitOne K (.ref C) cv = some b ∧
  (d = none ∨ ∃ (dd : Addr) (fs : List (PySem.Str × V)), d = some dd ∧ H dd = some (.xd fs)) ∧ Q (.bl b) H
theorem call_isG {X : Cx} {a : Addr} {oe : Obj} {cls : Value} {d : Option Addr} {pn : List (Addr × Obj)} (K : PySem.W.Frag) (hz : Zc cls d oe) (hf : ∃ vs, oe.data = .fields vs) (hK : X.K = K := by rfl) : CallR (X.suite a ((a, oe) :: pn)) (.builtin "isinstance") (rIsG K a cls d) := by
  subst hK
  intro pins s σ H xs us Q I r h
  obtain ⟨c, cv, b, C, rfl, hc, ecls, E, e, hd, q⟩ := h
  cases r with
  | cons rx rr =>
    cases rr with
    | cons rt rr =>
      cases rr
      cases rx
      have ec := hc.eq rt
      subst ec
      subst ecls
      obtain ⟨hget, _⟩ := I.pin (a, oe) (List.mem_append.mpr (.inl List.mem_cons_self))
      obtain ⟨vs, hv⟩ := hf
      have fin : ∀ tk, EP (X.suite a ((a, oe) :: pn)) pins σ Q (.bool b) { s with toks := tk } := fun tk => ⟨.bl b, H, I.kept (t' := tk) fun _ _ z => z, rfl, q⟩
      rcases hd with rfl | ⟨dd, fs, rfl, hx⟩
      · have J : PySem.W.InstAt s.heap a oe C none := ⟨hget, hz.1, by unfold PySem.W.notCls; rw [hv] <;> rfl, by rw [hz.2]; trivial⟩
        exact PySem.W.kia_one (PySem.W.handS_kitx_exc E.hg E.hk E.hs E.hd E.ha E.hn E.ht E.hm) I.kIn J e (fun z => nomatch z) fin
      · obtain ⟨mA, hns, _⟩ := (show ObjOk X.prog X.w H s.heap dd (.xd fs) from I.hok dd _ hx)
        obtain ⟨od, ho, _⟩ := lookIn_ns hns
        have J : PySem.W.InstAt s.heap a oe C (some od) := ⟨hget, hz.1, by unfold PySem.W.notCls; rw [hv] <;> rfl, by rw [hz.2]; exact ho⟩
        exact PySem.W.kia_one (PySem.W.kitx_exc (by obtain ⟨cd, h1, _⟩ := PySem.W.any_some E.hd; rw [h1]; rfl) E.hg E.hk E.hs E.ha E.hn E.ht E.hm) I.kIn J e (fun z => nomatch z) fin
/-- the caught error's field -/
theorem pe_xg {X : Cx} {a C : Addr} {oe : Obj} {cls : Value} {d : Option Addr} {pn : List (Addr × Obj)} {e : Expr} {te : TE} {pos : Pos} {n : PySem.Str} (T : XfC X.K C) (hno : PySem.W.findIn X.K (.ref C) n = some none)
    (hz : Zc cls d oe) (hf : ∃ vs, oe.data = .fields vs) (he : PE (X.suite a ((a, oe) :: pn)) e te) (hb : attributeBase e n X.env (eval e X.env) = eval e X.env := by rfl) :
    PE (X.suite a ((a, oe) :: pn)) (.Attribute e n pos) (tXf a cls d C n te) := pe_xf T hno hz hf he hb
end Gd
/-! ### defs around which no repr runs -/
namespace Gd
open PySem PySem.Spec PyProof.Rows L2
def Fg (P : Program) (w : World) (K : PySem.W.Frag) (mg : PySem.Str → Option Value) (base : Heap) (k : Nat) (f : Addr) (ps : List PySem.Str) (sp : Sp) : Prop := ∃ fd, FnG P w K mg base (L2.CX P w) k f fd ps sp ∧ Binds K fd ps [] ∧ PySem.W.keepIn K (.ref f) = true
section
variable {P : Program} {w : World} {K : PySem.W.Frag} {mg : PySem.Str → Option Value} {base : Heap} {x qual : PySem.Str} {params : Arguments} {body : List Stmt} {scope : Scope} {f : Addr} {fd : FuncData} {N : List PySem.Str} {k : Nat} {p q : PySem.Str}
theorem Fg.of1 {f1 : V → Hp → VK → XK → Prop} (F : ∃ fd, FunD K x qual params body scope [] [] f fd) (S : FnScope N [p] scope) (hb : ∀ fd, FunD K x qual params body scope [] [] f fd → Binds K fd [p] [])
    (h : ∀ (cdv : Value) (A : Around) (outer : List Env) (s : Shared) (H : Hp) (a : V) (Q : VK) (E : XK), NoG (cxOf (L2.CX P w) P w K mg base N qual scope f cdv A outer s H E) → Room k (A.deeper (envOfC qual scope s.heap.objs.size f cdv)) → f1 a H Q E →
      ∃ t, PSs (cxOf (L2.CX P w) P w K mg base N qual scope f cdv A outer s H E) body t ∧ t { nx := fun _ H' => Q .non H', rt := Q } (start N [a]) H) : Fg P w K mg base (k + 1) f [p] (sp1 f1) := by
  obtain ⟨fd, F⟩ := F
  refine ⟨fd, fnG F S (fun vs H Q E z => ?_) (fun cdv A outer s H vs Q E hg hr z => ?_), hb fd F, F.kp⟩
  · match vs, z with
    | [_], _ => rfl
  · match vs, z with
    | [a], z => exact h cdv A outer s H a Q E hg hr z
theorem Fg.of2 {f2 : V → V → Hp → VK → XK → Prop} (F : ∃ fd, FunD K x qual params body scope [] [] f fd) (S : FnScope N [p, q] scope) (hb : ∀ fd, FunD K x qual params body scope [] [] f fd → Binds K fd [p, q] [])
    (h : ∀ (cdv : Value) (A : Around) (outer : List Env) (s : Shared) (H : Hp) (a b : V) (Q : VK) (E : XK), NoG (cxOf (L2.CX P w) P w K mg base N qual scope f cdv A outer s H E) → Room k (A.deeper (envOfC qual scope s.heap.objs.size f cdv)) → f2 a b H Q E →
      ∃ t, PSs (cxOf (L2.CX P w) P w K mg base N qual scope f cdv A outer s H E) body t ∧ t { nx := fun _ H' => Q .non H', rt := Q } (start N [a, b]) H) : Fg P w K mg base (k + 1) f [p, q] (sp2 f2) := by
  obtain ⟨fd, F⟩ := F
  refine ⟨fd, fnG F S (fun vs H Q E z => ?_) (fun cdv A outer s H vs Q E hg hr z => ?_), hb fd F, F.kp⟩
  · match vs, z with
    | [_, _], _ => rfl
  · match vs, z with
    | [a, b], z => exact h cdv A outer s H a b Q E hg hr z
end
section
variable {X : Cx} {j k : Nat} {f : Addr} {ps : List PySem.Str} {sp : Sp} {E : XK} {x : PySem.Str} {p pos : Pos} {e : Expr} {es : List Expr} {t : TA}
theorem pcG (F : Fg X.prog X.w X.K X.mg X.base k f ps sp) (gg : NoG X) (hr : Room j X.A) (hm : X.mg x = some (.ref f)) (hx : Passes (L2.CX X.prog X.w) X E) (ha : PA X (e :: es) t) (hk : k ≤ j := by decide) (hg : Gl X x := by rfl)
    (hdb : (x == ("__debug__" : PySem.Str)) = false := by decide) (he : starEach (e :: es) X.env = (false, eval e X.env) :: starEach es X.env := by rfl) (hpl : (backTo pos (starEach es X.env)).any (·.1) = false := by rfl) :
    PE X (.Call (.Name x p) (e :: es) [] pos) (tCall sp [] E t) := by
  obtain ⟨fd, F, hb, kp⟩ := F
  exact pe_callG F gg (hr.mono hk) hg hm kp hb hx ha hdb he hpl
end
end Gd
/-! ### the law's call, its def one that asks that no repr runs around it -/
namespace Gd
open PySem PySem.Spec PyProof.Rows L2
theorem caller_noG : callerA.guards = some [] := rfl
/-- the abstract heap in which the script alone is tracked, and locked -/
def scriptH (a : Addr) (o : Obj) (ns : List Int) : Hp := fun b => if b = a then some (.frz o (.lst (ns.map V.int))) else none
section
variable {P : Program} {w : World} {K : PySem.W.Frag} {mg mb : Str → Option Value} {CX : CXT} {k : Nat} {fa a : Addr} {fd : FuncData} {x : Str} {sp : Sp} {s₁ : Shared} {vs : List Value} {ns : List Int}
/-- the call from an abstract heap H that tracks nothing but (maybe) the script -/
theorem lawG_core (KX : K.In s₁.heap) (hns : s₁.heap.Ns mainGlobals mg) (hb : s₁.heap.Ns builtinsNs mb) (hbb : ∀ x : Str, x ≠ "__name__" → mb x = bootBuiltins x) (hlim : s₁.heap.NoLimit) (hg : s₁.gens = #[])
    (ha : s₁.heap.get? a = some { cls := .type "list", data := .seq vs.toArray }) (hr : Room k callerA)
    (F : ∀ base : Heap, K.In base → base.Ns mainGlobals mg → FnG P w K mg base CX k fa fd [x] sp) (hbind : ∀ (s : Shared) (u : Value), BindsTo s fd ⟨[u], []⟩ [(x, u)])
    (hCX : ∀ H e s', CX [] H s₁ (fun _ _ _ => False) e s' → False)
    (H : Hp) (hO : ∀ b, H b = none ∨ ∃ o xs, H b = some (.frz o (.lst xs))) (ok : HOk P w H s₁.heap) (hA : ∀ b, H b ≠ none → b = a) (hK : H a ≠ none → K.lookup a = none) (hsp : sp [.ref a] H (fun v _ => v = .bl true) fun _ _ _ => False) :
    codeAny (model P w) callerA (.call (.ref fa) ⟨[.ref a], []⟩) (fun r s' => r = .ok (.ret (.bool true)) ∧ OldK s₁.heap s'.heap ∧ s'.os = s₁.os ∧ AllBare s'.gens) s₁ := by
  have off : ∀ {b : Addr} {o : Obj} {es : Array DictEntry} {ep : Nat}, s₁.heap.get? b = some o → o.data = .dict es ep → H b = none := fun {b o es ep} e d => by
    cases q : H b with
    | none => rfl
    | some u =>
      have eb : b = a := hA b (by rw [q]; simp)
      rw [eb, ha] at e
      cases e
      cases d
  have nsB : ∀ {b : Addr} {m : Str → Option Value}, s₁.heap.Ns b m → (hidT s₁.heap H).Ns b m := fun {b m} h => by
    obtain ⟨o, es, ep, e, d, r⟩ := h
    exact ⟨o, es, ep, hidT_get e (off e d), d, r⟩
  have KB : K.In (hidT s₁.heap H) := fun b o e => hidT_get (KX b o e) (by
    cases q : H b with
    | none => rfl
    | some u =>
      have eb : b = a := hA b (by rw [q]; simp)
      rw [eb] at e q
      rw [hK (by rw [q]; simp)] at e
      cases e)
  obtain ⟨mc, l1, l2⟩ := hlim
  have M : Mod K mg (hidT s₁.heap H) := ⟨KB, nsB hns, ⟨mb, nsB hb, hbb⟩, ⟨mc, nsB l1, l2⟩⟩
  have e0 : Env0 P w K mg (hidT s₁.heap H) callerA [] s₁ H := ⟨rfl, M, fun b o e => of_hidT e, Nat.le_of_eq (hidT_size _ _), trivial, fun b hb => absurd (show b ∈ ([] : List Addr) from hb) (by simp), ok, .of_eq hg⟩
  have run := (F _ KB (nsB hns)).run callerA [] s₁ H ⟨[.ref a], []⟩ [.ref a] [.ref a] _ _ caller_noG hr e0 (hbind s₁ (.ref a)) (.cons rfl .nil) hsp
  refine codeAny_mono run fun r s' h => ?_
  match r, h with
  | .error e, h => exact (hCX H e s' h).elim
  | .ok .next, h => exact h.elim
  | .ok .brk, h => exact h.elim
  | .ok .cont, h => exact h.elim
  | .ok (.ret u), h =>
    obtain ⟨v, H', os, bare, un, ok', rv, q⟩ := h
    have q' : v = .bl true := q
    subst q'
    obtain rfl : u = Value.bool true := rv
    refine ⟨rfl, OldK.of_keep fun b o e => ?_, os, bare⟩
    rcases hO b with z | ⟨ob, xs, z⟩
    · exact un.keep b o e z (fun z => absurd (show b ∈ ([] : List Addr) from z) (by simp)) (by simp)
    · obtain ⟨e1, _⟩ := ok b _ z
      obtain ⟨e2, _⟩ := ok' b _ (un.frzs b ob _ z)
      rw [e] at e1
      cases e1
      exact e2
theorem lawG_call (KX : K.In s₁.heap) (hns : s₁.heap.Ns mainGlobals mg) (hb : s₁.heap.Ns builtinsNs mb) (hbb : ∀ x : Str, x ≠ "__name__" → mb x = bootBuiltins x) (hlim : s₁.heap.NoLimit) (hg : s₁.gens = #[])
    (ha : s₁.heap.get? a = some { cls := .type "list", data := .seq vs.toArray }) (hi : IntsAre vs ns) (hl : ns.length ≤ sizeLine) (hr : Room k callerA)
    (F : ∀ base : Heap, K.In base → base.Ns mainGlobals mg → FnG P w K mg base CX k fa fd [x] sp) (hbind : ∀ (s : Shared) (u : Value), BindsTo s fd ⟨[u], []⟩ [(x, u)])
    (hsp : ∀ H : Hp, SqL K H a (ns.map V.int) → sp [.ref a] H (fun v _ => v = .bl true) fun _ _ _ => False) (hCX : ∀ H e s', CX [] H s₁ (fun _ _ _ => False) e s' → False) :
    codeAny (model P w) callerA (.call (.ref fa) ⟨[.ref a], []⟩) (fun r s' => r = .ok (.ret (.bool true)) ∧ OldK s₁.heap s'.heap ∧ s'.os = s₁.os ∧ AllBare s'.gens) s₁ := by
  have rv := vals_ints hi
  have lenV := hi.length
  cases hk : K.lookup a with
  | some o =>
    have e := KX a o hk
    rw [ha] at e
    cases e
    exact lawG_core KX hns hb hbb hlim hg ha hr F hbind hCX (fun _ => none) (fun _ => .inl rfl) (fun b u z => nomatch (show (none : Option HO) = some u from z)) (fun b z => absurd rfl z) (fun z => absurd rfl z)
      (hsp _ (.inr ⟨_, vs.toArray, _, hk, rfl, rfl, rfl, by rw [List.size_toArray, lenV]; exact hl, by simpa using rv⟩))
  | none =>
    have at_ : scriptH a { cls := .type "list", data := .seq vs.toArray } ns a = some (.frz { cls := .type "list", data := .seq vs.toArray } (.lst (ns.map V.int))) := if_pos rfl
    have no : ∀ {b}, b ≠ a → scriptH a { cls := .type "list", data := .seq vs.toArray } ns b = none := fun h => if_neg h
    refine lawG_core KX hns hb hbb hlim hg ha hr F hbind hCX (scriptH a { cls := .type "list", data := .seq vs.toArray } ns) (fun b => ?_) (fun b u z => ?_) (fun b z => ?_) (fun _ => hk) (hsp _ (.inl (.inr ⟨{ cls := .type "list", data := .seq vs.toArray }, at_⟩)))
    · by_cases h : b = a
      · rw [h]; exact .inr ⟨_, _, at_⟩
      · exact .inl (no h)
    · by_cases h : b = a
      · rw [h] at z ⊢
        rw [at_] at z
        cases z
        exact ⟨ha, by rw [List.length_map]; exact hl, vs, _, rv, ha⟩
      · rw [no h] at z; cases z
    · by_cases h : b = a
      · exact h
      · exact absurd (no h) z
/-- a law whose def asks that no repr runs around it -/
theorem walkG {l : PySem.W.OpenLaw} {n k : Nat} {q : Program} {loose : List Str} {XP : (Str → Option Value) → Heap → Prop} {YP : World → Heap → Prop} {d : DefRec} {CX : World → CXT} {x : Str}
    (hn : l.most = some n) (hn2 : n ≤ sizeLine) (hdf : d.params.defaults = []) (hr : Room k callerA)
    (F : ∀ (w : World) (mg : Str → Option Value) (fa : Addr) (h : Heap), YP w h → h.Ns mainGlobals mg → mg d.name = some (.ref fa) →
      ∃ (K : PySem.W.Frag) (fd : FuncData) (sp : Sp), K.In h ∧ (∀ (s : Shared) (u : Value), BindsTo s fd ⟨[u], []⟩ [(x, u)]) ∧
        (∀ (H : Hp) (a : Addr) (ns : List Int), ns.length ≤ n → SqL K H a (ns.map V.int) → sp [.ref a] H (fun v _ => v = .bl true) fun _ _ _ => False) ∧
        ∀ base : Heap, K.In base → base.Ns mainGlobals mg → FnG l.prog w K mg base (CX w) k fa fd [x] sp)
    (hCX : ∀ (w : World) (H : Hp) (s : Shared) (e : Value) (s' : Shared), CX w [] H s (fun _ _ _ => False) e s' → False) :
    PySem.W.WalkO q loose XP YP l.row.toRowW d [] (fun f vs => PySem.call f vs) := by
  refine Att.attach_call hn hdf fun w s₀ s₁ mg mb fa o pm cd doc a vs ns G Y ho hd hcd hmg hobj hints hlen hg => ?_
  obtain ⟨K, fd, sp, KX, hb, hsp, hF⟩ := F w mg fa _ Y G.T.g hmg
  exact lawG_call KX G.T.g G.T.b G.T.builtins G.T.nolimit hg hobj hints (Nat.le_trans hlen hn2) hr hF hb (fun H hS => hsp H a ns hlen hS) fun H e s' => hCX w H s₁ e s'
end
section
variable {P : Program} {w : World} {K : PySem.W.Frag} {mg : Str → Option Value} {base : Heap} {x qual : Str} {params : Arguments} {body : List Stmt} {scope : Scope} {f : Addr} {fd : FuncData} {N : List Str} {k : Nat} {p : Str}
/-- a def of one parameter, its object named -/
theorem fnG1 {f1 : V → Hp → VK → XK → Prop} (F : FunD K x qual params body scope [] [] f fd) (S : FnScope N [p] scope)
    (h : ∀ (cdv : Value) (A : Around) (outer : List Env) (s : Shared) (H : Hp) (a : V) (Q : VK) (E : XK), NoG (cxOf (L2.CX P w) P w K mg base N qual scope f cdv A outer s H E) → Room k (A.deeper (envOfC qual scope s.heap.objs.size f cdv)) → f1 a H Q E →
      ∃ t, PSs (cxOf (L2.CX P w) P w K mg base N qual scope f cdv A outer s H E) body t ∧ t { nx := fun _ H' => Q .non H', rt := Q } (start N [a]) H) : FnG P w K mg base (L2.CX P w) (k + 1) f fd [p] (sp1 f1) := by
  refine fnG F S (fun vs H Q E z => ?_) (fun cdv A outer s H vs Q E hg hr z => ?_)
  · match vs, z with
    | [_], _ => rfl
  · match vs, z with
    | [a], z => exact h cdv A outer s H a Q E hg hr z
end
end Gd
/-! ### try with several clauses `except C as n` -/
namespace Gd
open PySem PySem.Spec PyProof.Rows L2
/-- the ends behind a clause: its name is gone -/
def goneAt (i : Nat) (D : Ends) : Ends := ⟨fun σ H => D.nx (σ.set i none) H, D.rt, fun σ H => D.bk (σ.set i none) H, fun σ H => D.ct (σ.set i none) H⟩
/-- a clause's class and its suite's reading -/
abbrev Clause : Type := Value × (Addr → Value → Option Addr → TS)
/-- the wish about an exception, by the clauses from the first on -/
def wAsMany (K : PySem.W.Frag) (Wout : WX) (i : Nat) (D : Ends) : List Clause → WX
  | [] => Wout
  | k :: r => fun cls d σ H => ∃ b, PySem.W.exmOne K cls k.1 = some b ∧ (b = true → ∀ a, H a = none → k.2 a cls d (goneAt i D) (σ.set i (some (.ref a))) H) ∧ (b = false → wAsMany K Wout i D r cls d σ H)
inductive ClsAs (X : Cx) (n : Str) : List ExceptHandler → List Clause → Prop
  | nil : ClsAs X n [] []
  | cons {x : Str} {c : Value} {ts : Addr → Value → Option Addr → TS} {st : Stmt} {sts : List Stmt} {np hp : Pos} {hds : List ExceptHandler} {l : List Clause} (hc : Names X x c)
      (hs : ∀ (a : Addr) (oe : Obj) (cls : Value) (d : Option Addr) (pn : List (Addr × Obj)), Zc cls d oe → (∃ vs, oe.data = .fields vs) → PSs (X.suite a ((a, oe) :: pn)) (st :: sts) (ts a cls d)) (r : ClsAs X n hds l) :
      ClsAs X n (.ExceptHandler (some (.Name x np)) (some n) (st :: sts) hp :: hds) ((c, ts) :: l)
section
variable {X : Cx} {n : Str} {i : Nat} {Wout : WX} {body : List Stmt} {h₀ : ExceptHandler} {hds : List ExceptHandler} {l : List Clause} {pos : Pos} {tb : WX → TS}
/-- an exception that has landed, and the clauses -/
theorem clauses_go {pins : List (Addr × Obj)} {σ : L2.St} {H : Hp} {B : Heap} {a : Addr} {cls : Value} {d : Option Addr} {sI : Shared} {s : Shared} {D : Ends} (hs : X.stack = X.env :: X.outer) (hf : X.env.frame = some X.env.locals) (hN : X.N.Nodup) (hi : X.N[i]? = some n) (hln : X.env.kindOf n = some .local)
    (tk : Takes X Wout) (J : Inv X pins σ H sI) (nb : ∀ b o, sI.heap.get? b = some o → b ∉ frs X.stack → B.get? b = some o) (up : sI.heap.UpToSlots s.heap) (fl : HandSPX.FlyingZ B (X.env :: X.outer) a (Zc cls d) s.heap) (na : H a = none) (os : s.os = sI.os) (ag : AllBare s.gens) :
    ∀ {hs' : List ExceptHandler} {l' : List Clause}, ClsAs X n hs' l' → wAsMany X.K Wout i D l' cls d σ H → wpAny (model X.prog X.w) X.A (handleBy (.ref a) X.env hs') (SP X pins D) X.xe s := by
  intro hs' l' hk
  have land : ∀ h4, HandSPX.FlyingZ B (X.env :: X.outer) a (Zc cls d) h4 → sI.heap.UpToSlots h4 → Inv X pins σ H { s with heap := h4 } := fun h4 f4 u4 => J.landed nb f4.1 u4 os ag
  have apart : ∀ h4, HandSPX.FlyingZ B (X.env :: X.outer) a (Zc cls d) h4 → a ∉ frs (X.env :: X.outer) := fun h4 f4 hm => by
    obtain ⟨o, vs, e, _, dd⟩ := f4.there
    obtain ⟨_, o', e', hnf⟩ := f4.2.2.1.mem hm
    rw [e] at e'
    cases e'
    exact hnf _ dd
  have nL : a ≠ X.env.locals := fun z => apart _ fl (List.mem_filterMap.mpr ⟨X.env, List.mem_cons_self, by rw [hf, z]⟩)
  have nF : a ∉ X.fs := fun hm => by
    obtain ⟨e, he, q⟩ := List.mem_filterMap.mp hm
    exact apart _ fl (List.mem_filterMap.mpr ⟨e, List.mem_cons_of_mem _ he, q⟩)
  have J3 := land _ fl up
  obtain ⟨oe3, vs3, he3, hz3, hd3⟩ := fl.there
  have S3 := J3.suite he3 hd3 na nL nF
  induction hk with
  | nil =>
    intro w
    refine wpAny_handleBy_nil ?_
    obtain ⟨_, _, _, oe, vs, T, _, _, he, hz, hd, h1, _⟩ := id fl
    unfold PySem.passOn
    refine wpAny_bind (wpAny_field he hd h1 ?_)
    rw [if_neg (by simp : ¬ ((Value.ref T == Value.none) = true)), hf]
    have go : wpAny (model X.prog X.w) X.A (setFlight (.ref a) (some X.env.locals)) (fun _ s4 => wpAny (model X.prog X.w) X.A (throw (.ref a) : Sem Flow) (SP X pins D) X.xe s4) X.xe s :=
      HandSPX.setFlight_upZ fl fun h4 hh4 up4 => wpAny_throw (tk _ _ ⟨a, B, sI, pins, σ, H, cls, d, rfl, J, nb, up.trans up4, .inr (.inr (by rw [hs]; exact hh4)), na, os, ag, w⟩)
    first
      | exact wpAny_bind (wpAny_pure (wpAny_bind go))
      | exact wpAny_bind go
  | @cons x c ts st sts np hp hds2 l2 hc hsu r ih =>
    rintro ⟨b, hb, yes, no⟩
    refine wpAny_handleBy_cons (codeAny_handlers_test ?_) (by intro q; cases q)
    have LT : PySem.W.Looks (model X.prog X.w) s.heap (typeOf (.ref a)) cls := fun A Q E s' kk q => wpAny_typeOf_ref (kk _ _ he3) (by rw [hz3.1]; exact q)
    have LM := PySem.W.exm_one (M := model X.prog X.w) J3.kIn LT hb
    have test : ∀ {Q E : Value → Shared → Prop}, Q c s → wpAny (model X.prog X.w) (X.A.mark (some (.ref a))) (eval (.Name x np) X.env) Q E s := fun {Q E} q => by
      obtain ⟨hg, hdb, hm | ⟨hm, hv, hn⟩⟩ := hc
      · exact ld_glob (X := X.suite a ((a, oe3) :: (X.pn ++ pins))) S3 hg hm q hdb
      · exact ld_blt (X := X.suite a ((a, oe3) :: (X.pn ++ pins))) S3 hg hm hv q hn hdb
    refine test (LM.here ?_)
    cases b with
    | false => exact ih (no rfl)
    | true =>
      refine codeAny_handlers_suite_as ?_
      refine HandSPX.lands_againZ fl fun h4 f4 up4 => ?_
      obtain ⟨oe4, vs4, he4, hz4, hd4⟩ := f4.there
      have S4 := (land _ f4 (up.trans up4)).suite he4 hd4 na nL nF
      refine store_ok (X := X.suite a ((a, oe4) :: (X.pn ++ pins))) (v := .ref a) S4 hN hi (.inl hln) rfl (fun s5 S5 => ?_) (.inr hln)
      refine wpAny_mono ((hsu a oe4 cls d (X.pn ++ pins) hz4 ⟨_, hd4⟩).run [] s5 _ H _ S5 (yes rfl a na)) (fun f s6 z => ?_) (fun _ _ z => False.elim z)
      have gone : ∀ {σ6 : L2.St} {H6 : Hp} {Q : Shared → Prop}, Inv (X.suite a ((a, oe4) :: (X.pn ++ pins))) [] σ6 H6 s6 → (∀ s7, Inv X pins (σ6.set i none) H6 s7 → Q s7) →
          wpAny (model X.prog X.w) X.A (do bindName X.env n .none; unbindBehindTheSuite X.env n hp) (fun _ s7 => Q s7) X.xe s6 := fun S6 q => gone_ok (S6.unsuite J.ok) hN hi hln q
      cases f with
      | ret u =>
        obtain ⟨v6, σ6, H6, S6, r6, q6⟩ := z
        exact gone S6 fun s7 J7 => ⟨_, _, _, J7, r6, q6⟩
      | next =>
        obtain ⟨σ6, H6, S6, q6⟩ := z
        exact gone S6 fun s7 J7 => ⟨_, _, J7, q6⟩
      | brk =>
        obtain ⟨σ6, H6, S6, q6⟩ := z
        exact gone S6 fun s7 J7 => ⟨_, _, J7, q6⟩
      | cont =>
        obtain ⟨σ6, H6, S6, q6⟩ := z
        exact gone S6 fun s7 J7 => ⟨_, _, J7, q6⟩
theorem ps_try_asMany (hs : X.stack = X.env :: X.outer) (hf : X.env.frame = some X.env.locals) (hN : X.N.Nodup) (hi : X.N[i]? = some n) (hln : X.env.kindOf n = some .local) (tk : Takes X Wout)
    (hb : ∀ (W : WX) (pn : List (Addr × Obj)) (xe : Value → Shared → Prop), Takes (X.tr pn xe) W → PassesOwn (model X.prog X.w) X.A X.env xe → PSs (X.tr pn xe) body (tb W))
    (hh : ClsAs X n (h₀ :: hds) l) : PS X (.Try body (h₀ :: hds) [] [] pos) (fun D σ H => tb (wAsMany X.K Wout i D l) D σ H) := by
  refine ⟨fun pins s σ H D I h => wpAny_Try_except ?_⟩
  have ok := I.ok
  have hfr : X.A.frames = some (X.env :: X.outer) := by rw [ok.frames, hs]
  let land : Value → Shared → Prop := fun e s₁ => wpAny (model X.prog X.w) X.A (noteFrame e X.env) (fun _ s₂ => wpAny (model X.prog X.w) X.A (setFlight e none) (fun _ s₃ =>
    wpAny (model X.prog X.w) X.A (handleBy e X.env (h₀ :: hds)) (SP X pins D) X.xe s₃) X.xe s₂) X.xe s₁
  have T : Takes (X.tr (X.pn ++ pins) land) (wAsMany X.K Wout i D l) := fun u s' xx => by
    obtain ⟨a, B, sI, pins', σ', H', cls, d, rfl, J', nb, up, sky, na, os, ag, w⟩ := xx
    have sky' : Sky B (X.env :: X.outer) a (Zc cls d) X.env.locals s'.heap := by rw [← hs]; exact sky
    exact Sky.land Zc.steady hfr hf sky' fun h3 fl3 up3 => clauses_go (s := { s' with heap := h3 }) hs hf hN hi hln tk (J'.ofTry ok) nb (up.trans up3) fl3 na os ag hh w
  refine wpAny_mono ((hb _ (X.pn ++ pins) land T PassesOwn.looking).run [] s σ H D (I.toTry _) h) (fun f s1 z => ?_) (fun e s1 z => z)
  cases f with
  | next =>
    obtain ⟨σ', H', J', q⟩ := z
    exact wpAny_execs_nil ⟨σ', H', J'.ofTry ok, q⟩
  | ret u =>
    obtain ⟨v, σ', H', J', r, q⟩ := z
    exact ⟨v, σ', H', J'.ofTry ok, r, q⟩
  | brk =>
    obtain ⟨σ', H', J', q⟩ := z
    exact ⟨σ', H', J'.ofTry ok, q⟩
  | cont =>
    obtain ⟨σ', H', J', q⟩ := z
    exact ⟨σ', H', J'.ofTry ok, q⟩
end
end Gd
/-! ### a def whose first statement is super().__init__(..) -/
namespace Gd
open PySem PySem.Spec PyProof.Rows L2 NdefX
/-- what of the text super() asks in the def at f (its class D, its class cell cc, its first parameter n0) -/
structure SupC (P : Program) (K : PySem.W.Frag) (mg : Str → Option Value) (F : NF) (f cc D : Addr) (n0 : Str) (fd : FuncData) : Prop where
  fn : ∃ oc od doc pm ctv osl, fd = F.fd doc pm ctv ∧ K.lookup f = some ⟨oc, od, .func fd, osl⟩
  cl : F.cl = [(("__class__" : Str), cc)]
  ar : (F.params.posonlyargs ++ F.params.args).head?.map (·.arg) = some n0
  ks : F.scope.names.lookup ("super" : Str) = some .globalImplicit
  kc : F.scope.names.lookup ("__class__" : Str) = some .free
  ka : F.scope.names.lookup n0 = some .local
  kind : F.scope.kind = .function
  code : ∃ ccl cdd vs ccs file tf, K.lookup F.c = some ⟨ccl, cdd, .fields vs, ccs⟩ ∧ vs[2]? = some (.str file tf) ∧ ((P.main.file : Str) == file) = true
  cdi : PySem.W.codeIn K (.ref F.c) F.qual = true
  cell : ∃ cl cld csl, K.lookup cc = some ⟨cl, cld, .cell (some (.ref D)), csl⟩
  D : (PySem.W.clsIn K D).isSome = true
  top : (P.main.scope.names.lookup ("super" : Str)).isSome = false
  mg : mg "super" = none
  ho : PySem.W.nsIn K cStatics "thirdparty.any" = some none
/-- the method that super() finds from D on, in an instance of C -/
structure SupM (K : PySem.W.Frag) (C D : Addr) (name : Str) (f2 : Addr) : Prop where
  sub : PySem.W.mroIn K C (.ref D) = some true
  at_ : PySem.W.ks_superIn K C D name = some (some (.ref f2))
  ty : PySem.W.typeIn K (.ref f2) = some (.type "function")
  fi : PySem.W.fnIn K f2 = true
theorem boot_super : bootBuiltins "super" = some (.type "super") := by decide +kernel
section
variable {P : Program} {w : World} {K : PySem.W.Frag} {mg : Str → Option Value} {base : Heap} {CX : CXT} {N : List Str} {F : NF} {f cc D C f2 x dx : Addr} {n0 : Str} {fd : FuncData} {A : Around} {outer : List Env} {s0 : Shared} {H0 : Hp} {E : XK}
theorem clsIn_get {h : Heap} (X : K.In h) {cdD : ClassData} (hD : PySem.W.clsIn K D = some cdD) : ∃ oD, h.get? D = some oD ∧ oD.data = .cls cdD := by
  unfold PySem.W.clsIn at hD
  split at hD
  · rename_i c d cd' sl ho
    cases hD
    exact ⟨_, X _ _ ho, rfl⟩
  · cases hD
theorem super_first {σ : L2.St} {H : Hp} {s : Shared} {p0 p1 p2 p3 p4 : Pos} {e : Expr} {es : List Expr} {ta : TA} {spI : Sp} {EI : XK} {fs : List (Str × V)} {name : Str} {k : Nat} {Q' : Hp → Prop}
    (S : SupC P K mg F f cc D n0 fd) (M : SupM K C D name f2) (Fi : FnR P w K mg base (L2.CX P w) k f2 spI) (hr : Room k (A.deeper (envF F f s0.heap.objs.size))) (hx : Passes (L2.CX P w) (ncx CX P w K mg base N F f A outer s0 H0 E) EI)
    (ha : PA (ncx CX P w K mg base N F f A outer s0 H0 E) (e :: es) ta) (I : Inv (ncx CX P w K mg base N F f A outer s0 H0 E) [] σ H s) (hN : N[0]? = some n0) (hσ : σ[0]? = some (some (.ref x))) (hi : H x = some (.ins C dx fs))
    (h : ta σ H fun vs H1 => spI (.ref x :: vs) H1 (fun v H2 => Q' H2) EI) (hnc : (name == ("__class__" : Str)) = false)
    (hst : starEach (e :: es) (envF F f s0.heap.objs.size) = (false, eval e (envF F f s0.heap.objs.size)) :: starEach es (envF F f s0.heap.objs.size)) (hpl : (backTo p3 (starEach es (envF F f s0.heap.objs.size))).any (·.1) = false)
    (hin : interactive (envF F f s0.heap.objs.size) = false) (hsw : swapsWith (.Call (.Attribute (.Call (.Name "super" p0) [] [] p1) name p2) (e :: es) [] p3) none p4.line (envF F f s0.heap.objs.size) = pure false)
    {pl : Sem Bool} (hev : eval (.Call (.Attribute (.Call (.Name "super" p0) [] [] p1) name p2) (e :: es) [] p3) (envF F f s0.heap.objs.size) = (do
      let ov ← attributeBase (.Call (.Name "super" p0) [] [] p1) name (envF F f s0.heap.objs.size) (eval (.Call (.Name "super" p0) [] [] p1) (envF F f s0.heap.objs.size))
      standAt p2.atName
      let (g, first) ← holding [ov] (getMethod ov name pl)
      callWith p3 g first (backTo p3 (starEach (e :: es) (envF F f s0.heap.objs.size))) [])) :
    PySem.wpAt (model P w) (A.deeper (envF F f s0.heap.objs.size)) (.func F.body (envF F f s0.heap.objs.size)) (exec (.Expr (.Call (.Attribute (.Call (.Name "super" p0) [] [] p1) name p2) (e :: es) [] p3) p4) (envF F f s0.heap.objs.size))
      (fun fl s' => fl = .next ∧ ∃ H', Inv (ncx CX P w K mg base N F f A outer s0 H0 E) [] σ H' s' ∧ Q' H') (ncx CX P w K mg base N F f A outer s0 H0 E).xe s := by
  obtain ⟨oc, od, doc, pm, ctv, osl, rfl, hf⟩ := S.fn
  obtain ⟨ar, har, hae⟩ := Option.map_eq_some_iff.mp S.ar
  obtain ⟨ccl, cdd, vs, ccs, file, tf, hc1, hc2, hc3⟩ := S.code
  obtain ⟨cl, cld, csl, hcell⟩ := S.cell
  obtain ⟨cdD, hD⟩ := Option.isSome_iff_exists.mp S.D
  obtain ⟨oD, hD1, hD2⟩ := clsIn_get I.kIn hD
  obtain ⟨mA, O, rr, _, _, _⟩ := ins_get I.hok hi
  obtain ⟨odx, J, hl⟩ := O.look
  obtain ⟨m, hns, hvar⟩ := I.loc
  have hka : (ncx CX P w K mg base N F f A outer s0 H0 E).env.kindOf n0 = some .local := S.ka
  obtain ⟨u, ru, lu⟩ := hvar 0 n0 (.ref x) hN hσ (.inl S.ka)
  obtain rfl : u = Value.ref x := ru
  have hm0 : m n0 = some (.ref x) := by
    rcases lu with ⟨_, z⟩ | ⟨z, _⟩
    · exact z
    · rcases z with z | z
      · rw [hka] at z; cases z
      · rw [hka] at z; cases z
  have KX := I.kIn
  obtain ⟨hh, g, d, t, os⟩ := s
  refine ks_wpAt_Expr_any ?_ hin hsw
  refine ks_wpAt_MethodCall ?_ hev
  refine ks_wpAt_super_base (env := envF F f s0.heap.objs.size) S.ks S.kc hnc rfl (KX _ _ hf) rfl har rfl (KX _ _ hc1) rfl hc2 hc3 S.top ?_
  obtain ⟨mb, hb1, hb2⟩ := I.mod.blt
  refine PySem.W.ks_loadName_global S.kind S.ks (Calls.loadGlobal_builtin (env := envF F f s0.heap.objs.size) (I.mod.glob.keeps I.bk) S.mg (hb1.keeps I.bk) ((hb2 _ (by decide)).trans boot_super) ⟨rfl, ?_⟩)
  refine wpAny_loadName_free S.kind S.kc (by show F.cl.lookup _ = _; rw [S.cl]; rfl) ⟨_, KX _ _ hcell, rfl⟩ ?_
  rw [hae]
  refine wpAny_loadName_local S.kind S.ka hns hm0 ?_
  refine ks_wpAny_isType_cls hD1 hD2 ⟨rfl, ?_⟩
  refine ks_wpAny_call_super hD1 hD2 J.at_ J.cls (fun c e => ?_) (PySem.W.looks_mroIn KX M.sub) (fun h' e k => ?_)
  · have := J.no
    unfold PySem.W.notCls at this
    rw [e] at this
    exact Bool.noConfusion this
  have I1 := ClX.pin_new (t' := t) (a := hh.objs.size) I k (Nat.le_refl _) e (fun v z => nomatch z)
  have KX1 := I1.kIn
  have hat := M.at_
  cases hc : PySem.W.clsIn K C with
  | none => unfold PySem.W.ks_superIn at hat; rw [hc] at hat; cases hat
  | some cd =>
    unfold PySem.W.ks_superIn at hat
    rw [hc] at hat
    obtain ⟨of, hof, hofc⟩ : ∃ of, h'.get? f2 = some of ∧ of.cls = .type "function" := by
      have ht' : (K.lookup f2).map (·.cls) = some (.type "function") := M.ty
      cases z : K.lookup f2 with
      | none => rw [z] at ht'; cases ht'
      | some of => rw [z] at ht'; exact ⟨of, KX1 _ _ z, Option.some.inj ht'⟩
    refine ks_wpAny_getMethod_super e (PySem.W.looks_opaque KX1 S.ho) (l₀ := cd.mro) (fun A Q E s k q => wpAny_bind ((PySem.W.looks_clsIn KX1 hc) A _ E s k (wpAny_pure q))) rfl KX1 hat hof hofc (PySem.W.ks_ne KX J hc) hnc ?_
    have I2 := ClX.pin_new (t' := t + 1) (a := h'.objs.size) (o := PySem.W.methodObj (.ref f2) (.ref x)) (h' := h'.push (PySem.W.methodObj (.ref f2) (.ref x))) I1 (fun _ _ z => Heap.get?_push_of_some _ z) (Nat.le_refl _) (Heap.get?_push_at rfl rfl) (fun v z => nomatch z)
    have hq := ClX.pin_at I2
    have hL := (I2.pin _ (List.mem_append_right _ List.mem_cons_self)).2.2.1
    have hbn : base.get? h'.objs.size = none := ClX.base_none I1 (Nat.le_refl _)
    refine PySem.W.callWith_M (K := K) (h₀ := base) (first := []) I2.ok.mod.kin (news_at hL hbn hq) List.mem_cons_self M.fi (thn (ha.run p3 _ _ σ H _ I2 h) fun us s3 ⟨vs, H1, I3, rv, q2⟩ => ⟨⟨ClX.pin_at I3, I3.kIn⟩, ?_⟩) hst hpl
    refine wpAny_mono (wpAny_call (PySem.W.method_call (ClX.pin_at I3) (run_fnR (X := ncx CX P w K mg base N F f A outer s0 H0 E) (us := .ref x :: us) (vs := .ref x :: vs) Fi hr hx I3 (.cons rfl rv) q2))) (fun v s' z => ?_) fun _ _ z => z
    obtain ⟨v, H2, I4, _, q4⟩ := z
    exact ⟨rfl, H2, ClX.unpin (ClX.unpin I4), q4⟩
end
section
variable {P : Program} {w : World} {K : PySem.W.Frag} {mg : Str → Option Value} {base : Heap} {CX : CXT} {N ps : List Str} {F : NF} {f cc D f2 : Addr} {n0 : Str} {fd : FuncData} {k : Nat} {sp spI : Sp}
theorem cells_sup (S : SupC P K mg F f cc D n0 fd) {A : Around} {outer : List Env} {s : Shared} {H : Hp} (e0 : Env0 P w K mg base A outer s H) : CellsAt F.cl [("__class__" : Str)] [some (.ref D)] s.heap H := by
  obtain ⟨cl, cld, csl, hcell⟩ := S.cell
  have hb := e0.mod.kin _ _ hcell
  have hs := (e0.bs _ _ hb)
  have one : ∀ y c, F.cl.lookup y = some c → y = "__class__" ∧ c = cc := fun y c h => by
    rw [S.cl] at h
    by_cases hy : y = "__class__"
    · subst hy
      exact ⟨rfl, (Option.some.inj h).symm⟩
    · exfalso
      have : ([(("__class__" : Str), cc)] : List (Str × Addr)).lookup y = none := by
        show (match y == "__class__" with | true => some cc | false => none) = none
        rw [show (y == ("__class__" : Str)) = false from by simpa using hy]
      rw [this] at h; cases h
  refine ⟨rfl, fun y c h => ?_, fun y z c h1 h2 => (one y c h1).1.trans (one z c h2).1.symm, fun i y h => ?_⟩
  · obtain ⟨_, rfl⟩ := one y c h
    exact ⟨hs.2, _, _, hs.1, rfl⟩
  · match i, h with
    | 0, h =>
      obtain rfl : "__class__" = y := Option.some.inj h
      refine ⟨cc, by rw [S.cl]; rfl, fun v hv => ?_⟩
      obtain rfl : V.ref D = v := Option.some.inj (Option.some.inj hv)
      exact ⟨.ref D, rfl, _, hs.1, rfl⟩
/-- THE RULE for such a def: its first statement calls the def at f2 by super() -/
theorem fnSuper {e : Expr} {es : List Expr} {rest : List Stmt} {p0 p1 p2 p3 p4 : Pos} {name : Str} {pl : Sem Bool} (S : SupC P K mg F f cc D n0 fd) (SC : NScope N ps [("__class__" : Str)] F.scope) (hN : N[0]? = some n0)
    (hbd : F.body = .Expr (.Call (.Attribute (.Call (.Name "super" p0) [] [] p1) name p2) (e :: es) [] p3) p4 :: rest) (hnc : (name == ("__class__" : Str)) = false)
    (hst : ∀ L, starEach (e :: es) (envF F f L) = (false, eval e (envF F f L)) :: starEach es (envF F f L)) (hpl : ∀ L, (backTo p3 (starEach es (envF F f L))).any (·.1) = false)
    (hin : ∀ L, interactive (envF F f L) = false) (hsw : ∀ L, swapsWith (.Call (.Attribute (.Call (.Name "super" p0) [] [] p1) name p2) (e :: es) [] p3) none p4.line (envF F f L) = pure false)
    (hev : ∀ L, eval (.Call (.Attribute (.Call (.Name "super" p0) [] [] p1) name p2) (e :: es) [] p3) (envF F f L) = (do
      let ov ← attributeBase (.Call (.Name "super" p0) [] [] p1) name (envF F f L) (eval (.Call (.Name "super" p0) [] [] p1) (envF F f L))
      standAt p2.atName
      let (g, first) ← holding [ov] (getMethod ov name pl)
      callWith p3 g first (backTo p3 (starEach (e :: es) (envF F f L))) []))
    (Fi : FnR P w K mg base (L2.CX P w) k f2 spI) (len : ∀ vs H Q E, sp vs H Q E → vs.length = ps.length)
    (hbody : ∀ (A : Around) (outer : List Env) (s : Shared) (H : Hp) (vs : List V) (Q : VK) (E : XK), Room k (A.deeper (envF F f s.heap.objs.size)) → sp vs H Q E →
      ∃ ta t x C dx fs, vs[0]? = some (.ref x) ∧ H x = some (.ins C dx fs) ∧ SupM K C D name f2 ∧ PA (ncx (L2.CX P w) P w K mg base N F f A outer s H E) (e :: es) ta ∧ PSs (ncx (L2.CX P w) P w K mg base N F f A outer s H E) rest t ∧ ∃ EI, Passes (L2.CX P w) (ncx (L2.CX P w) P w K mg base N F f A outer s H E) EI ∧
        ta (startF N vs [some (.ref D)]) H fun ws H1 => spI (.ref x :: ws) H1 (fun _ H2 => t { nx := fun _ H' => Q .non H', rt := Q } (startF N vs [some (.ref D)]) H2) EI) :
    FnOk P w K mg base (L2.CX P w) (k + 1) f fd ps sp := by
  refine ⟨len, fun A outer s H args us vs Q E hr e0 hbn r hsp => ?_⟩
  obtain ⟨oc, od, doc, pm, ctv, osl, rfl, hf⟩ := S.fn
  have KX : K.In s.heap := e0.mod.kin.keeps fun b o e => (e0.bs b o e).1
  have hl := len _ _ _ _ hsp
  have lim : s.heap.NoLimit := e0.mod.nolimit.keeps fun b o e => (e0.bs b o e).1
  refine ks_codeAny_call_defAt (fd := F.fd doc pm ctv) (body := F.body) (binds := ps.zip us) hr.depth (KX _ _ hf) rfl lim (PySem.W.codeRec_of KX S.cdi) rfl hbn SC.nocell (fun ⟨n, _⟩ hy => SC.par n (List.of_mem_zip hy).1) (fun h₁ hns kp => ?_) SC.co SC.gen SC.kind
  obtain ⟨ta, t, x, C, dx, fs, hv0, hi, M, ha, ht, EI, hx, hq⟩ := hbody A outer s H vs Q E (hr.deeper _) hsp
  have I : Inv (ncx (L2.CX P w) P w K mg base N F f A outer s H E) [] (startF N vs [some (.ref D)]) H { s with heap := h₁, toks := s.toks + (ps.zip us).length } := inv_startN SC hr.hd e0 hl r (cells_sup S e0) hns kp
  have hσ : (startF N vs [some (.ref D)])[0]? = some (some (.ref x)) := by
    unfold startF
    match vs, hv0 with
    | v :: _, hv0 =>
      obtain rfl : v = V.ref x := Option.some.inj hv0
      rfl
  show PySem.wpAt (model P w) (A.deeper (envF F f s.heap.objs.size)) (.func F.body (envF F f s.heap.objs.size)) (execs F.body (envF F f s.heap.objs.size)) _ _ _
  have fst := super_first (p0 := p0) (p1 := p1) (p2 := p2) (p3 := p3) (p4 := p4) S M Fi (hr.deeper _) hx ha I hN hσ hi hq hnc (hst _) (hpl _) (hin _) (hsw _) (hev _)
  have ex : ∀ b, F.body = b → PySem.wpAt (model P w) (A.deeper (envF F f s.heap.objs.size)) (.func F.body (envF F f s.heap.objs.size)) (execs b (envF F f s.heap.objs.size))
      (fun fl s' => CR (L2.CX P w) outer P w H s Q E (.ok (.ret (match fl with | .ret v => v | _ => .none))) s') (ncx (L2.CX P w) P w K mg base N F f A outer s H E).xe { s with heap := h₁, toks := s.toks + (ps.zip us).length } := by
    intro b hb
    rw [hbd] at hb
    subst hb
    refine ks_wpAt_execs_cons (ks_wpAt_mono fst (fun fl s' z => ?_) fun _ _ z => z)
    obtain ⟨rfl, H', I', q⟩ := z
    refine wpAt_of_wpAny (wpAny_mono (ht.run [] s' _ H' _ I' q) (fun fl s2 hs => ?_) fun _ _ z => z)
    have fin : ∀ {σ' : L2.St} {H2 : Hp} {v : V} {u : Value}, Inv (ncx (L2.CX P w) P w K mg base N F f A outer s H E) [] σ' H2 s2 → L2.RelV v u → Q v H2 → CE outer P w H s Q u s2 :=
      fun {σ' H2 v u} J rv q => ⟨v, H2, J.os, J.bare, J.base, J.hok, rv, q⟩
    cases fl with
    | ret u =>
      obtain ⟨v, σ', H2, J, rv, q⟩ := hs
      exact fin J rv q
    | next =>
      obtain ⟨σ', H2, J, q⟩ := hs
      exact fin (v := V.non) (u := Value.none) J rfl q
    | brk =>
      obtain ⟨_, _, _, q⟩ := hs
      exact False.elim q
    | cont =>
      obtain ⟨_, _, _, q⟩ := hs
      exact False.elim q
  exact ex F.body rfl
end
end Gd
/-! ### a class that compares by identity, read off the text -/
namespace Gd
open PySem PySem.Spec PyProof.Rows L2
def nsOkB (K : PySem.W.Frag) (N : Addr) : Bool := match K.lookup N with
  | some ⟨_, _, .dict es _, _⟩ => es.toList.all (fun e => match e.key with
      | .str _ _ => true
      | _ => false) && ((nsFind es "__eq__").isNone && (nsFind es "__ne__").isNone)
  | _ => false
theorem ns_okB {K : PySem.W.Frag} {N : Addr} (h : nsOkB K N = true) : ∃ oN, K.lookup N = some oN ∧ ∀ hp : Heap, hp.get? N = some oN → ∃ mN, hp.Ns N mN ∧ mN "__eq__" = none ∧ mN "__ne__" = none := by
  unfold nsOkB at h
  cases q : K.lookup N with
  | none => rw [q] at h; cases h
  | some o =>
    obtain ⟨c, d, dt, sl⟩ := o
    rw [q] at h
    cases dt with
    | dict es ep =>
      have h' : (es.toList.all (fun e => match e.key with
        | .str _ _ => true
        | _ => false) && ((nsFind es "__eq__").isNone && (nsFind es "__ne__").isNone)) = true := h
      simp only [Bool.and_eq_true, List.all_eq_true, Option.isNone_iff_eq_none] at h'
      obtain ⟨h1, h2, h3⟩ := h'
      refine ⟨_, rfl, fun hp hg => ⟨nsFind es, ⟨_, es, ep, hg, rfl, fun e he => ?_, fun _ => rfl⟩, h2, h3⟩⟩
      have h4 := h1 e (Array.mem_toList_iff.mpr he)
      cases hk : e.key with
      | str n t => exact ⟨n, t, rfl⟩
      | _ => rw [hk] at h4; cases h4
    | _ => cases h
theorem cmpC_of {K : PySem.W.Frag} {C : Addr} (nm q : Str) (N : Addr) (bs : List Value) (hdct : Bool) (sn : List Str) (sub : List Value) (ab : Bool) (col : Option Bool) (dd : Option Addr) (k0 k1 k2 k3 k5 : Option Value) (newId : String)
    (h1 : K.lookup C = some (excClassObj nm q C N bs [.type "object"] hdct sn sub ab col dd k0 k1 k2 k3 k5 newId)) (h2 : nsOkB K N = true) : CmpC K C := by
  obtain ⟨oN, h3, h4⟩ := ns_okB h2
  exact ⟨nm, q, N, bs, hdct, sn, sub, ab, col, dd, k0, k1, k2, k3, k5, newId, oN, #[], 0, h1, h3, h4⟩
end Gd
namespace Gd
open PySem PySem.Spec PyProof.Rows L2
abbrev PW : Program := PySem.Challenge.pw_coverstore_k91_disks
def top (i : Nat) : Stmt := PW.main.body.getD i (.Pass ⟨0, 0, 0, 0⟩)
abbrev a_law : Addr := 3100
abbrev s_law : Stmt := top 256
abbrev a__law_pot : Addr := 3008
abbrev s__law_pot : Stmt := top 242
abbrev a__law_take : Addr := 3015
abbrev s__law_take : Stmt := top 243
abbrev a__law_pick : Addr := 3022
abbrev s__law_pick : Stmt := top 244
abbrev a__law_page : Addr := 3027
abbrev s__law_page : Stmt := top 245
abbrev a__law_is_page : Addr := 3034
abbrev s__law_is_page : Stmt := top 246
abbrev a__law_number : Addr := 3041
abbrev s__law_number : Stmt := top 247
abbrev a__law_is_count : Addr := 3048
abbrev s__law_is_count : Stmt := top 248
abbrev a__law_told : Addr := 3055
abbrev s__law_told : Stmt := top 249
abbrev a__law_write_right : Addr := 3062
abbrev s__law_write_right : Stmt := top 250
abbrev a__law_crash_right : Addr := 3069
abbrev s__law_crash_right : Stmt := top 251
abbrev a__law_spoil_right : Addr := 3076
abbrev s__law_spoil_right : Stmt := top 252
abbrev a__law_state_right : Addr := 3081
abbrev s__law_state_right : Stmt := top 253
abbrev a__law_named_right : Addr := 3088
abbrev s__law_named_right : Stmt := top 254
abbrev a__law_right : Addr := 3095
abbrev s__law_right : Stmt := top 255
abbrev a_is_integer : Addr := 703
abbrev s_is_integer : Stmt := top 42
abbrev a_require_page : Addr := 792
abbrev s_require_page : Stmt := top 57
abbrev c_Disk : Addr := 866
abbrev a_Disk___len__ : Addr := 813
abbrev s_Disk___len__ : Stmt := inClass (top 58) 2
abbrev a_Disk_pages : Addr := 828
abbrev s_Disk_pages : Stmt := inClass (top 58) 4
abbrev a_Disk_write : Addr := 835
abbrev s_Disk_write : Stmt := inClass (top 58) 5
abbrev a_Disk_crash_after : Addr := 842
abbrev s_Disk_crash_after : Stmt := inClass (top 58) 6
abbrev a_Disk_restarted : Addr := 849
abbrev s_Disk_restarted : Stmt := inClass (top 58) 7
abbrev a_Disk_spoil : Addr := 856
abbrev s_Disk_spoil : Stmt := inClass (top 58) 8
abbrev a_Disk_keep_first : Addr := 863
abbrev s_Disk_keep_first : Stmt := inClass (top 58) 9
abbrev p_Disk_has_crashed : Addr := 821
abbrev a_Disk_has_crashed : Addr := 820
abbrev s_Disk_has_crashed : Stmt := inClass (top 58) 3
abbrev a_Disk___init__ : Addr := 806
abbrev s_Disk___init__ : Stmt := inClass (top 58) 1
abbrev c_InvalidPage : Addr := 336
abbrev a_InvalidPage___init__ : Addr := 333
abbrev s_InvalidPage___init__ : Stmt := inClass (top 18) 0
abbrev c_InvalidPlace : Addr := 127
abbrev a_InvalidPlace___init__ : Addr := 124
abbrev s_InvalidPlace___init__ : Stmt := inClass (top 7) 0
abbrev c_InvalidCount : Addr := 146
abbrev a_InvalidCount___init__ : Addr := 143
abbrev s_InvalidCount___init__ : Stmt := inClass (top 8) 0
abbrev c_CoverError : Addr := 31
abbrev c_Crashed : Addr := 647
abbrev a_is_bits : Addr := 710
abbrev s_is_bits : Stmt := top 43
abbrev a_require_bits : Addr := 729
abbrev s_require_bits : Stmt := top 46
abbrev a_check_sum : Addr := 2826
abbrev s_check_sum : Stmt := top 225
abbrev a_record_text : Addr := 2833
abbrev s_record_text : Stmt := top 226
abbrev a_pages_of : Addr := 2838
abbrev s_pages_of : Stmt := top 227
abbrev a_bits_body : Addr := 2850
abbrev s_bits_body : Stmt := top 229
abbrev a_integer_in : Addr := 2877
abbrev s_integer_in : Stmt := top 234
abbrev a_bits_in : Addr := 3001
abbrev s_bits_in : Stmt := top 240
abbrev c_Base : Addr := 1611
abbrev a_Base_tables : Addr := 1515
abbrev s_Base_tables : Stmt := inClass (top 102) 9
abbrev p_Base_bits : Addr := 1471
abbrev a_Base_bits : Addr := 1470
abbrev s_Base_bits : Stmt := inClass (top 102) 3
abbrev p_Base_version : Addr := 1479
abbrev a_Base_version : Addr := 1478
abbrev s_Base_version : Stmt := inClass (top 102) 4
abbrev a_Base___init__ : Addr := 1463
abbrev s_Base___init__ : Stmt := inClass (top 102) 2
abbrev c_Keeper : Addr := 2503
abbrev a_Keeper___init__ : Addr := 2395
abbrev s_Keeper___init__ : Stmt := inClass (top 207) 0
abbrev c_Store : Addr := 2817
abbrev a_Store_tables : Addr := 2704
abbrev s_Store_tables : Stmt := inClass (top 211) 6
abbrev p_Store_bits : Addr := 2666
abbrev a_Store_bits : Addr := 2665
abbrev s_Store_bits : Stmt := inClass (top 211) 1
abbrev p_Store_version : Addr := 2674
abbrev a_Store_version : Addr := 2673
abbrev s_Store_version : Stmt := inClass (top 211) 2
abbrev a_Store___init__ : Addr := 2658
abbrev s_Store___init__ : Stmt := inClass (top 211) 0
abbrev c_NextRecord : Addr := 2907
abbrev a_NextRecord_take_pages : Addr := 2904
abbrev s_NextRecord_take_pages : Stmt := inClass (top 238) 1
abbrev a_NextRecord___init__ : Addr := 2899
abbrev s_NextRecord___init__ : Stmt := inClass (top 238) 0
abbrev c_DurableStore : Addr := 2992
abbrev a_DurableStore_write_record : Addr := 2944
abbrev s_DurableStore_write_record : Stmt := inClass (top 239) 2
abbrev p_DurableStore_recovered : Addr := 2936
abbrev a_DurableStore_recovered : Addr := 2934
abbrev s_DurableStore_recovered : Stmt := inClass (top 239) 1
abbrev a_DurableStore___init__ : Addr := 2927
abbrev s_DurableStore___init__ : Stmt := inClass (top 239) 0
abbrev cc_DurableStore : Addr := 2915
abbrev nf_DurableStore___init__ : NdefX.NF := ⟨"__init__", "DurableStore.__init__", defArgs s_DurableStore___init__, defBody s_DurableStore___init__, defScope s_DurableStore___init__, [("__class__", cc_DurableStore)], 2926⟩
/-- what the walk asks of the written part -/
structure Txt (K : PySem.W.Frag) (mg : PySem.Str → Option Value) : Prop where
  F_law : ∃ fd, FunD K "law" "law" (defArgs s_law) (defBody s_law) (defScope s_law) [] [] a_law fd
  g_law : mg "law" = some (.ref a_law)
  F__law_pot : ∃ fd, FunD K "_law_pot" "_law_pot" (defArgs s__law_pot) (defBody s__law_pot) (defScope s__law_pot) [] [] a__law_pot fd
  g__law_pot : mg "_law_pot" = some (.ref a__law_pot)
  F__law_take : ∃ fd, FunD K "_law_take" "_law_take" (defArgs s__law_take) (defBody s__law_take) (defScope s__law_take) [] [] a__law_take fd
  g__law_take : mg "_law_take" = some (.ref a__law_take)
  F__law_pick : ∃ fd, FunD K "_law_pick" "_law_pick" (defArgs s__law_pick) (defBody s__law_pick) (defScope s__law_pick) [] [] a__law_pick fd
  g__law_pick : mg "_law_pick" = some (.ref a__law_pick)
  F__law_page : ∃ fd, FunD K "_law_page" "_law_page" (defArgs s__law_page) (defBody s__law_page) (defScope s__law_page) [] [] a__law_page fd
  g__law_page : mg "_law_page" = some (.ref a__law_page)
  F__law_is_page : ∃ fd, FunD K "_law_is_page" "_law_is_page" (defArgs s__law_is_page) (defBody s__law_is_page) (defScope s__law_is_page) [] [] a__law_is_page fd
  g__law_is_page : mg "_law_is_page" = some (.ref a__law_is_page)
  F__law_number : ∃ fd, FunD K "_law_number" "_law_number" (defArgs s__law_number) (defBody s__law_number) (defScope s__law_number) [] [] a__law_number fd
  g__law_number : mg "_law_number" = some (.ref a__law_number)
  F__law_is_count : ∃ fd, FunD K "_law_is_count" "_law_is_count" (defArgs s__law_is_count) (defBody s__law_is_count) (defScope s__law_is_count) [] [] a__law_is_count fd
  g__law_is_count : mg "_law_is_count" = some (.ref a__law_is_count)
  F__law_told : ∃ fd, FunD K "_law_told" "_law_told" (defArgs s__law_told) (defBody s__law_told) (defScope s__law_told) [] [] a__law_told fd
  g__law_told : mg "_law_told" = some (.ref a__law_told)
  F__law_write_right : ∃ fd, FunD K "_law_write_right" "_law_write_right" (defArgs s__law_write_right) (defBody s__law_write_right) (defScope s__law_write_right) [] [] a__law_write_right fd
  g__law_write_right : mg "_law_write_right" = some (.ref a__law_write_right)
  F__law_crash_right : ∃ fd, FunD K "_law_crash_right" "_law_crash_right" (defArgs s__law_crash_right) (defBody s__law_crash_right) (defScope s__law_crash_right) [] [] a__law_crash_right fd
  g__law_crash_right : mg "_law_crash_right" = some (.ref a__law_crash_right)
  F__law_spoil_right : ∃ fd, FunD K "_law_spoil_right" "_law_spoil_right" (defArgs s__law_spoil_right) (defBody s__law_spoil_right) (defScope s__law_spoil_right) [] [] a__law_spoil_right fd
  g__law_spoil_right : mg "_law_spoil_right" = some (.ref a__law_spoil_right)
  F__law_state_right : ∃ fd, FunD K "_law_state_right" "_law_state_right" (defArgs s__law_state_right) (defBody s__law_state_right) (defScope s__law_state_right) [] [] a__law_state_right fd
  g__law_state_right : mg "_law_state_right" = some (.ref a__law_state_right)
  F__law_named_right : ∃ fd, FunD K "_law_named_right" "_law_named_right" (defArgs s__law_named_right) (defBody s__law_named_right) (defScope s__law_named_right) [] [] a__law_named_right fd
  g__law_named_right : mg "_law_named_right" = some (.ref a__law_named_right)
  F__law_right : ∃ fd, FunD K "_law_right" "_law_right" (defArgs s__law_right) (defBody s__law_right) (defScope s__law_right) [] [] a__law_right fd
  g__law_right : mg "_law_right" = some (.ref a__law_right)
  F_is_integer : ∃ fd, FunD K "is_integer" "is_integer" (defArgs s_is_integer) (defBody s_is_integer) (defScope s_is_integer) [] [] a_is_integer fd
  g_is_integer : mg "is_integer" = some (.ref a_is_integer)
  F_require_page : ∃ fd, FunD K "require_page" "require_page" (defArgs s_require_page) (defBody s_require_page) (defScope s_require_page) [] [] a_require_page fd
  g_require_page : mg "require_page" = some (.ref a_require_page)
  g_Disk : mg "Disk" = some (.ref c_Disk)
  kp_Disk : PySem.W.keepIn K (.ref c_Disk) = true
  cl_Disk : Cls K c_Disk
  n_Disk_own_pages : NoAttr K c_Disk "own_pages"
  n_Disk_pages_left : NoAttr K c_Disk "pages_left"
  F_Disk___len__ : ∃ fd, FunD K "__len__" "Disk.__len__" (defArgs s_Disk___len__) (defBody s_Disk___len__) (defScope s_Disk___len__) [] [] a_Disk___len__ fd
  m_Disk___len__ : Meth K c_Disk "__len__" a_Disk___len__
  F_Disk_pages : ∃ fd, FunD K "pages" "Disk.pages" (defArgs s_Disk_pages) (defBody s_Disk_pages) (defScope s_Disk_pages) [] [] a_Disk_pages fd
  m_Disk_pages : Meth K c_Disk "pages" a_Disk_pages
  F_Disk_write : ∃ fd, FunD K "write" "Disk.write" (defArgs s_Disk_write) (defBody s_Disk_write) (defScope s_Disk_write) [] [] a_Disk_write fd
  m_Disk_write : Meth K c_Disk "write" a_Disk_write
  F_Disk_crash_after : ∃ fd, FunD K "crash_after" "Disk.crash_after" (defArgs s_Disk_crash_after) (defBody s_Disk_crash_after) (defScope s_Disk_crash_after) [] [] a_Disk_crash_after fd
  m_Disk_crash_after : Meth K c_Disk "crash_after" a_Disk_crash_after
  F_Disk_restarted : ∃ fd, FunD K "restarted" "Disk.restarted" (defArgs s_Disk_restarted) (defBody s_Disk_restarted) (defScope s_Disk_restarted) [] [] a_Disk_restarted fd
  m_Disk_restarted : Meth K c_Disk "restarted" a_Disk_restarted
  F_Disk_spoil : ∃ fd, FunD K "spoil" "Disk.spoil" (defArgs s_Disk_spoil) (defBody s_Disk_spoil) (defScope s_Disk_spoil) [] [] a_Disk_spoil fd
  m_Disk_spoil : Meth K c_Disk "spoil" a_Disk_spoil
  F_Disk_keep_first : ∃ fd, FunD K "keep_first" "Disk.keep_first" (defArgs s_Disk_keep_first) (defBody s_Disk_keep_first) (defScope s_Disk_keep_first) [] [] a_Disk_keep_first fd
  m_Disk_keep_first : Meth K c_Disk "keep_first" a_Disk_keep_first
  F_Disk_has_crashed : ∃ fd, FunD K "has_crashed" "Disk.has_crashed" (defArgs s_Disk_has_crashed) (defBody s_Disk_has_crashed) (defScope s_Disk_has_crashed) [] [] a_Disk_has_crashed fd
  q_Disk_has_crashed : PropOf K c_Disk "has_crashed" p_Disk_has_crashed a_Disk_has_crashed
  F_Disk___init__ : ∃ fd, FunD K "__init__" "Disk.__init__" (defArgs s_Disk___init__) (defBody s_Disk___init__) (defScope s_Disk___init__) [] [] a_Disk___init__ fd
  k_Disk : Mk K c_Disk a_Disk___init__
  cmp_Disk : CmpC K c_Disk
  cr_Disk : ClX.CRead K c_Disk (.type "type")
  cv_Disk_PAGE : ∃ u, ClX.CVal K c_Disk (.type "type") "PAGE" (.int 32) u
  g_InvalidPage : mg "InvalidPage" = some (.ref c_InvalidPage)
  x_InvalidPage : OexC K c_InvalidPage
  xf_InvalidPage : XfC K c_InvalidPage
  xc_InvalidPage : ExcC K c_InvalidPage
  F_InvalidPage___init__ : ∃ fd, FunD K "__init__" "InvalidPage.__init__" (defArgs s_InvalidPage___init__) (defBody s_InvalidPage___init__) (defScope s_InvalidPage___init__) [] [] a_InvalidPage___init__ fd
  xi_InvalidPage : PySem.W.findIn K (.ref c_InvalidPage) "__init__" = some (some (.ref a_InvalidPage___init__))
  xt_InvalidPage : PySem.W.typeIn K (.ref a_InvalidPage___init__) = some (.type "function")
  n_InvalidPage_value : PySem.W.findIn K (.ref c_InvalidPage) "value" = some none
  g_InvalidPlace : mg "InvalidPlace" = some (.ref c_InvalidPlace)
  x_InvalidPlace : OexC K c_InvalidPlace
  xf_InvalidPlace : XfC K c_InvalidPlace
  xc_InvalidPlace : ExcC K c_InvalidPlace
  F_InvalidPlace___init__ : ∃ fd, FunD K "__init__" "InvalidPlace.__init__" (defArgs s_InvalidPlace___init__) (defBody s_InvalidPlace___init__) (defScope s_InvalidPlace___init__) [] [] a_InvalidPlace___init__ fd
  xi_InvalidPlace : PySem.W.findIn K (.ref c_InvalidPlace) "__init__" = some (some (.ref a_InvalidPlace___init__))
  xt_InvalidPlace : PySem.W.typeIn K (.ref a_InvalidPlace___init__) = some (.type "function")
  n_InvalidPlace_value : PySem.W.findIn K (.ref c_InvalidPlace) "value" = some none
  g_InvalidCount : mg "InvalidCount" = some (.ref c_InvalidCount)
  x_InvalidCount : OexC K c_InvalidCount
  xf_InvalidCount : XfC K c_InvalidCount
  xc_InvalidCount : ExcC K c_InvalidCount
  F_InvalidCount___init__ : ∃ fd, FunD K "__init__" "InvalidCount.__init__" (defArgs s_InvalidCount___init__) (defBody s_InvalidCount___init__) (defScope s_InvalidCount___init__) [] [] a_InvalidCount___init__ fd
  xi_InvalidCount : PySem.W.findIn K (.ref c_InvalidCount) "__init__" = some (some (.ref a_InvalidCount___init__))
  xt_InvalidCount : PySem.W.typeIn K (.ref a_InvalidCount___init__) = some (.type "function")
  n_InvalidCount_value : PySem.W.findIn K (.ref c_InvalidCount) "value" = some none
  g_CoverError : mg "CoverError" = some (.ref c_CoverError)
  cr_CoverError : ClX.CRead K c_CoverError (.type "type")
  ci_CoverError : PySem.W.findCls K (.ref c_CoverError) (.type "type") "__init__" = some (.val (.builtin "ValueError.__init__"))
  g_Crashed : mg "Crashed" = some (.ref c_Crashed)
  xc_Crashed : ExcC K c_Crashed
  ex_InvalidPage_InvalidPage : PySem.W.exmOne K (.ref c_InvalidPage) (.ref c_InvalidPage) = some true
  ex_InvalidPage_InvalidPlace : PySem.W.exmOne K (.ref c_InvalidPage) (.ref c_InvalidPlace) = some false
  ex_InvalidPage_InvalidCount : PySem.W.exmOne K (.ref c_InvalidPage) (.ref c_InvalidCount) = some false
  ex_InvalidPage_Crashed : PySem.W.exmOne K (.ref c_InvalidPage) (.ref c_Crashed) = some false
  ex_InvalidPlace_InvalidPage : PySem.W.exmOne K (.ref c_InvalidPlace) (.ref c_InvalidPage) = some false
  ex_InvalidPlace_InvalidPlace : PySem.W.exmOne K (.ref c_InvalidPlace) (.ref c_InvalidPlace) = some true
  ex_InvalidPlace_InvalidCount : PySem.W.exmOne K (.ref c_InvalidPlace) (.ref c_InvalidCount) = some false
  ex_InvalidPlace_Crashed : PySem.W.exmOne K (.ref c_InvalidPlace) (.ref c_Crashed) = some false
  ex_InvalidCount_InvalidPage : PySem.W.exmOne K (.ref c_InvalidCount) (.ref c_InvalidPage) = some false
  ex_InvalidCount_InvalidPlace : PySem.W.exmOne K (.ref c_InvalidCount) (.ref c_InvalidPlace) = some false
  ex_InvalidCount_InvalidCount : PySem.W.exmOne K (.ref c_InvalidCount) (.ref c_InvalidCount) = some true
  ex_InvalidCount_Crashed : PySem.W.exmOne K (.ref c_InvalidCount) (.ref c_Crashed) = some false
  ex_Crashed_InvalidPage : PySem.W.exmOne K (.ref c_Crashed) (.ref c_InvalidPage) = some false
  ex_Crashed_InvalidPlace : PySem.W.exmOne K (.ref c_Crashed) (.ref c_InvalidPlace) = some false
  ex_Crashed_InvalidCount : PySem.W.exmOne K (.ref c_Crashed) (.ref c_InvalidCount) = some false
  ex_Crashed_Crashed : PySem.W.exmOne K (.ref c_Crashed) (.ref c_Crashed) = some true
  is_InvalidPage : PySem.W.kitOne K (.ref c_InvalidPage) (.ref c_CoverError) = some true
  is_InvalidPlace : PySem.W.kitOne K (.ref c_InvalidPlace) (.ref c_CoverError) = some true
  is_InvalidCount : PySem.W.kitOne K (.ref c_InvalidCount) (.ref c_CoverError) = some true
  is_Crashed : PySem.W.kitOne K (.ref c_Crashed) (.type "RuntimeError") = some true
  kp_Crashed : PySem.W.keepIn K (.ref c_Crashed) = true
  xr_Crashed : PySem.W.excIn K c_Crashed [.type "RuntimeError", .type "Exception", .type "BaseException", .type "object"] "RuntimeError.__new__" = true
  xs_Crashed : PySem.W.subIn K (.ref c_Crashed) (.type "BaseException") = some true
  xy_Crashed : PySem.W.typeIn K (.ref c_Crashed) = some (.type "type")
  b_isinstance : mg "isinstance" = none
  b_int : mg "int" = none
  b_bool : mg "bool" = none
  b_str : mg "str" = none
  b_len : mg "len" = none
  b_list : mg "list" = none
  b_range : mg "range" = none
  b_repr : mg "repr" = none
  b_abs : mg "abs" = none
  b_max : mg "max" = none
  b_min : mg "min" = none
  b_all : mg "all" = none
  b_enumerate : mg "enumerate" = none
  b_RuntimeError : mg "RuntimeError" = none
  b_ValueError : mg "ValueError" = none
  b_sum : mg "sum" = none
  b_ord : mg "ord" = none
  b_super : mg "super" = none
  v_PAGE_SIZE : ∃ t, mg "PAGE_SIZE" = some (.int 32 t)
  v_MAX_BITS : ∃ t, mg "MAX_BITS" = some (.int 10 t)
  v_PART_SIZE : ∃ t, mg "PART_SIZE" = some (.int 31 t)
  v_MORE : ∃ t, mg "MORE" = some (.str "+" t)
  v_LAST : ∃ t, mg "LAST" = some (.str "." t)
  v_CHECK_DIGITS : ∃ t, mg "CHECK_DIGITS" = some (.int 4 t)
  v_CHECK_MODULUS : ∃ t, mg "CHECK_MODULUS" = some (.int 9973 t)
  v_BITS : ∃ t, mg "BITS" = some (.str "bits" t)
  v_DIGITS_durable : ∃ t, mg "DIGITS_durable" = some (.str "0123456789" t)
  v_MOST_DIGITS_durable : ∃ t, mg "MOST_DIGITS_durable" = some (.int 10 t)
  F_is_bits : ∃ fd, FunD K "is_bits" "is_bits" (defArgs s_is_bits) (defBody s_is_bits) (defScope s_is_bits) [] [] a_is_bits fd
  g_is_bits : mg "is_bits" = some (.ref a_is_bits)
  F_require_bits : ∃ fd, FunD K "require_bits" "require_bits" (defArgs s_require_bits) (defBody s_require_bits) (defScope s_require_bits) [] [] a_require_bits fd
  g_require_bits : mg "require_bits" = some (.ref a_require_bits)
  F_check_sum : ∃ fd, FunD K "check_sum" "check_sum" (defArgs s_check_sum) (defBody s_check_sum) (defScope s_check_sum) [] [] a_check_sum fd
  g_check_sum : mg "check_sum" = some (.ref a_check_sum)
  F_record_text : ∃ fd, FunD K "record_text" "record_text" (defArgs s_record_text) (defBody s_record_text) (defScope s_record_text) [] [] a_record_text fd
  g_record_text : mg "record_text" = some (.ref a_record_text)
  F_pages_of : ∃ fd, FunD K "pages_of" "pages_of" (defArgs s_pages_of) (defBody s_pages_of) (defScope s_pages_of) [] [] a_pages_of fd
  g_pages_of : mg "pages_of" = some (.ref a_pages_of)
  F_bits_body : ∃ fd, FunD K "bits_body" "bits_body" (defArgs s_bits_body) (defBody s_bits_body) (defScope s_bits_body) [] [] a_bits_body fd
  g_bits_body : mg "bits_body" = some (.ref a_bits_body)
  F_integer_in : ∃ fd, FunD K "integer_in" "integer_in" (defArgs s_integer_in) (defBody s_integer_in) (defScope s_integer_in) [] [] a_integer_in fd
  g_integer_in : mg "integer_in" = some (.ref a_integer_in)
  F_bits_in : ∃ fd, FunD K "bits_in" "bits_in" (defArgs s_bits_in) (defBody s_bits_in) (defScope s_bits_in) [] [] a_bits_in fd
  g_bits_in : mg "bits_in" = some (.ref a_bits_in)
  g_Base : mg "Base" = some (.ref c_Base)
  kp_Base : PySem.W.keepIn K (.ref c_Base) = true
  cl_Base : Cls K c_Base
  n_Base_own_bits : NoAttr K c_Base "own_bits"
  n_Base_own_tables : NoAttr K c_Base "own_tables"
  n_Base_newest : NoAttr K c_Base "newest"
  n_Base_own_oldest : NoAttr K c_Base "own_oldest"
  F_Base_tables : ∃ fd, FunD K "tables" "Base.tables" (defArgs s_Base_tables) (defBody s_Base_tables) (defScope s_Base_tables) [] [] a_Base_tables fd
  m_Base_tables : Meth K c_Base "tables" a_Base_tables
  F_Base_bits : ∃ fd, FunD K "bits" "Base.bits" (defArgs s_Base_bits) (defBody s_Base_bits) (defScope s_Base_bits) [] [] a_Base_bits fd
  q_Base_bits : PropOf K c_Base "bits" p_Base_bits a_Base_bits
  F_Base_version : ∃ fd, FunD K "version" "Base.version" (defArgs s_Base_version) (defBody s_Base_version) (defScope s_Base_version) [] [] a_Base_version fd
  q_Base_version : PropOf K c_Base "version" p_Base_version a_Base_version
  F_Base___init__ : ∃ fd, FunD K "__init__" "Base.__init__" (defArgs s_Base___init__) (defBody s_Base___init__) (defScope s_Base___init__) [] [] a_Base___init__ fd
  k_Base : Mk K c_Base a_Base___init__
  g_Keeper : mg "Keeper" = some (.ref c_Keeper)
  kp_Keeper : PySem.W.keepIn K (.ref c_Keeper) = true
  cl_Keeper : Cls K c_Keeper
  n_Keeper_base : NoAttr K c_Keeper "base"
  n_Keeper_entries : NoAttr K c_Keeper "entries"
  n_Keeper_many_kept : NoAttr K c_Keeper "many_kept"
  F_Keeper___init__ : ∃ fd, FunD K "__init__" "Keeper.__init__" (defArgs s_Keeper___init__) (defBody s_Keeper___init__) (defScope s_Keeper___init__) [] [] a_Keeper___init__ fd
  k_Keeper : Mk K c_Keeper a_Keeper___init__
  g_Store : mg "Store" = some (.ref c_Store)
  kp_Store : PySem.W.keepIn K (.ref c_Store) = true
  cl_Store : Cls K c_Store
  F_Store_tables : ∃ fd, FunD K "tables" "Store.tables" (defArgs s_Store_tables) (defBody s_Store_tables) (defScope s_Store_tables) [] [] a_Store_tables fd
  m_Store_tables : Meth K c_Store "tables" a_Store_tables
  F_Store_bits : ∃ fd, FunD K "bits" "Store.bits" (defArgs s_Store_bits) (defBody s_Store_bits) (defScope s_Store_bits) [] [] a_Store_bits fd
  q_Store_bits : PropOf K c_Store "bits" p_Store_bits a_Store_bits
  F_Store_version : ∃ fd, FunD K "version" "Store.version" (defArgs s_Store_version) (defBody s_Store_version) (defScope s_Store_version) [] [] a_Store_version fd
  q_Store_version : PropOf K c_Store "version" p_Store_version a_Store_version
  F_Store___init__ : ∃ fd, FunD K "__init__" "Store.__init__" (defArgs s_Store___init__) (defBody s_Store___init__) (defScope s_Store___init__) [] [] a_Store___init__ fd
  k_Store : Mk K c_Store a_Store___init__
  g_NextRecord : mg "NextRecord" = some (.ref c_NextRecord)
  kp_NextRecord : PySem.W.keepIn K (.ref c_NextRecord) = true
  cl_NextRecord : Cls K c_NextRecord
  n_NextRecord_body : NoAttr K c_NextRecord "body"
  n_NextRecord_count : NoAttr K c_NextRecord "count"
  F_NextRecord_take_pages : ∃ fd, FunD K "take_pages" "NextRecord.take_pages" (defArgs s_NextRecord_take_pages) (defBody s_NextRecord_take_pages) (defScope s_NextRecord_take_pages) [] [] a_NextRecord_take_pages fd
  m_NextRecord_take_pages : Meth K c_NextRecord "take_pages" a_NextRecord_take_pages
  F_NextRecord___init__ : ∃ fd, FunD K "__init__" "NextRecord.__init__" (defArgs s_NextRecord___init__) (defBody s_NextRecord___init__) (defScope s_NextRecord___init__) [] [] a_NextRecord___init__ fd
  k_NextRecord : Mk K c_NextRecord a_NextRecord___init__
  g_DurableStore : mg "DurableStore" = some (.ref c_DurableStore)
  kp_DurableStore : PySem.W.keepIn K (.ref c_DurableStore) = true
  cl_DurableStore : Cls K c_DurableStore
  n_DurableStore_own_disk : NoAttr K c_DurableStore "own_disk"
  n_DurableStore_base : NoAttr K c_DurableStore "base"
  n_DurableStore_own_keeper : NoAttr K c_DurableStore "own_keeper"
  n_DurableStore_own_constraints : NoAttr K c_DurableStore "own_constraints"
  n_DurableStore_begun : NoAttr K c_DurableStore "begun"
  n_DurableStore_own_pins : NoAttr K c_DurableStore "own_pins"
  F_DurableStore_write_record : ∃ fd, FunD K "write_record" "DurableStore.write_record" (defArgs s_DurableStore_write_record) (defBody s_DurableStore_write_record) (defScope s_DurableStore_write_record) [] [] a_DurableStore_write_record fd
  m_DurableStore_write_record : Meth K c_DurableStore "write_record" a_DurableStore_write_record
  m_DurableStore_tables : Meth K c_DurableStore "tables" a_Store_tables
  q_DurableStore_bits : PropOf K c_DurableStore "bits" p_Store_bits a_Store_bits
  q_DurableStore_version : PropOf K c_DurableStore "version" p_Store_version a_Store_version
  F_DurableStore_recovered : ∃ fd, FunD K "recovered" "DurableStore.recovered" (defArgs s_DurableStore_recovered) (defBody s_DurableStore_recovered) (defScope s_DurableStore_recovered) [] [] a_DurableStore_recovered fd
  w_DurableStore_recovered : ClX.CMet K c_DurableStore (.type "type") "recovered" p_DurableStore_recovered a_DurableStore_recovered
  cr_DurableStore : ClX.CRead K c_DurableStore (.type "type")
  S_DurableStore___init__ : ∃ fd, SupC PW K mg nf_DurableStore___init__ a_DurableStore___init__ cc_DurableStore c_DurableStore "self" fd
  M_DurableStore___init__ : SupM K c_DurableStore c_DurableStore "__init__" a_Store___init__
  k_DurableStore : Mk K c_DurableStore a_DurableStore___init__
  kf_DurableStore___init__ : PySem.W.keepIn K (.ref a_DurableStore___init__) = true
end Gd
/-! ### k91: numbers, pages, errors, the disk -/
namespace Gd
open PySem PySem.Spec PyProof.Rows L2
/-- is_integer's answer about x -/
def IntArg (K : PySem.W.Frag) (H : Hp) (x : V) (b : Bool) : Prop := ∃ t c1 c2, TyX K H x t ∧ PySem.W.kitOne K t (.type "int") = some c1 ∧ PySem.W.kitOne K t (.type "bool") = some c2 ∧ b = (c1 && !c2)
theorem IntArg.int {K : PySem.W.Frag} {H : Hp} (i : Int) : IntArg K H (.int i) true := ⟨_, true, false, .base (.int i), by kernel_rfl, by kernel_rfl, rfl⟩
/-- x is a page (b), or it is none -/
def PageArg (K : PySem.W.Frag) (H : Hp) (x : V) (b : Bool) : Prop := (∃ z : PySem.Str, x = .str z ∧ z.length ≤ sizeLine ∧ b = decide (z.length = 32)) ∨ (b = false ∧ ∃ t, TyX K H x t ∧ PySem.W.kitOne K t (.type "str") = some false)
def lv : Option Int → V
  | none => .non
  | some n => .int n
def dsk (l : Addr) (left : Option Int) : List (PySem.Str × V) := [("own_pages", .ref l), ("pages_left", lv left)]
def strL (ps : List PySem.Str) : HO := .lst (ps.map V.str)
theorem upd_self {H : Hp} {a : Addr} {o : HO} (h : H a = some o) : upd H a o = H := by
  funext b
  by_cases e : b = a
  · rw [e, upd_same, h]
  · rw [upd_ne e]
theorem sc_is_integer : FnScope ["value"] ["value"] (defScope s_is_integer) := ⟨rfl, rfl, rfl, by decide +kernel, rfl, by decide +kernel, by decide +kernel⟩
theorem ok_is_integer {P : Program} {w : World} {K : PySem.W.Frag} {mg : PySem.Str → Option Value} {base : Heap} (T : Txt K mg)  : Fn P w K mg base 1 a_is_integer ["value"] (sp1 fun x H Q _ => ∃ b, IntArg K H x b ∧ Q (.bl b) H) := by
  have SC := sc_is_integer
  refine Fn.of1 T.F_is_integer SC (fun fd F => F.bindsN fun _ _ _ _ _ _ us hl => match us, hl with | [_], _ => rfl) (fun cdv A outer s H v0 Q E hr h => ?_)
  refine ⟨_, PSs.nox (pss_one (ps_ret (pe_and (pe_callB (isiK K) rfl T.b_isinstance rfl (pa_cons (pv 0) (pa_cons (pe_bltn (v := .ty "int") rfl T.b_int rfl rfl) pa_nil))) (pe_one (pe_not (pe_callB (isiK K) rfl T.b_isinstance rfl (pa_cons (pv 0) (pa_cons (pe_bltn (v := .ty "bool") rfl T.b_bool rfl rfl) pa_nil)))))))), ?_⟩
  rw [show L2.start ["value"] [v0] = [some v0] from rfl]
  try dsimp only [cxOf, Cx.nox]
  simp only [tRet, tRetN, tNext, tSeq, tDrop, tAsg, gName, tIfS, tAndV, tOrV, tNotV, tAnd, tOr, tNot, tB, tTest, tIf, tCB, tCons, tVar, tC, tNil, tOp, tUn, tCall, tCallS, tMeth, tMake, tProp, tFld, sFld, sFldAug, tLst, tTup, tChain, tPar, rI, rI0, rU, rEq, rNe, rIsi, rAppend, sp0, sp1, sp2, sp3, sp4, List.nil_append, List.append_nil, List.cons_append, List.cons.injEq, List.getElem?_cons_zero, List.getElem?_cons_succ, List.set_cons_zero, List.set_cons_succ, Option.some.injEq, V.int.injEq, V.str.injEq, V.bl.injEq, V.ref.injEq, V.ty.injEq, exists_eq_left', exists_eq_left, exists_eq_right, exists_and_left, exists_and_right, and_true, true_and, and_assoc, exists_const, exists_eq, reduceCtorEq, false_and, and_false, or_false, false_or, clsV_ty]
  obtain ⟨b, ⟨t, c1, c2, ht, h1, h2, rfl⟩, q⟩ := h
  refine ⟨t, ht, c1, h1, ?_⟩
  cases c1
  · exact q
  · exact ⟨t, ht, c2, h2, q⟩
theorem sc_InvalidPage___init__ : FnScope ["self", "value"] ["self", "value"] (defScope s_InvalidPage___init__) := ⟨rfl, rfl, rfl, by decide +kernel, rfl, by decide +kernel, by decide +kernel⟩
theorem ok_InvalidPage___init__ {P : Program} {w : World} {K : PySem.W.Frag} {mg : PySem.Str → Option Value} {base : Heap} (T : Txt K mg)  : Fn P w K mg base 1 a_InvalidPage___init__ ["self", "value"] (spErr c_InvalidPage) := by
  have SC := sc_InvalidPage___init__
  refine Fn.of2 T.F_InvalidPage___init__ SC (fun fd F => F.bindsN fun _ _ _ _ _ _ us hl => match us, hl with | [_, _], _ => rfl) (fun cdv A outer s H v0 v1 Q E hr h => ?_)
  refine ⟨_, PSs.nox (pss_cons (ps_expr (pe_xinit rfl T.g_CoverError T.cr_CoverError T.ci_CoverError (pa_cons (pv 0) (pa_cons pe_str pa_nil)))) (pss_one (ps_ost (pv 0) (pv 1)))), ?_⟩
  rw [show L2.start ["self", "value"] [v0, v1] = [some v0, some v1] from rfl]
  try dsimp only [cxOf, Cx.nox]
  obtain ⟨a, rfl, ea, q⟩ := h
  simp only [tRet, tRetN, tNext, tSeq, tDrop, tAsg, gName, tIfS, tAndV, tOrV, tNotV, tAnd, tOr, tNot, tB, tTest, tIf, tCB, tCons, tVar, tC, tNil, tOp, tUn, tCall, tCallS, tMeth, tMake, tProp, tFld, sFld, sFldAug, tLst, tTup, tChain, tPar, rI, rI0, rU, rEq, rNe, rIsi, rAppend, sp0, sp1, sp2, sp3, sp4, List.nil_append, List.append_nil, List.cons_append, List.cons.injEq, List.getElem?_cons_zero, List.getElem?_cons_succ, List.set_cons_zero, List.set_cons_succ, Option.some.injEq, V.int.injEq, V.str.injEq, V.bl.injEq, V.ref.injEq, V.ty.injEq, exists_eq_left', exists_eq_left, exists_eq_right, exists_and_left, exists_and_right, and_true, true_and, and_assoc, exists_const, exists_eq, reduceCtorEq, false_and, and_false, or_false, false_or, tVeI, tOst, spErr]
  refine ⟨by decide, c_InvalidPage, T.x_InvalidPage, ea, c_InvalidPage, T.x_InvalidPage, T.n_InvalidPage_value, .inl ⟨ea, fun dx h1 h2 => q dx h1 h2⟩⟩
theorem sc_InvalidPlace___init__ : FnScope ["self", "value"] ["self", "value"] (defScope s_InvalidPlace___init__) := ⟨rfl, rfl, rfl, by decide +kernel, rfl, by decide +kernel, by decide +kernel⟩
theorem ok_InvalidPlace___init__ {P : Program} {w : World} {K : PySem.W.Frag} {mg : PySem.Str → Option Value} {base : Heap} (T : Txt K mg)  : Fn P w K mg base 1 a_InvalidPlace___init__ ["self", "value"] (spErr c_InvalidPlace) := by
  have SC := sc_InvalidPlace___init__
  refine Fn.of2 T.F_InvalidPlace___init__ SC (fun fd F => F.bindsN fun _ _ _ _ _ _ us hl => match us, hl with | [_, _], _ => rfl) (fun cdv A outer s H v0 v1 Q E hr h => ?_)
  refine ⟨_, PSs.nox (pss_cons (ps_expr (pe_xinit rfl T.g_CoverError T.cr_CoverError T.ci_CoverError (pa_cons (pv 0) (pa_cons pe_str pa_nil)))) (pss_one (ps_ost (pv 0) (pv 1)))), ?_⟩
  rw [show L2.start ["self", "value"] [v0, v1] = [some v0, some v1] from rfl]
  try dsimp only [cxOf, Cx.nox]
  obtain ⟨a, rfl, ea, q⟩ := h
  simp only [tRet, tRetN, tNext, tSeq, tDrop, tAsg, gName, tIfS, tAndV, tOrV, tNotV, tAnd, tOr, tNot, tB, tTest, tIf, tCB, tCons, tVar, tC, tNil, tOp, tUn, tCall, tCallS, tMeth, tMake, tProp, tFld, sFld, sFldAug, tLst, tTup, tChain, tPar, rI, rI0, rU, rEq, rNe, rIsi, rAppend, sp0, sp1, sp2, sp3, sp4, List.nil_append, List.append_nil, List.cons_append, List.cons.injEq, List.getElem?_cons_zero, List.getElem?_cons_succ, List.set_cons_zero, List.set_cons_succ, Option.some.injEq, V.int.injEq, V.str.injEq, V.bl.injEq, V.ref.injEq, V.ty.injEq, exists_eq_left', exists_eq_left, exists_eq_right, exists_and_left, exists_and_right, and_true, true_and, and_assoc, exists_const, exists_eq, reduceCtorEq, false_and, and_false, or_false, false_or, tVeI, tOst, spErr]
  refine ⟨by decide, c_InvalidPlace, T.x_InvalidPlace, ea, c_InvalidPlace, T.x_InvalidPlace, T.n_InvalidPlace_value, .inl ⟨ea, fun dx h1 h2 => q dx h1 h2⟩⟩
theorem sc_InvalidCount___init__ : FnScope ["self", "value"] ["self", "value"] (defScope s_InvalidCount___init__) := ⟨rfl, rfl, rfl, by decide +kernel, rfl, by decide +kernel, by decide +kernel⟩
theorem ok_InvalidCount___init__ {P : Program} {w : World} {K : PySem.W.Frag} {mg : PySem.Str → Option Value} {base : Heap} (T : Txt K mg)  : Fn P w K mg base 1 a_InvalidCount___init__ ["self", "value"] (spErr c_InvalidCount) := by
  have SC := sc_InvalidCount___init__
  refine Fn.of2 T.F_InvalidCount___init__ SC (fun fd F => F.bindsN fun _ _ _ _ _ _ us hl => match us, hl with | [_, _], _ => rfl) (fun cdv A outer s H v0 v1 Q E hr h => ?_)
  refine ⟨_, PSs.nox (pss_cons (ps_expr (pe_xinit rfl T.g_CoverError T.cr_CoverError T.ci_CoverError (pa_cons (pv 0) (pa_cons pe_str pa_nil)))) (pss_one (ps_ost (pv 0) (pv 1)))), ?_⟩
  rw [show L2.start ["self", "value"] [v0, v1] = [some v0, some v1] from rfl]
  try dsimp only [cxOf, Cx.nox]
  obtain ⟨a, rfl, ea, q⟩ := h
  simp only [tRet, tRetN, tNext, tSeq, tDrop, tAsg, gName, tIfS, tAndV, tOrV, tNotV, tAnd, tOr, tNot, tB, tTest, tIf, tCB, tCons, tVar, tC, tNil, tOp, tUn, tCall, tCallS, tMeth, tMake, tProp, tFld, sFld, sFldAug, tLst, tTup, tChain, tPar, rI, rI0, rU, rEq, rNe, rIsi, rAppend, sp0, sp1, sp2, sp3, sp4, List.nil_append, List.append_nil, List.cons_append, List.cons.injEq, List.getElem?_cons_zero, List.getElem?_cons_succ, List.set_cons_zero, List.set_cons_succ, Option.some.injEq, V.int.injEq, V.str.injEq, V.bl.injEq, V.ref.injEq, V.ty.injEq, exists_eq_left', exists_eq_left, exists_eq_right, exists_and_left, exists_and_right, and_true, true_and, and_assoc, exists_const, exists_eq, reduceCtorEq, false_and, and_false, or_false, false_or, tVeI, tOst, spErr]
  refine ⟨by decide, c_InvalidCount, T.x_InvalidCount, ea, c_InvalidCount, T.x_InvalidCount, T.n_InvalidCount_value, .inl ⟨ea, fun dx h1 h2 => q dx h1 h2⟩⟩
end Gd
/-! ### k91: the disk -/
namespace Gd
open PySem PySem.Spec PyProof.Rows L2
theorem sqL_of {K : PySem.W.Frag} {H : Hp} {a : Addr} {xs : List V} (h : H a = some (.lst xs)) : SqL K H a xs := .inl (.of h)
theorem sqL_str {K : PySem.W.Frag} {H : Hp} {a : Addr} {xs : List PySem.Str} (h : H a = some (strL xs)) : SqL K H a (xs.map V.str) := .inl (.of h)
theorem lv_dec {left : Option Int} : decide (lv left = V.int 0) = decide (left = some 0) := by
  cases left with
  | none => rfl
  | some n => exact decide_eq_decide.mpr ⟨fun h => by cases h; rfl, fun h => by cases h; rfl⟩
theorem ifT {A B : Prop} (h : A) : if True then A else B := by rw [if_pos trivial]; exact h
theorem ifF {A B : Prop} (h : B) : if False then A else B := by rw [if_neg id]; exact h
theorem sc_require_page : FnScope ["value"] ["value"] (defScope s_require_page) := ⟨rfl, rfl, rfl, by decide +kernel, rfl, by decide +kernel, by decide +kernel⟩
theorem ok_require_page {P : Program} {w : World} {K : PySem.W.Frag} {mg : PySem.Str → Option Value} {base : Heap} (T : Txt K mg)  : Fn P w K mg base 3 a_require_page ["value"] (sp1 fun x H Q E => ∃ b, PageArg K H x b ∧ (b = true → Q .non H) ∧ (b = false → RaiseV E c_InvalidPage x H)) := by
  have SC := sc_require_page
  refine Fn.of1 T.F_require_page SC (fun fd F => F.bindsN fun _ _ _ _ _ _ us hl => match us, hl with | [_], _ => rfl) (fun cdv A outer s H v0 Q E hr h => ?_)
  have tk := takes_of (X := cxOf (L2.CX P w) P w K mg base ["value"] "require_page" (defScope s_require_page) a_require_page cdv A outer s H E) rfl rfl rfl rfl
  have px := passes_call tk fun _ _ _ _ h => h
  refine ⟨_, (pss_one (ps_if (PW.pt (pw_or (pt_not (pt_val (pe_callB (isiK K) rfl T.b_isinstance rfl (pa_cons (pv 0) (pa_cons (pe_bltn (v := .ty "str") rfl T.b_str rfl rfl) pa_nil))))) (pw_or1 (pt_cmpR op_ne (pe_callB (lenK K) rfl T.b_len rfl (pa_cons (pv 0) pa_nil)) (pe_gint T.v_PAGE_SIZE) (nomark _))))) (pss_one (ps_err rfl tk T.x_InvalidPage T.xi_InvalidPage T.xt_InvalidPage (ok_InvalidPage___init__ T) hr rfl T.g_InvalidPage (pa_cons (pv 0) pa_nil))) pss_nil)), ?_⟩
  rw [show L2.start ["value"] [v0] = [some v0] from rfl]
  try dsimp only [cxOf, Cx.nox]
  obtain ⟨b, hb, hy, hn⟩ := h
  simp only [tRet, tRetN, tNext, tSeq, tDrop, tAsg, gName, tIfS, tAndV, tOrV, tNotV, tAnd, tOr, tNot, tB, tTest, tIf, tCB, tCons, tVar, tC, tNil, tOp, tUn, tCall, tCallS, tMeth, tMake, tProp, tFld, sFld, sFldAug, tLst, tTup, tChain, tPar, rI, rI0, rU, rEq, rNe, rIsi, rAppend, sp0, sp1, sp2, sp3, sp4, List.nil_append, List.append_nil, List.cons_append, List.cons.injEq, List.getElem?_cons_zero, List.getElem?_cons_succ, List.set_cons_zero, List.set_cons_succ, Option.some.injEq, V.int.injEq, V.str.injEq, V.bl.injEq, V.ref.injEq, V.ty.injEq, exists_eq_left', exists_eq_left, exists_eq_right, exists_and_left, exists_and_right, and_true, true_and, and_assoc, exists_const, exists_eq, reduceCtorEq, false_and, and_false, or_false, false_or, tErr, clsV_ty, rLen]
  rcases hb with ⟨z, rfl, hz, rfl⟩ | ⟨rfl, t, ht, hk⟩
  · refine ⟨_, .base (.str z), true, by kernel_rfl, iteF ⟨z.length, ?_, rfl, ?_⟩⟩
    · exact ⟨hz, rfl⟩
    · by_cases e : z.length = 32
      · rw [decide_eq_true (by rw [e]; rfl : (↑z.length : Int) = 32)]
        exact iteF (hy (decide_eq_true e))
      · rw [decide_eq_false (by omega : ¬ (↑z.length : Int) = 32)]
        exact iteT (hn (decide_eq_false e))
  · exact ⟨t, ht, false, hk, iteT (hn rfl)⟩
theorem sc_Disk___init__ : FnScope ["self"] ["self"] (defScope s_Disk___init__) := ⟨rfl, rfl, rfl, by decide +kernel, rfl, by decide +kernel, by decide +kernel⟩
theorem ok_Disk___init__ {P : Program} {w : World} {K : PySem.W.Frag} {mg : PySem.Str → Option Value} {base : Heap} (T : Txt K mg)  : Fn P w K mg base 1 a_Disk___init__ ["self"] (sp1 fun x H Q _ => ∃ a dx, x = .ref a ∧ H a = some (.ins c_Disk dx []) ∧ ∀ l H1, H l = none → (∀ b, b ≠ a → b ≠ l → H1 b = H b) → H1 a = some (.ins c_Disk dx (dsk l none)) → H1 l = some (strL []) → Q .non H1) := by
  have SC := sc_Disk___init__
  refine Fn.of1 T.F_Disk___init__ SC (fun fd F => F.bindsN fun _ _ _ _ _ _ us hl => match us, hl with | [_], _ => rfl) (fun cdv A outer s H v0 Q E hr h => ?_)
  refine ⟨_, PSs.nox (pss_cons (ps_fld (pv 0) (pe_lst pa_nil) rfl) (pss_one (ps_fld (pv 0) pe_non rfl))), ?_⟩
  rw [show L2.start ["self"] [v0] = [some v0] from rfl]
  try dsimp only [cxOf, Cx.nox]
  obtain ⟨a, dx, rfl, ea, q⟩ := h
  simp only [tRet, tRetN, tNext, tSeq, tDrop, tAsg, gName, tIfS, tAndV, tOrV, tNotV, tAnd, tOr, tNot, tB, tTest, tIf, tCB, tCons, tVar, tC, tNil, tOp, tUn, tCall, tCallS, tMeth, tMake, tProp, tFld, sFld, sFldAug, tLst, tTup, tChain, tPar, rI, rI0, rU, rEq, rNe, rIsi, rAppend, sp0, sp1, sp2, sp3, sp4, List.nil_append, List.append_nil, List.cons_append, List.cons.injEq, List.getElem?_cons_zero, List.getElem?_cons_succ, List.set_cons_zero, List.set_cons_succ, Option.some.injEq, V.int.injEq, V.str.injEq, V.bl.injEq, V.ref.injEq, V.ty.injEq, exists_eq_left', exists_eq_left, exists_eq_right, exists_and_left, exists_and_right, and_true, true_and, and_assoc, exists_const, exists_eq, reduceCtorEq, false_and, and_false, or_false, false_or]
  refine ⟨by decide, fun p hp => ⟨c_Disk, dx, [], by rw [upd_ne (ne_of_none ea hp)]; exact ea, T.cl_Disk, T.n_Disk_own_pages, by decide, c_Disk, dx, _, upd_same, T.cl_Disk, T.n_Disk_pages_left, by show 1 < 1000; omega, ?_⟩⟩
  have hne : p ≠ a := fun e => by rw [e, ea] at hp; cases hp
  refine q p _ hp (fun b h1 h2 => by rw [upd_ne h1, upd_ne h1, upd_ne h2]) upd_same ?_
  rw [upd_ne hne, upd_ne hne]
  exact upd_same
theorem sc_Disk___len__ : FnScope ["self"] ["self"] (defScope s_Disk___len__) := ⟨rfl, rfl, rfl, by decide +kernel, rfl, by decide +kernel, by decide +kernel⟩
theorem ok_Disk___len__ {P : Program} {w : World} {K : PySem.W.Frag} {mg : PySem.Str → Option Value} {base : Heap} (T : Txt K mg)  : Fn P w K mg base 1 a_Disk___len__ ["self"] (sp1 fun x H Q _ => ∃ (a dx l : Addr) (left : Option Int) (pgs : List PySem.Str), x = .ref a ∧ H a = some (.ins c_Disk dx (dsk l left)) ∧ H l = some (strL pgs) ∧ Q (.int pgs.length) H) := by
  have SC := sc_Disk___len__
  refine Fn.of1 T.F_Disk___len__ SC (fun fd F => F.bindsN fun _ _ _ _ _ _ us hl => match us, hl with | [_], _ => rfl) (fun cdv A outer s H v0 Q E hr h => ?_)
  refine ⟨_, PSs.nox (pss_one (ps_ret (pe_callB (lenK K) rfl T.b_len rfl (pa_cons (fldK K (pv 0)) pa_nil)))), ?_⟩
  rw [show L2.start ["self"] [v0] = [some v0] from rfl]
  try dsimp only [cxOf, Cx.nox]
  obtain ⟨a, dx, l, left, pgs, rfl, ea, el, q⟩ := h
  simp only [tRet, tRetN, tNext, tSeq, tDrop, tAsg, gName, tIfS, tAndV, tOrV, tNotV, tAnd, tOr, tNot, tB, tTest, tIf, tCB, tCons, tVar, tC, tNil, tOp, tUn, tCall, tCallS, tMeth, tMake, tProp, tFld, sFld, sFldAug, tLst, tTup, tChain, tPar, rI, rI0, rU, rEq, rNe, rIsi, rAppend, sp0, sp1, sp2, sp3, sp4, List.nil_append, List.append_nil, List.cons_append, List.cons.injEq, List.getElem?_cons_zero, List.getElem?_cons_succ, List.set_cons_zero, List.set_cons_succ, Option.some.injEq, V.int.injEq, V.str.injEq, V.bl.injEq, V.ref.injEq, V.ty.injEq, exists_eq_left', exists_eq_left, exists_eq_right, exists_and_left, exists_and_right, and_true, true_and, and_assoc, exists_const, exists_eq, reduceCtorEq, false_and, and_false, or_false, false_or, rLen]
  exact ⟨c_Disk, dx, _, ea, T.cl_Disk, T.n_Disk_own_pages, .ref l, rfl, pgs.length, .inl ⟨_, sqL_str el, (List.length_map _).symm⟩, q⟩
theorem sc_Disk_has_crashed : FnScope ["self"] ["self"] (defScope s_Disk_has_crashed) := ⟨rfl, rfl, rfl, by decide +kernel, rfl, by decide +kernel, by decide +kernel⟩
theorem ok_Disk_has_crashed {P : Program} {w : World} {K : PySem.W.Frag} {mg : PySem.Str → Option Value} {base : Heap} (T : Txt K mg)  : Fn P w K mg base 1 a_Disk_has_crashed ["self"] (sp1 fun x H Q _ => ∃ (a dx l : Addr) (left : Option Int) (pgs : List PySem.Str), x = .ref a ∧ H a = some (.ins c_Disk dx (dsk l left)) ∧ H l = some (strL pgs) ∧ Q (.bl (decide (left = some 0))) H) := by
  have SC := sc_Disk_has_crashed
  refine Fn.of1 T.F_Disk_has_crashed SC (fun fd F => F.bindsN fun _ _ _ _ _ _ us hl => match us, hl with | [_], _ => rfl) (fun cdv A outer s H v0 Q E hr h => ?_)
  refine ⟨_, PSs.nox (pss_one (ps_ret (pe_cmpR op_eq (fldK K (pv 0)) pe_int (nomark _)))), ?_⟩
  rw [show L2.start ["self"] [v0] = [some v0] from rfl]
  try dsimp only [cxOf, Cx.nox]
  obtain ⟨a, dx, l, left, pgs, rfl, ea, el, q⟩ := h
  simp only [tRet, tRetN, tNext, tSeq, tDrop, tAsg, gName, tIfS, tAndV, tOrV, tNotV, tAnd, tOr, tNot, tB, tTest, tIf, tCB, tCons, tVar, tC, tNil, tOp, tUn, tCall, tCallS, tMeth, tMake, tProp, tFld, sFld, sFldAug, tLst, tTup, tChain, tPar, rI, rI0, rU, rEq, rNe, rIsi, rAppend, sp0, sp1, sp2, sp3, sp4, List.nil_append, List.append_nil, List.cons_append, List.cons.injEq, List.getElem?_cons_zero, List.getElem?_cons_succ, List.set_cons_zero, List.set_cons_succ, Option.some.injEq, V.int.injEq, V.str.injEq, V.bl.injEq, V.ref.injEq, V.ty.injEq, exists_eq_left', exists_eq_left, exists_eq_right, exists_and_left, exists_and_right, and_true, true_and, and_assoc, exists_const, exists_eq, reduceCtorEq, false_and, and_false, or_false, false_or]
  refine ⟨c_Disk, dx, _, ea, T.cl_Disk, T.n_Disk_pages_left, lv left, rfl, ?_⟩
  rw [lv_dec]
  exact ⟨by cases left <;> rfl, q⟩
theorem sc_Disk_pages : FnScope ["self"] ["self"] (defScope s_Disk_pages) := ⟨rfl, rfl, rfl, by decide +kernel, rfl, by decide +kernel, by decide +kernel⟩
theorem ok_Disk_pages {P : Program} {w : World} {K : PySem.W.Frag} {mg : PySem.Str → Option Value} {base : Heap} (T : Txt K mg)  : Fn P w K mg base 1 a_Disk_pages ["self"] (sp1 fun x H Q _ => ∃ (a dx l : Addr) (left : Option Int) (pgs : List PySem.Str), x = .ref a ∧ H a = some (.ins c_Disk dx (dsk l left)) ∧ H l = some (strL pgs) ∧ ∀ p, H p = none → Q (.ref p) (upd H p (strL pgs))) := by
  have SC := sc_Disk_pages
  refine Fn.of1 T.F_Disk_pages SC (fun fd F => F.bindsN fun _ _ _ _ _ _ us hl => match us, hl with | [_], _ => rfl) (fun cdv A outer s H v0 Q E hr h => ?_)
  refine ⟨_, PSs.nox (pss_one (ps_ret (pe_callTy call_list_of rfl T.b_list rfl (pa_cons (fldK K (pv 0)) pa_nil)))), ?_⟩
  rw [show L2.start ["self"] [v0] = [some v0] from rfl]
  try dsimp only [cxOf, Cx.nox]
  obtain ⟨a, dx, l, left, pgs, rfl, ea, el, q⟩ := h
  simp only [tRet, tRetN, tNext, tSeq, tDrop, tAsg, gName, tIfS, tAndV, tOrV, tNotV, tAnd, tOr, tNot, tB, tTest, tIf, tCB, tCons, tVar, tC, tNil, tOp, tUn, tCall, tCallS, tMeth, tMake, tProp, tFld, sFld, sFldAug, tLst, tTup, tChain, tPar, rI, rI0, rU, rEq, rNe, rIsi, rAppend, sp0, sp1, sp2, sp3, sp4, List.nil_append, List.append_nil, List.cons_append, List.cons.injEq, List.getElem?_cons_zero, List.getElem?_cons_succ, List.set_cons_zero, List.set_cons_succ, Option.some.injEq, V.int.injEq, V.str.injEq, V.bl.injEq, V.ref.injEq, V.ty.injEq, exists_eq_left', exists_eq_left, exists_eq_right, exists_and_left, exists_and_right, and_true, true_and, and_assoc, exists_const, exists_eq, reduceCtorEq, false_and, and_false, or_false, false_or]
  exact ⟨c_Disk, dx, _, ea, T.cl_Disk, T.n_Disk_own_pages, _, rfl, l, rfl, _, .inl (sqL_str el), q⟩
theorem sc_Disk_write : FnScope ["self", "page"] ["self", "page"] (defScope s_Disk_write) := ⟨rfl, rfl, rfl, by decide +kernel, rfl, by decide +kernel, by decide +kernel⟩
theorem ok_Disk_write {P : Program} {w : World} {K : PySem.W.Frag} {mg : PySem.Str → Option Value} {base : Heap} (T : Txt K mg)  : Fn P w K mg base 4 a_Disk_write ["self", "page"] (sp2 fun x y H Q E => ∃ (a dx l : Addr) (left : Option Int) (pgs : List PySem.Str), x = .ref a ∧ H a = some (.ins c_Disk dx (dsk l left)) ∧ H l = some (strL pgs) ∧ pgs.length < sizeLine ∧ ∃ b, PageArg K H y b ∧ (b = false → RaiseV E c_InvalidPage y H) ∧
  (b = true → left = some 0 → E (.ref c_Crashed) none H) ∧ (b = true → ∀ z, y = .str z → left ≠ some 0 → Q .non (upd (upd H a (.ins c_Disk dx (dsk l (left.map (· - 1))))) l (strL (pgs ++ [z]))))) := by
  have SC := sc_Disk_write
  refine Fn.of2 T.F_Disk_write SC (fun fd F => F.bindsN fun _ _ _ _ _ _ us hl => match us, hl with | [_, _], _ => rfl) (fun cdv A outer s H v0 v1 Q E hr h => ?_)
  have tk := takes_of (X := cxOf (L2.CX P w) P w K mg base ["self", "page"] "Disk.write" (defScope s_Disk_write) a_Disk_write cdv A outer s H E) rfl rfl rfl rfl
  have px := passes_call tk fun _ _ _ _ h => h
  refine ⟨_, (pss_cons (ps_expr (pc (ok_require_page T) hr T.g_require_page px (pa_cons (pv 1) pa_nil))) (pss_cons (ps_if (pt_val (pprop (pv 0) T.cl_Disk T.q_Disk_has_crashed (ok_Disk_has_crashed T) hr passL)) (pss_one (ps_err0 rfl tk PySem.F.excBase_RuntimeError T.xr_Crashed T.g_Crashed T.kp_Crashed T.xs_Crashed T.xy_Crashed rfl)) pss_nil) (pss_cons (ps_if (pt_cmpR op_notN (fldK K (pv 0)) pe_non (nomark _)) (pss_one (ps_fldaug (pv 0) pe_int iop_sub)) pss_nil) (pss_one (ps_expr (pe_bm PySem.F.plainAttrs_list PySem.F.slot_list_append PySem.F.type_list_append mt_append (fldK K (pv 0)) (pa_cons (pv 1) pa_nil))))))), ?_⟩
  rw [show L2.start ["self", "page"] [v0, v1] = [some v0, some v1] from rfl]
  try dsimp only [cxOf, Cx.nox]
  obtain ⟨a, dx, l, left, pgs, rfl, ea, el, hz, b, hb, q1, q2, q3⟩ := h
  simp only [tRet, tRetN, tNext, tSeq, tDrop, tAsg, gName, tIfS, tAndV, tOrV, tNotV, tAnd, tOr, tNot, tB, tTest, tIf, tCB, tCons, tVar, tC, tNil, tOp, tUn, tCall, tCallS, tMeth, tMake, tProp, tFld, sFld, sFldAug, tLst, tTup, tChain, tPar, rI, rI0, rU, rEq, rNe, rIsi, rAppend, sp0, sp1, sp2, sp3, sp4, List.nil_append, List.append_nil, List.cons_append, List.cons.injEq, List.getElem?_cons_zero, List.getElem?_cons_succ, List.set_cons_zero, List.set_cons_succ, Option.some.injEq, V.int.injEq, V.str.injEq, V.bl.injEq, V.ref.injEq, V.ty.injEq, exists_eq_left', exists_eq_left, exists_eq_right, exists_and_left, exists_and_right, and_true, true_and, and_assoc, exists_const, exists_eq, reduceCtorEq, false_and, and_false, or_false, false_or, tErr0, tBM, rAppend, tProp]
  have zl : (pgs.map V.str).length < sizeLine := by rw [List.length_map]; exact hz
  have fin : ∀ z, upd (upd H a (.ins c_Disk dx (dsk l (left.map (· - 1))))) l (strL (pgs ++ [z])) = upd (upd H a (.ins c_Disk dx (dsk l (left.map (· - 1))))) l (.lst (pgs.map V.str ++ [.str z])) := fun z => by
    unfold strL
    rw [List.map_append]; rfl
  have lne : l ≠ a := fun e => by rw [e, ea] at el; cases el
  refine ⟨b, hb, fun hb1 => ⟨⟨dx, _, ea⟩, dx, l, left, ea, ⟨pgs, el⟩, ?_⟩, q1⟩
  obtain ⟨z, rfl, _⟩ : ∃ z : PySem.Str, v1 = .str z ∧ True := by
    rcases hb with ⟨z, e, _⟩ | ⟨e, _⟩
    · exact ⟨z, e, trivial⟩
    · rw [hb1] at e; cases e
  by_cases e0 : left = some 0
  · rw [decide_eq_true e0]
    exact iteT (q2 hb1 e0)
  · rw [decide_eq_false e0]
    refine iteF ⟨c_Disk, dx, _, ea, T.cl_Disk, T.n_Disk_pages_left, lv left, rfl, ?_⟩
    have q4 := q3 hb1 z rfl e0
    rw [fin] at q4
    cases left with
    | none =>
      refine iteF ⟨c_Disk, dx, _, ea, T.cl_Disk, T.n_Disk_own_pages, _, rfl, .inl ⟨rfl, _, sqL_str el⟩, l, rfl, _, el, zl, ?_⟩
      rw [upd_self (o := .ins c_Disk dx (dsk l (Option.map (· - 1) none))) ea] at q4
      exact q4
    | some n =>
      refine iteT ⟨c_Disk, dx, _, ea, T.cl_Disk, T.n_Disk_pages_left, _, rfl, n, rfl, dx, _, ea, by show 2 < 1000; omega, c_Disk, dx, _, upd_same, T.cl_Disk, T.n_Disk_own_pages, _, rfl, ?_⟩
      have el2 : upd H a (.ins c_Disk dx (putF "pages_left" (.int (n - 1)) (dsk l (some n)))) l = some (strL pgs) := by rw [upd_ne lne]; exact el
      exact ⟨.inl ⟨rfl, _, sqL_str el2⟩, l, rfl, _, el2, zl, q4⟩
theorem sc_Disk_crash_after : FnScope ["self", "count"] ["self", "count"] (defScope s_Disk_crash_after) := ⟨rfl, rfl, rfl, by decide +kernel, rfl, by decide +kernel, by decide +kernel⟩
theorem ok_Disk_crash_after {P : Program} {w : World} {K : PySem.W.Frag} {mg : PySem.Str → Option Value} {base : Heap} (T : Txt K mg)  : Fn P w K mg base 3 a_Disk_crash_after ["self", "count"] (sp2 fun x y H Q E => ∃ (a dx l : Addr) (left : Option Int) (pgs : List PySem.Str), x = .ref a ∧ H a = some (.ins c_Disk dx (dsk l left)) ∧ H l = some (strL pgs) ∧ ((IntArg K H y false ∧ RaiseV E c_InvalidCount y H) ∨ ∃ i, y = .int i ∧ (i < 0 → RaiseV E c_InvalidCount y H) ∧ (0 ≤ i → left = some 0 → Q .non H) ∧ (0 ≤ i → left ≠ some 0 → Q .non (upd H a (.ins c_Disk dx (dsk l (some i))))))) := by
  have SC := sc_Disk_crash_after
  refine Fn.of2 T.F_Disk_crash_after SC (fun fd F => F.bindsN fun _ _ _ _ _ _ us hl => match us, hl with | [_, _], _ => rfl) (fun cdv A outer s H v0 v1 Q E hr h => ?_)
  have tk := takes_of (X := cxOf (L2.CX P w) P w K mg base ["self", "count"] "Disk.crash_after" (defScope s_Disk_crash_after) a_Disk_crash_after cdv A outer s H E) rfl rfl rfl rfl
  have px := passes_call tk fun _ _ _ _ h => h
  refine ⟨_, (pss_cons (ps_if (PW.pt (pw_or (pt_not (pt_val (pc (ok_is_integer T) hr T.g_is_integer passL (pa_cons (pv 1) pa_nil)))) (pw_or1 (pt_cmpR op_lt (pv 1) pe_int (nomark _))))) (pss_one (ps_err rfl tk T.x_InvalidCount T.xi_InvalidCount T.xt_InvalidCount (ok_InvalidCount___init__ T) hr rfl T.g_InvalidCount (pa_cons (pv 1) pa_nil))) pss_nil) (pss_one (ps_if (pt_not (pt_val (pprop (pv 0) T.cl_Disk T.q_Disk_has_crashed (ok_Disk_has_crashed T) hr passL))) (pss_one (ps_fld (pv 0) (pv 1) rfl)) pss_nil))), ?_⟩
  rw [show L2.start ["self", "count"] [v0, v1] = [some v0, some v1] from rfl]
  try dsimp only [cxOf, Cx.nox]
  obtain ⟨a, dx, l, left, pgs, rfl, ea, el, q⟩ := h
  simp only [tRet, tRetN, tNext, tSeq, tDrop, tAsg, gName, tIfS, tAndV, tOrV, tNotV, tAnd, tOr, tNot, tB, tTest, tIf, tCB, tCons, tVar, tC, tNil, tOp, tUn, tCall, tCallS, tMeth, tMake, tProp, tFld, sFld, sFldAug, tLst, tTup, tChain, tPar, rI, rI0, rU, rEq, rNe, rIsi, rAppend, sp0, sp1, sp2, sp3, sp4, List.nil_append, List.append_nil, List.cons_append, List.cons.injEq, List.getElem?_cons_zero, List.getElem?_cons_succ, List.set_cons_zero, List.set_cons_succ, Option.some.injEq, V.int.injEq, V.str.injEq, V.bl.injEq, V.ref.injEq, V.ty.injEq, exists_eq_left', exists_eq_left, exists_eq_right, exists_and_left, exists_and_right, and_true, true_and, and_assoc, exists_const, exists_eq, reduceCtorEq, false_and, and_false, or_false, false_or, tErr, tProp]
  rcases q with ⟨h1, h2⟩ | ⟨i, rfl, h1, h2, h3⟩
  · exact ⟨false, h1, iteT (ifT h2)⟩
  · refine ⟨true, .int i, iteF ⟨i, rfl, ?_⟩⟩
    by_cases hi : i < 0
    · rw [decide_eq_true hi]
      exact iteT (h1 hi)
    · rw [decide_eq_false hi]
      refine iteF ⟨⟨dx, _, ea⟩, dx, l, left, ea, ⟨pgs, el⟩, ?_⟩
      by_cases e0 : left = some 0
      · rw [decide_eq_true e0]
        exact iteF (h2 (by omega) e0)
      · rw [decide_eq_false e0]
        exact iteT ⟨c_Disk, dx, _, ea, T.cl_Disk, T.n_Disk_pages_left, by show 2 < 1000; omega, h3 (by omega) e0⟩
theorem sc_Disk_spoil : FnScope ["self", "number", "page"] ["self", "number", "page"] (defScope s_Disk_spoil) := ⟨rfl, rfl, rfl, by decide +kernel, rfl, by decide +kernel, by decide +kernel⟩
theorem ok_Disk_spoil {P : Program} {w : World} {K : PySem.W.Frag} {mg : PySem.Str → Option Value} {base : Heap} (T : Txt K mg)  : Fn P w K mg base 4 a_Disk_spoil ["self", "number", "page"] (sp3 fun x y p H Q E => ∃ (a dx l : Addr) (left : Option Int) (pgs : List PySem.Str), x = .ref a ∧ H a = some (.ins c_Disk dx (dsk l left)) ∧ H l = some (strL pgs) ∧ ((IntArg K H y false ∧ RaiseV E c_InvalidPlace y H) ∨ ∃ i, y = .int i ∧ (¬ (0 ≤ i ∧ i < pgs.length) → RaiseV E c_InvalidPlace y H) ∧ (0 ≤ i → i < pgs.length → ∃ b, PageArg K H p b ∧ (b = false → RaiseV E c_InvalidPage p H) ∧
  (b = true → ∀ z, p = .str z → Q .non (upd H l (strL (pgs.set i.toNat z))))))) := by
  have SC := sc_Disk_spoil
  refine Fn.of3 T.F_Disk_spoil SC (fun fd F => F.bindsN fun _ _ _ _ _ _ us hl => match us, hl with | [_, _, _], _ => rfl) (fun cdv A outer s H v0 v1 v2 Q E hr h => ?_)
  have tk := takes_of (X := cxOf (L2.CX P w) P w K mg base ["self", "number", "page"] "Disk.spoil" (defScope s_Disk_spoil) a_Disk_spoil cdv A outer s H E) rfl rfl rfl rfl
  have px := passes_call tk fun _ _ _ _ h => h
  refine ⟨_, (pss_cons (ps_if (PW.pt (pw_or (pt_not (pt_val (pc (ok_is_integer T) hr T.g_is_integer passL (pa_cons (pv 1) pa_nil)))) (pw_or1 (pt_not (pt_chain op_le op_lt pe_int (pv 1) (pe_callB (lenK K) rfl T.b_len rfl (pa_cons (fldK K (pv 0)) pa_nil))))))) (pss_one (ps_err rfl tk T.x_InvalidPlace T.xi_InvalidPlace T.xt_InvalidPlace (ok_InvalidPlace___init__ T) hr rfl T.g_InvalidPlace (pa_cons (pv 1) pa_nil))) pss_nil) (pss_cons (ps_expr (pc (ok_require_page T) hr T.g_require_page px (pa_cons (pv 2) pa_nil))) (pss_one (ps_asg (pv 2) (pg_sub (fldK K (pv 0)) (pv 1) set_list))))), ?_⟩
  rw [show L2.start ["self", "number", "page"] [v0, v1, v2] = [some v0, some v1, some v2] from rfl]
  try dsimp only [cxOf, Cx.nox]
  obtain ⟨a, dx, l, left, pgs, rfl, ea, el, q⟩ := h
  simp only [tRet, tRetN, tNext, tSeq, tDrop, tAsg, gName, tIfS, tAndV, tOrV, tNotV, tAnd, tOr, tNot, tB, tTest, tIf, tCB, tCons, tVar, tC, tNil, tOp, tUn, tCall, tCallS, tMeth, tMake, tProp, tFld, sFld, sFldAug, tLst, tTup, tChain, tPar, rI, rI0, rU, rEq, rNe, rIsi, rAppend, sp0, sp1, sp2, sp3, sp4, List.nil_append, List.append_nil, List.cons_append, List.cons.injEq, List.getElem?_cons_zero, List.getElem?_cons_succ, List.set_cons_zero, List.set_cons_succ, Option.some.injEq, V.int.injEq, V.str.injEq, V.bl.injEq, V.ref.injEq, V.ty.injEq, exists_eq_left', exists_eq_left, exists_eq_right, exists_and_left, exists_and_right, and_true, true_and, and_assoc, exists_const, exists_eq, reduceCtorEq, false_and, and_false, or_false, false_or, tErr, rLen, rSetL, gSub]
  rcases q with ⟨h1, h2⟩ | ⟨i, rfl, h1, h2⟩
  · exact ⟨false, h1, iteT (ifT h2)⟩
  · refine ⟨true, .int i, iteF ⟨i, rfl, ?_⟩⟩
    by_cases hi : 0 ≤ i
    · rw [decide_eq_true hi]
      refine iteT ⟨c_Disk, dx, _, ea, T.cl_Disk, T.n_Disk_own_pages, _, rfl, pgs.length, .inl ⟨_, sqL_str el, (List.length_map _).symm⟩, i, rfl, ?_⟩
      by_cases hj : i < pgs.length
      · rw [decide_eq_true hj]
        obtain ⟨b, hb, h3, h4⟩ := h2 hi hj
        refine iteF ⟨b, hb, fun hb1 => ?_, h3⟩
        obtain ⟨z, rfl, _⟩ : ∃ z : PySem.Str, v2 = .str z ∧ True := by
          rcases hb with ⟨z, e, _⟩ | ⟨e, _⟩
          · exact ⟨z, e, trivial⟩
          · rw [hb1] at e; cases e
        have q4 := h4 hb1 z rfl
        have e4 : strL (pgs.set i.toNat z) = .lst ((pgs.map V.str).set i.toNat (.str z)) := by unfold strL; rw [List.map_set]
        rw [e4] at q4
        refine ⟨c_Disk, dx, _, ea, T.cl_Disk, T.n_Disk_own_pages, _, rfl, l, rfl, _, i, rfl, el, i.toNat, ?_, q4⟩
        unfold ixN
        rw [List.length_map]
        rw [if_pos hi, if_pos hj]
      · rw [decide_eq_false hj]
        exact iteT (h1 fun z => hj z.2)
    · rw [decide_eq_false hi]
      exact iteF (iteT (h1 fun z => hi z.1))
theorem sc_Disk_restarted : FnScope ["self", "found"] ["self"] (defScope s_Disk_restarted) := ⟨rfl, rfl, rfl, by decide +kernel, rfl, by decide +kernel, by decide +kernel⟩
theorem ok_Disk_restarted {P : Program} {w : World} {K : PySem.W.Frag} {mg : PySem.Str → Option Value} {base : Heap} (T : Txt K mg)  : Fn P w K mg base 3 a_Disk_restarted ["self"] (sp1 fun x H Q E => ∃ (a dx l : Addr) (left : Option Int) (pgs : List PySem.Str), x = .ref a ∧ H a = some (.ins c_Disk dx (dsk l left)) ∧ H l = some (strL pgs) ∧ ∀ (y dy m : Addr) (H' : Hp), H y = none → H m = none → m ≠ y → (∀ b u, H b = some u → H' b = some u) → H' y = some (.ins c_Disk dy (dsk m none)) → H' m = some (strL pgs) → Q (.ref y) H') := by
  have SC := sc_Disk_restarted
  refine Fn.of1 T.F_Disk_restarted SC (fun fd F => F.bindsN fun _ _ _ _ _ _ us hl => match us, hl with | [_], _ => rfl) (fun cdv A outer s H v0 Q E hr h => ?_)
  refine ⟨_, PSs.nox (pss_cons (ps_set (i := 1) SC.nd rfl (Or.inl rfl) (pmk0 T.k_Disk (ok_Disk___init__ T) hr T.g_Disk passL)) (pss_cons (ps_fld (pv 1) (pe_callTy call_list_of rfl T.b_list rfl (pa_cons (fldK K (pv 0)) pa_nil)) rfl) (pss_one (ps_ret (pv 1))))), ?_⟩
  rw [show L2.start ["self", "found"] [v0] = [some v0, none] from rfl]
  try dsimp only [cxOf, Cx.nox]
  obtain ⟨a, dx, l, left, pgs, rfl, ea, el, q⟩ := h
  simp only [tRet, tRetN, tNext, tSeq, tDrop, tAsg, gName, tIfS, tAndV, tOrV, tNotV, tAnd, tOr, tNot, tB, tTest, tIf, tCB, tCons, tVar, tC, tNil, tOp, tUn, tCall, tCallS, tMeth, tMake, tProp, tFld, sFld, sFldAug, tLst, tTup, tChain, tPar, rI, rI0, rU, rEq, rNe, rIsi, rAppend, sp0, sp1, sp2, sp3, sp4, List.nil_append, List.append_nil, List.cons_append, List.cons.injEq, List.getElem?_cons_zero, List.getElem?_cons_succ, List.set_cons_zero, List.set_cons_succ, Option.some.injEq, V.int.injEq, V.str.injEq, V.bl.injEq, V.ref.injEq, V.ty.injEq, exists_eq_left', exists_eq_left, exists_eq_right, exists_and_left, exists_and_right, and_true, true_and, and_assoc, exists_const, exists_eq, reduceCtorEq, false_and, and_false, or_false, false_or]
  intro y dy hy hdy hne
  have hay : a ≠ y := fun e => by rw [e, hy] at ea; cases ea
  have hady : a ≠ dy := fun e => by rw [e, hdy] at ea; cases ea
  have hly : l ≠ y := fun e => by rw [e, hy] at el; cases el
  have hldy : l ≠ dy := fun e => by rw [e, hdy] at el; cases el
  refine ⟨dy, upd_same, fun l1 H1 hl1 k1 k2 k3 => ?_⟩
  have hl1y : l1 ≠ y := fun e => by rw [e, upd_same] at hl1; cases hl1
  have hl1d : l1 ≠ dy := fun e => by rw [e, upd_ne hne, upd_same] at hl1; cases hl1
  have hl0 : H l1 = none := by rw [upd_ne hl1y, upd_ne hl1d] at hl1; exact hl1
  have old : ∀ b u, H b = some u → H1 b = some u := fun b u hb => by
    have b1 : b ≠ y := fun e => by rw [e, hy] at hb; cases hb
    have b2 : b ≠ dy := fun e => by rw [e, hdy] at hb; cases hb
    have b3 : b ≠ l1 := fun e => by rw [e, hl0] at hb; cases hb
    rw [k1 b b1 b3, upd_ne b1, upd_ne b2, hb]
  refine ⟨c_Disk, dx, _, old _ _ ea, T.cl_Disk, T.n_Disk_own_pages, _, rfl, l, rfl, _, .inl (sqL_str (old _ _ el)), fun m hm => ?_⟩
  have hmy : m ≠ y := fun e => by rw [e, k2] at hm; cases hm
  have hm0 : H m = none := by
    cases e : H m with
    | none => rfl
    | some u => rw [old _ _ e] at hm; cases hm
  refine ⟨c_Disk, dy, _, by rw [upd_ne hmy.symm]; exact k2, T.cl_Disk, T.n_Disk_own_pages, by show 2 < 1000; omega, ?_⟩
  refine q y dy m _ hy hm0 hmy (fun b u hb => ?_) upd_same (by rw [upd_ne hmy]; exact upd_same)
  have b1 : b ≠ y := fun e => by rw [e, hy] at hb; cases hb
  have b2 : b ≠ m := fun e => by rw [e, hm0] at hb; cases hb
  rw [upd_ne b1, upd_ne b2]
  exact old _ _ hb
theorem sc_Disk_keep_first : FnScope ["self", "count"] ["self", "count"] (defScope s_Disk_keep_first) := ⟨rfl, rfl, rfl, by decide +kernel, rfl, by decide +kernel, by decide +kernel⟩
theorem ok_Disk_keep_first {P : Program} {w : World} {K : PySem.W.Frag} {mg : PySem.Str → Option Value} {base : Heap} (T : Txt K mg)  : Fn P w K mg base 1 a_Disk_keep_first ["self", "count"] (sp2 fun x y H Q E => ∃ (a dx l : Addr) (left : Option Int) (pgs : List PySem.Str), x = .ref a ∧ H a = some (.ins c_Disk dx (dsk l left)) ∧ H l = some (strL pgs) ∧ ∃ n : Nat, y = .int n ∧ ∀ m, H m = none → Q .non (upd (upd H m (strL (pgs.take n))) a (.ins c_Disk dx (dsk m left)))) := by
  have SC := sc_Disk_keep_first
  refine Fn.of2 T.F_Disk_keep_first SC (fun fd F => F.bindsN fun _ _ _ _ _ _ us hl => match us, hl with | [_, _], _ => rfl) (fun cdv A outer s H v0 v1 Q E hr h => ?_)
  refine ⟨_, PSs.nox (pss_one (ps_fld (pv 0) (pe_slice sl_list (fldK K (pv 0)) po_none (po_some (pv 1))) rfl)), ?_⟩
  rw [show L2.start ["self", "count"] [v0, v1] = [some v0, some v1] from rfl]
  try dsimp only [cxOf, Cx.nox]
  obtain ⟨a, dx, l, left, pgs, rfl, ea, el, n, rfl, q⟩ := h
  simp only [tRet, tRetN, tNext, tSeq, tDrop, tAsg, gName, tIfS, tAndV, tOrV, tNotV, tAnd, tOr, tNot, tB, tTest, tIf, tCB, tCons, tVar, tC, tNil, tOp, tUn, tCall, tCallS, tMeth, tMake, tProp, tFld, sFld, sFldAug, tLst, tTup, tChain, tPar, rI, rI0, rU, rEq, rNe, rIsi, rAppend, sp0, sp1, sp2, sp3, sp4, List.nil_append, List.append_nil, List.cons_append, List.cons.injEq, List.getElem?_cons_zero, List.getElem?_cons_succ, List.set_cons_zero, List.set_cons_succ, Option.some.injEq, V.int.injEq, V.str.injEq, V.bl.injEq, V.ref.injEq, V.ty.injEq, exists_eq_left', exists_eq_left, exists_eq_right, exists_and_left, exists_and_right, and_true, true_and, and_assoc, exists_const, exists_eq, reduceCtorEq, false_and, and_false, or_false, false_or, tSl, tPart, tNoPart, rSlL]
  refine ⟨c_Disk, dx, _, ea, T.cl_Disk, T.n_Disk_own_pages, _, rfl, l, rfl, _, sqL_str el, fun m hm => ⟨c_Disk, dx, dsk l left, ?_, T.cl_Disk, T.n_Disk_own_pages, by show 2 < 1000; omega, ?_⟩⟩
  · rw [upd_ne (ne_of_none ea hm)]; exact ea
  · have e : HO.lst (cutV (pgs.map V.str) none (some (n : Int))) = strL (pgs.take n) := by
      unfold strL cutV
      rw [List.map_take]
      simp [HT.sIx_nat, HT.sIx_none, List.length_map]
    rw [e]
    exact q m hm
end Gd
/-! ### k91: the draws -/
namespace Gd
open PySem PySem.Spec PyProof.Rows L2
theorem atI_nat {α : Type} {xs : List α} {i : Int} {n : Nat} {v : α} (h : i = n) (e : xs[n]? = some v) : atI xs i = some v := by
  subst h
  have hn : n < xs.length := by
    rcases Nat.lt_or_ge n xs.length with h | h
    · exact h
    · rw [List.getElem?_eq_none_iff.mpr h] at e; cases e
  unfold atI ixN
  rw [if_pos (by omega), if_pos (by omega)]
  exact e
theorem call_intI {X : Cx} : CallR X (.type "int") (fun xs H Q => ∃ i, xs = [.int i] ∧ Q (.int i) H) := fun pins s σ H xs us Q I r h => call_int1 pins s σ H xs us Q I r (Or.inl h)
theorem fmod_lo {a b : Int} (h : 0 < b) : 0 ≤ a.fmod b := Int.fmod_nonneg_of_pos a h
theorem fmod_hi {a b : Int} (h : 0 < b) : a.fmod b < b := Int.fmod_lt_of_pos a h
theorem sqL_upd {K : PySem.W.Frag} {H : Hp} {a b : Addr} {o : HO} {xs : List V} (h : SqL K H b xs) (hab : b ≠ a) : SqL K (upd H a o) b xs := by
  rcases h with h | h
  · exact .inl (h.imp (fun e => by rw [upd_ne hab]; exact e) fun ⟨o', e⟩ => ⟨o', by rw [upd_ne hab]; exact e⟩)
  · exact .inr h
/-- a pot: [c, s] -/
def potO (c s : Int) : HO := .lst [.int c, .int s]
def PotOk (c s : Int) : Prop := 0 ≤ c ∧ 0 ≤ s ∧ s < 4294967296
theorem sc__law_pot : FnScope ["_law_script", "_law_k", "_law_cell", "_law_seed"] ["_law_script", "_law_k"] (defScope s__law_pot) := ⟨rfl, rfl, rfl, by decide +kernel, rfl, by decide +kernel, by decide +kernel⟩
theorem ok__law_pot {P : Program} {w : World} {K : PySem.W.Frag} {mg : PySem.Str → Option Value} {base : Heap} (T : Txt K mg)  : Fn P w K mg base 1 a__law_pot ["_law_script", "_law_k"] (sp2 fun x y H Q _ => ∃ (a : Addr) (ns : List Int) (k : Nat), x = .ref a ∧ y = .int k ∧ k < 100 ∧ SqL K H a (ns.map V.int) ∧ ∀ p c s, H p = none → PotOk c s → Q (.ref p) (upd H p (potO c s))) := by
  have SC := sc__law_pot
  refine Fn.of2 T.F__law_pot SC (fun fd F => F.bindsN fun _ _ _ _ _ _ us hl => match us, hl with | [_, _], _ => rfl) (fun cdv A outer s H v0 v1 Q E hr h => ?_)
  refine ⟨_, PSs.nox (pss_cons (ps_set (i := 2) SC.nd rfl (Or.inl rfl) (pe_ifExp (pt_cmpR op_lt (pv 1) (pe_callB (lenK K) rfl T.b_len rfl (pa_cons (pv 0) pa_nil)) (nomark _)) (pe_callB call_abs rfl T.b_abs rfl (pa_cons (pe_ix (ixL K) (pv 0) (pv 1) (fun _ _ => rfl)) pa_nil)) pe_int)) (pss_cons (ps_set (i := 3) SC.nd rfl (Or.inl rfl) (pe_op op_add (pe_op op_modN (pe_callTy call_intI rfl T.b_int rfl (pa_cons (pe_op op_pow (pe_op op_add (pe_op op_add (pe_op op_modN (pe_callTy call_intI rfl T.b_int rfl (pa_cons (pv 2) pa_nil)) pe_int) (pe_op op_mul pe_int (pv 1))) pe_int) pe_int) pa_nil)) pe_int) pe_int)) (pss_one (ps_ret (pe_lst (pa_cons (pe_callB (call_max2 rfl) rfl T.b_max rfl (pa_cons pe_int (pa_cons (pe_op op_sub (pv 2) (pe_op op_pow pe_int pe_int)) pa_nil))) (pa_cons (pv 3) pa_nil))))))), ?_⟩
  rw [show L2.start ["_law_script", "_law_k", "_law_cell", "_law_seed"] [v0, v1] = [some v0, some v1, none, none] from rfl]
  try dsimp only [cxOf, Cx.nox]
  obtain ⟨a, ns, k, rfl, rfl, hk, hS, q⟩ := h
  simp only [tRet, tRetN, tNext, tSeq, tDrop, tAsg, gName, tIfS, tAndV, tOrV, tNotV, tAnd, tOr, tNot, tB, tTest, tIf, tCB, tCons, tVar, tC, tNil, tOp, tUn, tCall, tCallS, tMeth, tMake, tProp, tFld, sFld, sFldAug, tLst, tTup, tChain, tPar, rI, rI0, rU, rEq, rNe, rIsi, rAppend, sp0, sp1, sp2, sp3, sp4, List.nil_append, List.append_nil, List.cons_append, List.cons.injEq, List.getElem?_cons_zero, List.getElem?_cons_succ, List.set_cons_zero, List.set_cons_succ, Option.some.injEq, V.int.injEq, V.str.injEq, V.bl.injEq, V.ref.injEq, V.ty.injEq, exists_eq_left', exists_eq_left, exists_eq_right, exists_and_left, exists_and_right, and_true, true_and, and_assoc, exists_const, exists_eq, reduceCtorEq, false_and, and_false, or_false, false_or, rLen, rIxL]
  have fin : ∀ c : Int, 0 ≤ c → CMul 6007 ↑k ∧ CPow (c.fmod 2147483587 + 6007 * ↑k + 13) 3 := fun c hc => by
    have h1 := fmod_lo (a := c) (b := 2147483587) (by omega)
    have h2 := fmod_hi (a := c) (b := 2147483587) (by omega)
    refine ⟨.inl (by omega), by omega, by omega, ?_⟩
    omega
  have ok : ∀ c t : Int, PotOk (if c - 10 ^ Int.toNat 18 > 0 then c - 10 ^ Int.toNat 18 else 0) (t.fmod 2147483563 + 1) := fun c t => by
    have h1 := fmod_lo (a := t) (b := 2147483563) (by omega)
    have h2 := fmod_hi (a := t) (b := 2147483563) (by omega)
    refine ⟨?_, by omega, by omega⟩
    split <;> omega
  refine ⟨_, .inl ⟨_, hS, rfl⟩, ?_⟩
  rw [List.length_map]
  by_cases e : (k : Int) < ns.length
  · rw [decide_eq_true e]
    obtain ⟨n, hn⟩ : ∃ n, ns[k]? = some n := ⟨_, List.getElem?_eq_getElem (by omega)⟩
    refine iteT ⟨_, hS, .int n, atI_nat rfl (by rw [List.getElem?_map, hn]; rfl), n, rfl, by omega, ?_⟩
    obtain ⟨f1, f2⟩ := fin (if n < 0 then -n else n) (by split <;> omega)
    exact ⟨f1, f2, by omega, ⟨by omega, by omega, by decide⟩, by show 2 ≤ sizeLine; rw [sizeLine_eq]; omega, fun p hp => q p _ _ hp (ok _ _)⟩
  · rw [decide_eq_false e]
    obtain ⟨f1, f2⟩ := fin 0 (by omega)
    exact iteF ⟨by omega, f1, f2, by omega, ⟨by omega, by omega, by decide⟩, by show 2 ≤ sizeLine; rw [sizeLine_eq]; omega, fun p hp => q p _ _ hp (ok 0 _)⟩
theorem sc__law_take : FnScope ["_law_pot_here", "_law_many", "_law_digit"] ["_law_pot_here", "_law_many"] (defScope s__law_take) := ⟨rfl, rfl, rfl, by decide +kernel, rfl, by decide +kernel, by decide +kernel⟩
theorem ok__law_take {P : Program} {w : World} {K : PySem.W.Frag} {mg : PySem.Str → Option Value} {base : Heap} (T : Txt K mg)  : Fn P w K mg base 1 a__law_take ["_law_pot_here", "_law_many"] (sp2 fun x y H Q _ => ∃ (a : Addr) (c s m : Int), x = .ref a ∧ y = .int m ∧ H a = some (potO c s) ∧ PotOk c s ∧ 0 < m ∧ m < 1073741824 ∧ ∀ c' s' d, PotOk c' s' → 0 ≤ d → d < m → Q (.int d) (upd H a (potO c' s'))) := by
  have SC := sc__law_take
  refine Fn.of2 T.F__law_take SC (fun fd F => F.bindsN fun _ _ _ _ _ _ us hl => match us, hl with | [_, _], _ => rfl) (fun cdv A outer s H v0 v1 Q E hr h => ?_)
  refine ⟨_, PSs.nox (pss_cons (ps_if (pt_cmpR op_gt (pe_ix (ixL K) (pv 0) pe_int (fun _ _ => rfl)) pe_int (nomark _)) (pss_cons (ps_set (i := 2) SC.nd rfl (Or.inl rfl) (pe_op op_modN (pe_callTy call_intI rfl T.b_int rfl (pa_cons (pe_ix (ixL K) (pv 0) pe_int (fun _ _ => rfl)) pa_nil)) (pv 1))) (pss_cons (ps_asg (pe_op op_fdivN (pe_ix (ixL K) (pv 0) pe_int (fun _ _ => rfl)) (pv 1)) (pg_sub (pv 0) pe_int set_list)) (pss_one (ps_ret (pv 2))))) pss_nil) (pss_cons (ps_asg (pe_op op_modN (pe_callTy call_intI rfl T.b_int rfl (pa_cons (pe_op op_add (pe_op op_mul (pe_ix (ixL K) (pv 0) pe_int (fun _ _ => rfl)) pe_int) pe_int) pa_nil)) pe_int) (pg_sub (pv 0) pe_int set_list)) (pss_one (ps_ret (pe_op op_modN (pe_callTy call_intI rfl T.b_int rfl (pa_cons (pe_op op_fdivN (pe_op op_modN (pe_callTy call_intI rfl T.b_int rfl (pa_cons (pe_op op_mul (pe_ix (ixL K) (pv 0) pe_int (fun _ _ => rfl)) (pe_ix (ixL K) (pv 0) pe_int (fun _ _ => rfl))) pa_nil)) pe_int) pe_int) pa_nil)) (pv 1)))))), ?_⟩
  rw [show L2.start ["_law_pot_here", "_law_many", "_law_digit"] [v0, v1] = [some v0, some v1, none] from rfl]
  try dsimp only [cxOf, Cx.nox]
  obtain ⟨a, c, s, m, rfl, rfl, ea, hP, hm, hm2, q⟩ := h
  simp only [tRet, tRetN, tNext, tSeq, tDrop, tAsg, gName, tIfS, tAndV, tOrV, tNotV, tAnd, tOr, tNot, tB, tTest, tIf, tCB, tCons, tVar, tC, tNil, tOp, tUn, tCall, tCallS, tMeth, tMake, tProp, tFld, sFld, sFldAug, tLst, tTup, tChain, tPar, rI, rI0, rU, rEq, rNe, rIsi, rAppend, sp0, sp1, sp2, sp3, sp4, List.nil_append, List.append_nil, List.cons_append, List.cons.injEq, List.getElem?_cons_zero, List.getElem?_cons_succ, List.set_cons_zero, List.set_cons_succ, Option.some.injEq, V.int.injEq, V.str.injEq, V.bl.injEq, V.ref.injEq, V.ty.injEq, exists_eq_left', exists_eq_left, exists_eq_right, exists_and_left, exists_and_right, and_true, true_and, and_assoc, exists_const, exists_eq, reduceCtorEq, false_and, and_false, or_false, false_or, rIxL, rSetL, gSub]
  obtain ⟨p1, p2, p3⟩ := hP
  have hS : SqL K H a [.int c, .int s] := sqL_of ea
  refine ⟨_, hS, .int c, rfl, c, rfl, ?_⟩
  by_cases e : 0 < c
  · rw [decide_eq_true e]
    exact iteT ⟨_, hS, .int c, rfl, c, rfl, by omega, _, hS, .int c, rfl, c, rfl, ⟨by omega, by omega⟩, _, ea, 0, rfl, q _ _ _ ⟨Int.fdiv_nonneg p1 (by omega), p2, p3⟩ (fmod_lo hm) (fmod_hi hm)⟩
  · rw [decide_eq_false e]
    have h1 := fmod_lo (a := s * 48271 + 30011) (b := 2147483629) (by omega)
    have h2 := fmod_hi (a := s * 48271 + 30011) (b := 2147483629) (by omega)
    refine iteF ⟨_, hS, .int s, rfl, s, rfl, .inl (by omega), by omega, _, ea, 1, rfl, ?_⟩
    generalize (s * 48271 + 30011).fmod 2147483629 = u at h1 h2 ⊢
    exact ⟨_, sqL_of upd_same, .int u, rfl, _, sqL_of upd_same, .int u, rfl, u, rfl, u, rfl, .inl (by omega), by omega, ⟨by omega, by omega⟩, by omega, q c u _ ⟨p1, h1, by omega⟩ (fmod_lo hm) (fmod_hi hm)⟩
theorem sc__law_pick : FnScope ["_law_pot_here", "_law_some"] ["_law_pot_here", "_law_some"] (defScope s__law_pick) := ⟨rfl, rfl, rfl, by decide +kernel, rfl, by decide +kernel, by decide +kernel⟩
theorem ok__law_pick {P : Program} {w : World} {K : PySem.W.Frag} {mg : PySem.Str → Option Value} {base : Heap} (T : Txt K mg)  : Fn P w K mg base 2 a__law_pick ["_law_pot_here", "_law_some"] (sp2 fun x y H Q _ => ∃ (a b : Addr) (c s : Int) (xs : List V), x = .ref a ∧ y = .ref b ∧ H a = some (potO c s) ∧ PotOk c s ∧ SqL K H b xs ∧ xs ≠ [] ∧ xs.length ≤ 1000 ∧ b ≠ a ∧ ∀ c' s' v, PotOk c' s' → v ∈ xs → Q v (upd H a (potO c' s'))) := by
  have SC := sc__law_pick
  refine Fn.of2 T.F__law_pick SC (fun fd F => F.bindsN fun _ _ _ _ _ _ us hl => match us, hl with | [_, _], _ => rfl) (fun cdv A outer s H v0 v1 Q E hr h => ?_)
  refine ⟨_, PSs.nox (pss_one (ps_ret (pe_ix (ixL K) (pv 1) (pc (ok__law_take T) hr T.g__law_take passL (pa_cons (pv 0) (pa_cons (pe_callB (lenK K) rfl T.b_len rfl (pa_cons (pv 1) pa_nil)) pa_nil))) (fun _ _ => rfl)))), ?_⟩
  rw [show L2.start ["_law_pot_here", "_law_some"] [v0, v1] = [some v0, some v1] from rfl]
  try dsimp only [cxOf, Cx.nox]
  obtain ⟨a, b, c, s, xs, rfl, rfl, ea, hP, hS, hne, hlen, hab, q⟩ := h
  simp only [tRet, tRetN, tNext, tSeq, tDrop, tAsg, gName, tIfS, tAndV, tOrV, tNotV, tAnd, tOr, tNot, tB, tTest, tIf, tCB, tCons, tVar, tC, tNil, tOp, tUn, tCall, tCallS, tMeth, tMake, tProp, tFld, sFld, sFldAug, tLst, tTup, tChain, tPar, rI, rI0, rU, rEq, rNe, rIsi, rAppend, sp0, sp1, sp2, sp3, sp4, List.nil_append, List.append_nil, List.cons_append, List.cons.injEq, List.getElem?_cons_zero, List.getElem?_cons_succ, List.set_cons_zero, List.set_cons_succ, Option.some.injEq, V.int.injEq, V.str.injEq, V.bl.injEq, V.ref.injEq, V.ty.injEq, exists_eq_left', exists_eq_left, exists_eq_right, exists_and_left, exists_and_right, and_true, true_and, and_assoc, exists_const, exists_eq, reduceCtorEq, false_and, and_false, or_false, false_or, rIxL, rLen]
  have hpos : 0 < xs.length := List.length_pos_iff.mpr hne
  refine ⟨xs.length, .inl ⟨_, hS, rfl⟩, c, s, ea, hP, by omega, by omega, fun c' s' d hP' h0 h1 => ?_⟩
  obtain ⟨n, rfl⟩ := Int.eq_ofNat_of_zero_le h0
  have hn : n < xs.length := by omega
  exact ⟨xs, sqL_upd hS hab, xs[n], atI_nat rfl (List.getElem?_eq_getElem hn), q c' s' _ hP' (List.getElem_mem hn)⟩
end Gd
/-! ### k91: pages -/
namespace Gd
open PySem PySem.Spec PyProof.Rows L2
/-- what stood stays, but for what stands at a -/
def Gr (a : Addr) (H H' : Hp) : Prop := ∀ b o, b ≠ a → H b = some o → H' b = some o
theorem Gr.refl (a : Addr) (H : Hp) : Gr a H H := fun _ _ _ e => e
theorem Gr.new {a p : Addr} {H H' : Hp} {o : HO} (g : Gr a H H') (h : H' p = none) : Gr a H (upd H' p o) := fun b u hb e => by
  have e' := g b u hb e
  have hne : b ≠ p := fun z => by rw [z, h] at e'; cases e'
  rw [upd_ne hne]; exact e'
theorem Gr.pot {a : Addr} {H H' : Hp} {o : HO} (g : Gr a H H') : Gr a H (upd H' a o) := fun b u hb e => by rw [upd_ne hb]; exact g b u hb e
theorem Gr.own {a p : Addr} {H H' : Hp} {o : HO} (g : Gr a H H') (h : H p = none) : Gr a H (upd H' p o) := fun b u hb e => by
  have hne : b ≠ p := fun z => by rw [z, h] at e; cases e
  rw [upd_ne hne]; exact g b u hb e
theorem Gr.trans {a : Addr} {H H' H2 : Hp} (g : Gr a H H') (g2 : Gr a H' H2) : Gr a H H2 := fun b o hb e => g2 b o hb (g b o hb e)
theorem Gr.none {a p : Addr} {H H' : Hp} (g : Gr a H H') (hp : p ≠ a) (h : H' p = none) : H p = none := by
  cases e : H p with
  | none => rfl
  | some o => rw [g p o hp e] at h; cases h
theorem ne_none {H : Hp} {a p : Addr} {o : HO} (h : H a = some o) (hp : H p = none) : p ≠ a := fun e => by rw [e, h] at hp; cases hp
def signs : List PySem.Str := ["a", " ", "+", ".", "0", "~", "\n"]
def pageL (x y z : PySem.Str) : List PySem.Str := (List.range 32).map fun i => [x, y, z].getD (i % 3) ""
def pageT (x y z : PySem.Str) : PySem.Str := Txt.join "" (pageL x y z)
def a31 : PySem.Str := ⟨(List.replicate (31 : Int).toNat (PySem.Str.cps "a")).foldl (· ++ ·) #[]⟩
def a33 : PySem.Str := ⟨(List.replicate (33 : Int).toNat (PySem.Str.cps "a")).foldl (· ++ ·) #[]⟩
def as32 : List V := (List.replicate (32 : Int).toNat [V.str "a"]).flatten
def ds32 : List PyData := List.replicate 32 (.str "a")
/-- a value that _law_page draws, as a datum; what is new stands where nothing stood in H0 -/
inductive PgV (H0 H : Hp) : V → PyData → Prop
  | txt {x y z : PySem.Str} (hx : x ∈ signs) (hy : y ∈ signs) (hz : z ∈ signs) : PgV H0 H (.str (pageT x y z)) (.str (pageT x y z))
  | non : PgV H0 H .non .none
  | str {s : PySem.Str} (h : s = "" ∨ s = a31 ∨ s = a33) : PgV H0 H (.str s) (.str s)
  | int : PgV H0 H (.int 32) (.int 32)
  | tru : PgV H0 H (.bl true) (.bool true)
  | lst {q : Addr} (h0 : H0 q = none) (h : H q = some (.lst as32)) : PgV H0 H (.ref q) (.list ds32)
  | tup {q : Addr} (h0 : H0 q = none) (h : H q = some (.tup as32)) : PgV H0 H (.ref q) (.tuple ds32)
theorem joins_ok : (signs.all fun x => signs.all fun y => signs.all fun z => ((pageL x y z).map (·.length)).sum + (pageL x y z).length * PySem.Str.length "" ≤ 16777216) = true := by decide +kernel
theorem page_sum {x y z : PySem.Str} (hx : x ∈ signs) (hy : y ∈ signs) (hz : z ∈ signs) : ((pageL x y z).map (·.length)).sum + (pageL x y z).length * PySem.Str.length "" ≤ 16777216 := by
  have h := joins_ok
  have h1 := List.all_eq_true.mp h x hx
  have h2 := List.all_eq_true.mp h1 y hy
  have h3 := List.all_eq_true.mp h2 z hz
  exact of_decide_eq_true h3
theorem getD3 {x y z : PySem.Str} (i : Nat) (hi : i < 32) : [V.str x, V.str y, V.str z][i % 3]? = some (.str ((pageL x y z).getD i "")) := by
  have h3 : i % 3 < 3 := Nat.mod_lt _ (by omega)
  have e : (pageL x y z).getD i "" = [x, y, z].getD (i % 3) "" := by
    unfold pageL
    rw [List.getD_eq_getElem?_getD, List.getElem?_map, List.getElem?_range hi]
    rfl
  rw [e]
  generalize i % 3 = j at h3
  match j, h3 with
  | 0, _ => rfl
  | 1, _ => rfl
  | 2, _ => rfl
theorem sc__law_page : FnScope ["_law_pot_here", "_law_signs", "_law_at"] ["_law_pot_here"] (defScope s__law_page) := ⟨rfl, rfl, rfl, by decide +kernel, rfl, by decide +kernel, by decide +kernel⟩
theorem ok__law_page {P : Program} {w : World} {K : PySem.W.Frag} {mg : PySem.Str → Option Value} {base : Heap} (T : Txt K mg)  : Fn P w K mg base 3 a__law_page ["_law_pot_here"] (sp1 fun x H Q _ => ∃ (a : Addr) (c s : Int), x = .ref a ∧ H a = some (potO c s) ∧ PotOk c s ∧ ∀ c' s' v d H', PotOk c' s' → Gr a H H' → H' a = some (potO c' s') → PgV H H' v d → Q v H') := by
  have SC := sc__law_page
  refine Fn.of1 T.F__law_page SC (fun fd F => F.bindsN fun _ _ _ _ _ _ us hl => match us, hl with | [_], _ => rfl) (fun cdv A outer s H v0 Q E hr h => ?_)
  refine ⟨_, PSs.nox (pss_cons (ps_set (i := 1) SC.nd rfl (Or.inr rfl) (pe_lc (own := [("_law_at", 2)]) (g := gName 2) (tt := tYes) rfl SC.nd (pi_range1 rfl T.b_range (pa_cons pe_int pa_nil)) (blkOk_by (own := [("_law_at", 2)]) (N := ["_law_pot_here", "_law_signs", "_law_at"]) (sc := defScope s__law_page) (by decide +kernel)) (fun _ _ _ _ _ => pg_name (i := 2) SC.nd rfl (Or.inl rfl)) (fun _ _ _ _ _ => pts_nil) (fun _ _ _ _ _ => (pc (ok__law_pick T) hr T.g__law_pick passL (pa_cons (pv 0) (pa_cons (pe_lst (pa_cons pe_str (pa_cons pe_str (pa_cons pe_str (pa_cons pe_str (pa_cons pe_str (pa_cons pe_str (pa_cons pe_str pa_nil)))))))) pa_nil)))))) (pss_cons (ps_if (pt_cmpR op_eq (pc (ok__law_take T) hr T.g__law_take passL (pa_cons (pv 0) (pa_cons pe_int pa_nil))) pe_int (nomark _)) (pss_one (ps_ret (pc (ok__law_pick T) hr T.g__law_pick passL (pa_cons (pv 0) (pa_cons (pe_lst (pa_cons pe_non (pa_cons pe_str (pa_cons (pe_op op_repS pe_str pe_int) (pa_cons (pe_op op_repS pe_str pe_int) (pa_cons pe_int (pa_cons (pe_op op_rep (pe_lst (pa_cons pe_str pa_nil)) pe_int) (pa_cons (pe_op (op_repT) (pe_tup (pa_cons pe_str pa_nil)) pe_int) (pa_cons pe_bl pa_nil))))))))) pa_nil))))) pss_nil) (pss_one (ps_ret (pe_join pe_str (pe_lc (own := [("_law_at", 2)]) (g := gName 2) (tt := tYes) rfl SC.nd (pi_range1 rfl T.b_range (pa_cons pe_int pa_nil)) (blkOk_by (own := [("_law_at", 2)]) (N := ["_law_pot_here", "_law_signs", "_law_at"]) (sc := defScope s__law_page) (by decide +kernel)) (fun _ _ _ _ _ => pg_name (i := 2) SC.nd rfl (Or.inl rfl)) (fun _ _ _ _ _ => pts_nil) (fun _ _ _ _ _ => (pe_ix (ixL K) (pv 1) (pe_op op_modN (pv 2) pe_int) (fun _ _ => rfl))))))))), ?_⟩
  rw [show L2.start ["_law_pot_here", "_law_signs", "_law_at"] [v0] = [some v0, none, none] from rfl]
  try dsimp only [cxOf, Cx.nox]
  obtain ⟨a, c, s, rfl, ea, hP, q⟩ := h
  simp only [tRet, tRetN, tNext, tSeq, tDrop, tAsg, gName, tIfS, tAndV, tOrV, tNotV, tAnd, tOr, tNot, tB, tTest, tIf, tCB, tCons, tVar, tC, tNil, tOp, tUn, tCall, tCallS, tMeth, tMake, tProp, tFld, sFld, sFldAug, tLst, tTup, tChain, tPar, rI, rI0, rU, rEq, rNe, rIsi, rAppend, sp0, sp1, sp2, sp3, sp4, List.nil_append, List.append_nil, List.cons_append, List.cons.injEq, List.getElem?_cons_zero, List.getElem?_cons_succ, List.set_cons_zero, List.set_cons_succ, Option.some.injEq, V.int.injEq, V.str.injEq, V.bl.injEq, V.ref.injEq, V.ty.injEq, exists_eq_left', exists_eq_left, exists_eq_right, exists_and_left, exists_and_right, and_true, true_and, and_assoc, exists_const, exists_eq, reduceCtorEq, false_and, and_false, or_false, false_or, tM1, tM0]
  refine tLcR (n := 3) (H1 := H) (fun D i H' => H D = none ∧ Gr a H H' ∧ (∃ c s, PotOk c s ∧ H' a = some (potO c s)) ∧ ∃ ws : List PySem.Str, ws.length = i ∧ (∀ w ∈ ws, w ∈ signs) ∧ H' D = some (strL ws)) (by omega) (fun R r => r) (fun D hD => ?_) (fun D i H' hi p => ?_) (fun D H' hD p => ?_)
  · exact ⟨hD, (Gr.refl a H).new hD, ⟨c, s, hP, by rw [upd_ne (ne_none ea hD).symm]; exact ea⟩, [], rfl, by simp, upd_same⟩
  · obtain ⟨hD, g, ⟨c1, s1, hP1, ea1⟩, ws, hw, hws, eD⟩ := p
    have hDa : D ≠ a := ne_none ea hD
    simp only [tRet, tRetN, tNext, tSeq, tDrop, tAsg, gName, tIfS, tAndV, tOrV, tNotV, tAnd, tOr, tNot, tB, tTest, tIf, tCB, tCons, tVar, tC, tNil, tOp, tUn, tCall, tCallS, tMeth, tMake, tProp, tFld, sFld, sFldAug, tLst, tTup, tChain, tPar, rI, rI0, rU, rEq, rNe, rIsi, rAppend, sp0, sp1, sp2, sp3, sp4, List.nil_append, List.append_nil, List.cons_append, List.cons.injEq, List.getElem?_cons_zero, List.getElem?_cons_succ, List.set_cons_zero, List.set_cons_succ, Option.some.injEq, V.int.injEq, V.str.injEq, V.bl.injEq, V.ref.injEq, V.ty.injEq, exists_eq_left', exists_eq_left, exists_eq_right, exists_and_left, exists_and_right, and_true, true_and, and_assoc, exists_const, exists_eq, reduceCtorEq, false_and, and_false, or_false, false_or, tM1, tM0, tCall, wipe, List.map_cons, List.map_nil]
    refine ⟨by show 7 ≤ sizeLine; rw [sizeLine_eq]; omega, fun p hp => ⟨c1, s1, ?_, hP1, signs.map V.str, sqL_of upd_same, by decide, by decide, ne_none ea1 hp, fun c' s' v hP' hv => ?_⟩⟩
    · rw [upd_ne (ne_none ea1 hp).symm]; exact ea1
    · obtain ⟨w, hw', rfl⟩ := List.mem_map.mp hv
      have hDp : D ≠ p := fun e => by rw [← e, eD] at hp; cases hp
      have eD2 : upd (upd H' p (.lst (signs.map V.str))) a (potO c' s') D = some (.lst (ws.map V.str)) := by rw [upd_ne hDa, upd_ne hDp]; exact eD
      refine ⟨_, eD2, by rw [List.length_map, hw, sizeLine_eq]; omega, hD, ((g.new hp).pot).own hD, ⟨c', s', hP', by rw [upd_ne hDa.symm]; exact upd_same⟩, ws ++ [w], by rw [List.length_append, hw]; rfl, ?_, ?_⟩
      · intro w' hm
        rcases List.mem_append.mp hm with h1 | h1
        · exact hws w' h1
        · rw [List.mem_singleton.mp h1]; exact hw'
      · unfold strL
        rw [List.map_append]
        exact upd_same
  · obtain ⟨_, g, ⟨c1, s1, hP1, ea1⟩, ws, hw, hws, eD⟩ := p
    have hDa : D ≠ a := ne_none ea hD
    refine ⟨c1, s1, ea1, hP1, by omega, by omega, fun c' s' d hP' _ _ => ⟨rfl, ?_⟩⟩
    have g3 : Gr a H (upd H' a (potO c' s')) := g.pot
    have ea3 : upd H' a (potO c' s') a = some (potO c' s') := upd_same
    have eD3 : upd H' a (potO c' s') D = some (strL ws) := by rw [upd_ne hDa]; exact eD
    generalize upd H' a (potO c' s') = H3 at g3 ea3 eD3
    by_cases hd : d = 0
    · rw [decide_eq_true hd]
      refine iteT ⟨"a", 31, rfl, rfl, by omega, by omega, by decide, by decide, by rw [sizeLine_eq]; decide +kernel, "a", 33, rfl, rfl, by omega, by omega, by decide, by decide, by rw [sizeLine_eq]; decide +kernel, by show 1 ≤ sizeLine; rw [sizeLine_eq]; omega, fun p1 h1 => ?_⟩
      have g4 := g3.new (o := .lst [.str "a"]) h1
      have ea4 : upd H3 p1 (.lst [.str "a"]) a = some (potO c' s') := by rw [upd_ne (ne_none ea3 h1).symm]; exact ea3
      have e1 : upd H3 p1 (.lst [.str "a"]) p1 = some (.lst [.str "a"]) := upd_same
      generalize upd H3 p1 (.lst [.str "a"]) = H4 at g4 ea4 e1
      refine ⟨p1, 32, [.str "a"], rfl, rfl, e1, by omega, by omega, by show 1 * 32 ≤ sizeLine; rw [sizeLine_eq]; omega, fun p2 h2 => ⟨by show 1 ≤ sizeLine; rw [sizeLine_eq]; omega, fun p3 h3 => ?_⟩⟩
      have z2 : H p2 = none := g4.none (ne_none ea4 h2) h2
      have g5 := g4.new (o := .lst as32) h2
      have ea5 : upd H4 p2 (.lst as32) a = some (potO c' s') := by rw [upd_ne (ne_none ea4 h2).symm]; exact ea4
      have e2 : upd H4 p2 (.lst as32) p2 = some (.lst as32) := upd_same
      have h3' : upd H4 p2 (.lst as32) p3 = none := h3
      show rRepT K (.ref p3) (.int 32) (upd (upd H4 p2 (.lst as32)) p3 (.tup [.str "a"])) _
      generalize upd H4 p2 (.lst as32) = H5 at g5 ea5 e2 h3'
      have n23 : p2 ≠ p3 := (ne_none e2 h3').symm
      have g6 := g5.new (o := .tup [.str "a"]) h3'
      have ea6 : upd H5 p3 (.tup [.str "a"]) a = some (potO c' s') := by rw [upd_ne (ne_none ea5 h3').symm]; exact ea5
      have e26 : upd H5 p3 (.tup [.str "a"]) p2 = some (.lst as32) := by rw [upd_ne n23]; exact e2
      have e3 : upd H5 p3 (.tup [.str "a"]) p3 = some (.tup [.str "a"]) := upd_same
      generalize upd H5 p3 (.tup [.str "a"]) = H6 at g6 ea6 e26 e3
      refine ⟨p3, 32, [.str "a"], rfl, rfl, .of e3, by simp, by omega, by omega, by decide, fun p4 h4 => ⟨by show 8 ≤ sizeLine; rw [sizeLine_eq]; omega, fun p5 h5 => ?_⟩⟩
      have z4 : H p4 = none := g6.none (ne_none ea6 h4) h4
      have g7 := g6.new (o := .tup as32) h4
      have ea7 : upd H6 p4 (.tup as32) a = some (potO c' s') := by rw [upd_ne (ne_none ea6 h4).symm]; exact ea6
      have e27 : upd H6 p4 (.tup as32) p2 = some (.lst as32) := by rw [upd_ne (ne_none e26 h4).symm]; exact e26
      have e47 : upd H6 p4 (.tup as32) p4 = some (.tup as32) := upd_same
      have h5' : upd H6 p4 (.tup as32) p5 = none := h5
      refine ⟨c', s', by rw [upd_ne (ne_none ea7 h5').symm]; exact ea7, hP', _, sqL_of upd_same, by simp, by simp, ne_none ea7 h5', fun c2 s2 v hP2 hv => ?_⟩
      have fin : ∀ (u : V) (o : PyData), PgV H (upd (upd (upd H6 p4 (.tup as32)) p5 (.lst [.non, .str "", .str a31, .str a33, .int 32, .ref p2, .ref p4, .bl true])) a (potO c2 s2)) u o → Q u (upd (upd (upd H6 p4 (.tup as32)) p5 (.lst [.non, .str "", .str a31, .str a33, .int 32, .ref p2, .ref p4, .bl true])) a (potO c2 s2)) :=
        fun u o z => q c2 s2 u o _ hP2 ((g7.new h5').pot) upd_same z
      have at_ : ∀ (p : Addr) (o : HO), p ≠ a → (upd H6 p4 (.tup as32)) p = some o → upd (upd (upd H6 p4 (.tup as32)) p5 (.lst [.non, .str "", .str a31, .str a33, .int 32, .ref p2, .ref p4, .bl true])) a (potO c2 s2) p = some o := fun p o k e => by
        rw [upd_ne k, upd_ne (ne_none e h5').symm]; exact e
      have k2 : p2 ≠ a := ne_none ea4 h2
      have k4 : p4 ≠ a := ne_none ea6 h4
      simp only [List.mem_cons, List.not_mem_nil, or_false] at hv
      rcases hv with rfl | rfl | rfl | rfl | rfl | rfl | rfl | rfl
      · exact fin _ _ .non
      · exact fin _ _ (.str (.inl rfl))
      · exact fin _ _ (.str (.inr (.inl rfl)))
      · exact fin _ _ (.str (.inr (.inr rfl)))
      · exact fin _ _ .int
      · exact fin _ _ (.lst z2 (at_ _ _ k2 e27))
      · exact fin _ _ (.tup z4 (at_ _ _ k4 e47))
      · exact fin _ _ .tru
    · rw [decide_eq_false hd]
      obtain ⟨x, y, z, rfl⟩ : ∃ x y z, ws = [x, y, z] := by
        match ws, hw with
        | [x, y, z], _ => exact ⟨x, y, z, rfl⟩
      have hx : x ∈ signs := hws x (by simp)
      have hy : y ∈ signs := hws y (by simp)
      have hz : z ∈ signs := hws z (by simp)
      refine iteF ⟨⟨_, rfl⟩, ?_⟩
      refine tLcR (n := 32) (H1 := H3) (fun D2 i H' => H3 D2 = none ∧ Gr a H H' ∧ H' a = some (potO c' s') ∧ H' D = some (strL [x, y, z]) ∧ H' D2 = some (strL ((pageL x y z).take i))) (by omega) (fun R r => r) (fun D2 hD2 => ?_) (fun D2 i H' hi p => ?_) (fun D2 H' hD2 p => ?_)
      · exact ⟨hD2, g3.new hD2, by rw [upd_ne (ne_none ea3 hD2).symm]; exact ea3, by rw [upd_ne (ne_none eD3 hD2).symm]; exact eD3, upd_same⟩
      · obtain ⟨hD2, g4, ea4, eD4, e2⟩ := p
        have k1 : D2 ≠ a := ne_none ea3 hD2
        have k2 : D2 ≠ D := ne_none eD3 hD2
        have z2 : H D2 = none := g3.none k1 hD2
        simp only [tRet, tRetN, tNext, tSeq, tDrop, tAsg, gName, tIfS, tAndV, tOrV, tNotV, tAnd, tOr, tNot, tB, tTest, tIf, tCB, tCons, tVar, tC, tNil, tOp, tUn, tCall, tCallS, tMeth, tMake, tProp, tFld, sFld, sFldAug, tLst, tTup, tChain, tPar, rI, rI0, rU, rEq, rNe, rIsi, rAppend, sp0, sp1, sp2, sp3, sp4, List.nil_append, List.append_nil, List.cons_append, List.cons.injEq, List.getElem?_cons_zero, List.getElem?_cons_succ, List.set_cons_zero, List.set_cons_succ, Option.some.injEq, V.int.injEq, V.str.injEq, V.bl.injEq, V.ref.injEq, V.ty.injEq, exists_eq_left', exists_eq_left, exists_eq_right, exists_and_left, exists_and_right, and_true, true_and, and_assoc, exists_const, exists_eq, reduceCtorEq, false_and, and_false, or_false, false_or, tM1, tM0, tCall, wipe, List.map_cons, List.map_nil]
        have ef : (i : Int).fmod 3 = ((i % 3 : Nat) : Int) := by
          rw [Int.fmod_eq_emod_of_nonneg _ (by omega)]
          omega
        refine ⟨by omega, D, _, _, .str ((pageL x y z).getD i ""), rfl, rfl, sqL_str eD4, atI_nat ef (getD3 i hi), _, e2, ?_, hD2, g4.own z2, by rw [upd_ne k1.symm]; exact ea4, by rw [upd_ne k2.symm]; exact eD4, ?_⟩
        · rw [List.length_map, List.length_take, sizeLine_eq]; omega
        · rw [upd_same]
          have e : (pageL x y z)[i]? = some ((pageL x y z).getD i "") := by
            rw [List.getD_eq_getElem?_getD]
            have : i < (pageL x y z).length := by unfold pageL; rw [List.length_map, List.length_range]; exact hi
            rw [List.getElem?_eq_getElem this]
            rfl
          unfold strL
          rw [List.take_succ, e, List.map_append]
          rfl
      · obtain ⟨_, g4, ea4, eD4, e2⟩ := p
        have e32 : (pageL x y z).take 32 = pageL x y z := List.take_of_length_le (by unfold pageL; rw [List.length_map, List.length_range]; omega)
        rw [e32] at e2
        exact ⟨D2, rfl, pageL x y z, .inl (sqL_str e2), page_sum hx hy hz, q c' s' _ _ _ hP' g4 ea4 (.txt hx hy hz)⟩
end Gd
/-! ### k91: is it a page, numbers, counts -/
namespace Gd
open PySem PySem.Spec PyProof.Rows L2
/-- a value that _law_number draws -/
inductive NuV (H0 H : Hp) : V → PyData → Prop
  | int {i : Int} (h : (-1 ≤ i ∧ i < 70) ∨ i = 100000000000000000000) : NuV H0 H (.int i) (.int i)
  | tru : NuV H0 H (.bl true) (.bool true)
  | non : NuV H0 H .non .none
  | str : NuV H0 H (.str "0") (.str "0")
  | tup {q : Addr} (h0 : H0 q = none) (h : H q = some (.tup [.int 0])) : NuV H0 H (.ref q) (.tuple [.int 0])
theorem sc__law_is_page : FnScope ["_law_sheet"] ["_law_sheet"] (defScope s__law_is_page) := ⟨rfl, rfl, rfl, by decide +kernel, rfl, by decide +kernel, by decide +kernel⟩
theorem ok__law_is_page {P : Program} {w : World} {K : PySem.W.Frag} {mg : PySem.Str → Option Value} {base : Heap} (T : Txt K mg)  : Fn P w K mg base 1 a__law_is_page ["_law_sheet"] (sp1 fun x H Q _ => ∃ b, PageArg K H x b ∧ Q (.bl b) H) := by
  have SC := sc__law_is_page
  refine Fn.of1 T.F__law_is_page SC (fun fd F => F.bindsN fun _ _ _ _ _ _ us hl => match us, hl with | [_], _ => rfl) (fun cdv A outer s H v0 Q E hr h => ?_)
  refine ⟨_, PSs.nox (pss_one (ps_ret (pe_and (pe_callB (isiK K) rfl T.b_isinstance rfl (pa_cons (pv 0) (pa_cons (pe_bltn (v := .ty "str") rfl T.b_str rfl rfl) pa_nil))) (pe_one (pe_cmpR op_eq (pe_callB (lenK K) rfl T.b_len rfl (pa_cons (pv 0) pa_nil)) pe_int (nomark _)))))), ?_⟩
  rw [show L2.start ["_law_sheet"] [v0] = [some v0] from rfl]
  try dsimp only [cxOf, Cx.nox]
  obtain ⟨b, hb, q⟩ := h
  simp only [tRet, tRetN, tNext, tSeq, tDrop, tAsg, gName, tIfS, tAndV, tOrV, tNotV, tAnd, tOr, tNot, tB, tTest, tIf, tCB, tCons, tVar, tC, tNil, tOp, tUn, tCall, tCallS, tMeth, tMake, tProp, tFld, sFld, sFldAug, tLst, tTup, tChain, tPar, rI, rI0, rU, rEq, rNe, rIsi, rAppend, sp0, sp1, sp2, sp3, sp4, List.nil_append, List.append_nil, List.cons_append, List.cons.injEq, List.getElem?_cons_zero, List.getElem?_cons_succ, List.set_cons_zero, List.set_cons_succ, Option.some.injEq, V.int.injEq, V.str.injEq, V.bl.injEq, V.ref.injEq, V.ty.injEq, exists_eq_left', exists_eq_left, exists_eq_right, exists_and_left, exists_and_right, and_true, true_and, and_assoc, exists_const, exists_eq, reduceCtorEq, false_and, and_false, or_false, false_or, rLen, clsV_ty]
  rcases hb with ⟨z, rfl, hz, rfl⟩ | ⟨rfl, t, ht, hk⟩
  · refine ⟨_, .base (.str z), true, by kernel_rfl, iteT ⟨z.length, ?_, rfl, ?_⟩⟩
    · exact ⟨hz, rfl⟩
    · by_cases e : z.length = 32
      · rw [decide_eq_true (by rw [e]; rfl : (↑z.length : Int) = 32)]
        rw [decide_eq_true e] at q
        exact q
      · rw [decide_eq_false (by omega : ¬ (↑z.length : Int) = 32)]
        rw [decide_eq_false e] at q
        exact q
  · exact ⟨t, ht, false, hk, iteF q⟩
theorem sc__law_is_count : FnScope ["_law_value"] ["_law_value"] (defScope s__law_is_count) := ⟨rfl, rfl, rfl, by decide +kernel, rfl, by decide +kernel, by decide +kernel⟩
theorem ok__law_is_count {P : Program} {w : World} {K : PySem.W.Frag} {mg : PySem.Str → Option Value} {base : Heap} (T : Txt K mg)  : Fn P w K mg base 1 a__law_is_count ["_law_value"] (sp1 fun x H Q _ => (∃ i, x = .int i ∧ Q (.bl (decide (0 ≤ i))) H) ∨ (IntArg K H x false ∧ Q (.bl false) H)) := by
  have SC := sc__law_is_count
  refine Fn.of1 T.F__law_is_count SC (fun fd F => F.bindsN fun _ _ _ _ _ _ us hl => match us, hl with | [_], _ => rfl) (fun cdv A outer s H v0 Q E hr h => ?_)
  refine ⟨_, PSs.nox (pss_one (ps_ret (pe_and (pe_callB (isiK K) rfl T.b_isinstance rfl (pa_cons (pv 0) (pa_cons (pe_bltn (v := .ty "int") rfl T.b_int rfl rfl) pa_nil))) (pe_and (pe_not (pe_callB (isiK K) rfl T.b_isinstance rfl (pa_cons (pv 0) (pa_cons (pe_bltn (v := .ty "bool") rfl T.b_bool rfl rfl) pa_nil)))) (pe_one (pe_cmpR op_ge (pv 0) pe_int (nomark _))))))), ?_⟩
  rw [show L2.start ["_law_value"] [v0] = [some v0] from rfl]
  try dsimp only [cxOf, Cx.nox]
  simp only [tRet, tRetN, tNext, tSeq, tDrop, tAsg, gName, tIfS, tAndV, tOrV, tNotV, tAnd, tOr, tNot, tB, tTest, tIf, tCB, tCons, tVar, tC, tNil, tOp, tUn, tCall, tCallS, tMeth, tMake, tProp, tFld, sFld, sFldAug, tLst, tTup, tChain, tPar, rI, rI0, rU, rEq, rNe, rIsi, rAppend, sp0, sp1, sp2, sp3, sp4, List.nil_append, List.append_nil, List.cons_append, List.cons.injEq, List.getElem?_cons_zero, List.getElem?_cons_succ, List.set_cons_zero, List.set_cons_succ, Option.some.injEq, V.int.injEq, V.str.injEq, V.bl.injEq, V.ref.injEq, V.ty.injEq, exists_eq_left', exists_eq_left, exists_eq_right, exists_and_left, exists_and_right, and_true, true_and, and_assoc, exists_const, exists_eq, reduceCtorEq, false_and, and_false, or_false, false_or, clsV_ty]
  rcases h with ⟨i, rfl, q⟩ | ⟨⟨t, c1, c2, ht, h1, h2, h3⟩, q⟩
  · exact ⟨_, .base (.int i), true, by kernel_rfl, iteT ⟨_, .base (.int i), false, by kernel_rfl, iteT ⟨i, rfl, q⟩⟩⟩
  · refine ⟨t, ht, c1, h1, ?_⟩
    cases c1
    · exact iteF q
    · refine iteT ⟨t, ht, c2, h2, ?_⟩
      cases c2
      · cases h3
      · exact iteF q
theorem sc__law_number : FnScope ["_law_pot_here", "_law_most"] ["_law_pot_here", "_law_most"] (defScope s__law_number) := ⟨rfl, rfl, rfl, by decide +kernel, rfl, by decide +kernel, by decide +kernel⟩
theorem ok__law_number {P : Program} {w : World} {K : PySem.W.Frag} {mg : PySem.Str → Option Value} {base : Heap} (T : Txt K mg)  : Fn P w K mg base 3 a__law_number ["_law_pot_here", "_law_most"] (sp2 fun x y H Q _ => ∃ (a : Addr) (c s : Int) (n : Nat), x = .ref a ∧ y = .int n ∧ n ≤ 60 ∧ H a = some (potO c s) ∧ PotOk c s ∧ ∀ c' s' v d H', PotOk c' s' → Gr a H H' → H' a = some (potO c' s') → NuV H H' v d → Q v H') := by
  have SC := sc__law_number
  refine Fn.of2 T.F__law_number SC (fun fd F => F.bindsN fun _ _ _ _ _ _ us hl => match us, hl with | [_, _], _ => rfl) (fun cdv A outer s H v0 v1 Q E hr h => ?_)
  refine ⟨_, PSs.nox (pss_one (ps_ret (pc (ok__law_pick T) hr T.g__law_pick passL (pa_cons (pv 0) (pa_cons (pe_lst (pa_cons (pc (ok__law_take T) hr T.g__law_take passL (pa_cons (pv 0) (pa_cons (pe_op op_add (pv 1) pe_int) pa_nil))) (pa_cons (pc (ok__law_take T) hr T.g__law_take passL (pa_cons (pv 0) (pa_cons (pe_op op_add (pv 1) pe_int) pa_nil))) (pa_cons (pe_un un_neg pe_int) (pa_cons pe_bl (pa_cons pe_non (pa_cons pe_str (pa_cons (pe_tup (pa_cons pe_int pa_nil)) (pa_cons (pe_op op_pow pe_int pe_int) pa_nil))))))))) pa_nil))))), ?_⟩
  rw [show L2.start ["_law_pot_here", "_law_most"] [v0, v1] = [some v0, some v1] from rfl]
  try dsimp only [cxOf, Cx.nox]
  obtain ⟨a, c, s, n, rfl, rfl, hn, ea, hP, q⟩ := h
  simp only [tRet, tRetN, tNext, tSeq, tDrop, tAsg, gName, tIfS, tAndV, tOrV, tNotV, tAnd, tOr, tNot, tB, tTest, tIf, tCB, tCons, tVar, tC, tNil, tOp, tUn, tCall, tCallS, tMeth, tMake, tProp, tFld, sFld, sFldAug, tLst, tTup, tChain, tPar, rI, rI0, rU, rEq, rNe, rIsi, rAppend, sp0, sp1, sp2, sp3, sp4, List.nil_append, List.append_nil, List.cons_append, List.cons.injEq, List.getElem?_cons_zero, List.getElem?_cons_succ, List.set_cons_zero, List.set_cons_succ, Option.some.injEq, V.int.injEq, V.str.injEq, V.bl.injEq, V.ref.injEq, V.ty.injEq, exists_eq_left', exists_eq_left, exists_eq_right, exists_and_left, exists_and_right, and_true, true_and, and_assoc, exists_const, exists_eq, reduceCtorEq, false_and, and_false, or_false, false_or]
  refine ⟨c, s, ea, hP, by omega, by omega, fun c1 s1 d1 hP1 l1 u1 => ⟨c1, s1, upd_same, hP1, by omega, by omega, fun c2 s2 d2 hP2 l2 u2 => ⟨by show 1 ≤ sizeLine; rw [sizeLine_eq]; omega, fun p hp => ⟨⟨by omega, by omega, by decide⟩, by show 8 ≤ sizeLine; rw [sizeLine_eq]; omega, fun p1 hp1 => ?_⟩⟩⟩⟩
  have e2 : upd (upd H a (potO c1 s1)) a (potO c2 s2) a = some (potO c2 s2) := upd_same
  have g2 : Gr a H (upd (upd H a (potO c1 s1)) a (potO c2 s2)) := ((Gr.refl a H).pot).pot
  generalize upd (upd H a (potO c1 s1)) a (potO c2 s2) = H2 at e2 g2 hp hp1
  have k1 : p ≠ a := ne_none e2 hp
  have z1 : H p = none := g2.none k1 hp
  have g3 := g2.new (o := .tup [.int 0]) hp
  have e3 : upd H2 p (.tup [.int 0]) a = some (potO c2 s2) := by rw [upd_ne k1.symm]; exact e2
  have t3 : upd H2 p (.tup [.int 0]) p = some (.tup [.int 0]) := upd_same
  generalize upd H2 p (.tup [.int 0]) = H3 at g3 e3 t3 hp1
  refine ⟨c2, s2, by rw [upd_ne (ne_none e3 hp1).symm]; exact e3, hP2, _, sqL_of upd_same, by simp, by simp, ne_none e3 hp1, fun c3 s3 v hP3 hv => ?_⟩
  have g4 := (g3.new (o := .lst [.int d1, .int d2, .int (-1), .bl true, .non, .str "0", .ref p, .int (10 ^ Int.toNat 20)]) hp1).pot (o := potO c3 s3)
  have fin : ∀ (u : V) (o : PyData), NuV H (upd (upd H3 p1 (.lst [.int d1, .int d2, .int (-1), .bl true, .non, .str "0", .ref p, .int (10 ^ Int.toNat 20)])) a (potO c3 s3)) u o → Q u (upd (upd H3 p1 (.lst [.int d1, .int d2, .int (-1), .bl true, .non, .str "0", .ref p, .int (10 ^ Int.toNat 20)])) a (potO c3 s3)) := fun u o z => q c3 s3 u o _ hP3 g4 upd_same z
  simp only [List.mem_cons, List.not_mem_nil, or_false] at hv
  rcases hv with rfl | rfl | rfl | rfl | rfl | rfl | rfl | rfl
  · exact fin _ _ (.int (.inl (by omega)))
  · exact fin _ _ (.int (.inl (by omega)))
  · exact fin _ _ (.int (.inl (by omega)))
  · exact fin _ _ .tru
  · exact fin _ _ .non
  · exact fin _ _ .str
  · exact fin _ _ (.tup z1 (by rw [upd_ne k1, upd_ne (ne_none t3 hp1).symm]; exact t3))
  · exact fin _ _ (.int (.inr rfl))
end Gd
/-! ### k91: what a call tells -/
namespace Gd
open PySem PySem.Spec PyProof.Rows L2
theorem le2 {x y : V} : [x, y].length ≤ sizeLine := by show 2 ≤ sizeLine; rw [sizeLine_eq]; omega
theorem _root_.PySem.Paired.reverseV {xs : List V} {us : List Value} (r : Vals xs us) : Vals xs.reverse us.reverse := by
  induction r with
  | nil => exact .nil
  | cons h t ih =>
    rw [List.reverse_cons, List.reverse_cons]
    exact Vals.append ih (.cons h .nil)
/-- what stood stays -/
def Su (H H' : Hp) : Prop := ∀ b o, H b = some o → H' b = some o
theorem Su.refl (H : Hp) : Su H H := fun _ _ e => e
theorem Su.trans {H H' H2 : Hp} (g : Su H H') (g2 : Su H' H2) : Su H H2 := fun b o e => g2 b o (g b o e)
theorem Su.new {H : Hp} {p : Addr} {o : HO} (h : H p = none) : Su H (upd H p o) := fun b u e => by
  have hne : b ≠ p := fun z => by rw [z, h] at e; cases e
  rw [upd_ne hne]; exact e
theorem Su.upd {H H' : Hp} {a : Addr} {o : HO} (g : Su H H') : Su (L2.upd H a o) (L2.upd H' a o) := fun b u e => by
  by_cases hb : b = a
  · rw [hb, upd_same] at e; rw [hb, upd_same]; exact e
  · rw [upd_ne hb] at e; rw [upd_ne hb]; exact g b u e
theorem Su.none {H H' : Hp} {p : Addr} (g : Su H H') (h : H' p = none) : H p = none := by
  cases e : H p with
  | none => rfl
  | some o => rw [g p o e] at h; cases h
theorem Su.gr {H H' : Hp} {a : Addr} (g : Su H H') : Gr a H H' := fun b o _ e => g b o e
theorem TyX.su {K : PySem.W.Frag} {H H' : Hp} {x : V} {t : Value} (g : Su H H') (h : TyX K H x t) : TyX K H' x t := by
  cases h with
  | base h =>
    cases h with
    | non => exact .base .non
    | bl b => exact .base (.bl b)
    | int i => exact .base (.int i)
    | str x => exact .base (.str x)
    | flt x => exact .base (.flt x)
    | lst e => exact .base (.lst (g _ _ e))
    | frz e => exact .base (.frz (g _ _ e))
    | tup e => exact .base (.tup (g _ _ e))
    | dK e => exact .base (.dK (g _ _ e))
    | dT e => exact .base (.dT (g _ _ e))
    | ins e h1 h2 h3 h4 h5 => exact .base (.ins (g _ _ e) h1 h2 h3 h4 h5)
  | byt b => exact .byt b
  | set e => exact .set (g _ _ e)
  | kList e c => exact .kList e c
  | kTuple e c => exact .kTuple e c
  | kDict e c => exact .kDict e c
  | fTuple e => exact .fTuple (g _ _ e)
  | fDict e => exact .fDict (g _ _ e)
theorem PageArg.su {K : PySem.W.Frag} {H H' : Hp} {x : V} {b : Bool} (g : Su H H') (h : PageArg K H x b) : PageArg K H' x b := h.imp id fun ⟨e, t, ht, hk⟩ => ⟨e, t, TyX.su g ht, hk⟩
theorem IntArg.su {K : PySem.W.Frag} {H H' : Hp} {x : V} {b : Bool} (g : Su H H') (h : IntArg K H x b) : IntArg K H' x b := by
  obtain ⟨t, c1, c2, ht, h1, h2, h3⟩ := h
  exact ⟨t, c1, c2, TyX.su g ht, h1, h2, h3⟩
/-- it is told: (tag, x) -/
def Tell (Q : VK) (H : Hp) (tag : PySem.Str) (x : V) : Prop := ∀ p H', H p = none → Su H H' → H' p = some (.tup [.str tag, x]) → Q (.ref p) H'
theorem Tell.su {Q : VK} {H H1 : Hp} {tag : PySem.Str} {x : V} (h : Tell Q H tag x) (g : Su H H1) : Tell Q H1 tag x := fun p H' hp g' e => h p H' (g.none hp) (g.trans g') e
theorem Tell.tup {Q : VK} {H : Hp} {tag : PySem.Str} {x : V} (h : Tell Q H tag x) : ∀ p, H p = none → Q (.ref p) (upd H p (.tup [.str tag, x])) := fun p hp => h p _ hp (.new hp) upd_same
def WriteTold (K : PySem.W.Frag) (Q : VK) (H : Hp) (a dx l : Addr) (left : Option Int) (pgs : List PySem.Str) (sheet : V) : Prop :=
  ∃ b, PageArg K H sheet b ∧ (b = false → Tell Q H "sheet" sheet) ∧ (b = true → left = some 0 → Tell Q H "crashed" .non) ∧ (b = true → ∀ z, sheet = .str z → left ≠ some 0 → Tell Q (upd (upd H a (.ins c_Disk dx (dsk l (left.map (· - 1))))) l (strL (pgs ++ [z]))) "done" .non)
def CrashTold (K : PySem.W.Frag) (Q : VK) (H : Hp) (a dx l : Addr) (left : Option Int) (spot : V) : Prop :=
  (IntArg K H spot false ∧ Tell Q H "size" spot) ∨ ∃ i, spot = .int i ∧ (i < 0 → Tell Q H "size" spot) ∧ (0 ≤ i → left = some 0 → Tell Q H "done" .non) ∧ (0 ≤ i → left ≠ some 0 → Tell Q (upd H a (.ins c_Disk dx (dsk l (some i)))) "done" .non)
def SpoilTold (K : PySem.W.Frag) (Q : VK) (H : Hp) (l : Addr) (pgs : List PySem.Str) (sheet spot : V) : Prop :=
  (IntArg K H spot false ∧ Tell Q H "place" spot) ∨ ∃ i, spot = .int i ∧ (¬ (0 ≤ i ∧ i < pgs.length) → Tell Q H "place" spot) ∧ (0 ≤ i → i < pgs.length → ∃ b, PageArg K H sheet b ∧ (b = false → Tell Q H "sheet" sheet) ∧
    (b = true → ∀ z, sheet = .str z → Tell Q (upd H l (strL (pgs.set i.toNat z))) "done" .non))
theorem sc__law_told : FnScope ["_law_plate", "_law_way", "_law_sheet", "_law_spot", "_law_told_here", "_law_is_named", "e"] ["_law_plate", "_law_way", "_law_sheet", "_law_spot"] (defScope s__law_told) := ⟨rfl, rfl, rfl, by decide +kernel, rfl, by decide +kernel, by decide +kernel⟩
theorem ok__law_told {P : Program} {w : World} {K : PySem.W.Frag} {mg : PySem.Str → Option Value} {base : Heap} (T : Txt K mg)  : Fn P w K mg base 5 a__law_told ["_law_plate", "_law_way", "_law_sheet", "_law_spot"] (sp4 fun x y u v H Q E => ∃ (a dx l : Addr) (left : Option Int) (pgs : List PySem.Str), x = .ref a ∧ H a = some (.ins c_Disk dx (dsk l left)) ∧ H l = some (strL pgs) ∧ pgs.length < 1000 ∧
  ((y = .str "write" ∧ WriteTold K Q H a dx l left pgs u) ∨ (y = .str "crash" ∧ CrashTold K Q H a dx l left v) ∨ (y = .str "spoil" ∧ SpoilTold K Q H l pgs u v))) := by
  have SC := sc__law_told
  refine Fn.of4 T.F__law_told SC (fun fd F => F.bindsN fun _ _ _ _ _ _ us hl => match us, hl with | [_, _, _, _], _ => rfl) (fun cdv A outer s H v0 v1 v2 v3 Q E hr h => ?_)
  refine ⟨_, PSs.nox (pss_cons (ps_par (i := 4) (j := 5) rfl SC.nd rfl rfl (by decide) rfl rfl (pa_cons (pe_tup (pa_cons pe_str (pa_cons pe_non pa_nil))) (pa_cons (pe_cmpR op_eq (pe_op op_modN (pe_callB (call_lenOwn T.m_Disk___len__ (ok_Disk___len__ T) hr) rfl T.b_len rfl (pa_cons (pv 0) pa_nil)) pe_int) pe_int (nomark _)) pa_nil)) rfl) (pss_cons (ps_try_asMany (i := 6) rfl rfl SC.nd rfl rfl takes_none5 (fun W pn xe tkW po => (pss_one (ps_if (pt_cmpR op_eq (pv 1) pe_str (nomark _)) (pss_one (ps_set (i := 4) SC.nd rfl (Or.inl rfl) (pe_tup (pa_cons pe_str (pa_cons (pe_ifExp (pt_val (pv 5)) (pmKS (pv 0) T.cl_Disk T.m_Disk_write ((ok_Disk_write T).kbn T.F_Disk_write 1 ["page"] (fun us ws => us ++ ws) (fun r1 r2 => r1.append r2) (fun _ _ _ _ _ _ us ws h1 h2 => match us, h1, ws, h2 with | [_], _, [_], _ => rfl)) hr (fun σ => passAt tkW σ) (pk_cons (pv 2) pk_nil)) (pmS (pv 0) T.cl_Disk T.m_Disk_write (ok_Disk_write T) hr (fun σ => passAt tkW σ) (pa_cons (pv 2) pa_nil))) pa_nil))))) (pss_one (ps_if (PW.pt (pw_and (pt_cmpR op_eq (pv 1) pe_str (nomark _)) (pw_and1 (pt_val (pv 5))))) (pss_one (ps_expr (pmKS (pv 0) T.cl_Disk T.m_Disk_crash_after ((ok_Disk_crash_after T).kbn T.F_Disk_crash_after 1 ["count"] (fun us ws => us ++ ws) (fun r1 r2 => r1.append r2) (fun _ _ _ _ _ _ us ws h1 h2 => match us, h1, ws, h2 with | [_], _, [_], _ => rfl)) hr (fun σ => passAt tkW σ) (pk_cons (pv 3) pk_nil)))) (pss_one (ps_if (pt_cmpR op_eq (pv 1) pe_str (nomark _)) (pss_one (ps_expr (pmS (pv 0) T.cl_Disk T.m_Disk_crash_after (ok_Disk_crash_after T) hr (fun σ => passAt tkW σ) (pa_cons (pv 3) pa_nil)))) (pss_one (ps_if (pt_val (pv 5)) (pss_one (ps_expr (pmKS (pv 0) T.cl_Disk T.m_Disk_spoil ((ok_Disk_spoil T).kbn T.F_Disk_spoil 1 ["page", "number"] (fun us ws => us ++ ws.reverse) (fun r1 r2 => r1.append r2.reverseV) (fun _ _ _ _ _ _ us ws h1 h2 => match us, h1, ws, h2 with | [_], _, [_, _], _ => rfl)) hr (fun σ => passAt tkW σ) (pk_cons (pv 2) (pk_cons (pv 3) pk_nil))))) (pss_one (ps_expr (pmS (pv 0) T.cl_Disk T.m_Disk_spoil (ok_Disk_spoil T) hr (fun σ => passAt tkW σ) (pa_cons (pv 3) (pa_cons (pv 2) pa_nil)))))))))))))) (ClsAs.cons ⟨rfl, by decide, .inl T.g_InvalidPage⟩ (fun ea oe ecls ed pn hz hf => (pss_one (ps_set (i := 4) SC.nd rfl (Or.inl rfl) (pe_ifExp (pt_val (pe_callB (call_isG K hz hf) rfl T.b_isinstance rfl (pa_cons (pv 6) (pa_cons (pe_glob (v := .ref c_CoverError) rfl T.g_CoverError rfl) pa_nil)))) (pe_tup (pa_cons pe_str (pa_cons (pe_xg T.xf_InvalidPage T.n_InvalidPage_value hz hf (pv 6)) pa_nil))) (pe_tup (pa_cons pe_str (pa_cons pe_non pa_nil))))))) (ClsAs.cons ⟨rfl, by decide, .inl T.g_InvalidCount⟩ (fun ea oe ecls ed pn hz hf => (pss_one (ps_set (i := 4) SC.nd rfl (Or.inl rfl) (pe_ifExp (pt_val (pe_callB (call_isG K hz hf) rfl T.b_isinstance rfl (pa_cons (pv 6) (pa_cons (pe_glob (v := .ref c_CoverError) rfl T.g_CoverError rfl) pa_nil)))) (pe_tup (pa_cons pe_str (pa_cons (pe_xg T.xf_InvalidCount T.n_InvalidCount_value hz hf (pv 6)) pa_nil))) (pe_tup (pa_cons pe_str (pa_cons pe_non pa_nil))))))) (ClsAs.cons ⟨rfl, by decide, .inl T.g_InvalidPlace⟩ (fun ea oe ecls ed pn hz hf => (pss_one (ps_set (i := 4) SC.nd rfl (Or.inl rfl) (pe_ifExp (pt_val (pe_callB (call_isG K hz hf) rfl T.b_isinstance rfl (pa_cons (pv 6) (pa_cons (pe_glob (v := .ref c_CoverError) rfl T.g_CoverError rfl) pa_nil)))) (pe_tup (pa_cons pe_str (pa_cons (pe_xg T.xf_InvalidPlace T.n_InvalidPlace_value hz hf (pv 6)) pa_nil))) (pe_tup (pa_cons pe_str (pa_cons pe_non pa_nil))))))) (ClsAs.cons ⟨rfl, by decide, .inl T.g_Crashed⟩ (fun ea oe ecls ed pn hz hf => (pss_one (ps_set (i := 4) SC.nd rfl (Or.inl rfl) (pe_ifExp (pt_val (pe_callB (call_isG K hz hf) rfl T.b_isinstance rfl (pa_cons (pv 6) (pa_cons (pe_bltn (v := .ty "RuntimeError") rfl T.b_RuntimeError rfl rfl) pa_nil)))) (pe_tup (pa_cons pe_str (pa_cons pe_non pa_nil))) (pe_tup (pa_cons pe_str (pa_cons pe_non pa_nil))))))) ClsAs.nil))))) (pss_one (ps_ret (pv 4))))), ?_⟩
  rw [show L2.start ["_law_plate", "_law_way", "_law_sheet", "_law_spot", "_law_told_here", "_law_is_named", "e"] [v0, v1, v2, v3] = [some v0, some v1, some v2, some v3, none, none, none] from rfl]
  try dsimp only [cxOf, Cx.nox]
  obtain ⟨a, dx, l, left, pgs, rfl, ea, el, hz, q⟩ := h
  simp only [tRet, tRetN, tNext, tSeq, tDrop, tAsg, gName, tIfS, tAndV, tOrV, tNotV, tAnd, tOr, tNot, tB, tTest, tIf, tCB, tCons, tVar, tC, tNil, tOp, tUn, tCall, tCallS, tMeth, tMake, tProp, tFld, sFld, sFldAug, tLst, tTup, tChain, tPar, rI, rI0, rU, rEq, rNe, rIsi, rAppend, sp0, sp1, sp2, sp3, sp4, List.nil_append, List.append_nil, List.cons_append, List.cons.injEq, List.getElem?_cons_zero, List.getElem?_cons_succ, List.set_cons_zero, List.set_cons_succ, Option.some.injEq, V.int.injEq, V.str.injEq, V.bl.injEq, V.ref.injEq, V.ty.injEq, exists_eq_left', exists_eq_left, exists_eq_right, exists_and_left, exists_and_right, and_true, true_and, and_assoc, exists_const, exists_eq, reduceCtorEq, false_and, and_false, or_false, false_or, tMethS, tMethKS, List.reverse_cons, List.reverse_nil]
  refine ⟨by show 2 ≤ sizeLine; rw [sizeLine_eq]; omega, fun p0 hp0 => ?_⟩
  have g0 : Su H (upd H p0 (.tup [.str "done", .non])) := .new hp0
  have e0 : upd H p0 (.tup [.str "done", .non]) p0 = some (.tup [.str "done", .non]) := upd_same
  generalize upd H p0 (.tup [.str "done", .non]) = H0 at g0 e0
  have na : p0 ≠ a := ne_none ea hp0
  have nl : p0 ≠ l := ne_none el hp0
  refine ⟨a, dx, _, rfl, g0 _ _ ea, ⟨a, rfl, dx, l, ⟨left, g0 _ _ ea⟩, pgs, g0 _ _ el, pgs.length, rfl, by omega, by omega, pgs.length, rfl, by omega, rfl, ?_⟩⟩
  generalize hW : wAsMany K _ 6 _ _ = W
  have w1 : ∀ y1 y2 y3 z x, Tell Q H0 "sheet" x → RaiseV (WE W [some (.ref a), y1, y2, y3, some (.ref p0), z, none]) c_InvalidPage x H0 := fun y1 y2 y3 z x tl d hd => by
    rw [← hW]
    refine ⟨true, T.ex_InvalidPage_InvalidPage, fun _ e he => ?_, fun z => by cases z⟩
    simp only [List.set_cons_zero, List.set_cons_succ, tAsg, gName, tIf, tB, tCB, tCons, tVar, tC, tNil, tTup, tXf, rIsG, goneAt, tRet, List.getElem?_cons_zero, List.getElem?_cons_succ, Option.some.injEq, exists_eq_left', List.cons.injEq, V.ref.injEq, V.bl.injEq, and_true, true_and, clsV_ref, clsV_ty, exists_eq_left, Value.ref.injEq]
    exact ⟨_, _, true, _, rfl, .own _, rfl, T.xc_InvalidPage, T.is_InvalidPage, .inr ⟨d, _, rfl, upd_same⟩, iteT ⟨d, _, x, rfl, upd_same, rfl, le2, fun p hp => (tl.su (.new hd)).tup p hp⟩⟩
  have w2 : ∀ y1 y2 y3 z x, Tell Q H0 "size" x → RaiseV (WE W [some (.ref a), y1, y2, y3, some (.ref p0), z, none]) c_InvalidCount x H0 := fun y1 y2 y3 z x tl d hd => by
    rw [← hW]
    refine ⟨false, T.ex_InvalidCount_InvalidPage, (fun z => by cases z), fun _ => ⟨true, T.ex_InvalidCount_InvalidCount, fun _ e he => ?_, fun z => by cases z⟩⟩
    simp only [List.set_cons_zero, List.set_cons_succ, tAsg, gName, tIf, tB, tCB, tCons, tVar, tC, tNil, tTup, tXf, rIsG, goneAt, tRet, List.getElem?_cons_zero, List.getElem?_cons_succ, Option.some.injEq, exists_eq_left', List.cons.injEq, V.ref.injEq, V.bl.injEq, and_true, true_and, clsV_ref, clsV_ty, exists_eq_left, Value.ref.injEq]
    exact ⟨_, _, true, _, rfl, .own _, rfl, T.xc_InvalidCount, T.is_InvalidCount, .inr ⟨d, _, rfl, upd_same⟩, iteT ⟨d, _, x, rfl, upd_same, rfl, le2, fun p hp => (tl.su (.new hd)).tup p hp⟩⟩
  have w3 : ∀ y1 y2 y3 z x, Tell Q H0 "place" x → RaiseV (WE W [some (.ref a), y1, y2, y3, some (.ref p0), z, none]) c_InvalidPlace x H0 := fun y1 y2 y3 z x tl d hd => by
    rw [← hW]
    refine ⟨false, T.ex_InvalidPlace_InvalidPage, (fun z => by cases z), fun _ => ⟨false, T.ex_InvalidPlace_InvalidCount, (fun z => by cases z), fun _ => ⟨true, T.ex_InvalidPlace_InvalidPlace, fun _ e he => ?_, fun z => by cases z⟩⟩⟩
    simp only [List.set_cons_zero, List.set_cons_succ, tAsg, gName, tIf, tB, tCB, tCons, tVar, tC, tNil, tTup, tXf, rIsG, goneAt, tRet, List.getElem?_cons_zero, List.getElem?_cons_succ, Option.some.injEq, exists_eq_left', List.cons.injEq, V.ref.injEq, V.bl.injEq, and_true, true_and, clsV_ref, clsV_ty, exists_eq_left, Value.ref.injEq]
    exact ⟨_, _, true, _, rfl, .own _, rfl, T.xc_InvalidPlace, T.is_InvalidPlace, .inr ⟨d, _, rfl, upd_same⟩, iteT ⟨d, _, x, rfl, upd_same, rfl, le2, fun p hp => (tl.su (.new hd)).tup p hp⟩⟩
  have w4 : ∀ y1 y2 y3 z, Tell Q H0 "crashed" .non → WE W [some (.ref a), y1, y2, y3, some (.ref p0), z, none] (.ref c_Crashed) none H0 := fun y1 y2 y3 z tl => by
    rw [← hW]
    refine ⟨false, T.ex_Crashed_InvalidPage, (fun z => by cases z), fun _ => ⟨false, T.ex_Crashed_InvalidCount, (fun z => by cases z), fun _ => ⟨false, T.ex_Crashed_InvalidPlace, (fun z => by cases z), fun _ => ⟨true, T.ex_Crashed_Crashed, fun _ e he => ?_, fun z => by cases z⟩⟩⟩⟩
    simp only [List.set_cons_zero, List.set_cons_succ, tAsg, gName, tIf, tB, tCB, tCons, tVar, tC, tNil, tTup, tXf, rIsG, goneAt, tRet, List.getElem?_cons_zero, List.getElem?_cons_succ, Option.some.injEq, exists_eq_left', List.cons.injEq, V.ref.injEq, V.bl.injEq, and_true, true_and, clsV_ref, clsV_ty, exists_eq_left, Value.ref.injEq]
    exact ⟨_, _, true, _, rfl, .ty _, rfl, T.xc_Crashed, T.is_Crashed, .inl trivial, iteT ⟨le2, fun p hp => tl.tup p hp⟩⟩
  have lt : pgs.length < sizeLine := by rw [sizeLine_eq]; omega
  have e1 : decide (V.str "write" = V.str "write") = true := by decide +kernel
  have e2 : decide (V.str "crash" = V.str "write") = false := by decide +kernel
  have e3 : decide (V.str "spoil" = V.str "write") = false := by decide +kernel
  have e4 : decide (V.str "crash" = V.str "crash") = true := by decide +kernel
  have e5 : decide (V.str "spoil" = V.str "crash") = false := by decide +kernel
  rcases q with ⟨rfl, b, hb, h1, h2, h3⟩ | ⟨rfl, q⟩ | ⟨rfl, q⟩
  · refine ⟨rfl, ?_⟩
    rw [e1]
    refine iteT ?_
    have fin : b = true → ∀ z, v2 = .str z → left ≠ some 0 → ∀ p, upd (upd H0 a (.ins c_Disk dx (dsk l (left.map (· - 1))))) l (strL (pgs ++ [z])) p = none → Q (.ref p) (upd (upd (upd H0 a (.ins c_Disk dx (dsk l (left.map (· - 1))))) l (strL (pgs ++ [z]))) p (.tup [.str "done", .non])) := fun eb z ez e' p hp => ((h3 eb z ez e').su (Su.upd (Su.upd g0))).tup p hp
    by_cases hp : (pgs.length : Int).fmod 2 = 1
    · rw [decide_eq_true hp]
      exact iteT ⟨dx, _, g0 _ _ ea, rfl, rfl, dx, l, left, g0 _ _ ea, pgs, g0 _ _ el, lt, b, PageArg.su g0 hb, fun e => w1 _ _ _ _ _ ((h1 e).su g0), fun e e' => w4 _ _ _ _ ((h2 e e').su g0), fun eb z ez e' => ⟨le2, fin eb z ez e'⟩⟩
    · rw [decide_eq_false hp]
      exact iteF ⟨dx, _, g0 _ _ ea, rfl, dx, l, left, g0 _ _ ea, pgs, g0 _ _ el, lt, b, PageArg.su g0 hb, fun e => w1 _ _ _ _ _ ((h1 e).su g0), fun e e' => w4 _ _ _ _ ((h2 e e').su g0), fun eb z ez e' => ⟨le2, fin eb z ez e'⟩⟩
  · refine ⟨rfl, ?_⟩
    rw [e2]
    refine iteF ⟨rfl, ?_⟩
    rw [e4]
    have cr : ∀ z, (IntArg K H0 v3 false ∧ RaiseV (WE W [some (.ref a), some (.str "crash"), some v2, some v3, some (.ref p0), z, none]) c_InvalidCount v3 H0) ∨ ∃ i, v3 = .int i ∧ (i < 0 → RaiseV (WE W [some (.ref a), some (.str "crash"), some v2, some v3, some (.ref p0), z, none]) c_InvalidCount v3 H0) ∧ (0 ≤ i → left = some 0 → Q (.ref p0) H0) ∧ (0 ≤ i → left ≠ some 0 → Q (.ref p0) (upd H0 a (.ins c_Disk dx (dsk l (some i))))) := fun z => by
      rcases q with ⟨h1, h2⟩ | ⟨i, rfl, h1, h2, h3⟩
      · exact .inl ⟨IntArg.su g0 h1, w2 _ _ _ _ _ (h2.su g0)⟩
      · exact .inr ⟨i, rfl, fun e => w2 _ _ _ _ _ ((h1 e).su g0), fun e e' => h2 e e' p0 H0 hp0 g0 e0, fun e e' => h3 e e' p0 _ (by rw [upd_ne na]; exact hp0) g0.upd (by rw [upd_ne na]; exact e0)⟩
    refine iteT ?_
    by_cases hp : (pgs.length : Int).fmod 2 = 1
    · rw [decide_eq_true hp]
      exact iteT ⟨dx, _, g0 _ _ ea, rfl, rfl, dx, l, left, g0 _ _ ea, ⟨pgs, g0 _ _ el⟩, cr _⟩
    · rw [decide_eq_false hp]
      exact iteF ⟨rfl, iteT ⟨dx, _, g0 _ _ ea, rfl, dx, l, left, g0 _ _ ea, ⟨pgs, g0 _ _ el⟩, cr _⟩⟩
  · refine ⟨rfl, ?_⟩
    rw [e3]
    refine iteF ⟨rfl, ?_⟩
    rw [e5]
    have cr : ∀ z, (IntArg K H0 v3 false ∧ RaiseV (WE W [some (.ref a), some (.str "spoil"), some v2, some v3, some (.ref p0), z, none]) c_InvalidPlace v3 H0) ∨ ∃ i, v3 = .int i ∧ (¬ (0 ≤ i ∧ i < (pgs.length : Int)) → RaiseV (WE W [some (.ref a), some (.str "spoil"), some v2, some v3, some (.ref p0), z, none]) c_InvalidPlace v3 H0) ∧
        (0 ≤ i → i < (pgs.length : Int) → ∃ b, PageArg K H0 v2 b ∧ (b = false → RaiseV (WE W [some (.ref a), some (.str "spoil"), some v2, some v3, some (.ref p0), z, none]) c_InvalidPage v2 H0) ∧ (b = true → ∀ z : PySem.Str, v2 = .str z → Q (.ref p0) (upd H0 l (strL (pgs.set i.toNat z))))) := fun z => by
      rcases q with ⟨h1, h2⟩ | ⟨i, rfl, h1, h2⟩
      · exact .inl ⟨IntArg.su g0 h1, w3 _ _ _ _ _ (h2.su g0)⟩
      · refine .inr ⟨i, rfl, fun e => w3 _ _ _ _ _ ((h1 e).su g0), fun e e' => ?_⟩
        obtain ⟨b, hb, h3, h4⟩ := h2 e e'
        exact ⟨b, PageArg.su g0 hb, fun k => w1 _ _ _ _ _ ((h3 k).su g0), fun eb z ez => h4 eb z ez p0 _ (by rw [upd_ne nl]; exact hp0) g0.upd (by rw [upd_ne nl]; exact e0)⟩
    refine iteF (ifF ⟨rfl, iteF ?_⟩)
    by_cases hp : (pgs.length : Int).fmod 2 = 1
    · rw [decide_eq_true hp]
      exact iteT ⟨dx, _, g0 _ _ ea, rfl, rfl, dx, l, ⟨left, g0 _ _ ea⟩, pgs, g0 _ _ el, cr _⟩
    · rw [decide_eq_false hp]
      exact iteF ⟨dx, _, g0 _ _ ea, rfl, dx, l, ⟨left, g0 _ _ ea⟩, pgs, g0 _ _ el, cr _⟩
end Gd
/-! ### k91: the drawn values as data -/
namespace Gd
open PySem PySem.Spec PyProof.Rows L2
def tags : List PySem.Str := ["done", "sheet", "size", "place", "crashed"]
/-- a datum whose text is short -/
structure GoodD (d : PyData) : Prop where
  s : d.showable = true
  h : d.hasDict = false
  dp : d.depth ≤ 10
  z : d.shown.length ≤ 10000
theorem strOk_append {a b : PySem.Str} (ha : PyData.strOk a = true) (hb : PyData.strOk b = true) : PyData.strOk (a ++ b) = true := by
  unfold PyData.strOk at ha hb ⊢
  rw [Str.cps_append, Array.all_append, ha, hb]
  rfl
theorem join_ones : ∀ ys : List PySem.Str, (∀ y ∈ ys, y.length = 1 ∧ PyData.strOk y = true) → (Str.join "" ys).length = ys.length ∧ PyData.strOk (Str.join "" ys) = true
  | [], _ => ⟨rfl, by decide +kernel⟩
  | [x], h => h x (by simp)
  | x :: y :: r, h => by
    obtain ⟨h1, h2⟩ := h x (by simp)
    obtain ⟨i1, i2⟩ := join_ones (y :: r) fun z hz => h z (List.mem_cons_of_mem _ hz)
    have e : Str.join "" (x :: y :: r) = x ++ "" ++ Str.join "" (y :: r) := rfl
    have l0 : PySem.Str.length "" = 0 := rfl
    rw [e]
    exact ⟨by rw [strLen_append, strLen_append, h1, i1, l0]; simp; omega, strOk_append (strOk_append h2 (by decide +kernel)) i2⟩
theorem signs_ok : (signs.all fun x => decide (x.length = 1) && PyData.strOk x) = true := by decide +kernel
theorem pages_ok {x y z : PySem.Str} (hx : x ∈ signs) (hy : y ∈ signs) (hz : z ∈ signs) : (pageT x y z).length = 32 ∧ PyData.strOk (pageT x y z) = true := by
  have one : ∀ w ∈ signs, w.length = 1 ∧ PyData.strOk w = true := fun w hw => by
    have h := Bool.and_eq_true_iff.mp (List.all_eq_true.mp signs_ok w hw)
    exact ⟨of_decide_eq_true h.1, h.2⟩
  have e : pageT x y z = Str.join "" (pageL x y z) := eq_of_beq (join_plain_closes "" (pageL x y z))
  have hl : (pageL x y z).length = 32 := by unfold pageL; rw [List.length_map, List.length_range]
  rw [e, ← hl]
  refine join_ones _ fun w hw => ?_
  unfold pageL at hw
  obtain ⟨i, _, rfl⟩ := List.mem_map.mp hw
  have h3 : i % 3 < 3 := Nat.mod_lt _ (by omega)
  generalize i % 3 = j at h3
  match j, h3 with
  | 0, _ => exact one x hx
  | 1, _ => exact one y hy
  | 2, _ => exact one z hz
theorem chars_of {z : PySem.Str} (h : PyData.strOk z = true) : ∀ c ∈ z.cps.toList, c < 16 ^ 8 := fun c hc => by
  unfold PyData.strOk at h
  rw [← Array.all_toList] at h
  have := of_decide_eq_true (List.all_eq_true.mp h c hc)
  omega
theorem good_str {z : PySem.Str} (h : PyData.strOk z = true) (hl : z.length ≤ 100) : GoodD (.str z) := by
  refine ⟨rfl, rfl, by simp only [PyData.depth]; omega, ?_⟩
  have e := PySem.StrLaws.reprText_len z (chars_of h)
  show (reprText z).length ≤ 10000
  omega
theorem page_good {x y z : PySem.Str} (hx : x ∈ signs) (hy : y ∈ signs) (hz : z ∈ signs) : GoodD (.str (pageT x y z)) ∧ (pageT x y z).length = 32 ∧ PyData.strOk (pageT x y z) = true := by
  obtain ⟨hl, hk⟩ := pages_ok hx hy hz
  exact ⟨good_str hk (by omega), hl, hk⟩
theorem int_good {i : Int} (h : (-1 ≤ i ∧ i < 70) ∨ i = 100000000000000000000) : GoodD (.int i) := by
  refine ⟨decide_eq_true ?_, rfl, by simp only [PyData.depth]; omega, ?_⟩
  · by_cases e : i.natAbs = 0
    · rw [e]; decide
    · exact (Nat.log2_lt e).mpr (Nat.lt_of_lt_of_le (by omega : i.natAbs < 100000000000000000001) (Nat.le_trans (by decide : 100000000000000000001 ≤ 2 ^ 67) (Nat.pow_le_pow_right (by omega) (by omega))))
  · have e := int_text_length_le10 (a := i) (k := 21) (by decide) (by omega)
    show (PySem.Str.ofString (toString i)).length ≤ 10000
    rw [PySem.ofString_length]
    omega
theorem good_small {d : PyData} (h : (d.showable && !d.hasDict && decide (d.depth ≤ 10) && decide (d.shown.length ≤ 10000)) = true) : GoodD d := by
  simp only [Bool.and_eq_true, Bool.not_eq_true', decide_eq_true_eq] at h
  exact ⟨h.1.1.1, h.1.1.2, h.1.2, h.2⟩
theorem good_non : GoodD .none := good_small (by decide +kernel)
theorem good_tru : GoodD (.bool true) := good_small (by decide +kernel)
theorem good_32 : GoodD (.int 32) := good_small (by decide +kernel)
theorem good_l : GoodD (.list ds32) := good_small (by decide +kernel)
theorem good_t : GoodD (.tuple ds32) := good_small (by decide +kernel)
theorem good_t0 : GoodD (.tuple [.int 0]) := good_small (by decide +kernel)
theorem good_e : GoodD (.str "") := good_str (by decide +kernel) (by decide +kernel)
theorem good_a31 : GoodD (.str a31) := good_str (by decide +kernel) (by decide +kernel)
theorem good_a33 : GoodD (.str a33) := good_str (by decide +kernel) (by decide +kernel)
theorem good_0 : GoodD (.str "0") := good_str (by decide +kernel) (by decide +kernel)
theorem tags_ok : (tags.all fun t => PyData.strOk t && decide (t.length ≤ 100)) = true := by decide +kernel
theorem dpAs {K : PySem.W.Frag} {H : Hp} : DpAll K H as32 ds32 := by
  have h : ∀ n : Nat, DpAll K H (List.replicate n (.str "a")) (List.replicate n (.str "a")) := fun n => by
    induction n with
    | zero => exact .nil
    | succ n ih => exact .cons (.str "a") ih
  exact h 32
theorem PgV.su {H0 H H' : Hp} {v : V} {d : PyData} (g : Su H H') (h : PgV H0 H v d) : PgV H0 H' v d := by
  cases h with
  | txt hx hy hz => exact .txt hx hy hz
  | non => exact .non
  | str h => exact .str h
  | int => exact .int
  | tru => exact .tru
  | lst h0 h => exact .lst h0 (g _ _ h)
  | tup h0 h => exact .tup h0 (g _ _ h)
theorem NuV.su {H0 H H' : Hp} {v : V} {d : PyData} (g : Su H H') (h : NuV H0 H v d) : NuV H0 H' v d := by
  cases h with
  | int h => exact .int h
  | tru => exact .tru
  | non => exact .non
  | str => exact .str
  | tup h0 h => exact .tup h0 (g _ _ h)
theorem PgV.dp {K : PySem.W.Frag} {H0 H : Hp} {v : V} {d : PyData} (h : PgV H0 H v d) : Dp K H v d ∧ GoodD d := by
  cases h with
  | txt hx hy hz => exact ⟨.str _, (page_good hx hy hz).1⟩
  | non => exact ⟨.non, good_non⟩
  | str h => exact ⟨.str _, by rcases h with rfl | rfl | rfl <;> first | exact good_e | exact good_a31 | exact good_a33⟩
  | int => exact ⟨.int 32, good_32⟩
  | tru => exact ⟨.bl true, good_tru⟩
  | lst h0 h => exact ⟨.lst (sqL_of h) dpAs, good_l⟩
  | tup h0 h => exact ⟨.tup (.of h) dpAs, good_t⟩
theorem NuV.dp {K : PySem.W.Frag} {H0 H : Hp} {v : V} {d : PyData} (h : NuV H0 H v d) : Dp K H v d ∧ GoodD d := by
  cases h with
  | int h => exact ⟨.int _, int_good h⟩
  | tru => exact ⟨.bl true, good_tru⟩
  | non => exact ⟨.non, good_non⟩
  | str => exact ⟨.str _, good_0⟩
  | tup h0 h => exact ⟨.tup (.of h) (.cons (.int 0) .nil), good_t0⟩
/-- it is a page, or none -/
theorem PgV.page {K : PySem.W.Frag} {H0 H : Hp} {v : V} {d : PyData} (h : PgV H0 H v d) : (PageArg K H v true ∧ ∃ z, v = .str z ∧ PyData.strOk z = true) ∨ PageArg K H v false := by
  cases h with
  | txt hx hy hz =>
    have e := (page_good hx hy hz).2.1
    exact .inl ⟨.inl ⟨_, rfl, by rw [e, sizeLine_eq]; omega, (decide_eq_true e).symm⟩, _, rfl, (page_good hx hy hz).2.2⟩
  | non => exact .inr (.inr ⟨rfl, _, .base .non, by kernel_rfl⟩)
  | str h =>
    refine .inr (.inl ⟨_, rfl, ?_, ?_⟩)
    · rcases h with rfl | rfl | rfl <;> (rw [sizeLine_eq]; decide +kernel)
    · rcases h with rfl | rfl | rfl <;> decide +kernel
  | int => exact .inr (.inr ⟨rfl, _, .base (.int 32), by kernel_rfl⟩)
  | tru => exact .inr (.inr ⟨rfl, _, .base (.bl true), by kernel_rfl⟩)
  | lst h0 h => exact .inr (.inr ⟨rfl, _, .base (.lst h), by kernel_rfl⟩)
  | tup h0 h => exact .inr (.inr ⟨rfl, _, .base (.tup h), by kernel_rfl⟩)
/-- it is an integer, or none -/
theorem NuV.num {K : PySem.W.Frag} {H0 H : Hp} {v : V} {d : PyData} (h : NuV H0 H v d) : (∃ i, v = .int i) ∨ IntArg K H v false := by
  cases h with
  | int h => exact .inl ⟨_, rfl⟩
  | tru => exact .inr ⟨_, true, true, .base (.bl true), by kernel_rfl, by kernel_rfl, rfl⟩
  | non => exact .inr ⟨_, false, false, .base .non, by kernel_rfl, by kernel_rfl, rfl⟩
  | str => exact .inr ⟨_, false, false, .base (.str "0"), by kernel_rfl, by kernel_rfl, rfl⟩
  | tup h0 h => exact .inr ⟨_, false, false, .base (.tup h), by kernel_rfl, by kernel_rfl, rfl⟩
/-- two like texts -/
theorem reprs {K : PySem.W.Frag} {H : Hp} {Q : VK} {p1 p2 : Addr} {tag : PySem.Str} {x : V} {d : PyData} (h1 : H p1 = some (.tup [.str tag, x])) (h2 : H p2 = some (.tup [.str tag, x])) (hd : Dp K H x d) (hg : GoodD d) (ht : tag ∈ tags) (q : Q (.bl true) H) :
    rRepr K [.ref p1] H fun x H1 => rRepr K [.ref p2] H1 fun y H2 => scal x y = true ∧ Q (.bl (decide (x = y))) H2 := by
  have D : ∀ p, H p = some (.tup [.str tag, x]) → Dp K H (.ref p) (.tuple [.str tag, d]) := fun p h => .tup (.of h) (.cons (.str tag) (.cons hd .nil))
  have s1 : (PyData.tuple [.str tag, d]).showable = true := by
    show PyData.showableAll [.str tag, d] = true
    simp only [PyData.showableAll, hg.s, PyData.showable, Bool.and_true]
  have s2 : (PyData.tuple [.str tag, d]).hasDict = false := by
    show PyData.hasDictAll [.str tag, d] = false
    simp only [PyData.hasDictAll, hg.h, PyData.hasDict, Bool.or_false]
  have s3 : (PyData.tuple [.str tag, d]).depth ≤ 20 := by
    have := hg.dp
    simp only [PyData.depth, PyData.depthAll]
    omega
  have s4 : (PyData.tuple [.str tag, d]).shown.length ≤ sizeLine := by
    have t1 := List.all_eq_true.mp tags_ok tag ht
    have t2 := PySem.StrLaws.reprText_len tag (chars_of (Bool.and_eq_true_iff.mp t1).1)
    have t3 := of_decide_eq_true (Bool.and_eq_true_iff.mp t1).2
    have t4 := hg.z
    have j := join_length_add [reprText tag, d.shown] (by simp)
    have e : (PyData.tuple [.str tag, d]).shown = tupleText [reprText tag, d.shown] := rfl
    rw [e, sizeLine_eq]
    unfold tupleText
    rw [strLen_append, strLen_append]
    rw [piled_cons, piled_cons, piled_nil] at j
    have l1 : ((("(" : String) : PySem.Str)).length = 1 := rfl
    have l2 : (((if [reprText tag, d.shown].length == 1 then ",)" else ")" : String) : PySem.Str)).length = 1 := rfl
    rw [l1, l2]
    omega
  refine ⟨_, _, rfl, D p1 h1, s1, s2, s3, s4, _, _, rfl, D p2 h2, s1, s2, s3, s4, rfl, ?_⟩
  rw [decide_eq_true rfl]
  exact q
end Gd
/-! ### k91: scenes, and a call of each kind -/
namespace Gd
open PySem PySem.Spec PyProof.Rows L2
structure Scn where
  sc : Addr
  a : Addr
  dx : Addr
  l : Addr
  m : Addr
  left : Option Int
  pgs : List PySem.Str
def Scn.kvs (S : Scn) : List (L2.Key × V) := [(.inr "plate", .ref S.a), (.inr "pages", .ref S.m), (.inr "left", lv S.left)]
structure ScAt (H : Hp) (S : Scn) : Prop where
  d : H S.sc = some (.dK S.kvs)
  i : H S.a = some (.ins c_Disk S.dx (dsk S.l S.left))
  o : H S.l = some (strL S.pgs)
  p : H S.m = some (strL S.pgs)
  ne : S.l ≠ S.m
  ok : ∀ z ∈ S.pgs, PyData.strOk z = true
/-- the same scene, in another state -/
def Scn.Like (S S' : Scn) : Prop := S'.sc = S.sc ∧ S'.a = S.a ∧ S'.dx = S.dx ∧ S'.l = S.l ∧ S'.m = S.m ∧ S'.pgs.length ≤ S.pgs.length + 1
/-- what stood stays, but for the pot and the scene -/
def Fr (p : Addr) (S : Scn) (H H' : Hp) : Prop := ∀ b o, b ≠ p → b ≠ S.sc → b ≠ S.a → b ≠ S.l → b ≠ S.m → H b = some o → H' b = some o
theorem ScAt.su {H H' : Hp} {S : Scn} (g : Su H H') (h : ScAt H S) : ScAt H' S := ⟨g _ _ h.d, g _ _ h.i, g _ _ h.o, g _ _ h.p, h.ne, h.ok⟩
theorem ScAt.gr {p : Addr} {H H' : Hp} {S : Scn} (g : Gr p H H') (h : ScAt H S) (e : ∃ c s, H p = some (potO c s)) (n1 : p ≠ S.l) (n2 : p ≠ S.m) : ScAt H' S := by
  obtain ⟨c, s, e⟩ := e
  refine ⟨g _ _ (fun z => ?_) h.d, g _ _ (fun z => ?_) h.i, g _ _ (fun z => n1 z.symm) h.o, g _ _ (fun z => n2 z.symm) h.p, h.ne, h.ok⟩
  · have := h.d
    rw [z, e] at this; cases this
  · have := h.i
    rw [z, e] at this; cases this
theorem Fr.of_gr {p : Addr} {S : Scn} {H H1 H2 : Hp} (g : Gr p H H1) (h : Su H1 H2) : Fr p S H H2 := fun b o hp _ _ _ _ e => h _ _ (g _ _ hp e)
theorem Fr.su {p : Addr} {S : Scn} {H H1 H2 : Hp} (g : Fr p S H H1) (h : Su H1 H2) : Fr p S H H2 := fun b o h1 h2 h3 h4 h5 e => h _ _ (g _ _ h1 h2 h3 h4 h5 e)
theorem Scn.Like.refl (S : Scn) : S.Like S := ⟨rfl, rfl, rfl, rfl, rfl, Nat.le_succ _⟩
theorem ne2 {H : Hp} {a b : Addr} {o u : HO} (ha : H a = some o) (hb : H b = some u) (d : o ≠ u) : a ≠ b := fun z => by
  rw [z, hb] at ha
  exact d (Option.some.inj ha).symm
theorem ScAt.neq {H : Hp} {S : Scn} (h : ScAt H S) : S.sc ≠ S.a ∧ S.sc ≠ S.l ∧ S.sc ≠ S.m ∧ S.a ≠ S.l ∧ S.a ≠ S.m := by
  refine ⟨fun e => ?_, fun e => ?_, fun e => ?_, fun e => ?_, fun e => ?_⟩
  · have z := h.d; rw [e, h.i] at z; cases z
  · have z := h.d; rw [e, h.o] at z; cases z
  · have z := h.d; rw [e, h.p] at z; cases z
  · have z := h.i; rw [e, h.o] at z; cases z
  · have z := h.i; rw [e, h.p] at z; cases z
theorem putK_left (S : Scn) (v : V) : putK S.kvs (.inr "left") v = [(.inr "plate", .ref S.a), (.inr "pages", .ref S.m), (.inr "left", v)] := by kernel_rfl
/-- the scene with other pages and another number left -/
def Scn.to (S : Scn) (left : Option Int) (pgs : List PySem.Str) : Scn := { S with left := left, pgs := pgs }
theorem ScAt.mid {H : Hp} {S : Scn} (h : ScAt H S) {left : Option Int} {pgs : List PySem.Str} (hk : ∀ z ∈ pgs, PyData.strOk z = true) : ScAt (upd (upd (upd (upd H S.m (strL pgs)) S.sc (.dK (S.to left pgs).kvs)) S.a (.ins c_Disk S.dx (dsk S.l left))) S.l (strL pgs)) (S.to left pgs) := by
  obtain ⟨n1, n2, n3, n4, n5⟩ := h.neq
  refine ⟨?_, ?_, upd_same, ?_, h.ne, hk⟩
  · show upd _ S.l _ S.sc = _
    rw [upd_ne n2, upd_ne n1, upd_same]
  · show upd _ S.l _ S.a = _
    rw [upd_ne n4, upd_same]; rfl
  · show upd _ S.l _ S.m = _
    rw [upd_ne h.ne.symm, upd_ne n5.symm, upd_ne n3.symm, upd_same]; rfl
theorem dget {H : Hp} {S : Scn} (h : ScAt H S) : DGet H S.sc (.str "plate") (some (.ref S.a)) ∧ DGet H S.sc (.str "pages") (some (.ref S.m)) ∧ DGet H S.sc (.str "left") (some (lv S.left)) :=
  ⟨.inl ⟨_, .inr "plate", .inl h.d, rfl, rfl⟩, .inl ⟨_, .inr "pages", .inl h.d, rfl, rfl⟩, .inl ⟨_, .inr "left", .inl h.d, rfl, rfl⟩⟩
theorem sc__law_write_right : FnScope ["_law_pot_here", "_law_scene", "_law_sheet", "_law_due"] ["_law_pot_here", "_law_scene"] (defScope s__law_write_right) := ⟨rfl, rfl, rfl, by decide +kernel, rfl, by decide +kernel, by decide +kernel⟩
theorem ok__law_write_right {P : Program} {w : World} {K : PySem.W.Frag} {mg : PySem.Str → Option Value} {base : Heap} (T : Txt K mg)  : Fg P w K mg base 6 a__law_write_right ["_law_pot_here", "_law_scene"] (sp2 fun x y H Q E => ∃ (p : Addr) (S : Scn) (c s : Int), x = .ref p ∧ y = .ref S.sc ∧ H p = some (potO c s) ∧ PotOk c s ∧ ScAt H S ∧ p ≠ S.l ∧ p ≠ S.m ∧ S.pgs.length < 60 ∧ ∀ H' c' s' S', S.Like S' → PotOk c' s' → H' p = some (potO c' s') → ScAt H' S' → Fr p S H H' → Q (.bl true) H') := by
  have SC := sc__law_write_right
  refine Fg.of2 T.F__law_write_right SC (fun fd F => F.bindsN fun _ _ _ _ _ _ us hl => match us, hl with | [_, _], _ => rfl) (fun cdv A outer s H v0 v1 Q E hg hr h => ?_)
  refine ⟨_, PSs.nox (pss_cons (ps_par (i := 2) (j := 3) rfl SC.nd rfl rfl (by decide) rfl rfl (pa_cons (pc (ok__law_page T) hr T.g__law_page passL (pa_cons (pv 0) pa_nil)) (pa_cons (pe_tup (pa_cons pe_str (pa_cons pe_non pa_nil))) pa_nil)) rfl) (pss_cons (ps_if (pt_not (pt_val (pc (ok__law_is_page T) hr T.g__law_is_page passL (pa_cons (pv 2) pa_nil)))) (pss_one (ps_set (i := 3) SC.nd rfl (Or.inl rfl) (pe_tup (pa_cons pe_str (pa_cons (pv 2) pa_nil))))) (pss_one (ps_if (pt_cmpR op_eq (pe_dget (hu_of hr) (pv 1) pe_str (fun _ _ => rfl)) pe_int (nomark _)) (pss_one (ps_set (i := 3) SC.nd rfl (Or.inl rfl) (pe_tup (pa_cons pe_str (pa_cons pe_non pa_nil))))) (pss_cons (ps_expr (pe_bm PySem.F.plainAttrs_list PySem.F.slot_list_append PySem.F.type_list_append mt_append (pe_dget (hu_of hr) (pv 1) pe_str (fun _ _ => rfl)) (pa_cons (pv 2) pa_nil))) (pss_one (ps_dput (hu_of hr) (pv 1) pe_str (pe_ifExp (pt_cmpR op_isN (pe_dget (hu_of hr) (pv 1) pe_str (fun _ _ => rfl)) pe_non (nomark _)) pe_non (pe_op op_sub (pe_dget (hu_of hr) (pv 1) pe_str (fun _ _ => rfl)) pe_int)) rfl)))))) (pss_one (ps_ret (pe_cmpR op_eq (pe_callB (call_repr hg hr) rfl T.b_repr rfl (pa_cons (pc (ok__law_told T) hr T.g__law_told passL (pa_cons (pe_dget (hu_of hr) (pv 1) pe_str (fun _ _ => rfl)) (pa_cons pe_str (pa_cons (pv 2) (pa_cons pe_int pa_nil))))) pa_nil)) (pe_callB (call_repr hg hr) rfl T.b_repr rfl (pa_cons (pv 3) pa_nil)) (nomark _)))))), ?_⟩
  rw [show L2.start ["_law_pot_here", "_law_scene", "_law_sheet", "_law_due"] [v0, v1] = [some v0, some v1, none, none] from rfl]
  try dsimp only [cxOf, Cx.nox]
  obtain ⟨p, S, c, s, rfl, rfl, ep, hP, hS, n1, n2, hz, q⟩ := h
  simp only [tRet, tRetN, tNext, tSeq, tDrop, tAsg, gName, tIfS, tAndV, tOrV, tNotV, tAnd, tOr, tNot, tB, tTest, tIf, tCB, tCons, tVar, tC, tNil, tOp, tUn, tCall, tCallS, tMeth, tMake, tProp, tFld, sFld, sFldAug, tLst, tTup, tChain, tPar, tPar3, rI, rI0, rU, rEq, rNe, rIsi, rAppend, sp0, sp1, sp2, sp3, sp4, List.nil_append, List.append_nil, List.cons_append, List.cons.injEq, List.getElem?_cons_zero, List.getElem?_cons_succ, List.set_cons_zero, List.set_cons_succ, Option.some.injEq, V.int.injEq, V.str.injEq, V.bl.injEq, V.ref.injEq, V.ty.injEq, exists_eq_left', exists_eq_left, exists_eq_right, exists_and_left, exists_and_right, and_true, true_and, and_assoc, exists_const, exists_eq, reduceCtorEq, false_and, and_false, or_false, false_or, tDGet, sDPut, tBM]
  refine ⟨c, s, ep, hP, fun c1 s1 v d H1 hP1 g1 ep1 hv => ⟨le2, fun p0 hp0 => ?_⟩⟩
  have S1 : ScAt H1 S := hS.gr g1 ⟨_, _, ep⟩ n1 n2
  have g2 : Su H1 (upd H1 p0 (.tup [.str "done", .non])) := .new hp0
  have e0 : upd H1 p0 (.tup [.str "done", .non]) p0 = some (.tup [.str "done", .non]) := upd_same
  generalize upd H1 p0 (.tup [.str "done", .non]) = H2 at g2 e0
  have hv2 := PgV.su g2 hv
  have S2 := S1.su g2
  have ep2 := g2 _ _ ep1
  have hdp := PgV.dp (K := K) hv2
  rcases PgV.page (K := K) hv2 with ⟨hb, z, rfl, hzk⟩ | hb
  · refine ⟨true, hb, iteF ?_⟩
    refine ⟨_, (dget S2).2.2, by cases S.left <;> rfl, ?_⟩
    rw [lv_dec]
    have e0' := e0
    by_cases e0 : S.left = some 0
    · rw [decide_eq_true e0]
      refine iteT ⟨le2, fun p3 hp3 => ?_⟩
      have g3 : Su H2 (upd H2 p3 (.tup [.str "crashed", .non])) := .new hp3
      have e3 : upd H2 p3 (.tup [.str "crashed", .non]) p3 = some (.tup [.str "crashed", .non]) := upd_same
      generalize upd H2 p3 (.tup [.str "crashed", .non]) = H3 at g3 e3
      have S3 := S2.su g3
      have ep3 := g3 _ _ ep2
      refine ⟨_, (dget S3).1, _, rfl, S.dx, S.l, S.left, S3.i, S.pgs, S3.o, by omega, .inl ⟨true, PageArg.su g3 hb, (fun z => by cases z), fun _ _ p4 H4 hp4 g4 e4 => ?_, fun _ _ _ z => absurd e0 z⟩⟩
      exact reprs e4 (g4 _ _ e3) .non good_non (by simp [tags]) (q H4 c1 s1 S (.refl S) hP1 (g4 _ _ ep3) (S3.su g4) (.of_gr g1 ((g2.trans g3).trans g4)))
    · rw [decide_eq_false e0]
      refine iteF ⟨_, (dget S2).2.1, .inl ⟨rfl, _, sqL_str S2.p⟩, S.m, rfl, _, S2.p, by rw [List.length_map, sizeLine_eq]; omega, ?_⟩
      obtain ⟨k1, k2, k3, k4, k5⟩ := S2.neq
      have hm : HO.lst (S.pgs.map V.str ++ [V.str z]) = strL (S.pgs ++ [z]) := by unfold strL; rw [List.map_append]; rfl
      rw [hm]
      have sc5 : upd H2 S.m (strL (S.pgs ++ [z])) S.sc = some (.dK S.kvs) := by rw [upd_ne k3]; exact S2.d
      refine ⟨lv S.left, .inl ⟨_, .inr "left", .inl sc5, rfl, rfl⟩, ?_⟩
      have put : ∀ v, v = lv (S.left.map (· - 1)) → DPut (upd H2 S.m (strL (S.pgs ++ [z]))) S.sc (.str "left") v (upd (upd H2 S.m (strL (S.pgs ++ [z]))) S.sc (.dK (S.to (S.left.map (· - 1)) (S.pgs ++ [z])).kvs)) := fun v hv => by
        refine .inl ⟨_, .inr "left", sc5, rfl, by show 3 < sizeLine; rw [sizeLine_eq]; omega, ?_⟩
        rw [putK_left, hv]
        rfl
      have ML : ScAt (upd (upd (upd (upd H2 S.m (strL (S.pgs ++ [z]))) S.sc (.dK (S.to (S.left.map (· - 1)) (S.pgs ++ [z])).kvs)) S.a (.ins c_Disk S.dx (dsk S.l (S.left.map (· - 1))))) S.l (strL (S.pgs ++ [z]))) (S.to (S.left.map (· - 1)) (S.pgs ++ [z])) := S2.mid fun y hy => by
        rcases List.mem_append.mp hy with h | h
        · exact S2.ok y h
        · rw [List.mem_singleton.mp h]; exact hzk
      have old : ∀ b o, b ≠ S.sc → b ≠ S.a → b ≠ S.l → b ≠ S.m → H2 b = some o → upd (upd (upd (upd H2 S.m (strL (S.pgs ++ [z]))) S.sc (.dK (S.to (S.left.map (· - 1)) (S.pgs ++ [z])).kvs)) S.a (.ins c_Disk S.dx (dsk S.l (S.left.map (· - 1))))) S.l (strL (S.pgs ++ [z])) b = some o := fun b o h1 h2 h3 h4 e => by
        rw [upd_ne h3, upd_ne h2, upd_ne h1, upd_ne h4]; exact e
      have pd : upd (upd H2 S.m (strL (S.pgs ++ [z]))) S.sc (.dK (S.to (S.left.map (· - 1)) (S.pgs ++ [z])).kvs) S.sc = some (.dK (S.to (S.left.map (· - 1)) (S.pgs ++ [z])).kvs) := upd_same
      have ia : upd (upd H2 S.m (strL (S.pgs ++ [z]))) S.sc (.dK (S.to (S.left.map (· - 1)) (S.pgs ++ [z])).kvs) S.a = some (.ins c_Disk S.dx (dsk S.l S.left)) := by rw [upd_ne k1.symm, upd_ne k5]; exact S2.i
      have ol : upd (upd H2 S.m (strL (S.pgs ++ [z]))) S.sc (.dK (S.to (S.left.map (· - 1)) (S.pgs ++ [z])).kvs) S.l = some (strL S.pgs) := by rw [upd_ne k2.symm, upd_ne S2.ne]; exact S2.o
      have hpp : p ≠ S.sc ∧ p ≠ S.a := ⟨ne2 ep2 S2.d (fun z => by cases z), ne2 ep2 S2.i (fun z => by cases z)⟩
      have p0n : p0 ≠ S.sc ∧ p0 ≠ S.a ∧ p0 ≠ S.l ∧ p0 ≠ S.m := ⟨ne2 e0' S2.d (fun z => by cases z), ne2 e0' S2.i (fun z => by cases z), ne2 e0' S2.o (fun z => by cases z), ne2 e0' S2.p (fun z => by cases z)⟩
      have hb6 : ∀ H6, PageArg K H6 (.str z) true := fun H6 => .inl (by
        rcases hb with h | ⟨w, _⟩
        · exact h
        · cases w)
      generalize upd (upd H2 S.m (strL (S.pgs ++ [z]))) S.sc (.dK (S.to (S.left.map (· - 1)) (S.pgs ++ [z])).kvs) = H6 at put ML old pd ia ol
      have told : WriteTold K (fun x H1 => rRepr K [x] H1 fun x H1 => rRepr K [V.ref p0] H1 fun y H2 => scal x y = true ∧ Q (V.bl (decide (x = y))) H2) H6 S.a S.dx S.l S.left S.pgs (.str z) := by
        refine ⟨true, hb6 _, (fun w => by cases w), fun _ w => absurd w e0, fun _ z' ez _ p4 H4 hp4 g4 e4 => ?_⟩
        cases ez
        exact reprs e4 (g4 _ _ (old _ _ p0n.1 p0n.2.1 p0n.2.2.1 p0n.2.2.2 e0')) .non good_non (by simp [tags]) (q H4 c1 s1 (S.to (S.left.map (· - 1)) (S.pgs ++ [z])) ⟨rfl, rfl, rfl, rfl, rfl, by show (S.pgs ++ [z]).length ≤ _; rw [List.length_append]; exact Nat.le_refl _⟩ hP1 (g4 _ _ (old _ _ hpp.1 hpp.2 n1 n2 ep2)) (ML.su g4) (fun b o h1 h2 h3 h4 h5 e => g4 _ _ (old b o h2 h3 h4 h5 (g2 _ _ (g1 _ _ h1 e)))))
      have dg : DGet H6 S.sc (.str "plate") (some (.ref S.a)) := .inl ⟨_, .inr "plate", .inl pd, rfl, rfl⟩
      cases hl : S.left with
      | none =>
        rw [hl] at told
        exact iteT ⟨H6, put _ (by rw [hl]; rfl), _, dg, _, rfl, S.dx, S.l, none, by rw [← hl]; exact ia, S.pgs, ol, by omega, .inl told⟩
      | some n =>
        rw [hl] at told
        exact iteF ⟨_, .inl ⟨_, .inr "left", .inl sc5, rfl, by show some (V.int n) = some (lv S.left); rw [hl]; rfl⟩, n, rfl, H6, put _ (by rw [hl]; rfl), _, dg, _, rfl, S.dx, S.l, some n, by rw [← hl]; exact ia, S.pgs, ol, by omega, .inl told⟩
  · refine ⟨false, hb, iteT ⟨le2, fun p3 hp3 => ?_⟩⟩
    have g3 : Su H2 (upd H2 p3 (.tup [.str "sheet", v])) := .new hp3
    have e3 : upd H2 p3 (.tup [.str "sheet", v]) p3 = some (.tup [.str "sheet", v]) := upd_same
    generalize upd H2 p3 (.tup [.str "sheet", v]) = H3 at g3 e3
    have S3 := S2.su g3
    have ep3 := g3 _ _ ep2
    refine ⟨_, (dget S3).1, _, rfl, S.dx, S.l, S.left, S3.i, S.pgs, S3.o, by omega, (.inl ⟨false, PageArg.su g3 hb, fun _ p4 H4 hp4 g4 e4 => ?_, (fun z => by cases z), (fun z => by cases z)⟩)⟩
    · exact reprs e4 (g4 _ _ e3) (PgV.dp (PgV.su (g3.trans g4) hv2)).1 hdp.2 (by simp [tags]) (q H4 c1 s1 S (.refl S) hP1 (g4 _ _ ep3) (S3.su g4) (.of_gr g1 ((g2.trans g3).trans g4)))
end Gd
/-! ### k91: bases, keepers, stores, as they are made -/
namespace Gd
open PySem PySem.Spec PyProof.Rows L2
theorem Gr.set {a : Addr} {H H' : Hp} {o : HO} (g : Gr a H H') : Gr a H (upd H' a o) := fun b u hb e => by rw [upd_ne hb]; exact g b u hb e
theorem Gr.more {a p : Addr} {H H' : Hp} {o : HO} (g : Gr a H H') (h : H' p = Option.none) : Gr a H (upd H' p o) := fun b u hb e => by rw [upd_ne (ne_of_none (g b u hb e) h)]; exact g b u hb e
theorem at_new {a p : Addr} {H : Hp} {o u : HO} (h : H a = some u) (hp : H p = none) : upd H p o a = some u := by rw [upd_ne (ne_of_none h hp)]; exact h
def bsF (m : Int) (t : Addr) : List (PySem.Str × V) := [("own_bits", .int m), ("own_tables", .ref t), ("newest", .int 0), ("own_oldest", .int 0)]
def stF (b k l1 l2 d : Addr) : List (PySem.Str × V) := [("base", .ref b), ("own_keeper", .ref k), ("own_constraints", .ref l1), ("begun", .ref l2), ("own_pins", .ref d)]
theorem sc_is_bits : FnScope ["value"] ["value"] (defScope s_is_bits) := ⟨rfl, rfl, rfl, by decide +kernel, rfl, by decide +kernel, by decide +kernel⟩
theorem ok_is_bits {P : Program} {w : World} {K : PySem.W.Frag} {mg : PySem.Str → Option Value} {base : Heap} (T : Txt K mg)  : Fn P w K mg base 2 a_is_bits ["value"] (sp1 fun x H Q _ => ∃ m : Int, x = .int m ∧ Q (.bl (decide (1 ≤ m ∧ m ≤ 10))) H) := by
  have SC := sc_is_bits
  refine Fn.of1 T.F_is_bits SC (fun fd F => F.bindsN fun _ _ _ _ _ _ us hl => match us, hl with | [_], _ => rfl) (fun cdv A outer s H v0 Q E hr h => ?_)
  refine ⟨_, PSs.nox (pss_one (ps_ret (pe_and (pc (ok_is_integer T) hr T.g_is_integer passL (pa_cons (pv 0) pa_nil)) (pe_one (pe_chain op_le op_le pe_int (pv 0) (pe_gint T.v_MAX_BITS)))))), ?_⟩
  rw [show L2.start ["value"] [v0] = [some v0] from rfl]
  try dsimp only [cxOf, Cx.nox]
  obtain ⟨m, rfl, q⟩ := h
  simp only [tRet, tRetN, tNext, tSeq, tDrop, tAsg, gName, tIfS, tAndV, tOrV, tNotV, tAnd, tOr, tNot, tB, tTest, tIf, tCB, tCons, tVar, tC, tNil, tOp, tUn, tCall, tCallS, tMeth, tMake, tProp, tFld, sFld, sFldAug, tLst, tTup, tChain, tPar, tPar3, rI, rI0, rU, rEq, rNe, rIsi, rAppend, sp0, sp1, sp2, sp3, sp4, List.nil_append, List.append_nil, List.cons_append, List.cons.injEq, List.getElem?_cons_zero, List.getElem?_cons_succ, List.set_cons_zero, List.set_cons_succ, Option.some.injEq, V.int.injEq, V.str.injEq, V.bl.injEq, V.ref.injEq, V.ty.injEq, exists_eq_left', exists_eq_left, exists_eq_right, exists_and_left, exists_and_right, and_true, true_and, and_assoc, exists_const, exists_eq, reduceCtorEq, false_and, and_false, or_false, false_or, clsV_ty]
  refine ⟨true, .int m, iteT ?_⟩
  by_cases h1 : 1 ≤ m
  · rw [decide_eq_true h1]
    rw [show decide (1 ≤ m ∧ m ≤ 10) = decide (m ≤ 10) from decide_eq_decide.mpr ⟨fun h => h.2, fun h => ⟨h1, h⟩⟩] at q
    exact iteT q
  · rw [decide_eq_false h1]
    rw [decide_eq_false (fun h => h1 h.1)] at q
    exact iteF q
theorem sc_require_bits : FnScope ["bits"] ["bits"] (defScope s_require_bits) := ⟨rfl, rfl, rfl, by decide +kernel, rfl, by decide +kernel, by decide +kernel⟩
theorem ok_require_bits {P : Program} {w : World} {K : PySem.W.Frag} {mg : PySem.Str → Option Value} {base : Heap} (T : Txt K mg)  : Fn P w K mg base 3 a_require_bits ["bits"] (sp1 fun x H Q _ => ∃ m : Int, x = .int m ∧ 1 ≤ m ∧ m ≤ 10 ∧ Q .non H) := by
  have SC := sc_require_bits
  refine Fn.of1 T.F_require_bits SC (fun fd F => F.bindsN fun _ _ _ _ _ _ us hl => match us, hl with | [_], _ => rfl) (fun cdv A outer s H v0 Q E hr h => ?_)
  refine ⟨_, PSs.nox (pss_one (ps_if (pt_not (pt_val (pc (ok_is_bits T) hr T.g_is_bits passL (pa_cons (pv 0) pa_nil)))) (pss_one ps_never) pss_nil)), ?_⟩
  rw [show L2.start ["bits"] [v0] = [some v0] from rfl]
  try dsimp only [cxOf, Cx.nox]
  obtain ⟨m, rfl, h1, h2, q⟩ := h
  simp only [tRet, tRetN, tNext, tSeq, tDrop, tAsg, gName, tIfS, tAndV, tOrV, tNotV, tAnd, tOr, tNot, tB, tTest, tIf, tCB, tCons, tVar, tC, tNil, tOp, tUn, tCall, tCallS, tMeth, tMake, tProp, tFld, sFld, sFldAug, tLst, tTup, tChain, tPar, tPar3, rI, rI0, rU, rEq, rNe, rIsi, rAppend, sp0, sp1, sp2, sp3, sp4, List.nil_append, List.append_nil, List.cons_append, List.cons.injEq, List.getElem?_cons_zero, List.getElem?_cons_succ, List.set_cons_zero, List.set_cons_succ, Option.some.injEq, V.int.injEq, V.str.injEq, V.bl.injEq, V.ref.injEq, V.ty.injEq, exists_eq_left', exists_eq_left, exists_eq_right, exists_and_left, exists_and_right, and_true, true_and, and_assoc, exists_const, exists_eq, reduceCtorEq, false_and, and_false, or_false, false_or]
  rw [decide_eq_true ⟨h1, h2⟩]
  exact iteF q
theorem sc_Base___init__ : FnScope ["self", "bits"] ["self", "bits"] (defScope s_Base___init__) := ⟨rfl, rfl, rfl, by decide +kernel, rfl, by decide +kernel, by decide +kernel⟩
theorem ok_Base___init__ {P : Program} {w : World} {K : PySem.W.Frag} {mg : PySem.Str → Option Value} {base : Heap} (T : Txt K mg)  : Fn P w K mg base 4 a_Base___init__ ["self", "bits"] (sp2 fun x y H Q _ => ∃ (a dx : Addr) (m : Int), x = .ref a ∧ y = .int m ∧ 1 ≤ m ∧ m ≤ 10 ∧ H a = some (.ins c_Base dx []) ∧ ∀ H1 t, Gr a H H1 → H1 a = some (.ins c_Base dx (bsF m t)) → H1 t = some (.dK []) → Q .non H1) := by
  have SC := sc_Base___init__
  refine Fn.of2 T.F_Base___init__ SC (fun fd F => F.bindsN fun _ _ _ _ _ _ us hl => match us, hl with | [_, _], _ => rfl) (fun cdv A outer s H v0 v1 Q E hr h => ?_)
  refine ⟨_, PSs.nox (pss_cons (ps_expr (pc (ok_require_bits T) hr T.g_require_bits passL (pa_cons (pv 1) pa_nil))) (pss_cons (ps_fld (pv 0) (pv 1) rfl) (pss_cons (ps_fld (pv 0) pe_dnewK rfl) (pss_cons (ps_fld (pv 0) pe_int rfl) (pss_one (ps_fld (pv 0) pe_int rfl)))))), ?_⟩
  rw [show L2.start ["self", "bits"] [v0, v1] = [some v0, some v1] from rfl]
  try dsimp only [cxOf, Cx.nox]
  obtain ⟨a, dx, m, rfl, rfl, h1, h2, ea, q⟩ := h
  simp only [tRet, tRetN, tNext, tSeq, tDrop, tAsg, gName, tIfS, tAndV, tOrV, tNotV, tAnd, tOr, tNot, tB, tTest, tIf, tCB, tCons, tVar, tC, tNil, tOp, tUn, tCall, tCallS, tMeth, tMake, tProp, tFld, sFld, sFldAug, tLst, tTup, tChain, tPar, tPar3, rI, rI0, rU, rEq, rNe, rIsi, rAppend, sp0, sp1, sp2, sp3, sp4, List.nil_append, List.append_nil, List.cons_append, List.cons.injEq, List.getElem?_cons_zero, List.getElem?_cons_succ, List.set_cons_zero, List.set_cons_succ, Option.some.injEq, V.int.injEq, V.str.injEq, V.bl.injEq, V.ref.injEq, V.ty.injEq, exists_eq_left', exists_eq_left, exists_eq_right, exists_and_left, exists_and_right, and_true, true_and, and_assoc, exists_const, exists_eq, reduceCtorEq, false_and, and_false, or_false, false_or]
  refine ⟨h1, h2, c_Base, dx, [], ea, T.cl_Base, T.n_Base_own_bits, by decide, fun t ht => ?_⟩
  have hne : a ≠ t := ne_of_none upd_same ht
  refine ⟨c_Base, dx, _, by rw [upd_ne hne]; exact upd_same, T.cl_Base, T.n_Base_own_tables, by show 1 < 1000; omega, c_Base, dx, _, upd_same, T.cl_Base, T.n_Base_newest, by show 2 < 1000; omega, c_Base, dx, _, upd_same, T.cl_Base, T.n_Base_own_oldest, by show 3 < 1000; omega, q _ t (fun b o hb e => ?_) upd_same ?_⟩
  · rw [upd_ne hb, upd_ne hb, upd_ne hb, upd_ne (ne_of_none (by rw [upd_ne hb]; exact e) ht), upd_ne hb]; exact e
  · rw [upd_ne hne.symm, upd_ne hne.symm, upd_ne hne.symm]; exact upd_same
theorem sc_Base_bits : FnScope ["self"] ["self"] (defScope s_Base_bits) := ⟨rfl, rfl, rfl, by decide +kernel, rfl, by decide +kernel, by decide +kernel⟩
theorem ok_Base_bits {P : Program} {w : World} {K : PySem.W.Frag} {mg : PySem.Str → Option Value} {base : Heap} (T : Txt K mg)  : Fn P w K mg base 1 a_Base_bits ["self"] (sp1 fun x H Q _ => ∃ (a dx : Addr) (m : Int) (t : Addr), x = .ref a ∧ H a = some (.ins c_Base dx (bsF m t)) ∧ H t = some (.dK []) ∧ Q (.int m) H) := by
  have SC := sc_Base_bits
  refine Fn.of1 T.F_Base_bits SC (fun fd F => F.bindsN fun _ _ _ _ _ _ us hl => match us, hl with | [_], _ => rfl) (fun cdv A outer s H v0 Q E hr h => ?_)
  refine ⟨_, PSs.nox (pss_one (ps_ret (fldK K (pv 0)))), ?_⟩
  rw [show L2.start ["self"] [v0] = [some v0] from rfl]
  try dsimp only [cxOf, Cx.nox]
  obtain ⟨a, dx, m, t, rfl, ea, et, q⟩ := h
  simp only [tRet, tRetN, tNext, tSeq, tDrop, tAsg, gName, tIfS, tAndV, tOrV, tNotV, tAnd, tOr, tNot, tB, tTest, tIf, tCB, tCons, tVar, tC, tNil, tOp, tUn, tCall, tCallS, tMeth, tMake, tProp, tFld, sFld, sFldAug, tLst, tTup, tChain, tPar, tPar3, rI, rI0, rU, rEq, rNe, rIsi, rAppend, sp0, sp1, sp2, sp3, sp4, List.nil_append, List.append_nil, List.cons_append, List.cons.injEq, List.getElem?_cons_zero, List.getElem?_cons_succ, List.set_cons_zero, List.set_cons_succ, Option.some.injEq, V.int.injEq, V.str.injEq, V.bl.injEq, V.ref.injEq, V.ty.injEq, exists_eq_left', exists_eq_left, exists_eq_right, exists_and_left, exists_and_right, and_true, true_and, and_assoc, exists_const, exists_eq, reduceCtorEq, false_and, and_false, or_false, false_or]
  exact ⟨c_Base, dx, _, ea, T.cl_Base, T.n_Base_own_bits, _, rfl, q⟩
theorem sc_Base_version : FnScope ["self"] ["self"] (defScope s_Base_version) := ⟨rfl, rfl, rfl, by decide +kernel, rfl, by decide +kernel, by decide +kernel⟩
theorem ok_Base_version {P : Program} {w : World} {K : PySem.W.Frag} {mg : PySem.Str → Option Value} {base : Heap} (T : Txt K mg)  : Fn P w K mg base 1 a_Base_version ["self"] (sp1 fun x H Q _ => ∃ (a dx : Addr) (m : Int) (t : Addr), x = .ref a ∧ H a = some (.ins c_Base dx (bsF m t)) ∧ H t = some (.dK []) ∧ Q (.int 0) H) := by
  have SC := sc_Base_version
  refine Fn.of1 T.F_Base_version SC (fun fd F => F.bindsN fun _ _ _ _ _ _ us hl => match us, hl with | [_], _ => rfl) (fun cdv A outer s H v0 Q E hr h => ?_)
  refine ⟨_, PSs.nox (pss_one (ps_ret (fldK K (pv 0)))), ?_⟩
  rw [show L2.start ["self"] [v0] = [some v0] from rfl]
  try dsimp only [cxOf, Cx.nox]
  obtain ⟨a, dx, m, t, rfl, ea, et, q⟩ := h
  simp only [tRet, tRetN, tNext, tSeq, tDrop, tAsg, gName, tIfS, tAndV, tOrV, tNotV, tAnd, tOr, tNot, tB, tTest, tIf, tCB, tCons, tVar, tC, tNil, tOp, tUn, tCall, tCallS, tMeth, tMake, tProp, tFld, sFld, sFldAug, tLst, tTup, tChain, tPar, tPar3, rI, rI0, rU, rEq, rNe, rIsi, rAppend, sp0, sp1, sp2, sp3, sp4, List.nil_append, List.append_nil, List.cons_append, List.cons.injEq, List.getElem?_cons_zero, List.getElem?_cons_succ, List.set_cons_zero, List.set_cons_succ, Option.some.injEq, V.int.injEq, V.str.injEq, V.bl.injEq, V.ref.injEq, V.ty.injEq, exists_eq_left', exists_eq_left, exists_eq_right, exists_and_left, exists_and_right, and_true, true_and, and_assoc, exists_const, exists_eq, reduceCtorEq, false_and, and_false, or_false, false_or]
  exact ⟨c_Base, dx, _, ea, T.cl_Base, T.n_Base_newest, _, rfl, q⟩
theorem sc_Base_tables : FnScope ["self"] ["self"] (defScope s_Base_tables) := ⟨rfl, rfl, rfl, by decide +kernel, rfl, by decide +kernel, by decide +kernel⟩
theorem ok_Base_tables {P : Program} {w : World} {K : PySem.W.Frag} {mg : PySem.Str → Option Value} {base : Heap} (T : Txt K mg)  : Fn P w K mg base 1 a_Base_tables ["self"] (sp1 fun x H Q _ => ∃ (a dx : Addr) (m : Int) (t : Addr), x = .ref a ∧ H a = some (.ins c_Base dx (bsF m t)) ∧ H t = some (.dK []) ∧ ∀ l, H l = none → Q (.ref l) (upd H l (.lst []))) := by
  have SC := sc_Base_tables
  refine Fn.of1 T.F_Base_tables SC (fun fd F => F.bindsN fun _ _ _ _ _ _ us hl => match us, hl with | [_], _ => rfl) (fun cdv A outer s H v0 Q E hr h => ?_)
  refine ⟨_, PSs.nox (pss_one (ps_ret (pe_callTy (call_listD rfl) rfl T.b_list rfl (pa_cons (fldK K (pv 0)) pa_nil)))), ?_⟩
  rw [show L2.start ["self"] [v0] = [some v0] from rfl]
  try dsimp only [cxOf, Cx.nox]
  obtain ⟨a, dx, m, t, rfl, ea, et, q⟩ := h
  simp only [tRet, tRetN, tNext, tSeq, tDrop, tAsg, gName, tIfS, tAndV, tOrV, tNotV, tAnd, tOr, tNot, tB, tTest, tIf, tCB, tCons, tVar, tC, tNil, tOp, tUn, tCall, tCallS, tMeth, tMake, tProp, tFld, sFld, sFldAug, tLst, tTup, tChain, tPar, tPar3, rI, rI0, rU, rEq, rNe, rIsi, rAppend, sp0, sp1, sp2, sp3, sp4, List.nil_append, List.append_nil, List.cons_append, List.cons.injEq, List.getElem?_cons_zero, List.getElem?_cons_succ, List.set_cons_zero, List.set_cons_succ, Option.some.injEq, V.int.injEq, V.str.injEq, V.bl.injEq, V.ref.injEq, V.ty.injEq, exists_eq_left', exists_eq_left, exists_eq_right, exists_and_left, exists_and_right, and_true, true_and, and_assoc, exists_const, exists_eq, reduceCtorEq, false_and, and_false, or_false, false_or]
  exact ⟨c_Base, dx, _, ea, T.cl_Base, T.n_Base_own_tables, _, rfl, t, rfl, [], .inl et, q⟩
theorem sc_Keeper___init__ : FnScope ["self", "base"] ["self", "base"] (defScope s_Keeper___init__) := ⟨rfl, rfl, rfl, by decide +kernel, rfl, by decide +kernel, by decide +kernel⟩
theorem ok_Keeper___init__ {P : Program} {w : World} {K : PySem.W.Frag} {mg : PySem.Str → Option Value} {base : Heap} (T : Txt K mg)  : Fn P w K mg base 1 a_Keeper___init__ ["self", "base"] (sp2 fun x y H Q _ => ∃ (a dx : Addr), x = .ref a ∧ H a = some (.ins c_Keeper dx []) ∧ ∀ H1 fs, Gr a H H1 → H1 a = some (.ins c_Keeper dx fs) → Q .non H1) := by
  have SC := sc_Keeper___init__
  refine Fn.of2 T.F_Keeper___init__ SC (fun fd F => F.bindsN fun _ _ _ _ _ _ us hl => match us, hl with | [_, _], _ => rfl) (fun cdv A outer s H v0 v1 Q E hr h => ?_)
  refine ⟨_, PSs.nox (pss_cons (ps_fld (pv 0) (pv 1) rfl) (pss_cons (ps_fld (pv 0) pe_dnewK rfl) (pss_one (ps_fld (pv 0) pe_int rfl)))), ?_⟩
  rw [show L2.start ["self", "base"] [v0, v1] = [some v0, some v1] from rfl]
  try dsimp only [cxOf, Cx.nox]
  obtain ⟨a, dx, rfl, ea, q⟩ := h
  simp only [tRet, tRetN, tNext, tSeq, tDrop, tAsg, gName, tIfS, tAndV, tOrV, tNotV, tAnd, tOr, tNot, tB, tTest, tIf, tCB, tCons, tVar, tC, tNil, tOp, tUn, tCall, tCallS, tMeth, tMake, tProp, tFld, sFld, sFldAug, tLst, tTup, tChain, tPar, tPar3, rI, rI0, rU, rEq, rNe, rIsi, rAppend, sp0, sp1, sp2, sp3, sp4, List.nil_append, List.append_nil, List.cons_append, List.cons.injEq, List.getElem?_cons_zero, List.getElem?_cons_succ, List.set_cons_zero, List.set_cons_succ, Option.some.injEq, V.int.injEq, V.str.injEq, V.bl.injEq, V.ref.injEq, V.ty.injEq, exists_eq_left', exists_eq_left, exists_eq_right, exists_and_left, exists_and_right, and_true, true_and, and_assoc, exists_const, exists_eq, reduceCtorEq, false_and, and_false, or_false, false_or]
  refine ⟨c_Keeper, dx, [], ea, T.cl_Keeper, T.n_Keeper_base, by decide, fun t ht => ?_⟩
  have hne : a ≠ t := ne_of_none upd_same ht
  refine ⟨c_Keeper, dx, _, by rw [upd_ne hne]; exact upd_same, T.cl_Keeper, T.n_Keeper_entries, by show 1 < 1000; omega, c_Keeper, dx, _, upd_same, T.cl_Keeper, T.n_Keeper_many_kept, by show 2 < 1000; omega, q _ _ (fun b o hb e => ?_) upd_same⟩
  rw [upd_ne hb, upd_ne hb, upd_ne (ne_of_none (by rw [upd_ne hb]; exact e) ht), upd_ne hb]; exact e
theorem sc_Store___init__ : FnScope ["self", "bits"] ["self", "bits"] (defScope s_Store___init__) := ⟨rfl, rfl, rfl, by decide +kernel, rfl, by decide +kernel, by decide +kernel⟩
theorem ok_Store___init__ {P : Program} {w : World} {K : PySem.W.Frag} {mg : PySem.Str → Option Value} {base : Heap} (T : Txt K mg)  : Fn P w K mg base 6 a_Store___init__ ["self", "bits"] (sp2 fun x y H Q _ => ∃ (a dx : Addr) (m : Int), x = .ref a ∧ y = .int m ∧ 1 ≤ m ∧ m ≤ 10 ∧ H a = some (.ins c_DurableStore dx []) ∧ ∀ H1 b dxb t k l1 l2 d, Gr a H H1 → H1 a = some (.ins c_DurableStore dx (stF b k l1 l2 d)) → H1 b = some (.ins c_Base dxb (bsF m t)) → H1 t = some (.dK []) → Q .non H1) := by
  have SC := sc_Store___init__
  refine Fn.of2 T.F_Store___init__ SC (fun fd F => F.bindsN fun _ _ _ _ _ _ us hl => match us, hl with | [_, _], _ => rfl) (fun cdv A outer s H v0 v1 Q E hr h => ?_)
  refine ⟨_, PSs.nox (pss_cons (ps_fld (pv 0) (pmk T.k_Base (ok_Base___init__ T) hr T.g_Base passL (pa_cons (pv 1) pa_nil)) rfl) (pss_cons (ps_fld (pv 0) (pmk T.k_Keeper (ok_Keeper___init__ T) hr T.g_Keeper passL (pa_cons (fldK K (pv 0)) pa_nil)) rfl) (pss_cons (ps_fld (pv 0) (pe_lst pa_nil) rfl) (pss_cons (ps_fld (pv 0) (pe_lst pa_nil) rfl) (pss_one (ps_fld (pv 0) pe_dnewK rfl)))))), ?_⟩
  rw [show L2.start ["self", "bits"] [v0, v1] = [some v0, some v1] from rfl]
  try dsimp only [cxOf, Cx.nox]
  obtain ⟨a, dx, m, rfl, rfl, h1, h2, ea, q⟩ := h
  simp only [tRet, tRetN, tNext, tSeq, tDrop, tAsg, gName, tIfS, tAndV, tOrV, tNotV, tAnd, tOr, tNot, tB, tTest, tIf, tCB, tCons, tVar, tC, tNil, tOp, tUn, tCall, tCallS, tMeth, tMake, tProp, tFld, sFld, sFldAug, tLst, tTup, tChain, tPar, tPar3, rI, rI0, rU, rEq, rNe, rIsi, rAppend, sp0, sp1, sp2, sp3, sp4, List.nil_append, List.append_nil, List.cons_append, List.cons.injEq, List.getElem?_cons_zero, List.getElem?_cons_succ, List.set_cons_zero, List.set_cons_succ, Option.some.injEq, V.int.injEq, V.str.injEq, V.bl.injEq, V.ref.injEq, V.ty.injEq, exists_eq_left', exists_eq_left, exists_eq_right, exists_and_left, exists_and_right, and_true, true_and, and_assoc, exists_const, exists_eq, reduceCtorEq, false_and, and_false, or_false, false_or]
  intro b dxb hb hdb hne
  refine ⟨h1, h2, dxb, upd_same, fun H1 t g1 e1 et => ?_⟩
  have s1 : Su H H1 := fun b' o e => g1 b' o (ne_of_none e hb) (by rw [upd_ne (ne_of_none e hb), upd_ne (ne_of_none e hdb)]; exact e)
  have ea1 := s1 _ _ ea
  have nab : b ≠ a := ne2 e1 ea1 (fun z => by cases z)
  have nat : t ≠ a := ne2 et ea1 (fun z => by cases z)
  refine ⟨c_DurableStore, dx, [], ea1, T.cl_DurableStore, T.n_DurableStore_base, by decide, c_DurableStore, dx, _, upd_same, T.cl_DurableStore, T.n_DurableStore_base, ⟨_, rfl⟩, fun k dxk hk hdk hnk => ?_⟩
  have g2 : Gr a H1 (upd H1 a (.ins c_DurableStore dx (putF "base" (V.ref b) []))) := fun b' o hb' e => by rw [upd_ne hb']; exact e
  have ea2 : upd H1 a (.ins c_DurableStore dx (putF "base" (V.ref b) [])) a = some (.ins c_DurableStore dx (putF "base" (V.ref b) [])) := upd_same
  generalize upd H1 a (.ins c_DurableStore dx (putF "base" (V.ref b) [])) = H2 at *
  refine ⟨dxk, upd_same, fun H3 fs gk e3 => ?_⟩
  have s3 : Su H2 H3 := fun b' o e => gk b' o (ne_of_none e hk) (by rw [upd_ne (ne_of_none e hk), upd_ne (ne_of_none e hdk)]; exact e)
  have ea3 := s3 _ _ ea2
  have e1' := s3 _ _ (g2 _ _ nab e1)
  have et' := s3 _ _ (g2 _ _ nat et)
  have g03 : Gr a H H3 := fun b' o hb' e => s3 _ _ (g2 _ _ hb' (s1 _ _ e))
  have g3 : Gr a H H3 := g03
  have r3 : Gr a H3 H3 := fun _ _ _ e => e
  refine ⟨c_DurableStore, dx, _, ea3, T.cl_DurableStore, T.n_DurableStore_own_keeper, by show 1 < 1000; omega, Nat.zero_le _, fun l1 hl1 => ?_⟩
  have ea4 := at_new (o := .lst []) (upd_same (H := H3) (a := a) (o := .ins c_DurableStore dx (putF "own_keeper" (V.ref k) (putF "base" (V.ref b) [])))) hl1
  have g4 := (g3.set (o := .ins c_DurableStore dx (putF "own_keeper" (V.ref k) (putF "base" (V.ref b) [])))).more (o := .lst []) hl1
  have r4 := (r3.set (o := .ins c_DurableStore dx (putF "own_keeper" (V.ref k) (putF "base" (V.ref b) [])))).more (o := .lst []) hl1
  generalize upd (upd H3 a (.ins c_DurableStore dx (putF "own_keeper" (V.ref k) (putF "base" (V.ref b) [])))) l1 (.lst []) = H4 at *
  refine ⟨c_DurableStore, dx, _, ea4, T.cl_DurableStore, T.n_DurableStore_own_constraints, by show 2 < 1000; omega, Nat.zero_le _, fun l2 hl2 => ?_⟩
  have ea5 := at_new (o := .lst []) (upd_same (H := H4) (a := a) (o := .ins c_DurableStore dx (putF "own_constraints" (V.ref l1) (putF "own_keeper" (V.ref k) (putF "base" (V.ref b) []))))) hl2
  have g5 := (g4.set (o := .ins c_DurableStore dx (putF "own_constraints" (V.ref l1) (putF "own_keeper" (V.ref k) (putF "base" (V.ref b) []))))).more (o := .lst []) hl2
  have r5 := (r4.set (o := .ins c_DurableStore dx (putF "own_constraints" (V.ref l1) (putF "own_keeper" (V.ref k) (putF "base" (V.ref b) []))))).more (o := .lst []) hl2
  generalize upd (upd H4 a (.ins c_DurableStore dx (putF "own_constraints" (V.ref l1) (putF "own_keeper" (V.ref k) (putF "base" (V.ref b) []))))) l2 (.lst []) = H5 at *
  refine ⟨c_DurableStore, dx, _, ea5, T.cl_DurableStore, T.n_DurableStore_begun, by show 3 < 1000; omega, fun d hd => ?_⟩
  have ea6 := at_new (o := .dK []) (upd_same (H := H5) (a := a) (o := .ins c_DurableStore dx (putF "begun" (V.ref l2) (putF "own_constraints" (V.ref l1) (putF "own_keeper" (V.ref k) (putF "base" (V.ref b) [])))))) hd
  have g6 := (g5.set (o := .ins c_DurableStore dx (putF "begun" (V.ref l2) (putF "own_constraints" (V.ref l1) (putF "own_keeper" (V.ref k) (putF "base" (V.ref b) [])))))).more (o := .dK []) hd
  have r6 := (r5.set (o := .ins c_DurableStore dx (putF "begun" (V.ref l2) (putF "own_constraints" (V.ref l1) (putF "own_keeper" (V.ref k) (putF "base" (V.ref b) [])))))).more (o := .dK []) hd
  generalize upd (upd H5 a (.ins c_DurableStore dx (putF "begun" (V.ref l2) (putF "own_constraints" (V.ref l1) (putF "own_keeper" (V.ref k) (putF "base" (V.ref b) [])))))) d (.dK []) = H6 at *
  refine ⟨c_DurableStore, dx, _, ea6, T.cl_DurableStore, T.n_DurableStore_own_pins, by show 4 < 1000; omega, q _ b dxb t k l1 l2 d g6.set upd_same ?_ ?_⟩
  · rw [upd_ne nab]; exact r6 _ _ nab e1'
  · rw [upd_ne nat]; exact r6 _ _ nat et'
theorem sc_Store_bits : FnScope ["self"] ["self"] (defScope s_Store_bits) := ⟨rfl, rfl, rfl, by decide +kernel, rfl, by decide +kernel, by decide +kernel⟩
theorem ok_Store_bits {P : Program} {w : World} {K : PySem.W.Frag} {mg : PySem.Str → Option Value} {base : Heap} (T : Txt K mg)  : Fn P w K mg base 3 a_Store_bits ["self"] (sp1 fun x H Q _ => ∃ (a dx b dxb t : Addr) (m : Int) (fs : List (PySem.Str × V)), x = .ref a ∧ H a = some (.ins c_DurableStore dx ((("base" : PySem.Str), V.ref b) :: fs)) ∧ H b = some (.ins c_Base dxb (bsF m t)) ∧ H t = some (.dK []) ∧ Q (.int m) H) := by
  have SC := sc_Store_bits
  refine Fn.of1 T.F_Store_bits SC (fun fd F => F.bindsN fun _ _ _ _ _ _ us hl => match us, hl with | [_], _ => rfl) (fun cdv A outer s H v0 Q E hr h => ?_)
  refine ⟨_, PSs.nox (pss_one (ps_ret (pprop (fldK K (pv 0)) T.cl_Base T.q_Base_bits (ok_Base_bits T) hr passL))), ?_⟩
  rw [show L2.start ["self"] [v0] = [some v0] from rfl]
  try dsimp only [cxOf, Cx.nox]
  obtain ⟨a, dx, b, dxb, t, m, fs, rfl, ea, eb, et, q⟩ := h
  simp only [tRet, tRetN, tNext, tSeq, tDrop, tAsg, gName, tIfS, tAndV, tOrV, tNotV, tAnd, tOr, tNot, tB, tTest, tIf, tCB, tCons, tVar, tC, tNil, tOp, tUn, tCall, tCallS, tMeth, tMake, tProp, tFld, sFld, sFldAug, tLst, tTup, tChain, tPar, tPar3, rI, rI0, rU, rEq, rNe, rIsi, rAppend, sp0, sp1, sp2, sp3, sp4, List.nil_append, List.append_nil, List.cons_append, List.cons.injEq, List.getElem?_cons_zero, List.getElem?_cons_succ, List.set_cons_zero, List.set_cons_succ, Option.some.injEq, V.int.injEq, V.str.injEq, V.bl.injEq, V.ref.injEq, V.ty.injEq, exists_eq_left', exists_eq_left, exists_eq_right, exists_and_left, exists_and_right, and_true, true_and, and_assoc, exists_const, exists_eq, reduceCtorEq, false_and, and_false, or_false, false_or]
  exact ⟨c_DurableStore, dx, _, ea, T.cl_DurableStore, T.n_DurableStore_base, _, rfl, b, rfl, ⟨_, _, eb⟩, dxb, m, t, eb, et, q⟩
theorem sc_Store_version : FnScope ["self"] ["self"] (defScope s_Store_version) := ⟨rfl, rfl, rfl, by decide +kernel, rfl, by decide +kernel, by decide +kernel⟩
theorem ok_Store_version {P : Program} {w : World} {K : PySem.W.Frag} {mg : PySem.Str → Option Value} {base : Heap} (T : Txt K mg)  : Fn P w K mg base 3 a_Store_version ["self"] (sp1 fun x H Q _ => ∃ (a dx b dxb t : Addr) (m : Int) (fs : List (PySem.Str × V)), x = .ref a ∧ H a = some (.ins c_DurableStore dx ((("base" : PySem.Str), V.ref b) :: fs)) ∧ H b = some (.ins c_Base dxb (bsF m t)) ∧ H t = some (.dK []) ∧ Q (.int 0) H) := by
  have SC := sc_Store_version
  refine Fn.of1 T.F_Store_version SC (fun fd F => F.bindsN fun _ _ _ _ _ _ us hl => match us, hl with | [_], _ => rfl) (fun cdv A outer s H v0 Q E hr h => ?_)
  refine ⟨_, PSs.nox (pss_one (ps_ret (pprop (fldK K (pv 0)) T.cl_Base T.q_Base_version (ok_Base_version T) hr passL))), ?_⟩
  rw [show L2.start ["self"] [v0] = [some v0] from rfl]
  try dsimp only [cxOf, Cx.nox]
  obtain ⟨a, dx, b, dxb, t, m, fs, rfl, ea, eb, et, q⟩ := h
  simp only [tRet, tRetN, tNext, tSeq, tDrop, tAsg, gName, tIfS, tAndV, tOrV, tNotV, tAnd, tOr, tNot, tB, tTest, tIf, tCB, tCons, tVar, tC, tNil, tOp, tUn, tCall, tCallS, tMeth, tMake, tProp, tFld, sFld, sFldAug, tLst, tTup, tChain, tPar, tPar3, rI, rI0, rU, rEq, rNe, rIsi, rAppend, sp0, sp1, sp2, sp3, sp4, List.nil_append, List.append_nil, List.cons_append, List.cons.injEq, List.getElem?_cons_zero, List.getElem?_cons_succ, List.set_cons_zero, List.set_cons_succ, Option.some.injEq, V.int.injEq, V.str.injEq, V.bl.injEq, V.ref.injEq, V.ty.injEq, exists_eq_left', exists_eq_left, exists_eq_right, exists_and_left, exists_and_right, and_true, true_and, and_assoc, exists_const, exists_eq, reduceCtorEq, false_and, and_false, or_false, false_or]
  exact ⟨c_DurableStore, dx, _, ea, T.cl_DurableStore, T.n_DurableStore_base, _, rfl, b, rfl, ⟨_, _, eb⟩, dxb, m, t, eb, et, q⟩
theorem sc_Store_tables : FnScope ["self"] ["self"] (defScope s_Store_tables) := ⟨rfl, rfl, rfl, by decide +kernel, rfl, by decide +kernel, by decide +kernel⟩
theorem ok_Store_tables {P : Program} {w : World} {K : PySem.W.Frag} {mg : PySem.Str → Option Value} {base : Heap} (T : Txt K mg)  : Fn P w K mg base 3 a_Store_tables ["self"] (sp1 fun x H Q _ => ∃ (a dx b dxb t : Addr) (m : Int) (fs : List (PySem.Str × V)), x = .ref a ∧ H a = some (.ins c_DurableStore dx ((("base" : PySem.Str), V.ref b) :: fs)) ∧ H b = some (.ins c_Base dxb (bsF m t)) ∧ H t = some (.dK []) ∧ ∀ l, H l = none → Q (.ref l) (upd H l (.lst []))) := by
  have SC := sc_Store_tables
  refine Fn.of1 T.F_Store_tables SC (fun fd F => F.bindsN fun _ _ _ _ _ _ us hl => match us, hl with | [_], _ => rfl) (fun cdv A outer s H v0 Q E hr h => ?_)
  refine ⟨_, PSs.nox (pss_one (ps_ret (pm0 (fldK K (pv 0)) T.cl_Base T.m_Base_tables (ok_Base_tables T) hr passL))), ?_⟩
  rw [show L2.start ["self"] [v0] = [some v0] from rfl]
  try dsimp only [cxOf, Cx.nox]
  obtain ⟨a, dx, b, dxb, t, m, fs, rfl, ea, eb, et, q⟩ := h
  simp only [tRet, tRetN, tNext, tSeq, tDrop, tAsg, gName, tIfS, tAndV, tOrV, tNotV, tAnd, tOr, tNot, tB, tTest, tIf, tCB, tCons, tVar, tC, tNil, tOp, tUn, tCall, tCallS, tMeth, tMake, tProp, tFld, sFld, sFldAug, tLst, tTup, tChain, tPar, tPar3, rI, rI0, rU, rEq, rNe, rIsi, rAppend, sp0, sp1, sp2, sp3, sp4, List.nil_append, List.append_nil, List.cons_append, List.cons.injEq, List.getElem?_cons_zero, List.getElem?_cons_succ, List.set_cons_zero, List.set_cons_succ, Option.some.injEq, V.int.injEq, V.str.injEq, V.bl.injEq, V.ref.injEq, V.ty.injEq, exists_eq_left', exists_eq_left, exists_eq_right, exists_and_left, exists_and_right, and_true, true_and, and_assoc, exists_const, exists_eq, reduceCtorEq, false_and, and_false, or_false, false_or]
  exact ⟨c_DurableStore, dx, _, ea, T.cl_DurableStore, T.n_DurableStore_base, _, rfl, b, rfl, dxb, _, eb, rfl, b, rfl, dxb, m, t, eb, et, q⟩
end Gd
/-! ### enumerate(text, start=k) -/
namespace Gd
open PySem PySem.Spec PyProof.Rows L2
section
variable {M : Model} {A : Around} {E : Value → Shared → Prop} {s : Shared} {env : Env}
theorem callWith_typeKwB {pos : Pos} {T : String} {args : List (Bool × Sem Value)} {keywords : List (Option Str × Sem Value)} {Q : Value → Shared → Prop}
    (hplain : args.any (·.1) = false) (hkw : keywords.any (·.1.isNone) = false)
    (h : wpAny M A (evalArgs (.type T) true args keywords) (fun a s₁ => wpAny M A (call (.type T) ([] ++ a.pos) a.kw) Q E s₁) E s) :
    wpAny M A (callWith pos (.type T) [] args keywords) Q E s := by
  unfold callWith
  refine wpAny_bind (wpAny_holding (wpAny_mono h (fun a s₁ h₁ => wpAny_bind (wpAny_standAt ?_)) fun _ _ x => x))
  simp only [hplain, hkw, Bool.or_false]
  refine wpAny_bind (wpAny_pure ?_)
  exact wpAny_bind (wpAny_mono h₁ (fun r s₂ hr => wpAny_bind (wpAny_holding (wpAny_point (wpAny_pure hr)))) fun _ _ x => x)
theorem callWith_typeKw {pos : Pos} {T : String} {e : Expr} {rest : List Expr} {kws : List Keyword} {Q : Value → Shared → Prop}
    (h : wpAny M A (spliced (backTo pos (starEach (e :: rest) env))) (fun vs s₁ => wpAny M A (evalAll ((backToKw pos (keywordEach kws env)).map (·.2)))
      (fun kvs s₂ => wpAny M A (call (.type T) vs (((backToKw pos (keywordEach kws env)).filterMap (·.1)).zip kvs)) Q E s₂) E s₁) E s)
    (he : starEach (e :: rest) env = (false, eval e env) :: starEach rest env)
    (hplain : (backTo pos (starEach rest env)).any (·.1) = false)
    (hall : (backToKw pos (keywordEach kws env)).all (·.1.isSome) = true)
    (hkw : (backToKw pos (keywordEach kws env)).any (·.1.isNone) = false) :
    wpAny M A (callWith pos (.type T) [] (backTo pos (starEach (e :: rest) env)) (backToKw pos (keywordEach kws env))) Q E s := by
  rw [he] at h ⊢
  exact callWith_typeKwB (by show (false || (backTo pos (starEach rest env)).any (·.1)) = false; rw [hplain]; rfl) hkw (evalArgs_kwB hall h)
end
/-- the signs of x from the count k0, each in a new pair -/
def Ites (x : Str) (k0 : Int) : It :=
  ⟨fun i _ => i < x.cps.size, fun i H v H' => ∃ T c, v = .ref T ∧ H T = none ∧ x.cps[i]? = some c ∧ H' = upd H T (.tup [.int (k0 + (i : Int)), .str ⟨#[c]⟩]), fun i _ => x.cps.size ≤ i⟩
theorem turn_enumStr {P : Program} {w : World} {K : PySem.W.Frag} {elts : List Expr} {kk : Nat} {tpos : Pos} (k0 : Int) (x : Str) (t : Tok) (e it : Addr) (hne : e ≠ it) :
    Turn P w K (.Tuple elts kk tpos) (Ites x k0) [e, it] e (fun i h => i ≤ x.cps.size ∧ (∃ old, IsEnum h e it (k0 + (i : Int)) old) ∧ h.IsStrIter it (strIterType x) x t i) where
  mem := by simp
  obj := fun i h st b hb => by
    obtain ⟨_, ⟨old, he⟩, ⟨o, ho, hc, hd⟩⟩ := st
    have e' : b = e ∨ b = it := by simpa using hb
    rcases e' with z | z
    · rw [z]; exact ⟨_, he, fun v q => nomatch q⟩
    · rw [z]; exact ⟨o, ho, fun v q => by rw [hd] at q; cases q⟩
  keep := fun i h h' st k => by
    obtain ⟨hi, ⟨old, he⟩, ⟨o, ho, r⟩⟩ := st
    exact ⟨hi, ⟨old, k e (by simp) _ he⟩, ⟨o, k it (by simp) o ho, r⟩⟩
  item := by
    intro X hP hw hK hc i pins s σ H E I hf st hg
    subst hP hw hK
    have W := WalksT.enumFrom (prog := X.prog) (w := X.w) (A := X.A) k0 (Draws.text (A := X.A.in1) (I.ok.hd hc) it x t) e hne (by simpa using hne) (by simp)
    have hel : e < s.heap.objs.size := by obtain ⟨_, ⟨old, he⟩, _⟩ := st; exact Heap.lt_size he
    have hil : it < s.heap.objs.size := by obtain ⟨_, _, ⟨o, ho, _⟩⟩ := st; exact Heap.lt_size ho
    refine W.item i s _ _ hg st.2 fun T vals h' tk hv hT hTup hm kk1 => ?_
    obtain ⟨tt, y, ⟨c, u, hcx, rfl⟩, rfl⟩ := hv
    have hTn := W.apart i T _ hm
    refine ⟨_, rfl, W.go elts kk tpos i T _ _ _ hm fun h'' st' kk2 => ?_⟩
    have new : ObjOk X.prog X.w (upd H T (.tup [.int (k0 + (i : Int)), .str ⟨#[c]⟩])) h'' T (.tup [.int (k0 + (i : Int)), .str ⟨#[c]⟩]) :=
      ⟨by show 2 ≤ sizeLine; decide, [.int (k0 + (i : Int)) tt, .str ⟨#[c]⟩ u], .cons ⟨_, rfl⟩ (.cons ⟨_, rfl⟩ .nil), hTup.at fun o q => kk2 T o hTn q⟩
    have I1 : Inv X pins σ (upd H T (.tup [.int (k0 + (i : Int)), .str ⟨#[c]⟩])) { s with heap := h'', toks := tk } :=
      I.turnedNew (ch := [e, it]) (fun b ob hb q => kk2 b ob hb (kk1 b ob hb q)) hf hT new
    refine ⟨.ref T, _, I1, rfl, ⟨T, c, rfl, I.hok.fresh hT, hcx, rfl⟩, ⟨hg, ?_, st'.2⟩, fun b hb => ?_⟩
    · obtain ⟨old, he⟩ := st'.1
      exact ⟨old, he⟩
    · have hb' : b < s.heap.objs.size := by
        have e' : b = e ∨ b = it := by simpa using hb
        rcases e' with z | z
        · rw [z]; exact hel
        · rw [z]; exact hil
      rw [upd_ne (Nat.ne_of_lt (Nat.lt_of_lt_of_le hb' hT))]
      exact (hf b hb).1
  done := by
    intro X hP hw hK hc i pins s σ H E I hf st hg
    subst hP hw hK
    have W := WalksT.enumFrom (prog := X.prog) (w := X.w) (A := X.A) k0 (Draws.text (A := X.A.in1) (I.ok.hd hc) it x t) e hne (by simpa using hne) (by simp)
    have hi : i = x.cps.size := Nat.le_antisymm st.1 hg
    subst hi
    exact W.done s _ _ st.2 fun h' tk kk1 => ⟨rfl, I.turnedL (ch := [e, it]) kk1 hf⟩
  self := fun A i s Q E st h => let ⟨_, ⟨_, he⟩, _⟩ := st; wpAny_pyIter_enum he h
def iEnumStr (ta : TA) (k0 : Int) : TI := fun σ H R => ta σ H fun vs H1 => ∃ x, vs = [.str x] ∧ R (Ites x k0) H1
theorem pi_enumStr {X : Cx} {e ke : Expr} {ta : TA} {p pos tpos kpos : Pos} {elts : List Expr} {kk : Nat} {k0 : Int} (hg : Gl X "enumerate") (hm : X.mg "enumerate" = none) (ha : PA X [e] ta) (hk : PE X ke (tC (.int k0))) (h0 : -(2 ^ 63) ≤ k0) (h1 : k0 < 2 ^ 63)
    (hs : starEach [e] X.env = [(false, eval e X.env)] := by rfl) (hall : (backToKw pos (keywordEach [⟨some "start", ke, kpos⟩] X.env)).all (·.1.isSome) = true := by rfl) (hkw : (backToKw pos (keywordEach [⟨some "start", ke, kpos⟩] X.env)).any (·.1.isNone) = false := by rfl) :
    PI X (.Tuple elts kk tpos) (.Call (.Name "enumerate" p) [e] [⟨some "start", ke, kpos⟩] pos) (iEnumStr ta k0) := by
  refine ⟨fun pins s σ H R I h => ?_⟩
  refine wpAny_Call_Name_kw (ld_blt I hg hm boot_enumerate (callWith_typeKw (thn (ha.run pos pins s σ H _ I h) fun us s1 ⟨vs, H1, I1, r1, q1⟩ => ?_) hs rfl hall hkw))
  obtain ⟨x, rfl, q⟩ := q1
  refine thn ((pk_cons (nm := some "start") (kpos := kpos) hk pk_nil).run pos pins s1 σ H1 (fun zs H2 => zs = [.int k0] ∧ H2 = H1) I1 ⟨rfl, rfl⟩) fun ws s2 ⟨zs, H2, I2, r2, ez, eH⟩ => ?_
  subst ez eH
  cases r1 with
  | cons r rr =>
    cases rr
    obtain ⟨t, rfl⟩ := r
    cases r2 with
    | cons r rr =>
      cases rr
      obtain ⟨t2, rfl⟩ := r
      refine enum_begins_start (begins_text x t) trivial h0 h1 fun h' he hit hsz hkp => wpAny_pyIter_enum he ?_
      have I3 : Inv X pins σ H2 { s2 with heap := h' } := I2.kept (t' := s2.toks) hkp
      refine ⟨s2.heap.objs.size + 1, [s2.heap.objs.size + 1, s2.heap.objs.size], _, _, H2, rfl, I3, turn_enumStr k0 x t (s2.heap.objs.size + 1) s2.heap.objs.size (Nat.succ_ne_self _), ⟨Nat.zero_le _, ⟨.none, by show IsEnum _ _ _ (k0 + ((0 : Nat) : Int)) _; rw [show k0 + ((0 : Nat) : Int) = k0 from by omega]; exact he⟩, ⟨_, hit, rfl, rfl⟩⟩, fun b hb => ?_, q⟩
      have e' : b = s2.heap.objs.size + 1 ∨ b = s2.heap.objs.size := by simpa using hb
      have hle : s2.heap.objs.size ≤ b := by
        rcases e' with z | z
        · rw [z]; exact Nat.le_add_right _ _
        · rw [z]; exact Nat.le_refl _
      exact I2.fpOk hle (I2.hok.fresh hle)
end Gd
/-! ### comprehensions over other things -/
namespace Gd
open PySem PySem.Spec PyProof.Rows L2
section
variable {J : It} {n : Nat} {g : TG} {te : TE} {vs : List Nat} {σ : L2.St} {H1 : Hp} {Q : VK}
/-- a comprehension over n things that J yields -/
theorem lc_gen {D : Addr} {Qd : Hp → Prop} (Pv : Nat → Hp → Prop) (h0 : Pv 0 (upd H1 D (.lst []))) (hgo : ∀ i H, i < n → Pv i H → J.go i H) (hst : ∀ H, Pv n H → J.stop n H)
    (hs : ∀ i H x H', i < n → Pv i H → J.yld i H x H' → g x (wipe σ vs) H' fun σ2 H2 => wipe σ2 vs = wipe σ vs ∧ te σ2 H2 fun y H4 => ∃ acc, H4 D = some (.lst acc) ∧ acc.length < sizeLine ∧ Pv (i + 1) (upd H4 D (.lst (acc ++ [y]))))
    (hd : ∀ H, Pv n H → Qd H) : ∃ W : Nat → Nat → Hp → Prop, (∃ m, W 0 m (upd H1 D (.lst []))) ∧ ∀ i m H, W i m H →
      (J.stop i H ∧ Qd H) ∨ (J.go i H ∧ ∃ Nx : Hp → Prop, (∀ H', Nx H' → ∃ m', m' < m ∧ W (i + 1) m' H') ∧ ∀ x H', J.yld i H x H' → g x (wipe σ vs) H' fun σ2 H2 => wipe σ2 vs = wipe σ vs ∧ tYes σ2 H2 fun b H3 =>
        if b = true then te σ2 H3 fun y H4 => ∃ acc, H4 D = some (.lst acc) ∧ acc.length < sizeLine ∧ Nx (upd H4 D (.lst (acc ++ [y]))) else Nx H3) := by
  refine ⟨fun i m H => m = n - i ∧ i ≤ n ∧ Pv i H, ⟨n, by simp, Nat.zero_le _, h0⟩, ?_⟩
  rintro i m H ⟨rfl, hi, p⟩
  by_cases hlt : i < n
  · refine .inr ⟨hgo i H hlt p, Pv (i + 1), fun H' p' => ⟨n - (i + 1), by omega, rfl, hlt, p'⟩, fun x H' y => ?_⟩
    have q := hs i H x H' hlt p y
    simpa only [tYes, if_true] using q
  · obtain rfl : i = n := by omega
    exact .inl ⟨hst H p, hd H p⟩
theorem tLcC {ta : TA} {lo hi c : Int} (Pv : Addr → Nat → Hp → Prop) (hta : ∀ R : List V → Hp → Prop, R [.int lo, .int hi, .int c] H1 → ta σ H1 R) (hr : RgC lo hi c n) (h0 : ∀ D, H1 D = none → Pv D 0 (upd H1 D (.lst [])))
    (hs : ∀ D i H', i < n → Pv D i H' → g (.int (lo + (i : Nat) * c)) (wipe σ vs) H' fun σ2 H2 => wipe σ2 vs = wipe σ vs ∧ te σ2 H2 fun y H4 => ∃ acc, H4 D = some (.lst acc) ∧ acc.length < sizeLine ∧ Pv D (i + 1) (upd H4 D (.lst (acc ++ [y]))))
    (hd : ∀ D H', H1 D = none → Pv D n H' → Q (.ref D) H') : tLc (iRng3 ta) g tYes te vs σ H1 Q := by
  refine hta _ ⟨lo, hi, c, n, rfl, hr, fun D hD => ?_⟩
  refine lc_gen (J := Itc lo c n) (Pv D) (h0 D hD) (fun i H hi _ => hi) (fun H _ => Nat.le_refl n) (fun i H x H' hi p y => ?_) fun H' p => hd D H' hD p
  obtain ⟨rfl, rfl⟩ := y
  exact hs D i _ hi p
theorem tLcES {ta : TA} {x : Str} {k0 : Int} (Pv : Addr → Nat → Hp → Prop) (hta : ∀ R : List V → Hp → Prop, R [.str x] H1 → ta σ H1 R) (h0 : ∀ D, H1 D = none → Pv D 0 (upd H1 D (.lst [])))
    (hs : ∀ D i c H' T, H1 D = none → x.cps[i]? = some c → Pv D i H' → H' T = none → g (.ref T) (wipe σ vs) (upd H' T (.tup [.int (k0 + (i : Int)), .str ⟨#[c]⟩])) fun σ2 H2 => wipe σ2 vs = wipe σ vs ∧ te σ2 H2 fun y H4 => ∃ acc, H4 D = some (.lst acc) ∧ acc.length < sizeLine ∧ Pv D (i + 1) (upd H4 D (.lst (acc ++ [y]))))
    (hd : ∀ D H', H1 D = none → Pv D x.cps.size H' → Q (.ref D) H') : tLc (iEnumStr ta k0) g tYes te vs σ H1 Q := by
  refine hta _ ⟨x, rfl, fun D hD => ?_⟩
  refine lc_gen (J := Ites x k0) (n := x.cps.size) (Pv D) (h0 D hD) (fun i H hi _ => hi) (fun H _ => Nat.le_refl _) (fun i H v H' hi p y => ?_) fun H' p => hd D H' hD p
  obtain ⟨T, c, rfl, hT, hc, rfl⟩ := y
  exact hs D i c H T hD hc p hT
theorem tLcS {ts : TE} {x : Str} (Pv : Addr → Nat → Hp → Prop) (hts : ∀ R : VK, R (.str x) H1 → ts σ H1 R) (h0 : ∀ D, H1 D = none → Pv D 0 (upd H1 D (.lst [])))
    (hs : ∀ D i c H', H1 D = none → x.cps[i]? = some c → Pv D i H' → g (.str ⟨#[c]⟩) (wipe σ vs) H' fun σ2 H2 => wipe σ2 vs = wipe σ vs ∧ te σ2 H2 fun y H4 => ∃ acc, H4 D = some (.lst acc) ∧ acc.length < sizeLine ∧ Pv D (i + 1) (upd H4 D (.lst (acc ++ [y]))))
    (hd : ∀ D H', H1 D = none → Pv D x.cps.size H' → Q (.ref D) H') : tLc (iStr ts) g tYes te vs σ H1 Q := by
  refine hts _ ⟨x, rfl, fun D hD => ?_⟩
  refine lc_gen (J := Its x) (n := x.cps.size) (Pv D) (h0 D hD) (fun i H hi _ => hi) (fun H _ => Nat.le_refl _) (fun i H v H' hi p y => ?_) fun H' p => hd D H' hD p
  obtain ⟨rfl, c, hc, rfl⟩ := y
  exact hs D i c _ hD hc p
end
section
variable {X : Cx} {T : String} {name : Str} {id : String} {r : V → List V → Hp → VK → Prop} {o e : Expr} {es : List Expr} {to : TE} {t : TA} {apos cpos : Pos}
/-- pe_bm where K is given -/
theorem bmK (K : PySem.W.Frag) (pa : PlainAttrs T) (slot : Slot T name id) (hty : typeOf (.builtin id) = pure (.type "method_descriptor")) (hm : MtR X id r) (ho : PE X o to) (ha : PA X (e :: es) t) (hK : X.K = K := by rfl)
    (h1 : attributeBase o name X.env (eval o X.env) = eval o X.env := by rfl)
    (h2 : ((backTo cpos (starEach (e :: es) X.env)).all (fun x => !x.1) && (backToKw cpos (keywordEach [] X.env)).all (fun x => x.1.isSome) && decide ((e :: es).length + ([] : List Keyword).length + (if ([] : List Keyword).isEmpty then 0 else 1) < 30)) = true := by rfl)
    (h3 : (apos.endLine == cpos.line) = true := by rfl) (h4 : starEach (e :: es) X.env = (false, eval e X.env) :: starEach es X.env := by rfl) (h5 : (backTo cpos (starEach es X.env)).any (·.1) = false := by rfl) :
    PE X (.Call (.Attribute o name apos) (e :: es) [] cpos) (tBM K T r to t) := hK ▸ pe_bm pa slot hty hm ho ha h1 h2 h3 h4 h5
end
end Gd
/-! ### comprehensions that only read -/
namespace Gd
open PySem PySem.Spec PyProof.Rows L2
section
variable {K : PySem.W.Frag} {g : TG} {te tl : TE} {vs : List Nat} {σ : L2.St} {H1 : Hp} {Q : VK} {a : Addr} {ys : List V} {f : V → V}
theorem take_map_succ {i : Nat} {x : V} (hx : ys[i]? = some x) : (ys.take (i + 1)).map f = (ys.take i).map f ++ [f x] := by
  rw [List.take_succ, hx, List.map_append]; rfl
theorem su_at {D : Addr} {H H' : Hp} {o : HO} (g : Su H H') (h : H D = none) : Su H (upd H' D o) := fun b u e => by
  rw [upd_ne (ne_of_none e h)]; exact g b u e
/-- the reading of [e for x in l], e reading only -/
theorem lcP {D : Addr} (hD : H1 D = none) (hS : SqL K H1 a ys) (hz : ys.length < sizeLine) (hs : ∀ (i : Nat) (x : V) (H' : Hp) (R : VK), Su H1 H' → ys[i]? = some x → R (f x) H' → g x (wipe σ vs) H' fun σ2 H2 => wipe σ2 vs = wipe σ vs ∧ te σ2 H2 R)
    (hk : ∀ H', Su H1 H' → SqL K H' a ys) (hd : ∀ H', Su H1 H' → H' D = some (.lst (ys.map f)) → Q (.ref D) H') :
    ∃ W : Nat → Nat → Hp → Prop, (∃ m, W 0 m (upd H1 D (.lst []))) ∧ ∀ i m H, W i m H →
      ((Itl K a).stop i H ∧ Q (.ref D) H) ∨ ((Itl K a).go i H ∧ ∃ Nx : Hp → Prop, (∀ H', Nx H' → ∃ m', m' < m ∧ W (i + 1) m' H') ∧ ∀ x H', (Itl K a).yld i H x H' → g x (wipe σ vs) H' fun σ2 H2 => wipe σ2 vs = wipe σ vs ∧ tYes σ2 H2 fun b H3 =>
        if b = true then te σ2 H3 fun y H4 => ∃ acc, H4 D = some (.lst acc) ∧ acc.length < sizeLine ∧ Nx (upd H4 D (.lst (acc ++ [y]))) else Nx H3) := by
  refine lc_list (xs := ys) (fun i H => Su H1 H ∧ H D = some (.lst ((ys.take i).map f))) ⟨.new hD, upd_same⟩ (fun i H _ p => hk H p.1) (fun i x H hx p => ?_) fun H p => hd H p.1 (by rw [p.2, List.take_length])
  have q := hs i x H (fun y H4 => ∃ acc, H4 D = some (.lst acc) ∧ acc.length < sizeLine ∧ (Su H1 (upd H4 D (.lst (acc ++ [y]))) ∧ upd H4 D (.lst (acc ++ [y])) D = some (.lst ((ys.take (i + 1)).map f)))) p.1 hx
    ⟨_, p.2, by rw [List.length_map, List.length_take]; exact Nat.lt_of_le_of_lt (Nat.min_le_right _ _) hz, su_at p.1 hD, by rw [upd_same, take_map_succ hx]⟩
  simpa only [tYes, if_true] using q
theorem sqL_su {H H' : Hp} (g : Su H H') (h : SqL K H a ys) : SqL K H' a ys := by
  rcases h with h | h
  · rcases h with h | ⟨o, h⟩
    · exact .inl (.inl (g _ _ h))
    · exact .inl (.inr ⟨o, g _ _ h⟩)
  · exact .inr h
/-- .. over a list that stands -/
theorem tLcP (htl : ∀ R : VK, R (.ref a) H1 → tl σ H1 R) (hS : SqL K H1 a ys) (hz : ys.length < sizeLine)
    (hs : ∀ (i : Nat) (x : V) (H' : Hp) (R : VK), Su H1 H' → ys[i]? = some x → R (f x) H' → g x (wipe σ vs) H' fun σ2 H2 => wipe σ2 vs = wipe σ vs ∧ te σ2 H2 R)
    (hd : ∀ D H', H1 D = none → Su H1 H' → H' D = some (.lst (ys.map f)) → Q (.ref D) H') : tLc (iList K tl) g tYes te vs σ H1 Q :=
  htl _ ⟨a, rfl, ⟨ys, hS⟩, fun D hD => lcP hD hS hz hs (fun H' g => sqL_su g hS) fun H' g e => hd D H' hD g e⟩
/-- .. over a list that is made for it (a slice) -/
theorem tLcPN (htl : ∀ R : VK, (∀ p, H1 p = none → R (.ref p) (upd H1 p (.lst ys))) → tl σ H1 R) (hz : ys.length < sizeLine)
    (hs : ∀ (i : Nat) (x : V) (H' : Hp) (R : VK), Su H1 H' → ys[i]? = some x → R (f x) H' → g x (wipe σ vs) H' fun σ2 H2 => wipe σ2 vs = wipe σ vs ∧ te σ2 H2 R)
    (hd : ∀ D H', H1 D = none → Su H1 H' → H' D = some (.lst (ys.map f)) → Q (.ref D) H') : tLc (iList K tl) g tYes te vs σ H1 Q := by
  refine htl _ fun p hp => ⟨p, rfl, ⟨ys, .inl (.inl upd_same)⟩, fun D hD => ?_⟩
  have g0 : Su H1 (upd H1 p (.lst ys)) := .new hp
  exact lcP hD (.inl (.inl upd_same)) hz (fun i x H' R g hx r => hs i x H' R (g0.trans g) hx r) (fun H' g => sqL_su g (.inl (.inl upd_same))) fun H' g e => hd D H' (g0.none hD) (g0.trans g) e
end
end Gd
/-! ### k91: the texts of records -/
namespace Gd
open PySem PySem.Spec PyProof.Rows L2
def sgn (b : PySem.Str) (n : Nat) : List Int := (List.range n).map fun i => ((b.cps.getD i 0 : Nat) : Int) * (1 + (i : Int))
def ckS (b : PySem.Str) : PySem.Str := Txt.zfill (toString ((sgn b b.cps.size).sum.fmod 9973)) 4
def recS (b : PySem.Str) : PySem.Str := b ++ (" " : PySem.Str) ++ ckS b
def pgS (r : PySem.Str) : PySem.Str := ("." : PySem.Str) ++ Txt.ljust (cutS r (some 0) (some 31)) 31
def bodyS (m : Int) : PySem.Str := Str.empty ++ ("bits" : PySem.Str) ++ (" " : PySem.Str) ++ (toString m : PySem.Str)
abbrev nS (m : Int) : PySem.Str := (toString m : PySem.Str)
/-- what is so of a store's first record -/
def okM (m : Int) : Bool :=
  !Txt.startswith (nS m) "-" && decide (1 ≤ (nS m).length) && decide ((nS m).length ≤ 10) && (nS m).cps.toList.all (fun c => decide (c ∈ ("0123456789" : PySem.Str).cps.toList)) && decide (intText? (nS m) = some m) &&
  Txt.startswith (bodyS m) (("bits" : PySem.Str) ++ (" " : PySem.Str)) && decide (cutS (bodyS m) (some 5) none = nS m) && decide ((bodyS m).length ≤ 20) && decide (1 ≤ (recS (bodyS m)).length) && decide ((recS (bodyS m)).length ≤ 31) &&
  decide ((pgS (recS (bodyS m))).length = 32) && decide ((pgS (recS (bodyS m))).cps.toList[0]? = some 46) && decide (Txt.rstripChars (Txt.join "" [cutS (pgS (recS (bodyS m))) (some 1) none]) " " = recS (bodyS m)) && decide (cutS (recS (bodyS m)) none (some (-5)) = bodyS m) &&
  PyData.strOk (pgS (recS (bodyS m))) && decide ((ckS (bodyS m)).length = 4) && decide (("bits " : PySem.Str) ++ nS m = bodyS m) && decide ((Txt.join "" [cutS (pgS (recS (bodyS m))) (some 1) none]).length ≤ 40)
theorem okM_all {m : Int} (h1 : 1 ≤ m) (h2 : m ≤ 10) : okM m = true := by
  have : m ∈ ([1, 2, 3, 4, 5, 6, 7, 8, 9, 10] : List Int) := by simp; omega
  exact List.all_eq_true.mp (show ([1, 2, 3, 4, 5, 6, 7, 8, 9, 10] : List Int).all okM = true by decide +kernel) m this
theorem okM_p {m : Int} (h1 : 1 ≤ m) (h2 : m ≤ 10) : Txt.startswith (nS m) "-" = false ∧ 1 ≤ (nS m).length ∧ (nS m).length ≤ 10 ∧ (∀ c ∈ (nS m).cps.toList, c ∈ ("0123456789" : PySem.Str).cps.toList) ∧ intText? (nS m) = some m ∧
    Txt.startswith (bodyS m) (("bits" : PySem.Str) ++ (" " : PySem.Str)) = true ∧ cutS (bodyS m) (some 5) none = nS m ∧ (bodyS m).length ≤ 20 ∧ 1 ≤ (recS (bodyS m)).length ∧ (recS (bodyS m)).length ≤ 31 ∧
    (pgS (recS (bodyS m))).length = 32 ∧ (pgS (recS (bodyS m))).cps.toList[0]? = some 46 ∧ Txt.rstripChars (Txt.join "" [cutS (pgS (recS (bodyS m))) (some 1) none]) " " = recS (bodyS m) ∧ cutS (recS (bodyS m)) none (some (-5)) = bodyS m ∧
    PyData.strOk (pgS (recS (bodyS m))) = true ∧ (ckS (bodyS m)).length = 4 ∧ ("bits " : PySem.Str) ++ nS m = bodyS m ∧ (Txt.join "" [cutS (pgS (recS (bodyS m))) (some 1) none]).length ≤ 40 := by
  have h := okM_all h1 h2
  simp only [okM, Bool.and_eq_true, decide_eq_true_eq, Bool.not_eq_true', and_assoc, List.all_eq_true] at h
  exact h
theorem sgn_succ {b : PySem.Str} {i c : Nat} (hc : b.cps[i]? = some c) : sgn b (i + 1) = sgn b i ++ [(c : Int) * (1 + (i : Int))] := by
  unfold sgn
  rw [List.range_succ, List.map_append, List.map_cons, List.map_nil, Array.getD_eq_getD_getElem?, hc]; rfl
theorem okM_len {m : Int} (h1 : 1 ≤ m) (h2 : m ≤ 10) : (bodyS m).length ≤ 20 := by
  obtain ⟨_, _, _, _, _, _, _, p8, _⟩ := okM_p h1 h2
  exact p8
theorem small_log {n : Nat} (h : n < 10000) : n.log2 < 1920 := by
  by_cases h0 : n = 0
  · subst h0; decide
  · refine (Nat.log2_lt h0).mpr (Nat.lt_of_lt_of_le (Nat.lt_of_lt_of_le h (show 10000 ≤ 2 ^ 14 by decide)) (Nat.pow_le_pow_right (by omega) (by omega)))
theorem sc_check_sum : FnScope ["body", "total", "position", "character"] ["body"] (defScope s_check_sum) := ⟨rfl, rfl, rfl, by decide +kernel, rfl, by decide +kernel, by decide +kernel⟩
theorem ok_check_sum {P : Program} {w : World} {K : PySem.W.Frag} {mg : PySem.Str → Option Value} {base : Heap} (T : Txt K mg)  : Fn P w K mg base 1 a_check_sum ["body"] (sp1 fun x H Q _ => ∃ b : PySem.Str, x = .str b ∧ b.length ≤ 1000 ∧ ∀ H1, Su H H1 → Q (.str (ckS b)) H1) := by
  have SC := sc_check_sum
  refine Fn.of1 T.F_check_sum SC (fun fd F => F.bindsN fun _ _ _ _ _ _ us hl => match us, hl with | [_], _ => rfl) (fun cdv A outer s H v0 Q E hr h => ?_)
  refine ⟨_, PSs.nox (pss_cons (ps_set (i := 1) SC.nd rfl (Or.inl rfl) (pe_callB (cr_sum rfl) rfl T.b_sum rfl (pa_cons (pe_lc (own := [("position", 2), ("character", 3)]) (g := gTup K 2 (gCons (gName 2) (gCons (gName 3) gNil))) (tt := tYes) rfl SC.nd (pi_enumStr rfl T.b_enumerate (pa_cons (pv 0) pa_nil) pe_int (by decide) (by decide)) (blkOk_by (own := [("position", 2), ("character", 3)]) (N := ["body", "total", "position", "character"]) (sc := defScope s_check_sum) (by decide +kernel)) (fun _ _ _ _ _ => pg_tup rfl (pgs_cons (pg_name (i := 2) SC.nd rfl (Or.inl rfl)) (pgs_cons (pg_name (i := 3) SC.nd rfl (Or.inl rfl)) pgs_nil))) (fun _ _ _ _ _ => pts_nil) (fun _ _ _ _ _ => (pe_op op_mul (pe_callB call_ord rfl T.b_ord rfl (pa_cons (pv 3) pa_nil)) (pv 2)))) pa_nil))) (pss_one (ps_ret (pe_bm PySem.F.plainAttrs_str PySem.F.slot_str_zfill PySem.F.type_str_zfill mt_zfill (pe_callTy call_str_int rfl T.b_str rfl (pa_cons (pe_op op_modN (pv 1) (pe_gint T.v_CHECK_MODULUS)) pa_nil)) (pa_cons (pe_gint T.v_CHECK_DIGITS) pa_nil))))), ?_⟩
  rw [show L2.start ["body", "total", "position", "character"] [v0] = [some v0, none, none, none] from rfl]
  try dsimp only [cxOf, Cx.nox]
  obtain ⟨b, rfl, hb, q⟩ := h
  simp only [tRet, tRetN, tNext, tSeq, tDrop, tAsg, gName, tIfS, tAndV, tOrV, tNotV, tAnd, tOr, tNot, tB, tTest, tIf, tCB, tCons, tVar, tC, tNil, tOp, tUn, tCall, tCallS, tMeth, tMake, tProp, tFld, sFld, sFldAug, tLst, tTup, tChain, tPar, tPar3, rI, rI0, rU, rEq, rNe, rIsi, rAppend, sp0, sp1, sp2, sp3, sp4, List.nil_append, List.append_nil, List.cons_append, List.cons.injEq, List.getElem?_cons_zero, List.getElem?_cons_succ, List.set_cons_zero, List.set_cons_succ, Option.some.injEq, V.int.injEq, V.str.injEq, V.bl.injEq, V.ref.injEq, V.ty.injEq, exists_eq_left', exists_eq_left, exists_eq_right, exists_and_left, exists_and_right, and_true, true_and, and_assoc, exists_const, exists_eq, reduceCtorEq, false_and, and_false, or_false, false_or, tBM]
  refine tLcES (x := b) (k0 := 1) (fun D i H' => H D = none ∧ Su H H' ∧ H' D = some (.lst ((sgn b i).map V.int))) (fun R r => ⟨_, rfl, r⟩) (fun D hD => ⟨hD, .new hD, upd_same⟩) (fun D i c H' T0 hD hc p hT => ?_) (fun D H' hD p => ?_)
  · obtain ⟨_, gD, eD⟩ := p
    have g2 : Su H' (upd H' T0 (.tup [.int (1 + (i : Int)), .str ⟨#[c]⟩])) := .new hT
    have eT : upd H' T0 (.tup [.int (1 + (i : Int)), .str ⟨#[c]⟩]) T0 = some (.tup [.int (1 + (i : Int)), .str ⟨#[c]⟩]) := upd_same
    generalize upd H' T0 (.tup [.int (1 + (i : Int)), .str ⟨#[c]⟩]) = H2 at g2 eT
    refine ⟨T0, _, rfl, .of eT, rfl, _, _, rfl, ?_⟩
    simp only [tRet, tRetN, tNext, tSeq, tDrop, tAsg, gName, tIfS, tAndV, tOrV, tNotV, tAnd, tOr, tNot, tB, tTest, tIf, tCB, tCons, tVar, tC, tNil, tOp, tUn, tCall, tCallS, tMeth, tMake, tProp, tFld, sFld, sFldAug, tLst, tTup, tChain, tPar, tPar3, rI, rI0, rU, rEq, rNe, rIsi, rAppend, sp0, sp1, sp2, sp3, sp4, List.nil_append, List.append_nil, List.cons_append, List.cons.injEq, List.getElem?_cons_zero, List.getElem?_cons_succ, List.set_cons_zero, List.set_cons_succ, Option.some.injEq, V.int.injEq, V.str.injEq, V.bl.injEq, V.ref.injEq, V.ty.injEq, exists_eq_left', exists_eq_left, exists_eq_right, exists_and_left, exists_and_right, and_true, true_and, and_assoc, exists_const, exists_eq, reduceCtorEq, false_and, and_false, or_false, false_or, tBM, gCons, gNil, wipe, List.map_cons, List.map_nil]
    have hi : i < b.cps.size := (Array.getElem?_eq_some_iff.mp hc).1
    have hb' : b.cps.size ≤ 1000 := hb
    refine ⟨rfl, .inr ⟨by omega, by omega⟩, _, g2 _ _ eD, by rw [List.length_map, sizeLine_eq]; unfold sgn; rw [List.length_map, List.length_range]; omega, hD, su_at (gD.trans g2) hD, ?_⟩
    rw [upd_same, sgn_succ hc, List.map_append]; rfl
  · refine ⟨D, _, rfl, sqL_of p.2.2, _, rfl, by decide, small_log ?_, rfl, rfl, q _ p.2.1⟩
    rw [Int.fmod_eq_emod_of_nonneg _ (by decide)]
    omega
theorem sc_record_text : FnScope ["body"] ["body"] (defScope s_record_text) := ⟨rfl, rfl, rfl, by decide +kernel, rfl, by decide +kernel, by decide +kernel⟩
theorem ok_record_text {P : Program} {w : World} {K : PySem.W.Frag} {mg : PySem.Str → Option Value} {base : Heap} (T : Txt K mg)  : Fn P w K mg base 2 a_record_text ["body"] (sp1 fun x H Q _ => ∃ b : PySem.Str, x = .str b ∧ b.length ≤ 1000 ∧ (ckS b).length ≤ 1000 ∧ ∀ H1, Su H H1 → Q (.str (recS b)) H1) := by
  have SC := sc_record_text
  refine Fn.of1 T.F_record_text SC (fun fd F => F.bindsN fun _ _ _ _ _ _ us hl => match us, hl with | [_], _ => rfl) (fun cdv A outer s H v0 Q E hr h => ?_)
  refine ⟨_, PSs.nox (pss_one (ps_ret (pe_op op_add_str (pe_op op_add_str (pv 0) pe_str) (pc (ok_check_sum T) hr T.g_check_sum passL (pa_cons (pv 0) pa_nil))))), ?_⟩
  rw [show L2.start ["body"] [v0] = [some v0] from rfl]
  try dsimp only [cxOf, Cx.nox]
  obtain ⟨b, rfl, hb, hk, q⟩ := h
  simp only [tRet, tRetN, tNext, tSeq, tDrop, tAsg, gName, tIfS, tAndV, tOrV, tNotV, tAnd, tOr, tNot, tB, tTest, tIf, tCB, tCons, tVar, tC, tNil, tOp, tUn, tCall, tCallS, tMeth, tMake, tProp, tFld, sFld, sFldAug, tLst, tTup, tChain, tPar, tPar3, rI, rI0, rU, rEq, rNe, rIsi, rAppend, sp0, sp1, sp2, sp3, sp4, List.nil_append, List.append_nil, List.cons_append, List.cons.injEq, List.getElem?_cons_zero, List.getElem?_cons_succ, List.set_cons_zero, List.set_cons_succ, Option.some.injEq, V.int.injEq, V.str.injEq, V.bl.injEq, V.ref.injEq, V.ty.injEq, exists_eq_left', exists_eq_left, exists_eq_right, exists_and_left, exists_and_right, and_true, true_and, and_assoc, exists_const, exists_eq, reduceCtorEq, false_and, and_false, or_false, false_or]
  have hl : ∀ x y : PySem.Str, (x ++ y).length = x.length + y.length := fun x y => Array.size_append
  have hs : (" " : PySem.Str).length = 1 := by decide +kernel
  refine ⟨by rw [hs, sizeLine_eq]; omega, by omega, fun H1 g => ⟨by rw [hl, hs, sizeLine_eq]; omega, q H1 g⟩⟩
theorem sc_pages_of : FnScope ["record", "parts", "at", "part"] ["record"] (defScope s_pages_of) := ⟨rfl, rfl, rfl, by decide +kernel, rfl, by decide +kernel, by decide +kernel⟩
theorem ok_pages_of {P : Program} {w : World} {K : PySem.W.Frag} {mg : PySem.Str → Option Value} {base : Heap} (T : Txt K mg)  : Fn P w K mg base 1 a_pages_of ["record"] (sp1 fun x H Q _ => ∃ r : PySem.Str, x = .str r ∧ 1 ≤ r.length ∧ r.length ≤ 31 ∧ ∀ H1 l, Su H H1 → H l = none → H1 l = some (strL [pgS r]) → Q (.ref l) H1) := by
  have SC := sc_pages_of
  refine Fn.of1 T.F_pages_of SC (fun fd F => F.bindsN fun _ _ _ _ _ _ us hl => match us, hl with | [_], _ => rfl) (fun cdv A outer s H v0 Q E hr h => ?_)
  refine ⟨_, PSs.nox (pss_cons (ps_setLc (i := 1) (own := [("at", 2)]) (g := gName 2) (tt := tYes) rfl SC.nd rfl rfl (sw_true rfl rfl rfl (by decide +kernel)) (pi_range3 rfl T.b_range (pa_cons pe_int (pa_cons (pe_callB (lenK K) rfl T.b_len rfl (pa_cons (pv 0) pa_nil)) (pa_cons (pe_gint T.v_PART_SIZE) pa_nil)))) (blkOk_by (own := [("at", 2)]) (N := ["record", "parts", "at", "part"]) (sc := defScope s_pages_of) (by decide +kernel)) (fun _ _ _ _ _ => pg_name (i := 2) SC.nd rfl (Or.inl rfl)) (fun _ _ _ _ _ => pts_nil) (fun _ _ _ _ _ => (bmK K PySem.F.plainAttrs_str PySem.F.slot_str_ljust PySem.F.type_str_ljust mt_ljust (pe_slice sl_str (pv 0) (po_some (pv 2)) (po_some (pe_op op_add (pv 2) (pe_gint T.v_PART_SIZE)))) (pa_cons (pe_gint T.v_PART_SIZE) pa_nil)))) (pss_one (ps_ret (pe_op op_cat (pe_lc (own := [("part", 3)]) (g := gName 3) (tt := tYes) rfl SC.nd (piL K (pe_slice sl_list (pv 1) po_none (po_some (pe_un un_neg pe_int)))) (blkOk_by (own := [("part", 3)]) (N := ["record", "parts", "at", "part"]) (sc := defScope s_pages_of) (by decide +kernel)) (fun _ _ _ _ _ => pg_name (i := 3) SC.nd rfl (Or.inl rfl)) (fun _ _ _ _ _ => pts_nil) (fun _ _ _ _ _ => (pe_op op_add_str (pe_gstr T.v_MORE) (pv 3)))) (pe_lc (own := [("part", 3)]) (g := gName 3) (tt := tYes) rfl SC.nd (piL K (pe_slice sl_list (pv 1) (po_some (pe_un un_neg pe_int)) po_none)) (blkOk_by (own := [("part", 3)]) (N := ["record", "parts", "at", "part"]) (sc := defScope s_pages_of) (by decide +kernel)) (fun _ _ _ _ _ => pg_name (i := 3) SC.nd rfl (Or.inl rfl)) (fun _ _ _ _ _ => pts_nil) (fun _ _ _ _ _ => (pe_op op_add_str (pe_gstr T.v_LAST) (pv 3)))))))), ?_⟩
  rw [show L2.start ["record", "parts", "at", "part"] [v0] = [some v0, none, none, none] from rfl]
  try dsimp only [cxOf, Cx.nox]
  obtain ⟨r, rfl, h1, h2, q⟩ := h
  simp only [tRet, tRetN, tNext, tSeq, tDrop, tAsg, gName, tIfS, tAndV, tOrV, tNotV, tAnd, tOr, tNot, tB, tTest, tIf, tCB, tCons, tVar, tC, tNil, tOp, tUn, tCall, tCallS, tMeth, tMake, tProp, tFld, sFld, sFldAug, tLst, tTup, tChain, tPar, tPar3, rI, rI0, rU, rEq, rNe, rIsi, rAppend, sp0, sp1, sp2, sp3, sp4, List.nil_append, List.append_nil, List.cons_append, List.cons.injEq, List.getElem?_cons_zero, List.getElem?_cons_succ, List.set_cons_zero, List.set_cons_succ, Option.some.injEq, V.int.injEq, V.str.injEq, V.bl.injEq, V.ref.injEq, V.ty.injEq, exists_eq_left', exists_eq_left, exists_eq_right, exists_and_left, exists_and_right, and_true, true_and, and_assoc, exists_const, exists_eq, reduceCtorEq, false_and, and_false, or_false, false_or, tBM, rLen]
  have hz : r.length ≤ sizeLine := by rw [sizeLine_eq]; omega
  have hd1 : ("." : PySem.Str).length = 1 := by decide +kernel
  have hj : (Txt.ljust (cutS r (some 0) (some 31)) 31).length ≤ 31 := by
    have := cutS_length r (some 0) (some 31)
    unfold Txt.ljust
    split
    · omega
    · rw [size_padded]; omega
  have hrg : RgC 0 (r.length : Nat) 31 1 := by
    refine ⟨by decide, by decide, ?_, ?_⟩
    · have hs : ∀ n : Nat, n < 32 → Builtin.Range.small 0 (n : Int) 31 = true := by decide +kernel
      exact hs _ (by omega)
    · rw [rangeSize_pos (by decide) (by omega)]; omega
  refine tLcC (lo := 0) (hi := (r.length : Nat)) (c := 31) (n := 1) (fun D i H' => H D = none ∧ Su H H' ∧ H' D = some (.lst ((List.replicate i (Txt.ljust (cutS r (some 0) (some 31)) 31)).map V.str))) (fun R q => ⟨_, rfl, _, r.length, rfl, ⟨hz, rfl⟩, q⟩) hrg (fun D hD => ⟨hD, .new hD, upd_same⟩) (fun D i H' hi p => ?_) (fun D H' hD p => ?_)
  · obtain rfl : i = 0 := by omega
    refine ⟨rfl, _, rfl, _, rfl, _, rfl, _, rfl, _, _, rfl, rfl, _, rfl, _, rfl, hz, rfl, _, rfl, _, rfl, rfl, _, p.2.2, by rw [sizeLine_eq]; show 0 < 16777216; omega, p.1, su_at p.2.1 p.1, ?_⟩
    rw [upd_same]; rfl
  · refine tLcPN (ys := []) (f := fun x => x) (fun R r => ⟨_, rfl, _, rfl, _, rfl, _, _, rfl, sqL_of p.2.2, r⟩) (by rw [sizeLine_eq]; decide) (fun i x H2 R g hx r => by cases hx) (fun D2 H2 hD2 g2 e2 => ?_)
    refine tLcPN (ys := [V.str (Txt.ljust (cutS r (some 0) (some 31)) 31)]) (f := fun _ => V.str (pgS r)) (fun R r => ⟨_, rfl, _, rfl, _, rfl, _, _, rfl, sqL_of (g2 _ _ p.2.2), r⟩) (by rw [sizeLine_eq]; show 1 < 16777216; omega) (fun i x H3 R g3 hx r3 => ?_) (fun D3 H3 hD3 g3 e3 => ?_)
    · obtain rfl : x = V.str (Txt.ljust (cutS r (some 0) (some 31)) 31) := by
        cases i with
        | zero => exact (Option.some.inj hx).symm
        | succ n => cases hx
      exact ⟨rfl, _, rfl, _, rfl, _, rfl, by rw [hd1, sizeLine_eq]; omega, r3⟩
    · have g := (p.2.1.trans g2).trans g3
      refine ⟨D2, D3, _, _, rfl, rfl, g3 _ _ e2, e3, by rw [sizeLine_eq]; show 1 ≤ 16777216; omega, fun l hl => q _ l (g.trans (.new hl)) (g.none hl) upd_same⟩
theorem sc_bits_body : FnScope ["bits"] ["bits"] (defScope s_bits_body) := ⟨rfl, rfl, rfl, by decide +kernel, rfl, by decide +kernel, by decide +kernel⟩
theorem ok_bits_body {P : Program} {w : World} {K : PySem.W.Frag} {mg : PySem.Str → Option Value} {base : Heap} (T : Txt K mg)  : Fn P w K mg base 1 a_bits_body ["bits"] (sp1 fun x H Q _ => ∃ m : Int, x = .int m ∧ 1 ≤ m ∧ m ≤ 10 ∧ Q (.str (bodyS m)) H) := by
  have SC := sc_bits_body
  refine Fn.of1 T.F_bits_body SC (fun fd F => F.bindsN fun _ _ _ _ _ _ us hl => match us, hl with | [_], _ => rfl) (fun cdv A outer s H v0 Q E hr h => ?_)
  refine ⟨_, PSs.nox (pss_one (ps_ret (pe_joined (PJ.cons (pe_fmt (pe_gstr T.v_BITS)) (PJ.cons pe_str (PJ.cons (pe_fmt (pv 0)) PJ.nil)))))), ?_⟩
  rw [show L2.start ["bits"] [v0] = [some v0] from rfl]
  try dsimp only [cxOf, Cx.nox]
  obtain ⟨m, rfl, h1, h2, q⟩ := h
  simp only [tRet, tRetN, tNext, tSeq, tDrop, tAsg, gName, tIfS, tAndV, tOrV, tNotV, tAnd, tOr, tNot, tB, tTest, tIf, tCB, tCons, tVar, tC, tNil, tOp, tUn, tCall, tCallS, tMeth, tMake, tProp, tFld, sFld, sFldAug, tLst, tTup, tChain, tPar, tPar3, rI, rI0, rU, rEq, rNe, rIsi, rAppend, sp0, sp1, sp2, sp3, sp4, List.nil_append, List.append_nil, List.cons_append, List.cons.injEq, List.getElem?_cons_zero, List.getElem?_cons_succ, List.set_cons_zero, List.set_cons_succ, Option.some.injEq, V.int.injEq, V.str.injEq, V.bl.injEq, V.ref.injEq, V.ty.injEq, exists_eq_left', exists_eq_left, exists_eq_right, exists_and_left, exists_and_right, and_true, true_and, and_assoc, exists_const, exists_eq, reduceCtorEq, false_and, and_false, or_false, false_or, tJs, tFmt]
  have hm : m.natAbs.log2 < 1920 := small_log (by omega)
  have hl := (okM_len h1 h2)
  refine ⟨by rw [sizeLine_eq]; decide +kernel, by rw [sizeLine_eq]; decide +kernel, by rw [sizeLine_eq]; decide +kernel, hm, ?_, q⟩
  show (bodyS m).length ≤ _
  rw [sizeLine_eq]; omega
theorem sc_integer_in : FnScope ["text", "digits", "digit"] ["text"] (defScope s_integer_in) := ⟨rfl, rfl, rfl, by decide +kernel, rfl, by decide +kernel, by decide +kernel⟩
theorem ok_integer_in {P : Program} {w : World} {K : PySem.W.Frag} {mg : PySem.Str → Option Value} {base : Heap} (T : Txt K mg)  : Fn P w K mg base 1 a_integer_in ["text"] (sp1 fun x H Q _ => ∃ m : Int, x = .str (toString m) ∧ 1 ≤ m ∧ m ≤ 10 ∧ ∀ H1, Su H H1 → Q (.int m) H1) := by
  have SC := sc_integer_in
  refine Fn.of1 T.F_integer_in SC (fun fd F => F.bindsN fun _ _ _ _ _ _ us hl => match us, hl with | [_], _ => rfl) (fun cdv A outer s H v0 Q E hr h => ?_)
  refine ⟨_, PSs.nox (pss_cons (ps_set (i := 1) SC.nd rfl (Or.inl rfl) (pe_ifExp (pt_val (pe_bm PySem.F.plainAttrs_str PySem.F.slot_str_startswith PySem.F.type_str_startswith mt_startswith (pv 0) (pa_cons pe_str pa_nil))) (pe_slice sl_str (pv 0) (po_some pe_int) po_none) (pv 0))) (pss_cons (ps_if (PW.pt (pw_or (pt_not (pt_chain op_le op_le pe_int (pe_callB (lenK K) rfl T.b_len rfl (pa_cons (pv 1) pa_nil)) (pe_gint T.v_MOST_DIGITS_durable))) (pw_or1 (pt_not (pt_val (pe_callB (cr_all rfl) rfl T.b_all rfl (pa_cons (pe_lc (own := [("digit", 2)]) (g := gName 2) (tt := tYes) rfl SC.nd (pi_str (pv 1)) (blkOk_by (own := [("digit", 2)]) (N := ["text", "digits", "digit"]) (sc := defScope s_integer_in) (by decide +kernel)) (fun _ _ _ _ _ => pg_name (i := 2) SC.nd rfl (Or.inl rfl)) (fun _ _ _ _ _ => pts_nil) (fun _ _ _ _ _ => (pe_cmpR op_in_sign (pv 2) (pe_gstr T.v_DIGITS_durable) (by rfl)))) pa_nil))))))) (pss_one (ps_ret pe_non)) pss_nil) (pss_one (ps_ret (pe_callTy call_int_str rfl T.b_int rfl (pa_cons (pv 0) pa_nil)))))), ?_⟩
  rw [show L2.start ["text", "digits", "digit"] [v0] = [some v0, none, none] from rfl]
  try dsimp only [cxOf, Cx.nox]
  obtain ⟨m, rfl, h1, h2, q⟩ := h
  simp only [tRet, tRetN, tNext, tSeq, tDrop, tAsg, gName, tIfS, tAndV, tOrV, tNotV, tAnd, tOr, tNot, tB, tTest, tIf, tCB, tCons, tVar, tC, tNil, tOp, tUn, tCall, tCallS, tMeth, tMake, tProp, tFld, sFld, sFldAug, tLst, tTup, tChain, tPar, tPar3, rI, rI0, rU, rEq, rNe, rIsi, rAppend, sp0, sp1, sp2, sp3, sp4, List.nil_append, List.append_nil, List.cons_append, List.cons.injEq, List.getElem?_cons_zero, List.getElem?_cons_succ, List.set_cons_zero, List.set_cons_succ, Option.some.injEq, V.int.injEq, V.str.injEq, V.bl.injEq, V.ref.injEq, V.ty.injEq, exists_eq_left', exists_eq_left, exists_eq_right, exists_and_left, exists_and_right, and_true, true_and, and_assoc, exists_const, exists_eq, reduceCtorEq, false_and, and_false, or_false, false_or, tBM, rLen]
  obtain ⟨p1, p2, p3, p4, p5, _⟩ := okM_p h1 h2
  refine ⟨rfl, ?_⟩
  rw [p1]
  refine iteF ⟨(nS m).length, ⟨by rw [sizeLine_eq]; show (nS m).length ≤ _; omega, rfl⟩, ?_⟩
  rw [decide_eq_true (show (1 : Int) ≤ ((nS m).length : Nat) by omega), decide_eq_true (show ((nS m).length : Int) ≤ 10 by omega)]
  refine iteT (iteF ?_)
  refine tLcS (x := nS m) (fun D i H' => H D = none ∧ Su H H' ∧ H' D = some (.lst ((List.replicate i true).map V.bl))) (fun R r => ⟨_, rfl, r⟩) (fun D hD => ⟨hD, .new hD, upd_same⟩) (fun D i c H' hD hc p => ?_) (fun D H' hD p => ?_)
  · refine ⟨rfl, _, rfl, c, rfl, _, rfl, _, p.2.2, ?_, hD, su_at p.2.1 hD, ?_⟩
    · have hi : i < (nS m).cps.size := (Array.getElem?_eq_some_iff.mp hc).1
      have hb' : (nS m).cps.size ≤ 10 := p3
      rw [List.length_map, List.length_replicate, sizeLine_eq]; omega
    · rw [upd_same, decide_eq_true (p4 c (List.mem_of_getElem? (by rw [Array.getElem?_toList]; exact hc))), List.replicate_succ', List.map_append]; rfl
  · refine ⟨D, _, rfl, sqL_of p.2.2, _, rfl, ?_⟩
    rw [show (List.replicate (nS m).cps.size true).all id = true from by simp]
    exact iteF ⟨m, p5, by show (nS m).length ≤ _; omega, q _ p.2.1⟩
theorem sc_bits_in : FnScope ["body", "bits"] ["body"] (defScope s_bits_in) := ⟨rfl, rfl, rfl, by decide +kernel, rfl, by decide +kernel, by decide +kernel⟩
theorem ok_bits_in {P : Program} {w : World} {K : PySem.W.Frag} {mg : PySem.Str → Option Value} {base : Heap} (T : Txt K mg)  : Fn P w K mg base 3 a_bits_in ["body"] (sp1 fun x H Q _ => ∃ m : Int, x = .str (bodyS m) ∧ 1 ≤ m ∧ m ≤ 10 ∧ ∀ H1, Su H H1 → Q (.int m) H1) := by
  have SC := sc_bits_in
  refine Fn.of1 T.F_bits_in SC (fun fd F => F.bindsN fun _ _ _ _ _ _ us hl => match us, hl with | [_], _ => rfl) (fun cdv A outer s H v0 Q E hr h => ?_)
  refine ⟨_, PSs.nox (pss_cons (ps_if (PW.pt (pw_or (pt_cmpR op_isN (pv 0) pe_non (nomark _)) (pw_or1 (pt_not (pt_val (pe_bm PySem.F.plainAttrs_str PySem.F.slot_str_startswith PySem.F.type_str_startswith mt_startswith (pv 0) (pa_cons (pe_op op_add_str (pe_gstr T.v_BITS) pe_str) pa_nil))))))) (pss_one (ps_ret pe_non)) pss_nil) (pss_cons (ps_set (i := 1) SC.nd rfl (Or.inl rfl) (pc (ok_integer_in T) hr T.g_integer_in passL (pa_cons (pe_slice sl_str (pv 0) (po_some (pe_op op_add (pe_callB (lenK K) rfl T.b_len rfl (pa_cons (pe_gstr T.v_BITS) pa_nil)) pe_int)) po_none) pa_nil))) (pss_one (ps_ret (pe_ifExp (PW.pt (pw_and (pt_val (pc (ok_is_bits T) hr T.g_is_bits passL (pa_cons (pv 1) pa_nil))) (pw_and1 (pt_cmpR op_eq (pc (ok_bits_body T) hr T.g_bits_body passL (pa_cons (pv 1) pa_nil)) (pv 0) (nomark _))))) (pv 1) pe_non))))), ?_⟩
  rw [show L2.start ["body", "bits"] [v0] = [some v0, none] from rfl]
  try dsimp only [cxOf, Cx.nox]
  obtain ⟨m, rfl, h1, h2, q⟩ := h
  simp only [tRet, tRetN, tNext, tSeq, tDrop, tAsg, gName, tIfS, tAndV, tOrV, tNotV, tAnd, tOr, tNot, tB, tTest, tIf, tCB, tCons, tVar, tC, tNil, tOp, tUn, tCall, tCallS, tMeth, tMake, tProp, tFld, sFld, sFldAug, tLst, tTup, tChain, tPar, tPar3, rI, rI0, rU, rEq, rNe, rIsi, rAppend, sp0, sp1, sp2, sp3, sp4, List.nil_append, List.append_nil, List.cons_append, List.cons.injEq, List.getElem?_cons_zero, List.getElem?_cons_succ, List.set_cons_zero, List.set_cons_succ, Option.some.injEq, V.int.injEq, V.str.injEq, V.bl.injEq, V.ref.injEq, V.ty.injEq, exists_eq_left', exists_eq_left, exists_eq_right, exists_and_left, exists_and_right, and_true, true_and, and_assoc, exists_const, exists_eq, reduceCtorEq, false_and, and_false, or_false, false_or, tBM, rLen]
  obtain ⟨_, _, _, _, _, p6, p7, p8, _⟩ := okM_p h1 h2
  refine iteF ⟨rfl, by rw [sizeLine_eq]; decide +kernel, ?_⟩
  rw [p6]
  refine iteF ⟨_, rfl, _, 4, rfl, ⟨by rw [sizeLine_eq]; decide +kernel, by decide +kernel⟩, _, _, rfl, rfl, _, rfl, _, rfl, by rw [sizeLine_eq]; omega, m, congrArg V.str p7, h1, h2, fun H1 g => ?_⟩
  rw [decide_eq_true ⟨h1, h2⟩]
  refine iteT ⟨h1, h2, rfl, ?_⟩
  rw [decide_eq_true rfl]
  exact iteT (q H1 g)
end Gd
/-! ### calls by keywords; a class in a local name; a classmethod by keywords -/
namespace Gd
open PySem PySem.Spec PyProof.Rows L2
section
variable {X : Cx} {j k n i : Nat} {f C p' : Addr} {mc : Value} {ps ks : List Str} {sp : Sp} {E : XK} {x m : Str} {p pos apos : Pos} {e o : Expr} {es : List Expr} {kws : List Keyword} {ta : TE} {t tk : TA} {g : List Value → List Value → List Value} {gV : List V → List V → List V}
/-- never evaluated -/
theorem pe_never : PE X e (fun _ _ _ => False) := ⟨fun _ _ _ _ _ _ h => h.elim⟩
abbrev FK (X : Cx) (k n : Nat) (f : Addr) (ps ks : List Str) (sp : Sp) (g : List Value → List Value → List Value) (gV : List V → List V → List V) : Prop :=
  ∃ fd, FnOk X.prog X.w X.K X.mg X.base (L2.CX X.prog X.w) k f fd ps sp ∧ KBn X.K fd ps n ks g gV ∧ PySem.W.keepIn X.K (.ref f) = true
theorem pcK0 (F : FK X k 0 f ps ks sp g gV) (hr : Room j X.A) (hm : X.mg x = some (.ref f)) (hx : Passes (L2.CX X.prog X.w) X E) (hkw : PK X kws tk) (hk : k ≤ j := by decide) (hg : Gl X x := by rfl)
    (hall : (backToKw pos (keywordEach kws X.env)).all (·.1.isSome) = true := by rfl) (hks : (backToKw pos (keywordEach kws X.env)).filterMap (·.1) = ks := by rfl) (hdb : (x == ("__debug__" : Str)) = false := by decide)
    (hpl : ((backTo pos (starEach [] X.env)).any (·.1) || (backToKw pos (keywordEach kws X.env)).any (·.1.isNone)) = false := by rfl) : PE X (.Call (.Name x p) [] kws pos) (tCallN 0 ks.length sp gV E tNil tk) := by
  obtain ⟨fd, F, hb, kp⟩ := F
  exact pe_callK0 F (hr.mono hk) hg hm kp hb hx hkw hall hks hdb hpl
theorem pmkK0 (M : Mk X.K C f) (F : FK X k 1 f ps ks sp g gV) (hr : Room j X.A) (hm : X.mg x = some (.ref C)) (hx : Passes (L2.CX X.prog X.w) X E) (hkw : PK X kws tk) (hk : k + 1 ≤ j := by decide) (hg : Gl X x := by rfl)
    (hall : (backToKw pos (keywordEach kws X.env)).all (·.1.isSome) = true := by rfl) (hks : (backToKw pos (keywordEach kws X.env)).filterMap (·.1) = ks := by rfl) (hdb : (x == ("__debug__" : Str)) = false := by decide)
    (hpl : ((backTo pos (starEach [] X.env)).any (·.1) || (backToKw pos (keywordEach kws X.env)).any (·.1.isNone)) = false := by rfl) : PE X (.Call (.Name x p) [] kws pos) (tMakeK C 0 ks.length sp gV E tNil tk) := by
  obtain ⟨fd, F, hb, kp⟩ := F
  exact pe_makeK0 M F (hr.mono hk) hg hm hb hx hkw hall hks hdb hpl
/-- c(e, ..), c a local name that holds the class C -/
def tMakeV (i : Nat) (C : Addr) (sp : Sp) (E : XK) (t : TA) : TE := fun σ H Q => σ[i]? = some (some (.ref C)) ∧ tMake C sp [] E t σ H Q
theorem pmkV (M : Mk X.K C f) (F : Fn X.prog X.w X.K X.mg X.base k f ps sp) (hr : Room j X.A) (hN : X.N[i]? = some x) (hv : Vis X.env.scope x) (hx : Passes (L2.CX X.prog X.w) X E) (ha : PA X (e :: es) t) (hk : k + 1 ≤ j := by decide)
    (hdb : (x == ("__debug__" : Str)) = false := by decide) (hcd : (x == ("__classdict__" : Str)) = false := by decide) (he : starEach (e :: es) X.env = (false, eval e X.env) :: starEach es X.env := by rfl) (hpl : (backTo pos (starEach es X.env)).any (·.1) = false := by rfl) :
    PE X (.Call (.Name x p) (e :: es) [] pos) (tMakeV i C sp E t) := by
  obtain ⟨fd, F, hb, kp, _⟩ := F
  refine ⟨fun pins s σ H Q I h => ?_⟩
  obtain ⟨hs, h⟩ := h
  refine wpAny_Call_Name_kw (thn ((pe_var (pos := p) hN hv hdb hcd).run pins s σ H (fun v H1 => v = .ref C ∧ H1 = H) I ⟨.ref C, hs, rfl, rfl⟩) fun u s1 ⟨v, H1, I1, r1, ev, eH⟩ => ?_)
  subst ev eH
  obtain rfl : u = Value.ref C := r1
  refine PySem.W.callWith_K (h₀ := X.base) I1.ok.mod.kin M.kp (thn (ha.run pos pins s1 σ H1 _ I1 h) fun us s2 ⟨vs, H2, I2, r, q⟩ => ⟨I2.kIn, ?_⟩) he hpl
  exact run_make M F (hr.mono hk) hb .nil hx I2 r q
/-- C.m(k = v, ..), m a classmethod -/
def tCMethK (C : Addr) (mm : Nat) (sp : Sp) (gV : List V → List V → List V) (E : XK) (ta : TE) (tk : TA) : TE := fun σ H Q => ta σ H fun y H1 => y = .ref C ∧ tk σ H1 fun zs H2 => zs.length = mm ∧ sp (gV [.ref C] zs) H2 Q E
theorem pcmK0 {pl : Sem Bool} (he : PE X o ta) (r : ClX.CRead X.K C mc) (c : ClX.CMet X.K C mc m p' f) (F : FK X k 1 f ps ks sp g gV) (hr : Room j X.A) (hx : Passes (L2.CX X.prog X.w) X E) (hkw : PK X kws tk) (hk : k ≤ j := by decide)
    (hall : (backToKw pos (keywordEach kws X.env)).all (·.1.isSome) = true := by rfl) (hks : (backToKw pos (keywordEach kws X.env)).filterMap (·.1) = ks := by rfl)
    (hpl : ((backTo pos (starEach [] X.env)).any (·.1) || (backToKw pos (keywordEach kws X.env)).any (·.1.isNone)) = false := by rfl)
    (ht : eval (.Call (.Attribute o m apos) [] kws pos) X.env = (do
      let ov ← eval o X.env
      standAt apos.atName
      let (g, first) ← holding [ov] (getMethod ov m pl)
      callWith pos g first (backTo pos (starEach [] X.env)) (backToKw pos (keywordEach kws X.env))) := by rfl) :
    PE X (.Call (.Attribute o m apos) [] kws pos) (tCMethK C ks.length sp gV E ta tk) := by
  obtain ⟨fd, F, hb, kp⟩ := F
  refine ⟨fun pins s σ H Q I h => ?_⟩
  refine PySem.W.methodCall_KW (pl := pl) (thn (he.run pins s σ H _ I h) fun u s1 ⟨y, H1, I1, rx, ex, q⟩ => ?_) ht
  subst ex
  obtain rfl : u = Value.ref C := rx
  refine ClX.getmethcm_ok I1 r c fun s2 I2 => ?_
  refine PySem.W.callWith_of hpl (PySem.W.keeps_M (K := X.K) (q := s1.heap.objs.size) (self := .ref C) c.fi) (PyProof.Rows.evalArgs_kw2_nil hall ?_)
  refine thn (hkw.run pos _ s2 σ H1 _ I2 q) fun ws s3 ⟨zs, H2, I3, rz, l2, q2⟩ => ⟨⟨ClX.pin_at I3, I3.kIn⟩, ?_⟩
  rw [hks]
  have z : wpAny (model X.prog X.w) X.A (call (.ref s1.heap.objs.size) [] (ks.zip ws)) (EP X ((s1.heap.objs.size, PySem.W.methodObj (.ref f) (.ref C)) :: pins) σ Q) X.xe s3 := by
    refine wpAny_call (PySem.W.method_call (ClX.pin_at I3) (codeAny_mono (F.run X.A X.stack s3 H2 ⟨[.ref C], ks.zip ws⟩ (g [.ref C] ws) (gV [.ref C] zs) Q E (hr.mono hk) I3.env0 (hb.to s3 [.ref C] ws I3.kIn rfl (rz.length.symm.trans l2)) (hb.rel (.cons rfl .nil) rz) q2) fun rr s' hq => ?_))
    cases rr with
    | error e => exact hx _ σ H2 s3 e s' I3 hq
    | ok fl =>
      cases fl with
      | ret u => exact I3.after hq
      | next => exact False.elim hq
      | brk => exact False.elim hq
      | cont => exact False.elim hq
  exact thn z fun _ _ y => ClX.unpinE y
end
/-- a def with super(), called by keywords -/
theorem Fn.kbnS {P : Program} {w : World} {K : PySem.W.Frag} {mg : Str → Option Value} {base : Heap} {k : Nat} {f cc D : Addr} {ps : List Str} {sp : Sp} {F : NdefX.NF} {n0 : Str} (Ff : Fn P w K mg base k f ps sp) (S : ∃ fd, SupC P K mg F f cc D n0 fd) (n : Nat) (ks : List Str) (g : {α : Type} → List α → List α → List α)
    (hrel : ∀ {vs zs : List V} {us ws : List Value}, Vals vs us → Vals zs ws → Vals (g vs zs) (g us ws))
    (h : ∀ (doc pm ct : Value) (us ws : List Value), us.length = n → ws.length = ks.length → bindArgs (F.fd doc pm ct) ⟨us, ks.zip ws⟩ = pure (ps.zip (g us ws))) :
    ∃ fd, FnOk P w K mg base (L2.CX P w) k f fd ps sp ∧ KBn K fd ps n ks (fun us ws => g us ws) (fun vs zs => g vs zs) ∧ PySem.W.keepIn K (.ref f) = true := by
  obtain ⟨fd, Fo, hb, kp, oc, od, osl, l1⟩ := Ff
  obtain ⟨fd2, S⟩ := S
  obtain ⟨oc2, od2, doc, pm, ct, osl2, rfl, l2⟩ := S.fn
  rw [l1] at l2
  cases l2
  exact ⟨_, Fo, ⟨fun s us ws _ l1 l2 => .of_eq (h doc pm ct us ws l1 l2), fun r1 r2 => hrel r1 r2⟩, kp⟩
end Gd
/-! ### k91: a crash, a spoilt page -/
namespace Gd
open PySem PySem.Spec PyProof.Rows L2
theorem ScAt.mid2 {H : Hp} {S : Scn} (h : ScAt H S) {left : Option Int} : ScAt (upd (upd H S.sc (.dK (S.to left S.pgs).kvs)) S.a (.ins c_Disk S.dx (dsk S.l left))) (S.to left S.pgs) := by
  obtain ⟨n1, n2, n3, n4, n5⟩ := h.neq
  refine ⟨?_, upd_same, ?_, ?_, h.ne, h.ok⟩
  · show upd _ S.a _ S.sc = _
    rw [upd_ne n1, upd_same]
  · show upd _ S.a _ S.l = _
    rw [upd_ne n4.symm, upd_ne n2.symm]; exact h.o
  · show upd _ S.a _ S.m = _
    rw [upd_ne n5.symm, upd_ne n3.symm]; exact h.p
theorem ScAt.mid3 {H : Hp} {S : Scn} (h : ScAt H S) {pgs : List PySem.Str} (hk : ∀ z ∈ pgs, PyData.strOk z = true) : ScAt (upd (upd H S.m (strL pgs)) S.l (strL pgs)) (S.to S.left pgs) := by
  obtain ⟨n1, n2, n3, n4, n5⟩ := h.neq
  refine ⟨?_, ?_, upd_same, ?_, h.ne, hk⟩
  · show upd _ S.l _ S.sc = _
    rw [upd_ne n2, upd_ne n3]; exact h.d
  · show upd _ S.l _ S.a = _
    rw [upd_ne n4, upd_ne n5]; exact h.i
  · show upd _ S.l _ S.m = _
    rw [upd_ne h.ne.symm, upd_same]; rfl
theorem NuV.gr {p : Addr} {H0 H H' : Hp} {v : V} {d : PyData} (g : Gr p H H') (hp : ∃ c s, H p = some (potO c s)) (h : NuV H0 H v d) : NuV H0 H' v d := by
  cases h with
  | int h => exact .int h
  | tru => exact .tru
  | non => exact .non
  | str => exact .str
  | tup h0 h =>
    obtain ⟨c, s, hp⟩ := hp
    exact .tup h0 (g _ _ (ne2 h hp (fun z => by cases z)) h)
theorem sc__law_crash_right : FnScope ["_law_pot_here", "_law_scene", "_law_far", "_law_due"] ["_law_pot_here", "_law_scene"] (defScope s__law_crash_right) := ⟨rfl, rfl, rfl, by decide +kernel, rfl, by decide +kernel, by decide +kernel⟩
theorem ok__law_crash_right {P : Program} {w : World} {K : PySem.W.Frag} {mg : PySem.Str → Option Value} {base : Heap} (T : Txt K mg)  : Fg P w K mg base 6 a__law_crash_right ["_law_pot_here", "_law_scene"] (sp2 fun x y H Q E => ∃ (p : Addr) (S : Scn) (c s : Int), x = .ref p ∧ y = .ref S.sc ∧ H p = some (potO c s) ∧ PotOk c s ∧ ScAt H S ∧ p ≠ S.l ∧ p ≠ S.m ∧ S.pgs.length < 60 ∧ ∀ H' c' s' S', S.Like S' → PotOk c' s' → H' p = some (potO c' s') → ScAt H' S' → Fr p S H H' → Q (.bl true) H') := by
  have SC := sc__law_crash_right
  refine Fg.of2 T.F__law_crash_right SC (fun fd F => F.bindsN fun _ _ _ _ _ _ us hl => match us, hl with | [_, _], _ => rfl) (fun cdv A outer s H v0 v1 Q E hg hr h => ?_)
  refine ⟨_, PSs.nox (pss_cons (ps_par (i := 2) (j := 3) rfl SC.nd rfl rfl (by decide) rfl rfl (pa_cons (pc (ok__law_pick T) hr T.g__law_pick passL (pa_cons (pv 0) (pa_cons (pe_lst (pa_cons pe_int (pa_cons pe_int (pa_cons pe_int (pa_cons pe_int (pa_cons pe_int (pa_cons pe_int (pa_cons (pc (ok__law_number T) hr T.g__law_number passL (pa_cons (pv 0) (pa_cons pe_int pa_nil))) pa_nil)))))))) pa_nil))) (pa_cons (pe_tup (pa_cons pe_str (pa_cons pe_non pa_nil))) pa_nil)) rfl) (pss_cons (ps_if (pt_not (pt_val (pc (ok__law_is_count T) hr T.g__law_is_count passL (pa_cons (pv 2) pa_nil)))) (pss_one (ps_set (i := 3) SC.nd rfl (Or.inl rfl) (pe_tup (pa_cons pe_str (pa_cons (pv 2) pa_nil))))) (pss_one (ps_if (pt_cmpR op_ne (pe_dget (hu_of hr) (pv 1) pe_str (fun _ _ => rfl)) pe_int (nomark _)) (pss_one (ps_dput (hu_of hr) (pv 1) pe_str (pv 2) rfl)) pss_nil))) (pss_one (ps_ret (pe_cmpR op_eq (pe_callB (call_repr hg hr) rfl T.b_repr rfl (pa_cons (pc (ok__law_told T) hr T.g__law_told passL (pa_cons (pe_dget (hu_of hr) (pv 1) pe_str (fun _ _ => rfl)) (pa_cons pe_str (pa_cons pe_non (pa_cons (pv 2) pa_nil))))) pa_nil)) (pe_callB (call_repr hg hr) rfl T.b_repr rfl (pa_cons (pv 3) pa_nil)) (nomark _)))))), ?_⟩
  rw [show L2.start ["_law_pot_here", "_law_scene", "_law_far", "_law_due"] [v0, v1] = [some v0, some v1, none, none] from rfl]
  try dsimp only [cxOf, Cx.nox]
  obtain ⟨p, S, c, s, rfl, rfl, ep, hP, hS, n1, n2, hz, q⟩ := h
  simp only [tRet, tRetN, tNext, tSeq, tDrop, tAsg, gName, tIfS, tAndV, tOrV, tNotV, tAnd, tOr, tNot, tB, tTest, tIf, tCB, tCons, tVar, tC, tNil, tOp, tUn, tCall, tCallS, tMeth, tMake, tProp, tFld, sFld, sFldAug, tLst, tTup, tChain, tPar, tPar3, rI, rI0, rU, rEq, rNe, rIsi, rAppend, sp0, sp1, sp2, sp3, sp4, List.nil_append, List.append_nil, List.cons_append, List.cons.injEq, List.getElem?_cons_zero, List.getElem?_cons_succ, List.set_cons_zero, List.set_cons_succ, Option.some.injEq, V.int.injEq, V.str.injEq, V.bl.injEq, V.ref.injEq, V.ty.injEq, exists_eq_left', exists_eq_left, exists_eq_right, exists_and_left, exists_and_right, and_true, true_and, and_assoc, exists_const, exists_eq, reduceCtorEq, false_and, and_false, or_false, false_or, tDGet, sDPut, tBM]
  refine ⟨c, s, 3, rfl, by omega, ep, hP, fun c1 s1 v d0 H1 hP1 g1 ep1 hv0 => ⟨by show 7 ≤ sizeLine; rw [sizeLine_eq]; omega, fun p1 hp1 => ?_⟩⟩
  have k1 : p1 ≠ p := ne_none ep1 hp1
  refine ⟨c1, s1, by rw [upd_ne k1.symm]; exact ep1, hP1, _, sqL_of upd_same, by simp, by simp, k1, fun c2 s2 w hP2 hw => ⟨le2, fun p0 hp0 => ?_⟩⟩
  have g2 : Gr p H1 (upd (upd H1 p1 (.lst [.int 0, .int 1, .int 2, .int 3, .int 5, .int 30, v])) p (potO c2 s2)) := ((Gr.refl p H1).new hp1).pot
  have ep2 : upd (upd H1 p1 (.lst [.int 0, .int 1, .int 2, .int 3, .int 5, .int 30, v])) p (potO c2 s2) p = some (potO c2 s2) := upd_same
  generalize upd (upd H1 p1 (.lst [.int 0, .int 1, .int 2, .int 3, .int 5, .int 30, v])) p (potO c2 s2) = H2 at g2 ep2 hp0
  obtain ⟨d, hv⟩ : ∃ d, NuV H H2 w d := by
    simp only [List.mem_cons, List.not_mem_nil, or_false] at hw
    rcases hw with rfl | rfl | rfl | rfl | rfl | rfl | rfl
    · exact ⟨_, .int (.inl (by omega))⟩
    · exact ⟨_, .int (.inl (by omega))⟩
    · exact ⟨_, .int (.inl (by omega))⟩
    · exact ⟨_, .int (.inl (by omega))⟩
    · exact ⟨_, .int (.inl (by omega))⟩
    · exact ⟨_, .int (.inl (by omega))⟩
    · exact ⟨_, NuV.gr g2 ⟨_, _, ep1⟩ hv0⟩
  have S2 : ScAt H2 S := hS.gr (g1.trans g2) ⟨_, _, ep⟩ n1 n2
  have g3 : Su H2 (upd H2 p0 (.tup [.str "done", .non])) := .new hp0
  have e0 : upd H2 p0 (.tup [.str "done", .non]) p0 = some (.tup [.str "done", .non]) := upd_same
  generalize upd H2 p0 (.tup [.str "done", .non]) = H3 at g3 e0
  have S3 := S2.su g3
  have ep3 := g3 _ _ ep2
  have gg : Gr p H H3 := (g1.trans g2).trans g3.gr
  have hdp := NuV.dp (K := K) hv
  have bad : ∀ p3 H4, Su H3 H4 → H4 p3 = some (.tup [.str "size", w]) → Tell (fun x H1 => rRepr K [x] H1 fun x H1 => rRepr K [V.ref p3] H1 fun y H2 => scal x y = true ∧ Q (V.bl (decide (x = y))) H2) H4 "size" w := fun p3 H4 g4 e4 p5 H5 hp5 g5 e5 =>
    reprs e5 (g5 _ _ e4) (NuV.dp (NuV.su ((g3.trans g4).trans g5) hv)).1 hdp.2 (by simp [tags]) (q H5 c2 s2 S (.refl S) hP2 (g5 _ _ (g4 _ _ ep3)) (S3.su (g4.trans g5)) (.of_gr gg (g4.trans g5)))
  rcases NuV.num (K := K) hv with ⟨i, rfl⟩ | hb
  · refine .inl ⟨i, rfl, ?_⟩
    by_cases hi : 0 ≤ i
    · rw [decide_eq_true hi]
      refine iteF ⟨_, (dget S3).2.2, by cases S.left <;> rfl, ?_⟩
      rw [lv_dec]
      by_cases e1 : S.left = some 0
      · rw [decide_eq_true e1]
        refine iteF ⟨_, (dget S3).1, _, rfl, S.dx, S.l, S.left, S3.i, S.pgs, S3.o, by omega, .inr (.inl (.inr ⟨i, rfl, fun z => by omega, fun _ _ p4 H4 hp4 g4 e4 => ?_, fun _ z => absurd e1 z⟩))⟩
        exact reprs e4 (g4 _ _ e0) .non good_non (by simp [tags]) (q H4 c2 s2 S (.refl S) hP2 (g4 _ _ ep3) (S3.su g4) (.of_gr gg g4))
      · rw [decide_eq_false e1]
        refine iteT ?_
        obtain ⟨k1, k2, k3, k4, k5⟩ := S3.neq
        have ML : ScAt (upd (upd H3 S.sc (.dK (S.to (some i) S.pgs).kvs)) S.a (.ins c_Disk S.dx (dsk S.l (some i)))) (S.to (some i) S.pgs) := S3.mid2
        have put : DPut H3 S.sc (.str "left") (.int i) (upd H3 S.sc (.dK (S.to (some i) S.pgs).kvs)) := by
          refine .inl ⟨_, .inr "left", S3.d, rfl, by show 3 < sizeLine; rw [sizeLine_eq]; omega, ?_⟩
          rw [putK_left]
          rfl
        have old : ∀ b o, b ≠ S.sc → b ≠ S.a → H3 b = some o → upd (upd H3 S.sc (.dK (S.to (some i) S.pgs).kvs)) S.a (.ins c_Disk S.dx (dsk S.l (some i))) b = some o := fun b o h1 h2 e => by
          rw [upd_ne h2, upd_ne h1]; exact e
        have pd : upd H3 S.sc (.dK (S.to (some i) S.pgs).kvs) S.sc = some (.dK (S.to (some i) S.pgs).kvs) := upd_same
        have ia : upd H3 S.sc (.dK (S.to (some i) S.pgs).kvs) S.a = some (.ins c_Disk S.dx (dsk S.l S.left)) := by rw [upd_ne k1.symm]; exact S3.i
        have ol : upd H3 S.sc (.dK (S.to (some i) S.pgs).kvs) S.l = some (strL S.pgs) := by rw [upd_ne k2.symm]; exact S3.o
        have hpp : p ≠ S.sc ∧ p ≠ S.a := ⟨ne2 ep3 S3.d (fun z => by cases z), ne2 ep3 S3.i (fun z => by cases z)⟩
        have p0n : p0 ≠ S.sc ∧ p0 ≠ S.a := ⟨ne2 e0 S3.d (fun z => by cases z), ne2 e0 S3.i (fun z => by cases z)⟩
        generalize upd H3 S.sc (.dK (S.to (some i) S.pgs).kvs) = H6 at put ML old pd ia ol
        refine ⟨H6, put, _, .inl ⟨_, .inr "plate", .inl pd, rfl, rfl⟩, _, rfl, S.dx, S.l, S.left, ia, S.pgs, ol, by omega, .inr (.inl (.inr ⟨i, rfl, fun z => by omega, fun _ z => absurd z e1, fun _ _ p4 H4 hp4 g4 e4 => ?_⟩))⟩
        exact reprs e4 (g4 _ _ (old _ _ p0n.1 p0n.2 e0)) .non good_non (by simp [tags]) (q H4 c2 s2 (S.to (some i) S.pgs) ⟨rfl, rfl, rfl, rfl, rfl, Nat.le_succ _⟩ hP2 (g4 _ _ (old _ _ hpp.1 hpp.2 ep3)) (ML.su g4) (fun b o h1 h2 h3 h4 h5 e => g4 _ _ (old b o h2 h3 (gg _ _ h1 e))))
    · rw [decide_eq_false hi]
      refine iteT ⟨le2, fun p3 hp3 => ?_⟩
      have g4 : Su H3 (upd H3 p3 (.tup [.str "size", .int i])) := .new hp3
      have e3 : upd H3 p3 (.tup [.str "size", .int i]) p3 = some (.tup [.str "size", .int i]) := upd_same
      generalize upd H3 p3 (.tup [.str "size", .int i]) = H4 at g4 e3
      have S4 := S3.su g4
      exact ⟨_, (dget S4).1, _, rfl, S.dx, S.l, S.left, S4.i, S.pgs, S4.o, by omega, .inr (.inl (.inr ⟨i, rfl, fun _ => bad p3 H4 g4 e3, fun z => by omega, fun z => by omega⟩))⟩
  · refine .inr ⟨IntArg.su g3 hb, iteT ⟨le2, fun p3 hp3 => ?_⟩⟩
    have g4 : Su H3 (upd H3 p3 (.tup [.str "size", w])) := .new hp3
    have e3 : upd H3 p3 (.tup [.str "size", w]) p3 = some (.tup [.str "size", w]) := upd_same
    generalize upd H3 p3 (.tup [.str "size", w]) = H4 at g4 e3
    have S4 := S3.su g4
    exact ⟨_, (dget S4).1, _, rfl, S.dx, S.l, S.left, S4.i, S.pgs, S4.o, by omega, .inr (.inl (.inl ⟨IntArg.su (g3.trans g4) hb, bad p3 H4 g4 e3⟩))⟩
theorem sc__law_spoil_right : FnScope ["_law_pot_here", "_law_scene", "_law_spot", "_law_sheet", "_law_due"] ["_law_pot_here", "_law_scene"] (defScope s__law_spoil_right) := ⟨rfl, rfl, rfl, by decide +kernel, rfl, by decide +kernel, by decide +kernel⟩
theorem ok__law_spoil_right {P : Program} {w : World} {K : PySem.W.Frag} {mg : PySem.Str → Option Value} {base : Heap} (T : Txt K mg)  : Fg P w K mg base 6 a__law_spoil_right ["_law_pot_here", "_law_scene"] (sp2 fun x y H Q E => ∃ (p : Addr) (S : Scn) (c s : Int), x = .ref p ∧ y = .ref S.sc ∧ H p = some (potO c s) ∧ PotOk c s ∧ ScAt H S ∧ p ≠ S.l ∧ p ≠ S.m ∧ S.pgs.length < 60 ∧ ∀ H' c' s' S', S.Like S' → PotOk c' s' → H' p = some (potO c' s') → ScAt H' S' → Fr p S H H' → Q (.bl true) H') := by
  have SC := sc__law_spoil_right
  refine Fg.of2 T.F__law_spoil_right SC (fun fd F => F.bindsN fun _ _ _ _ _ _ us hl => match us, hl with | [_, _], _ => rfl) (fun cdv A outer s H v0 v1 Q E hg hr h => ?_)
  refine ⟨_, PSs.nox (pss_cons (ps_par3 (i := 2) (j := 3) (l := 4) rfl SC.nd rfl rfl rfl (by decide) (by decide) (by decide) rfl rfl rfl (pa_cons (pc (ok__law_number T) hr T.g__law_number passL (pa_cons (pv 0) (pa_cons (pe_callB (lenK K) rfl T.b_len rfl (pa_cons (pe_dget (hu_of hr) (pv 1) pe_str (fun _ _ => rfl)) pa_nil)) pa_nil))) (pa_cons (pc (ok__law_page T) hr T.g__law_page passL (pa_cons (pv 0) pa_nil)) (pa_cons (pe_tup (pa_cons pe_str (pa_cons pe_non pa_nil))) pa_nil))) rfl) (pss_cons (ps_if (PW.pt (pw_or (pt_not (pt_val (pc (ok__law_is_count T) hr T.g__law_is_count passL (pa_cons (pv 2) pa_nil)))) (pw_or1 (pt_cmpR op_ge (pv 2) (pe_callB (lenK K) rfl T.b_len rfl (pa_cons (pe_dget (hu_of hr) (pv 1) pe_str (fun _ _ => rfl)) pa_nil)) (nomark _))))) (pss_one (ps_set (i := 4) SC.nd rfl (Or.inl rfl) (pe_tup (pa_cons pe_str (pa_cons (pv 2) pa_nil))))) (pss_one (ps_if (pt_not (pt_val (pc (ok__law_is_page T) hr T.g__law_is_page passL (pa_cons (pv 3) pa_nil)))) (pss_one (ps_set (i := 4) SC.nd rfl (Or.inl rfl) (pe_tup (pa_cons pe_str (pa_cons (pv 3) pa_nil))))) (pss_one (ps_asg (pv 3) (pg_sub (pe_dget (hu_of hr) (pv 1) pe_str (fun _ _ => rfl)) (pv 2) set_list)))))) (pss_one (ps_ret (pe_cmpR op_eq (pe_callB (call_repr hg hr) rfl T.b_repr rfl (pa_cons (pc (ok__law_told T) hr T.g__law_told passL (pa_cons (pe_dget (hu_of hr) (pv 1) pe_str (fun _ _ => rfl)) (pa_cons pe_str (pa_cons (pv 3) (pa_cons (pv 2) pa_nil))))) pa_nil)) (pe_callB (call_repr hg hr) rfl T.b_repr rfl (pa_cons (pv 4) pa_nil)) (nomark _)))))), ?_⟩
  rw [show L2.start ["_law_pot_here", "_law_scene", "_law_spot", "_law_sheet", "_law_due"] [v0, v1] = [some v0, some v1, none, none, none] from rfl]
  try dsimp only [cxOf, Cx.nox]
  obtain ⟨p, S, c, s, rfl, rfl, ep, hP, hS, n1, n2, hz, q⟩ := h
  simp only [tRet, tRetN, tNext, tSeq, tDrop, tAsg, gName, tIfS, tAndV, tOrV, tNotV, tAnd, tOr, tNot, tB, tTest, tIf, tCB, tCons, tVar, tC, tNil, tOp, tUn, tCall, tCallS, tMeth, tMake, tProp, tFld, sFld, sFldAug, tLst, tTup, tChain, tPar, tPar3, rI, rI0, rU, rEq, rNe, rIsi, rAppend, sp0, sp1, sp2, sp3, sp4, List.nil_append, List.append_nil, List.cons_append, List.cons.injEq, List.getElem?_cons_zero, List.getElem?_cons_succ, List.set_cons_zero, List.set_cons_succ, Option.some.injEq, V.int.injEq, V.str.injEq, V.bl.injEq, V.ref.injEq, V.ty.injEq, exists_eq_left', exists_eq_left, exists_eq_right, exists_and_left, exists_and_right, and_true, true_and, and_assoc, exists_const, exists_eq, reduceCtorEq, false_and, and_false, or_false, false_or, tDGet, sDPut, tBM, rLen, gSub, rSetL]
  refine ⟨_, (dget hS).2.1, S.pgs.length, .inl ⟨_, sqL_str hS.p, (List.length_map _).symm⟩, c, s, S.pgs.length, rfl, by omega, ep, hP, fun c1 s1 w d1 H1 hP1 g1 ep1 hv1 => ⟨c1, s1, ep1, hP1, fun c2 s2 v d H2 hP2 g2 ep2 hw => ⟨le2, fun p0 hp0 => ?_⟩⟩⟩
  have hv := NuV.gr g2 ⟨_, _, ep1⟩ hv1
  have S2 : ScAt H2 S := hS.gr (g1.trans g2) ⟨_, _, ep⟩ n1 n2
  have g3 : Su H2 (upd H2 p0 (.tup [.str "done", .non])) := .new hp0
  have e0 : upd H2 p0 (.tup [.str "done", .non]) p0 = some (.tup [.str "done", .non]) := upd_same
  generalize upd H2 p0 (.tup [.str "done", .non]) = H3 at g3 e0
  have S3 := S2.su g3
  have ep3 := g3 _ _ ep2
  have gg : Gr p H H3 := (g1.trans g2).trans g3.gr
  have bad : ∀ p3 H4 tag x dd, Su H3 H4 → (∀ H5, Su H4 H5 → Dp K H5 x dd) → GoodD dd → tag ∈ tags → H4 p3 = some (.tup [.str tag, x]) → Tell (fun x H1 => rRepr K [x] H1 fun x H1 => rRepr K [V.ref p3] H1 fun y H2 => scal x y = true ∧ Q (V.bl (decide (x = y))) H2) H4 tag x := fun p3 H4 tag x dd g4 hd hg' ht e4 p5 H5 hp5 g5 e5 =>
    reprs e5 (g5 _ _ e4) (hd H5 g5) hg' ht (q H5 c2 s2 S (.refl S) hP2 (g5 _ _ (g4 _ _ ep3)) (S3.su (g4.trans g5)) (.of_gr gg (g4.trans g5)))
  have badN : ∀ p3 H4, Su H3 H4 → H4 p3 = some (.tup [.str "place", w]) → Tell (fun x H1 => rRepr K [x] H1 fun x H1 => rRepr K [V.ref p3] H1 fun y H2 => scal x y = true ∧ Q (V.bl (decide (x = y))) H2) H4 "place" w := fun p3 H4 g4 e4 =>
    bad p3 H4 "place" w _ g4 (fun H5 g5 => (NuV.dp (NuV.su ((g3.trans g4).trans g5) hv)).1) (NuV.dp (K := K) hv).2 (by simp [tags]) e4
  have badP : ∀ p3 H4, Su H3 H4 → H4 p3 = some (.tup [.str "sheet", v]) → Tell (fun x H1 => rRepr K [x] H1 fun x H1 => rRepr K [V.ref p3] H1 fun y H2 => scal x y = true ∧ Q (V.bl (decide (x = y))) H2) H4 "sheet" v := fun p3 H4 g4 e4 =>
    bad p3 H4 "sheet" v _ g4 (fun H5 g5 => (PgV.dp (PgV.su ((g3.trans g4).trans g5) hw)).1) (PgV.dp (K := K) hw).2 (by simp [tags]) e4
  rcases NuV.num (K := K) hv with ⟨i, rfl⟩ | hb
  · refine .inl ⟨i, rfl, ?_⟩
    have place : ¬ (0 ≤ i ∧ i < S.pgs.length) → ∀ p3, H3 p3 = none → ∃ H4, Su H3 H4 ∧ H4 = upd H3 p3 (.tup [.str "place", .int i]) ∧ ScAt H4 S ∧ SpoilTold K (fun x H1 => rRepr K [x] H1 fun x H1 => rRepr K [V.ref p3] H1 fun y H2 => scal x y = true ∧ Q (V.bl (decide (x = y))) H2) H4 S.l S.pgs v (.int i) := fun hn p3 hp3 => by
      have g4 : Su H3 (upd H3 p3 (.tup [.str "place", .int i])) := .new hp3
      have e3 : upd H3 p3 (.tup [.str "place", .int i]) p3 = some (.tup [.str "place", .int i]) := upd_same
      exact ⟨_, g4, rfl, S3.su g4, .inr ⟨i, rfl, fun _ => badN p3 _ g4 e3, fun z1 z2 => absurd ⟨z1, z2⟩ hn⟩⟩
    by_cases hi : 0 ≤ i
    · rw [decide_eq_true hi]
      refine iteF ⟨_, (dget S3).2.1, S.pgs.length, .inl ⟨_, sqL_str S3.p, (List.length_map _).symm⟩, i, rfl, ?_⟩
      by_cases hj : (S.pgs.length : Int) ≤ i
      · rw [decide_eq_true hj]
        refine iteT ⟨le2, fun p3 hp3 => ?_⟩
        obtain ⟨H4, g4, e4, S4, told⟩ := place (fun z => by omega) p3 hp3
        rw [← e4]
        exact ⟨_, (dget S4).1, _, rfl, S.dx, S.l, S.left, S4.i, S.pgs, S4.o, by omega, .inr (.inr told)⟩
      · rw [decide_eq_false hj]
        refine iteF ?_
        rcases PgV.page (K := K) (PgV.su g3 hw) with ⟨hb, z, rfl, hzk⟩ | hb
        · refine ⟨true, hb, iteF ?_⟩
          obtain ⟨k1, k2, k3, k4, k5⟩ := S3.neq
          have hm : HO.lst ((S.pgs.map V.str).set i.toNat (V.str z)) = strL (S.pgs.set i.toNat z) := by unfold strL; rw [List.map_set]
          have ML : ScAt (upd (upd H3 S.m (strL (S.pgs.set i.toNat z))) S.l (strL (S.pgs.set i.toNat z))) (S.to S.left (S.pgs.set i.toNat z)) := S3.mid3 fun y hy => by
            rcases List.mem_or_eq_of_mem_set hy with h | h
            · exact S3.ok y h
            · rw [h]; exact hzk
          have old : ∀ b o, b ≠ S.l → b ≠ S.m → H3 b = some o → upd (upd H3 S.m (strL (S.pgs.set i.toNat z))) S.l (strL (S.pgs.set i.toNat z)) b = some o := fun b o h1 h2 e => by
            rw [upd_ne h1, upd_ne h2]; exact e
          have pd : upd H3 S.m (strL (S.pgs.set i.toNat z)) S.sc = some (.dK S.kvs) := by rw [upd_ne k3]; exact S3.d
          have ia : upd H3 S.m (strL (S.pgs.set i.toNat z)) S.a = some (.ins c_Disk S.dx (dsk S.l S.left)) := by rw [upd_ne k5]; exact S3.i
          have ol : upd H3 S.m (strL (S.pgs.set i.toNat z)) S.l = some (strL S.pgs) := by rw [upd_ne S3.ne]; exact S3.o
          have p0n : p0 ≠ S.l ∧ p0 ≠ S.m := ⟨ne2 e0 S3.o (fun z => by cases z), ne2 e0 S3.p (fun z => by cases z)⟩
          have hb6 : ∀ H6, PageArg K H6 (.str z) true := fun H6 => .inl (by
            rcases hb with h | ⟨w, _⟩
            · exact h
            · cases w)
          refine ⟨_, (dget S3).2.1, S.m, rfl, S.pgs.map V.str, i, rfl, S3.p, i.toNat, by unfold ixN; rw [List.length_map, if_pos hi, if_pos (by omega)], ?_⟩
          rw [hm]
          generalize upd H3 S.m (strL (S.pgs.set i.toNat z)) = H6 at ML old pd ia ol
          refine ⟨_, .inl ⟨_, .inr "plate", .inl pd, rfl, rfl⟩, _, rfl, S.dx, S.l, S.left, ia, S.pgs, ol, by omega, .inr (.inr (.inr ⟨i, rfl, fun z => absurd ⟨hi, by omega⟩ z, fun _ _ => ⟨true, hb6 _, (fun z => by cases z), fun _ z' ez p4 H4 hp4 g4 e4 => ?_⟩⟩))⟩
          cases ez
          exact reprs e4 (g4 _ _ (old _ _ p0n.1 p0n.2 e0)) .non good_non (by simp [tags]) (q H4 c2 s2 (S.to S.left (S.pgs.set i.toNat z)) ⟨rfl, rfl, rfl, rfl, rfl, by show (S.pgs.set i.toNat z).length ≤ _; rw [List.length_set]; exact Nat.le_succ _⟩ hP2 (g4 _ _ (old _ _ n1 n2 ep3)) (ML.su g4) (fun b o h1 h2 h3 h4 h5 e => g4 _ _ (old b o h4 h5 (gg _ _ h1 e))))
        · refine ⟨false, hb, iteT ⟨le2, fun p3 hp3 => ?_⟩⟩
          have g4 : Su H3 (upd H3 p3 (.tup [.str "sheet", v])) := .new hp3
          have e3 : upd H3 p3 (.tup [.str "sheet", v]) p3 = some (.tup [.str "sheet", v]) := upd_same
          generalize upd H3 p3 (.tup [.str "sheet", v]) = H4 at g4 e3
          have S4 := S3.su g4
          exact ⟨_, (dget S4).1, _, rfl, S.dx, S.l, S.left, S4.i, S.pgs, S4.o, by omega, .inr (.inr (.inr ⟨i, rfl, fun z => absurd ⟨hi, by omega⟩ z, fun _ _ => ⟨false, PageArg.su g4 hb, fun _ => badP p3 H4 g4 e3, fun z => by cases z⟩⟩))⟩
    · rw [decide_eq_false hi]
      refine iteT (ifT ⟨le2, fun p3 hp3 => ?_⟩)
      obtain ⟨H4, g4, e4, S4, told⟩ := place (fun z => hi z.1) p3 hp3
      rw [← e4]
      exact ⟨_, (dget S4).1, _, rfl, S.dx, S.l, S.left, S4.i, S.pgs, S4.o, by omega, .inr (.inr told)⟩
  · refine .inr ⟨IntArg.su g3 hb, iteT (ifT ⟨le2, fun p3 hp3 => ?_⟩)⟩
    have g4 : Su H3 (upd H3 p3 (.tup [.str "place", w])) := .new hp3
    have e3 : upd H3 p3 (.tup [.str "place", w]) p3 = some (.tup [.str "place", w]) := upd_same
    generalize upd H3 p3 (.tup [.str "place", w]) = H4 at g4 e3
    have S4 := S3.su g4
    exact ⟨_, (dget S4).1, _, rfl, S.dx, S.l, S.left, S4.i, S.pgs, S4.o, by omega, .inr (.inr (.inl ⟨IntArg.su (g3.trans g4) hb, badN p3 H4 g4 e3⟩))⟩
end Gd
/-! ### == by identity with the part given; a loop over enumerate -/
namespace Gd
open PySem PySem.Spec PyProof.Rows L2
theorem eqIdK {X : Cx} {k : Nat} (K : PySem.W.Frag) (hr : Room k X.A) (h : X.K = K := by rfl) : OpR X (compareOp .Eq) (rEqId K) := h ▸ op_eqId hr
/-- for i, x in enumerate(xs), the list stays as it is -/
theorem tForE {K : PySem.W.Frag} {ta : TA} {g : TG} {tb : TS} {D : Ends} {σ : L2.St} {H : Hp} {a : Addr} {xs : List V} (Pv : Nat → L2.St → Hp → Prop) (hta : ∀ R : List V → Hp → Prop, R [.ref a] H → ta σ H R) (h0 : Pv 0 σ H) (hl : ∀ i σ H, Pv i σ H → SqL K H a xs)
    (hs : ∀ i x σ H T, xs[i]? = some x → Pv i σ H → H T = none → g (.ref T) σ (upd H T (.tup [.int (i : Nat), x])) fun σ2 H2 => tb { D with nx := Pv (i + 1), ct := Pv (i + 1), bk := D.nx } σ2 H2) (hd : ∀ σ H, Pv xs.length σ H → D.nx σ H) : tFor (iEnum K ta) g tb D σ H := by
  refine hta _ ⟨a, xs, rfl, hl 0 σ H h0, fun i m σ H => m = xs.length - i ∧ i ≤ xs.length ∧ Pv i σ H, ⟨xs.length, by simp, Nat.zero_le _, h0⟩, ?_⟩
  rintro i m σ H ⟨rfl, hi, p⟩
  have q := hl i σ H p
  by_cases hlt : i < xs.length
  · refine .inr ⟨⟨xs, xs[i], q, by simp [hlt]⟩, Pv (i + 1), fun σ' H' p' => ⟨xs.length - (i + 1), by omega, rfl, hlt, p'⟩, fun v H' y => ?_⟩
    obtain ⟨T, x, rfl, hT, rfl, hx⟩ := y
    exact hs i x σ H T (hx xs q) p hT
  · have e : i = xs.length := by omega
    subst e
    exact .inl ⟨⟨xs, q, Nat.le_refl _⟩, hd σ H p⟩
end Gd
namespace Gd
open PySem PySem.Spec PyProof.Rows L2
/-- for i in range(n) -/
theorem tForR {ta : TA} {g : TG} {tb : TS} {D : Ends} {σ : L2.St} {H : Hp} {n : Nat} (Pv : Nat → L2.St → Hp → Prop) (hn : n < 1000000) (hta : ∀ R : List V → Hp → Prop, R [.int n] H → ta σ H R) (h0 : Pv 0 σ H)
    (hs : ∀ i σ H, i < n → Pv i σ H → g (.int (i : Nat)) σ H fun σ2 H2 => tb { D with nx := Pv (i + 1), ct := Pv (i + 1), bk := D.nx } σ2 H2) (hd : ∀ σ H, Pv n σ H → D.nx σ H) : tFor (iRng1 ta) g tb D σ H := by
  refine hta _ ⟨n, rfl, by omega, by omega, ?_⟩
  rw [show ((n : Int).toNat) = n from rfl]
  refine for_range (lo := 0) (n := n) Pv h0 (fun i σ H hi p => ?_) hd
  rw [show (0 : Int) + (i : Int) = i by omega]
  exact hs i σ H hi p
end Gd
/-! ### k91: the state of all scenes -/
namespace Gd
open PySem PySem.Spec PyProof.Rows L2
theorem upd_upd' {H : Hp} {a : Addr} {o u : HO} : upd (upd H a o) a u = upd H a u := by
  funext b
  by_cases e : b = a
  · rw [e, upd_same, upd_same]
  · rw [upd_ne e, upd_ne e, upd_ne e]
theorem dpBls {K : PySem.W.Frag} {H : Hp} {a : Addr} {bs : List Bool} (h : SqL K H a (bs.map V.bl)) : Dp K H (.ref a) (.list (bs.map PyData.bool)) := by
  refine .lst h ?_
  clear h
  induction bs with
  | nil => exact .nil
  | cons p r ih => exact .cons (.bl p) ih
theorem shBls {bs : List Bool} : (PyData.list (bs.map PyData.bool)).canLay0 = true ∧ (PyData.list (bs.map PyData.bool)).depth ≤ 64 := by
  have a : PyData.canLayAll0 (bs.map PyData.bool) = true ∧ PyData.depthAll (bs.map PyData.bool) ≤ 10 := by
    induction bs with
    | nil => exact ⟨rfl, by simp only [List.map_nil, PyData.depthAll]; omega⟩
    | cons p r ih =>
      obtain ⟨h1, h2⟩ := ih
      constructor
      · show (true && PyData.canLayAll0 (r.map PyData.bool)) = true
        rw [h1]; rfl
      · simp only [List.map_cons, PyData.depthAll, PyData.depth]
        omega
  exact ⟨a.1, by simp only [PyData.depth]; omega⟩
theorem suOwn {D : Addr} {H H' : Hp} {o : HO} (g : Su H H') (h : H D = none) : Su H (upd H' D o) := fun b u e => by
  have hne : b ≠ D := fun z => by rw [z, h] at e; cases e
  rw [upd_ne hne]; exact g b u e
theorem bools_eq {Ss : List Scn} {i : Nat} {S : Scn} (hi : Ss[i]? = some S) (hnd : (Ss.map (·.a)).Nodup) : ((Ss.take Ss.length).map fun S' => decide (S.a = S'.a)) = (List.range Ss.length).map fun (k : Nat) => decide ((k : Int) = (i : Int)) := by
  rw [List.take_length]
  refine List.ext_getElem (by rw [List.length_map, List.length_map, List.length_range]) fun k h1 h2 => ?_
  rw [List.getElem_map, List.getElem_map, List.getElem_range]
  have hk : k < Ss.length := by rw [List.length_map] at h1; exact h1
  obtain ⟨hil, e⟩ := List.getElem?_eq_some_iff.mp hi
  have a1 : i < (Ss.map (·.a)).length := by rw [List.length_map]; exact hil
  have a2 : k < (Ss.map (·.a)).length := by rw [List.length_map]; exact hk
  refine decide_eq_decide.mpr ⟨fun z => ?_, fun z => ?_⟩
  · have : (Ss.map (·.a))[i] = (Ss.map (·.a))[k] := by rw [List.getElem_map, List.getElem_map, e]; exact z
    have pw := List.pairwise_iff_getElem.mp hnd
    rcases Nat.lt_trichotomy i k with h | h | h
    · exact absurd this (pw i k a1 a2 h)
    · omega
    · exact absurd this.symm (pw k i a2 a1 h)
  · have z' : k = i := by omega
    subst z'
    rw [e]
theorem dpStrs {K : PySem.W.Frag} {H : Hp} {a : Addr} {ps : List PySem.Str} (h : SqL K H a (ps.map V.str)) : Dp K H (.ref a) (.list (ps.map PyData.str)) := by
  refine .lst h ?_
  clear h
  induction ps with
  | nil => exact .nil
  | cons p r ih => exact .cons (.str p) ih
theorem shStrs {ps : List PySem.Str} (h : ∀ z ∈ ps, PyData.strOk z = true) : (PyData.list (ps.map PyData.str)).canLay0 = true ∧ (PyData.list (ps.map PyData.str)).depth ≤ 64 := by
  have a : PyData.canLayAll0 (ps.map PyData.str) = true ∧ PyData.depthAll (ps.map PyData.str) ≤ 10 := by
    induction ps with
    | nil => exact ⟨rfl, by simp only [List.map_nil, PyData.depthAll]; omega⟩
    | cons p r ih =>
      obtain ⟨h1, h2⟩ := ih fun z hz => h z (List.mem_cons_of_mem _ hz)
      have h3 := h p List.mem_cons_self
      constructor
      · show (PyData.strOk p && PyData.canLayAll0 (r.map PyData.str)) = true
        rw [h3, h1]; rfl
      · simp only [List.map_cons, PyData.depthAll, PyData.depth]
        omega
  exact ⟨a.1, by simp only [PyData.depth]; omega⟩
theorem shaped_of {d : PyData} (h : d.canLay0 = true ∧ d.depth ≤ 64) : SeqAt.shaped d = true := by
  unfold SeqAt.shaped
  rw [h.1, decide_eq_true h.2]; rfl
theorem reprB {K : PySem.W.Frag} {H : Hp} {Q : VK} {b : Bool} (q : Q (.str (PyData.bool b).shown) H) : rRepr K [.bl b] H Q :=
  ⟨_, _, rfl, .bl b, rfl, rfl, by simp only [PyData.depth]; omega, by rw [sizeLine_eq]; cases b <;> decide +kernel, q⟩
theorem sc__law_state_right : FnScope ["_law_scenes", "_law_at", "_law_scene", "_law_plate", "_law_other", "_law_place"] ["_law_scenes"] (defScope s__law_state_right) := ⟨rfl, rfl, rfl, by decide +kernel, rfl, by decide +kernel, by decide +kernel⟩
theorem ok__law_state_right {P : Program} {w : World} {K : PySem.W.Frag} {mg : PySem.Str → Option Value} {base : Heap} (T : Txt K mg) (hCmp : CmpC K c_Disk) : Fg P w K mg base 6 a__law_state_right ["_law_scenes"] (sp1 fun x H Q E => ∃ (ss : Addr) (Ss : List Scn), x = .ref ss ∧ H ss = some (.lst (Ss.map fun S => V.ref S.sc)) ∧ Ss.length ≤ 3 ∧ (∀ S ∈ Ss, ScAt H S ∧ S.pgs.length ≤ 100) ∧ (Ss.map (·.a)).Nodup ∧ ∀ H', Su H H' → Q (.bl true) H') := by
  have SC := sc__law_state_right
  refine Fg.of1 T.F__law_state_right SC (fun fd F => F.bindsN fun _ _ _ _ _ _ us hl => match us, hl with | [_], _ => rfl) (fun cdv A outer s H v0 Q E hg hr h => ?_)
  refine ⟨_, PSs.nox (pss_cons (ps_for PassesOwn.never rfl (pi_enum rfl T.b_enumerate (pa_cons (pv 0) pa_nil)) (pg_tup rfl (pgs_cons (pg_name (i := 1) SC.nd rfl (Or.inr rfl)) (pgs_cons (pg_name (i := 2) SC.nd rfl (Or.inl rfl)) pgs_nil))) (pss_cons (ps_set (i := 3) SC.nd rfl (Or.inr rfl) (pe_dget (hu_of hr) (pv 2) pe_str (fun _ _ => rfl))) (pss_cons (ps_if (PW.pt (pw_or (pt_cmpR op_ne (pe_callB (call_lenOwn T.m_Disk___len__ (ok_Disk___len__ T) hr) rfl T.b_len rfl (pa_cons (pv 3) pa_nil)) (pe_callB (lenK K) rfl T.b_len rfl (pa_cons (pe_dget (hu_of hr) (pv 2) pe_str (fun _ _ => rfl)) pa_nil)) (nomark _)) (pw_or1 (pt_cmpR (op_neD hr.units) (pm0 (pv 3) T.cl_Disk T.m_Disk_pages (ok_Disk_pages T) hr passL) (pe_dget (hu_of hr) (pv 2) pe_str (fun _ _ => rfl)) (nomark _))))) (pss_one (ps_ret pe_bl)) pss_nil) (pss_cons (ps_if (pt_cmpR op_ne (pe_callB (call_repr hg hr) rfl T.b_repr rfl (pa_cons (pprop (pv 3) T.cl_Disk T.q_Disk_has_crashed (ok_Disk_has_crashed T) hr passL) pa_nil)) (pe_callB (call_repr hg hr) rfl T.b_repr rfl (pa_cons (pe_cmpR op_eq (pe_dget (hu_of hr) (pv 2) pe_str (fun _ _ => rfl)) pe_int (nomark _)) pa_nil)) (nomark _)) (pss_one (ps_ret pe_bl)) pss_nil) (pss_cons (ps_expr (pe_bm PySem.F.plainAttrs_list PySem.F.slot_list_append PySem.F.type_list_append mt_append (pm0 (pv 3) T.cl_Disk T.m_Disk_pages (ok_Disk_pages T) hr passL) (pa_cons (pe_op op_repS pe_str pe_int) pa_nil))) (pss_one (ps_if (pt_cmpR (op_neD hr.units) (pe_lc (own := [("_law_other", 4)]) (g := gName 4) (tt := tYes) rfl SC.nd (piL K (pv 0)) (blkOk_by (own := [("_law_other", 4)]) (N := ["_law_scenes", "_law_at", "_law_scene", "_law_plate", "_law_other", "_law_place"]) (sc := defScope s__law_state_right) (by decide +kernel)) (fun _ _ _ _ _ => pg_name (i := 4) SC.nd rfl (Or.inl rfl)) (fun _ _ _ _ _ => pts_nil) (fun _ _ _ _ _ => (pe_cmpR (eqIdK K hr) (pv 3) (pe_dget (hu_of hr) (pv 4) pe_str (fun _ _ => rfl)) (nomark _)))) (pe_lc (own := [("_law_place", 5)]) (g := gName 5) (tt := tYes) rfl SC.nd (pi_range1 rfl T.b_range (pa_cons (pe_callB (lenK K) rfl T.b_len rfl (pa_cons (pv 0) pa_nil)) pa_nil)) (blkOk_by (own := [("_law_place", 5)]) (N := ["_law_scenes", "_law_at", "_law_scene", "_law_plate", "_law_other", "_law_place"]) (sc := defScope s__law_state_right) (by decide +kernel)) (fun _ _ _ _ _ => pg_name (i := 5) SC.nd rfl (Or.inl rfl)) (fun _ _ _ _ _ => pts_nil) (fun _ _ _ _ _ => (pe_cmpR op_eq (pv 5) (pv 1) (nomark _)))) (nomark _)) (pss_one (ps_ret pe_bl)) pss_nil))))))) (pss_one (ps_ret pe_bl))), ?_⟩
  rw [show L2.start ["_law_scenes", "_law_at", "_law_scene", "_law_plate", "_law_other", "_law_place"] [v0] = [some v0, none, none, none, none, none] from rfl]
  try dsimp only [cxOf, Cx.nox]
  obtain ⟨ss, Ss, rfl, hss, hlen, hS, hnd, q⟩ := h
  simp only [tRet, tRetN, tNext, tSeq, tDrop, tAsg, gName, tIfS, tAndV, tOrV, tNotV, tAnd, tOr, tNot, tB, tTest, tIf, tCB, tCons, tVar, tC, tNil, tOp, tUn, tCall, tCallS, tMeth, tMake, tProp, tFld, sFld, sFldAug, tLst, tTup, tChain, tPar, tPar3, rI, rI0, rU, rEq, rNe, rIsi, rAppend, sp0, sp1, sp2, sp3, sp4, List.nil_append, List.append_nil, List.cons_append, List.cons.injEq, List.getElem?_cons_zero, List.getElem?_cons_succ, List.set_cons_zero, List.set_cons_succ, Option.some.injEq, V.int.injEq, V.str.injEq, V.bl.injEq, V.ref.injEq, V.ty.injEq, exists_eq_left', exists_eq_left, exists_eq_right, exists_and_left, exists_and_right, and_true, true_and, and_assoc, exists_const, exists_eq, reduceCtorEq, false_and, and_false, or_false, false_or, tDGet, tBM, rLen]
  refine tForE (a := ss) (xs := Ss.map fun S => V.ref S.sc) (fun i σ H' => Su H H' ∧ ∃ x1 x2 x3 x4 x5, σ = [some (.ref ss), x1, x2, x3, x4, x5]) (fun R r => ⟨_, rfl, r⟩) ⟨.refl H, _, _, _, _, _, rfl⟩ (fun i σ H' p => sqL_of (p.1 _ _ hss)) (fun i x σ H' T0 hx p hT => ?_) (fun σ H' p => q H' p.1)
  obtain ⟨g1, x1, x2, x3, x4, x5, rfl⟩ := p
  obtain ⟨S, hSi, rfl⟩ : ∃ S, Ss[i]? = some S ∧ x = .ref S.sc := by
    rw [List.getElem?_map] at hx
    obtain ⟨S, h1, h2⟩ := Option.map_eq_some_iff.mp hx
    exact ⟨S, h1, h2.symm⟩
  have hm : S ∈ Ss := List.mem_of_getElem? hSi
  have g2 : Su H (upd H' T0 (.tup [.int (i : Nat), .ref S.sc])) := g1.trans (.new hT)
  have eT : upd H' T0 (.tup [.int (i : Nat), .ref S.sc]) T0 = some (.tup [.int (i : Nat), .ref S.sc]) := upd_same
  generalize upd H' T0 (.tup [.int (i : Nat), .ref S.sc]) = H2 at g2 eT
  refine ⟨T0, _, rfl, .of eT, rfl, _, _, rfl, ?_⟩
  simp only [tRet, tRetN, tNext, tSeq, tDrop, tAsg, gName, tIfS, tAndV, tOrV, tNotV, tAnd, tOr, tNot, tB, tTest, tIf, tCB, tCons, tVar, tC, tNil, tOp, tUn, tCall, tCallS, tMeth, tMake, tProp, tFld, sFld, sFldAug, tLst, tTup, tChain, tPar, tPar3, rI, rI0, rU, rEq, rNe, rIsi, rAppend, sp0, sp1, sp2, sp3, sp4, List.nil_append, List.append_nil, List.cons_append, List.cons.injEq, List.getElem?_cons_zero, List.getElem?_cons_succ, List.set_cons_zero, List.set_cons_succ, Option.some.injEq, V.int.injEq, V.str.injEq, V.bl.injEq, V.ref.injEq, V.ty.injEq, exists_eq_left', exists_eq_left, exists_eq_right, exists_and_left, exists_and_right, and_true, true_and, and_assoc, exists_const, exists_eq, reduceCtorEq, false_and, and_false, or_false, false_or, tDGet, tBM, rLen, gCons, gNil, tCall]
  have S2 := (hS S hm).1.su g2
  have hz := (hS S hm).2
  refine ⟨_, (dget S2).1, S.a, S.dx, _, rfl, S2.i, ⟨S.a, rfl, S.dx, S.l, ⟨S.left, S2.i⟩, S.pgs, S2.o, S.pgs.length, rfl, by omega, by omega, _, (dget S2).2.1, S.pgs.length, .inl ⟨_, sqL_str S2.p, (List.length_map _).symm⟩, rfl, ?_⟩⟩
  rw [show decide (V.int (S.pgs.length : Int) = V.int (S.pgs.length : Int)) = true from decide_eq_true rfl]
  refine iteF ⟨S.a, rfl, S.dx, _, S2.i, rfl, S.a, rfl, S.dx, S.l, ⟨_, S2.i⟩, S.pgs, S2.o, fun p hp => ?_⟩
  have g3 : Su H2 (upd H2 p (strL S.pgs)) := .new hp
  have e3 : upd H2 p (strL S.pgs) p = some (strL S.pgs) := upd_same
  generalize upd H2 p (strL S.pgs) = H3 at g3 e3
  have S3 := S2.su g3
  have sh := shStrs S3.ok
  refine ⟨_, (dget S3).2.1, _, _, dpStrs (sqL_str e3), dpStrs (sqL_str S3.p), shaped_of sh, shaped_of sh, _, rfl, ?_⟩
  rw [SeqAt.eqv_refl _ sh.1]
  refine iteF ⟨S.a, rfl, ⟨S.dx, _, S3.i⟩, S.dx, S.l, S.left, S3.i, ⟨_, S3.o⟩, reprB ⟨_, (dget S3).2.2, by cases S.left <;> rfl, ?_⟩⟩
  rw [lv_dec]
  refine reprB ⟨rfl, ?_⟩
  rw [decide_eq_true (rfl : V.str (PyData.bool (decide (S.left = some 0))).shown = V.str (PyData.bool (decide (S.left = some 0))).shown)]
  refine iteF ⟨S.a, rfl, S.dx, _, S3.i, rfl, S.a, rfl, S.dx, S.l, ⟨_, S3.i⟩, S.pgs, S3.o, fun p5 hp5 => ⟨.inl ⟨rfl, _, sqL_str upd_same⟩, "a", 32, rfl, rfl, by omega, by omega, by decide, by decide, by rw [sizeLine_eq]; decide +kernel, _, upd_same, by rw [List.length_map, sizeLine_eq]; omega, ?_⟩⟩
  rw [upd_upd']
  have g4 : Su H3 (upd H3 p5 (.lst (S.pgs.map V.str ++ [.str ⟨(List.replicate (32 : Int).toNat (PySem.Str.cps "a")).foldl (· ++ ·) #[]⟩]))) := .new hp5
  generalize upd H3 p5 (.lst (S.pgs.map V.str ++ [.str ⟨(List.replicate (32 : Int).toNat (PySem.Str.cps "a")).foldl (· ++ ·) #[]⟩])) = H4 at g4
  have g04 : Su H H4 := (g2.trans g3).trans g4
  refine tLcL (a := ss) (xs := Ss.map fun S => V.ref S.sc) (H1 := H4) (fun D j H' => (H4 D = none ∧ Su H4 H' ∧ H' D = some (.lst (((Ss.take j).map fun S' => decide (S.a = S'.a)).map V.bl)))) (fun R r => ⟨_, rfl, r⟩) (sqL_of (g04 _ _ hss)) (fun D hD => ?_) (fun D j H' hD p => ?_) (fun D j x H' hD hx p => ?_) (fun D H' hD p => ?_)
  · exact ⟨hD, .new hD, upd_same⟩
  · exact sqL_of (p.2.1 _ _ (g04 _ _ hss))
  · obtain ⟨_, gD, eD⟩ := p
    obtain ⟨S', hSj, rfl⟩ : ∃ S', Ss[j]? = some S' ∧ x = .ref S'.sc := by
      rw [List.getElem?_map] at hx
      obtain ⟨S', h1, h2⟩ := Option.map_eq_some_iff.mp hx
      exact ⟨S', h1, h2.symm⟩
    have SA := (hS S hm).1.su (g04.trans gD)
    have SB := (hS S' (List.mem_of_getElem? hSj)).1.su (g04.trans gD)
    simp only [tRet, tRetN, tNext, tSeq, tDrop, tAsg, gName, tIfS, tAndV, tOrV, tNotV, tAnd, tOr, tNot, tB, tTest, tIf, tCB, tCons, tVar, tC, tNil, tOp, tUn, tCall, tCallS, tMeth, tMake, tProp, tFld, sFld, sFldAug, tLst, tTup, tChain, tPar, tPar3, rI, rI0, rU, rEq, rNe, rIsi, rAppend, sp0, sp1, sp2, sp3, sp4, List.nil_append, List.append_nil, List.cons_append, List.cons.injEq, List.getElem?_cons_zero, List.getElem?_cons_succ, List.set_cons_zero, List.set_cons_succ, Option.some.injEq, V.int.injEq, V.str.injEq, V.bl.injEq, V.ref.injEq, V.ty.injEq, exists_eq_left', exists_eq_left, exists_eq_right, exists_and_left, exists_and_right, and_true, true_and, and_assoc, exists_const, exists_eq, reduceCtorEq, false_and, and_false, or_false, false_or, tDGet, tBM, rLen, gCons, gNil, tCall, wipe, List.map_cons, List.map_nil]
    have hlt : ((Ss.take j).map fun S' => decide (S.a = S'.a)).length < 4 := by rw [List.length_map, List.length_take]; omega
    refine ⟨_, (dget SB).1, S.a, S'.a, c_Disk, S.dx, S'.dx, _, _, rfl, rfl, SA.i, SB.i, hCmp, _, eD, by rw [List.length_map, sizeLine_eq]; omega, hD, suOwn gD hD, ?_⟩
    rw [upd_same, List.take_succ, hSj, List.map_append, List.map_append]
    rfl
  · obtain ⟨_, gD, eD⟩ := p
    have hss' := (g04.trans gD) _ _ hss
    refine tLcR (n := Ss.length) (H1 := H') (fun D2 k H2' => H' D2 = none ∧ Su H' H2' ∧ H2' D2 = some (.lst (((List.range k).map fun (k : Nat) => decide ((k : Int) = (i : Int))).map V.bl))) (by omega) (fun R r => ⟨_, rfl, _, Ss.length, rfl, .inl ⟨_, sqL_of hss', (List.length_map _).symm⟩, r⟩) (fun D2 hD2 => ⟨hD2, .new hD2, upd_same⟩) (fun D2 k H2' hk p => ?_) (fun D2 H2' hD2 p => ?_)
    · obtain ⟨hD2, gE, eE⟩ := p
      simp only [tRet, tRetN, tNext, tSeq, tDrop, tAsg, gName, tIfS, tAndV, tOrV, tNotV, tAnd, tOr, tNot, tB, tTest, tIf, tCB, tCons, tVar, tC, tNil, tOp, tUn, tCall, tCallS, tMeth, tMake, tProp, tFld, sFld, sFldAug, tLst, tTup, tChain, tPar, tPar3, rI, rI0, rU, rEq, rNe, rIsi, rAppend, sp0, sp1, sp2, sp3, sp4, List.nil_append, List.append_nil, List.cons_append, List.cons.injEq, List.getElem?_cons_zero, List.getElem?_cons_succ, List.set_cons_zero, List.set_cons_succ, Option.some.injEq, V.int.injEq, V.str.injEq, V.bl.injEq, V.ref.injEq, V.ty.injEq, exists_eq_left', exists_eq_left, exists_eq_right, exists_and_left, exists_and_right, and_true, true_and, and_assoc, exists_const, exists_eq, reduceCtorEq, false_and, and_false, or_false, false_or, tDGet, tBM, rLen, gCons, gNil, tCall, wipe, List.map_cons, List.map_nil]
      have hlt : ((List.range k).map fun (k : Nat) => decide ((k : Int) = (i : Int))).length < 4 := by rw [List.length_map, List.length_range]; omega
      refine ⟨rfl, _, eE, by rw [List.length_map, sizeLine_eq]; omega, hD2, suOwn gE hD2, ?_⟩
      rw [upd_same, List.range_succ, List.map_append, List.map_append]
      rfl
    · obtain ⟨hD2, gE, eE⟩ := p
      have e1 := gE _ _ eD
      rw [List.length_map, bools_eq hSi hnd] at e1
      refine ⟨_, _, dpBls (sqL_of e1), dpBls (sqL_of eE), shaped_of shBls, shaped_of shBls, _, rfl, ?_⟩
      rw [SeqAt.eqv_refl _ shBls.1]
      exact iteF ⟨(g04.trans gD).trans gE, _, rfl⟩
end Gd
/-! ### k91: all scenes together -/
namespace Gd
open PySem PySem.Spec PyProof.Rows L2
structure Al (p ss : Addr) (n : Nat) (Ss : List Scn) (H : Hp) : Prop where
  pot : ∃ c s, PotOk c s ∧ H p = some (potO c s)
  lst : H ss = some (.lst (Ss.map fun S => V.ref S.sc))
  ne : Ss ≠ []
  len : Ss.length ≤ 3
  sc : ∀ S ∈ Ss, ScAt H S ∧ S.pgs.length ≤ n
  na : (Ss.map (·.a)).Nodup
  nsc : (Ss.map (·.sc)).Nodup
  nl : (p :: ss :: Ss.flatMap fun S => [S.l, S.m]).Nodup
theorem Al.su {p ss : Addr} {n : Nat} {Ss : List Scn} {H H' : Hp} (g : Su H H') (h : Al p ss n Ss H) : Al p ss n Ss H' := by
  obtain ⟨c, s, hP, e⟩ := h.pot
  exact ⟨⟨c, s, hP, g _ _ e⟩, g _ _ h.lst, h.ne, h.len, fun S hS => ⟨(h.sc S hS).1.su g, (h.sc S hS).2⟩, h.na, h.nsc, h.nl⟩
theorem sep_l {Ss : List Scn} {j k : Nat} {S T : Scn} (hj : Ss[j]? = some S) (hk : Ss[k]? = some T) (hjk : j ≠ k) (nl : (Ss.flatMap fun S => [S.l, S.m]).Nodup) : T.l ≠ S.l ∧ T.l ≠ S.m ∧ T.m ≠ S.l ∧ T.m ≠ S.m := by
  have pw := (List.pairwise_flatMap.mp nl).2
  have q := List.pairwise_iff_getElem.mp pw
  obtain ⟨hj1, hj2⟩ := List.getElem?_eq_some_iff.mp hj
  obtain ⟨hk1, hk2⟩ := List.getElem?_eq_some_iff.mp hk
  rcases Nat.lt_or_gt_of_ne hjk with h | h
  · have z := q j k hj1 hk1 h
    rw [hj2, hk2] at z
    exact ⟨(z S.l (by simp) T.l (by simp)).symm, (z S.m (by simp) T.l (by simp)).symm, (z S.l (by simp) T.m (by simp)).symm, (z S.m (by simp) T.m (by simp)).symm⟩
  · have z := q k j hk1 hj1 h
    rw [hj2, hk2] at z
    exact ⟨z T.l (by simp) S.l (by simp), z T.l (by simp) S.m (by simp), z T.m (by simp) S.l (by simp), z T.m (by simp) S.m (by simp)⟩
theorem sep_map {Ss : List Scn} {f : Scn → Addr} {j k : Nat} {S T : Scn} (hj : Ss[j]? = some S) (hk : Ss[k]? = some T) (hjk : j ≠ k) (nd : (Ss.map f).Nodup) : f T ≠ f S := by
  have q := List.pairwise_iff_getElem.mp nd
  obtain ⟨hj1, hj2⟩ := List.getElem?_eq_some_iff.mp hj
  obtain ⟨hk1, hk2⟩ := List.getElem?_eq_some_iff.mp hk
  have l1 : j < (Ss.map f).length := by rw [List.length_map]; exact hj1
  have l2 : k < (Ss.map f).length := by rw [List.length_map]; exact hk1
  rcases Nat.lt_or_gt_of_ne hjk with h | h
  · have z := q j k l1 l2 h
    rw [List.getElem_map, List.getElem_map, hj2, hk2] at z
    exact z.symm
  · have z := q k j l2 l1 h
    rw [List.getElem_map, List.getElem_map, hj2, hk2] at z
    exact z
theorem map_set_same {β : Type} {Ss : List Scn} {j : Nat} {S S' : Scn} {f : Scn → β} (hj : Ss[j]? = some S) (e : f S' = f S) : (Ss.set j S').map f = Ss.map f := by
  obtain ⟨h1, h2⟩ := List.getElem?_eq_some_iff.mp hj
  rw [List.map_set, e, ← h2]
  refine List.ext_getElem? fun k => ?_
  by_cases hk : j = k
  · subst hk
    rw [List.getElem?_set_self (by rw [List.length_map]; exact h1), List.getElem?_map, List.getElem?_eq_getElem h1]
    rfl
  · rw [List.getElem?_set_ne hk]
theorem Al.step {p ss : Addr} {n j : Nat} {Ss : List Scn} {S S' : Scn} {H H' : Hp} (h : Al p ss n Ss H) (hj : Ss[j]? = some S) (lk : S.Like S') (fr : Fr p S H H') (hp : ∃ c s, PotOk c s ∧ H' p = some (potO c s)) (hS : ScAt H' S') : Al p ss (n + 1) (Ss.set j S') H' := by
  obtain ⟨k1, k2, k3, k4, k5, k6⟩ := lk
  have hm : S ∈ Ss := List.mem_of_getElem? hj
  obtain ⟨A, hA⟩ := h.sc S hm
  obtain ⟨c0, s0, _, ep⟩ := h.pot
  have nl := List.nodup_cons.mp h.nl
  have nl2 := List.nodup_cons.mp nl.2
  have inl : ∀ T ∈ Ss, T.l ∈ (Ss.flatMap fun S => [S.l, S.m]) ∧ T.m ∈ (Ss.flatMap fun S => [S.l, S.m]) := fun T hT => ⟨List.mem_flatMap.mpr ⟨T, hT, by simp⟩, List.mem_flatMap.mpr ⟨T, hT, by simp⟩⟩
  have fm : ((Ss.set j S').flatMap fun S => [S.l, S.m]) = Ss.flatMap fun S => [S.l, S.m] := by
    rw [List.flatMap_def, List.flatMap_def, map_set_same (f := fun S => [S.l, S.m]) hj (by rw [k4, k5])]
  refine ⟨hp, ?_, ?_, by rw [List.length_set]; exact h.len, fun T hT => ?_, by rw [map_set_same (f := (·.a)) hj k2]; exact h.na, by rw [map_set_same (f := (·.sc)) hj k1]; exact h.nsc, by rw [fm]; exact h.nl⟩
  · rw [map_set_same (f := fun S => V.ref S.sc) hj (by rw [k1])]
    exact fr ss _ (fun e => nl.1 (by rw [← e]; simp)) (ne2 h.lst A.d (fun z => by cases z)) (ne2 h.lst A.i (fun z => by cases z)) (fun e => nl2.1 (by rw [e]; exact (inl S hm).1)) (fun e => nl2.1 (by rw [e]; exact (inl S hm).2)) h.lst
  · intro e
    have := congrArg List.length e
    rw [List.length_set] at this
    exact h.ne (List.length_eq_zero_iff.mp this)
  · obtain ⟨k, hk⟩ := List.getElem?_of_mem hT
    by_cases hjk : j = k
    · subst hjk
      have hlt : j < Ss.length := (List.getElem?_eq_some_iff.mp hj).1
      rw [List.getElem?_set_self hlt] at hk
      cases hk
      exact ⟨hS, by omega⟩
    · rw [List.getElem?_set_ne hjk] at hk
      have hT' : T ∈ Ss := List.mem_of_getElem? hk
      obtain ⟨B, hB⟩ := h.sc T hT'
      obtain ⟨s1, s2, s3, s4⟩ := sep_l hj hk hjk nl2.2
      have s5 : T.sc ≠ S.sc := sep_map (f := (·.sc)) hj hk hjk h.nsc
      have s6 : T.a ≠ S.a := sep_map (f := (·.a)) hj hk hjk h.na
      refine ⟨⟨fr _ _ (ne2 B.d ep (fun z => by cases z)) s5 (ne2 B.d A.i (fun z => by cases z)) (ne2 B.d A.o (fun z => by cases z)) (ne2 B.d A.p (fun z => by cases z)) B.d, fr _ _ (ne2 B.i ep (fun z => by cases z)) (ne2 B.i A.d (fun z => by cases z)) s6 (ne2 B.i A.o (fun z => by cases z)) (ne2 B.i A.p (fun z => by cases z)) B.i,
        fr _ _ (fun e => nl.1 (by rw [← e]; exact List.mem_cons_of_mem _ (inl T hT').1)) (ne2 B.o A.d (fun z => by cases z)) (ne2 B.o A.i (fun z => by cases z)) s1 s2 B.o, fr _ _ (fun e => nl.1 (by rw [← e]; exact List.mem_cons_of_mem _ (inl T hT').2)) (ne2 B.p A.d (fun z => by cases z)) (ne2 B.p A.i (fun z => by cases z)) s3 s4 B.p, B.ne, B.ok⟩, by omega⟩
theorem Al.more {p ss : Addr} {n : Nat} {Ss : List Scn} {N : Scn} {H H' : Hp} (h : Al p ss n Ss H) (h3 : Ss.length < 3) (g : Gr ss H H') (hl : H' ss = some (.lst (Ss.map (fun S => V.ref S.sc) ++ [.ref N.sc]))) (hN : ScAt H' N) (hn : N.pgs.length ≤ n) (f1 : H N.sc = none) (f2 : H N.a = none) (f3 : H N.l = none) (f4 : H N.m = none) : Al p ss n (Ss ++ [N]) H' := by
  obtain ⟨c, s, hP, ep⟩ := h.pot
  have nl := List.nodup_cons.mp h.nl
  have nl2 := List.nodup_cons.mp nl.2
  have out : ∀ x, H x = none → x ∉ (p :: ss :: Ss.flatMap fun S => [S.l, S.m]) := fun x hx hm => by
    rcases List.mem_cons.mp hm with e | hm
    · rw [e, ep] at hx; cases hx
    · rcases List.mem_cons.mp hm with e | hm
      · rw [e, h.lst] at hx; cases hx
      · obtain ⟨T, hT, hx'⟩ := List.mem_flatMap.mp hm
        have A := (h.sc T hT).1
        simp only [List.mem_cons, List.not_mem_nil, or_false] at hx'
        rcases hx' with e | e
        · rw [e, A.o] at hx; cases hx
        · rw [e, A.p] at hx; cases hx
  refine ⟨⟨c, s, hP, g _ _ (fun e => nl.1 (by rw [e]; simp)) ep⟩, by rw [hl, List.map_append]; rfl, by simp, by rw [List.length_append]; show Ss.length + 1 ≤ 3; omega, fun T hT => ?_, ?_, ?_, ?_⟩
  · rcases List.mem_append.mp hT with hT | hT
    · obtain ⟨B, hB⟩ := h.sc T hT
      have z : T.l ≠ ss ∧ T.m ≠ ss := ⟨fun e => nl2.1 (List.mem_flatMap.mpr ⟨T, hT, by rw [e]; simp⟩), fun e => nl2.1 (List.mem_flatMap.mpr ⟨T, hT, by rw [e]; simp⟩)⟩
      exact ⟨⟨g _ _ (ne2 B.d h.lst (fun z => by cases z)) B.d, g _ _ (ne2 B.i h.lst (fun z => by cases z)) B.i, g _ _ z.1 B.o, g _ _ z.2 B.p, B.ne, B.ok⟩, hB⟩
    · rw [List.mem_singleton.mp hT]; exact ⟨hN, hn⟩
  · rw [List.map_append]
    refine List.nodup_append.mpr ⟨h.na, by simp, fun x hx y hy e => ?_⟩
    obtain ⟨T, hT, rfl⟩ := List.mem_map.mp hx
    simp only [List.map_cons, List.map_nil, List.mem_singleton] at hy
    have B := (h.sc T hT).1.i
    rw [e, hy, f2] at B; cases B
  · rw [List.map_append]
    refine List.nodup_append.mpr ⟨h.nsc, by simp, fun x hx y hy e => ?_⟩
    obtain ⟨T, hT, rfl⟩ := List.mem_map.mp hx
    simp only [List.map_cons, List.map_nil, List.mem_singleton] at hy
    have B := (h.sc T hT).1.d
    rw [e, hy, f1] at B; cases B
  · have e : (p :: ss :: (Ss ++ [N]).flatMap fun S => [S.l, S.m]) = (p :: ss :: Ss.flatMap fun S => [S.l, S.m]) ++ [N.l, N.m] := by simp
    rw [e]
    refine List.nodup_append.mpr ⟨h.nl, by simp [hN.ne], fun x hx y hy e => ?_⟩
    simp only [List.mem_cons, List.not_mem_nil, or_false] at hy
    rcases hy with hy | hy
    · exact out _ f3 (by rw [← hy, ← e]; exact hx)
    · exact out _ f4 (by rw [← hy, ← e]; exact hx)
theorem Al.repot {p ss : Addr} {n : Nat} {Ss : List Scn} {H : Hp} {c s : Int} (h : Al p ss n Ss H) (hP : PotOk c s) : Al p ss n Ss (upd H p (potO c s)) := by
  obtain ⟨c0, s0, _, ep⟩ := h.pot
  have nl := List.nodup_cons.mp h.nl
  refine ⟨⟨c, s, hP, upd_same⟩, ?_, h.ne, h.len, fun T hT => ?_, h.na, h.nsc, h.nl⟩
  · rw [upd_ne (fun e => nl.1 (by rw [← e]; simp))]; exact h.lst
  · obtain ⟨B, hB⟩ := h.sc T hT
    have i1 : T.l ≠ p := fun e => nl.1 (List.mem_cons_of_mem _ (List.mem_flatMap.mpr ⟨T, hT, by rw [e]; simp⟩))
    have i2 : T.m ≠ p := fun e => nl.1 (List.mem_cons_of_mem _ (List.mem_flatMap.mpr ⟨T, hT, by rw [e]; simp⟩))
    exact ⟨⟨by rw [upd_ne (ne2 B.d ep (fun z => by cases z))]; exact B.d, by rw [upd_ne (ne2 B.i ep (fun z => by cases z))]; exact B.i, by rw [upd_ne i1]; exact B.o, by rw [upd_ne i2]; exact B.p, B.ne, B.ok⟩, hB⟩
/-- these scenes' objects are new since H -/
def OldN (H : Hp) (Ss : List Scn) : Prop := ∀ S ∈ Ss, H S.sc = none ∧ H S.a = none ∧ H S.l = none ∧ H S.m = none
theorem OldN.set {H : Hp} {Ss : List Scn} {j : Nat} {S S' : Scn} (h : OldN H Ss) (hS : S ∈ Ss) (lk : S.Like S') : OldN H (Ss.set j S') := fun T hT => by
  rcases List.mem_or_eq_of_mem_set hT with e | e
  · exact h T e
  · obtain ⟨k1, k2, _, k4, k5, _⟩ := lk
    rw [e, k1, k2, k4, k5]; exact h S hS
theorem Fr.gr {p : Addr} {S : Scn} {H0 H H' : Hp} (g : Gr p H0 H) (f : Fr p S H H') (n : H0 S.sc = none ∧ H0 S.a = none ∧ H0 S.l = none ∧ H0 S.m = none) : Gr p H0 H' := fun b o hb e =>
  f b o hb (ne_of_none e n.1) (ne_of_none e n.2.1) (ne_of_none e n.2.2.1) (ne_of_none e n.2.2.2) (g b o hb e)
theorem Gr.su {p : Addr} {H H1 H2 : Hp} (g : Gr p H H1) (s : Su H1 H2) : Gr p H H2 := fun b o hb e => s _ _ (g b o hb e)
theorem su_made {H : Hp} {x dx : Addr} {o : HO} (h1 : H x = none) (h2 : H dx = none) : Su H (upd (upd H dx (.own x)) x o) := fun b u e => by
  rw [upd_ne (ne_of_none e h1), upd_ne (ne_of_none e h2)]; exact e
theorem su_disk {H H1 : Hp} {x dx l : Addr} {o : HO} (h1 : H x = none) (h2 : H dx = none) (hl : upd (upd H dx (.own x)) x o l = none) (k1 : ∀ b, b ≠ x → b ≠ l → H1 b = upd (upd H dx (.own x)) x o b) : Su H H1 := fun b u e => by
  rw [k1 b (ne_of_none e h1) (ne_of_none (su_made h1 h2 b u e) hl)]; exact su_made h1 h2 b u e
end Gd
/-! ### an instance is not a text -/
namespace Gd
open PySem PySem.Spec PyProof.Rows L2
section
variable {prog : Program} {w : World} {A : Around} {E : Value → Shared → Prop} {h : Heap} {g : Array GenState} {d : Drawn} {tk : Nat} {os : OsState} {C x : Addr} {bm : List Value} {B : String} {y : PySem.Str} {t : Tok}
theorem objEq_entry_text {M : Model} {s : Shared} {Q : Fin → Shared → Prop} (hq : Q (.done (.ret .notImplemented)) s) : wpAny M A (Builtin.«object.__eq__» ⟨[.ref x, .str y t], []⟩) Q E s := by
  unfold Builtin.«object.__eq__»
  repeat (first | wp_step)
  exact hq
theorem special_eq_text (FB : CmpFacts B bm) (X : h.CmpInst x C bm) {Q : Option Value → Shared → Prop} (hq : Q (some .notImplemented) ⟨h, g, d, tk, os⟩) :
    wpAny (model prog w) A (callSpecialIfBound? (.ref x) "__eq__" [.str y t]) Q E ⟨h, g, d, tk, os⟩ := by
  obtain ⟨o, nm, q, N, bs, hdct, sn, sub, ab, col, dd, k0, k1, k2, k3, k5, newId, mN, hx, hc, hC, hn, he, _⟩ := id X
  exact wpAny_callSpecialIfBound?_inst hx hc hC hn he FB.mro FB.eq (wpAny_call (codeAny_call_builtin FB.eq.plain F.cmpEntry_eq (wpAny_check_slot_inst F.cmpKind_eq F.cmpSplit_eq (F.cmpArgs_eq _ _) FB.hasObject hx hc hC (objEq_entry_text hq))))
theorem objNe_entry_text (FB : CmpFacts B bm) (X : h.CmpInst x C bm) (hu : A.units < cLine) {Q : Fin → Shared → Prop} (hq : Q (.done (.ret .notImplemented)) ⟨h, g, d, tk, os⟩) : wpAny (model prog w) A (Builtin.«object.__ne__» ⟨[.ref x, .str y t], []⟩) Q E ⟨h, g, d, tk, os⟩ := by
  unfold Builtin.«object.__ne__»
  repeat (first | with_reducible refine wpAny_cRoomFor hu ?_ | with_reducible refine special_eq_text FB X ?_ | wp_step)
  exact hq
theorem tryNe_text (FB : CmpFacts B bm) (X : h.CmpInst x C bm) (hu : A.units + 1 < cLine) {Q : Option Value → Shared → Prop} (hq : Q none ⟨h, g, d, tk, os⟩) : wpAny (model prog w) A (tryCompare (.ref x) "__ne__" (.str y t)) Q E ⟨h, g, d, tk, os⟩ := by
  obtain ⟨o, nm, q, N, bs, hdct, sn, sub, ab, col, dd, k0, k1, k2, k3, k5, newId, mN, hx, hc, hC, hn, _, hne⟩ := id X
  simp only [tryCompare]
  refine wpAny_bind (wpAny_callSpecialIfBound?_inst hx hc hC hn hne FB.mro FB.ne (wpAny_call (codeAny_call_builtin FB.ne.plain F.cmpEntry_ne
    (wpAny_check_slot_inst F.cmpKind_ne F.cmpSplit_ne (F.cmpArgs_ne _ _) FB.hasObject hx hc hC (objNe_entry_text (A := A.in1) FB X hu ?_)))))
  exact wpAny_pure hq
theorem strNe_entry_ref {M : Model} {o : Obj} (hx : h.get? x = some o) (hp : o.data = .plain) {Q : Fin → Shared → Prop} (hq : Q (.done (.ret .notImplemented)) ⟨h, g, d, tk, os⟩) : wpAny M A (Builtin.«str.__ne__» ⟨[.str y t, .ref x], []⟩) Q E ⟨h, g, d, tk, os⟩ := by
  wp_walk
  rw [hp]
  refine wpAny_pure ?_
  wp_walk
  exact hq
theorem tryStrNe_ref {o : Obj} (hx : h.get? x = some o) (hp : o.data = .plain) {Q : Option Value → Shared → Prop} (hq : Q none ⟨h, g, d, tk, os⟩) : wpAny (model prog w) A (tryCompare (.str y t) "__ne__" (.ref x)) Q E ⟨h, g, d, tk, os⟩ := by
  simp only [tryCompare]
  have T0 : (⟨h, g, d, tk, os⟩ : Shared).TypeIs (.str y t) "str" := typeIs_str _ y t
  refine wpAny_bind (wpAny_callSpecialIfBound?_slot T0 F.slot_str_ne ?_)
  refine wpAny_call (codeAny_call_builtin F.slot_str_ne.plain F.entry_str_ne (F.slot_str_ne.check _ _ _ _ _ _ _ _ T0 (F.args_str_ne_2 _ _) (strNe_entry_ref hx hp ?_)))
  exact wpAny_pure hq
theorem sub_str_ref {C : Addr} : isSubtype (.type "str") (.ref C) = pure false := by kernel_rfl
theorem richNe_text (FB : CmpFacts B bm) (X : h.CmpInst x C bm) (hu : A.units + 1 < cLine) (hpl : ∀ o, h.get? x = some o → o.data = .plain) {Q : Value → Shared → Prop} (hq : Q (.bool true) ⟨h, g, d, tk, os⟩) : wpAny (model prog w) A (richCompare .NotEq (.ref x) (.str y t)) Q E ⟨h, g, d, tk, os⟩ := by
  obtain ⟨o, nm, q, N, bs, hdct, sn, sub, ab, col, dd, k0, k1, k2, k3, k5, newId, mN, hx, hc, hC, _⟩ := id X
  have hu0 : A.units < cLine := Nat.lt_of_succ_lt hu
  simp only [richCompare, cmpInfo_NotEq]
  repeat (first | with_reducible refine wpAny_cRoomFor hu0 ?_ | (with_reducible refine wpAny_loadPart_at hx ?_; rw [hc]) | with_reducible refine tryNe_text FB X hu ?_ | with_reducible refine tryStrNe_ref hx (hpl _ hx) ?_ | wp_step)
  refine wpAny_of_eq sub_str_ref ?_
  repeat (first | with_reducible refine tryNe_text FB X hu ?_ | with_reducible refine tryStrNe_ref hx (hpl _ hx) ?_ | wp_step)
  exact hq
end
section
variable {X : Cx}
def rNeInst (K : PySem.W.Frag) : R2 := fun x y H Q => ∃ a C dx fs z, x = .ref a ∧ y = .str z ∧ H a = some (.ins C dx fs) ∧ CmpC K C ∧ Q (.bl true) H
theorem op_neInst {k : Nat} (K : PySem.W.Frag) (hr : Room k X.A) (hK : X.K = K := by rfl) : OpR X (compareOp .NotEq) (rNeInst K) := by
  subst hK
  intro pins s σ H x y v u Q I rx ry h
  obtain ⟨a, C, dx, fs, z, rfl, rfl, ea, hC, q⟩ := h
  obtain rfl : v = Value.ref a := rx
  obtain ⟨t, rfl⟩ := ry
  have ca := cmp_inst I ea hC
  obtain ⟨_, _, _, e, _⟩ := (show ObjOk X.prog X.w H s.heap a (.ins C dx fs) from I.hok a _ ea)
  have hu := hr.units
  obtain ⟨hh, g, d, tk, os⟩ := s
  show wpAny _ X.A (richCompare .NotEq _ _) _ _ _
  exact richNe_text F.cmp_object ca (by omega) (fun o ho => by rw [e] at ho; cases ho; rfl) ⟨.bl true, H, I, rfl, q⟩
end
end Gd
/-! ### k91: the turns -/
namespace Gd
open PySem PySem.Spec PyProof.Rows L2
theorem at_new' {a p : Addr} {H : Hp} {o u : HO} (h : H a = some u) (hp : H p = none) : upd H p o a = some u := by rw [upd_ne (ne_of_none h hp)]; exact h
theorem sc__law_right : FnScope ["_law_pot_here", "_law_scenes", "_law_turn", "_law_scene", "_law_way", "_law_is_right"] ["_law_pot_here"] (defScope s__law_right) := ⟨rfl, rfl, rfl, by decide +kernel, rfl, by decide +kernel, by decide +kernel⟩
theorem ok__law_right {P : Program} {w : World} {K : PySem.W.Frag} {mg : PySem.Str → Option Value} {base : Heap} (T : Txt K mg) (hCmp : CmpC K c_Disk) (NR : Fn P w K mg base 10 a__law_named_right ["_law_pot_here"] (sp1 fun x H Q E => ∃ (p : Addr) (c s : Int), x = .ref p ∧ H p = some (potO c s) ∧ PotOk c s ∧ ∀ H', Gr p H H' → Q (.bl true) H')) : Fg P w K mg base 11 a__law_right ["_law_pot_here"] (sp1 fun x H Q E => ∃ (p : Addr) (c s : Int), x = .ref p ∧ H p = some (potO c s) ∧ PotOk c s ∧ ∀ H', Gr p H H' → Q (.bl true) H') := by
  have SC := sc__law_right
  refine Fg.of1 T.F__law_right SC (fun fd F => F.bindsN fun _ _ _ _ _ _ us hl => match us, hl with | [_], _ => rfl) (fun cdv A outer s H v0 Q E hg hr h => ?_)
  refine ⟨_, PSs.nox (pss_cons (ps_set (i := 1) SC.nd rfl (Or.inl rfl) (pe_lst (pa_cons (pe_disp (pps_cons pe_str (pmk0 T.k_Disk (ok_Disk___init__ T) hr T.g_Disk passL) (pps_cons pe_str (pe_lst pa_nil) (pps_cons pe_str pe_non pps_nil))) rfl rfl (fun z => by cases z) (by decide)) pa_nil))) (pss_cons (ps_for PassesOwn.never rfl (pi_range1 rfl T.b_range (pa_cons pe_int pa_nil)) (pg_name (i := 2) SC.nd rfl (Or.inl rfl)) (pss_cons (ps_par (i := 3) (j := 4) rfl SC.nd rfl rfl (by decide) rfl rfl (pa_cons (pc (ok__law_pick T) hr T.g__law_pick passL (pa_cons (pv 0) (pa_cons (pv 1) pa_nil))) (pa_cons (pc (ok__law_take T) hr T.g__law_take passL (pa_cons (pv 0) (pa_cons pe_int pa_nil))) pa_nil)) rfl) (pss_cons (ps_set (i := 5) SC.nd rfl (Or.inl rfl) pe_bl) (pss_cons (ps_if (pt_cmpR op_lt (pv 4) pe_int (nomark _)) (pss_one (ps_set (i := 5) SC.nd rfl (Or.inl rfl) (pcG (ok__law_write_right T) hg hr T.g__law_write_right passL (pa_cons (pv 0) (pa_cons (pv 3) pa_nil))))) (pss_one (ps_if (pt_cmpR op_eq (pv 4) pe_int (nomark _)) (pss_one (ps_set (i := 5) SC.nd rfl (Or.inl rfl) (pcG (ok__law_crash_right T) hg hr T.g__law_crash_right passL (pa_cons (pv 0) (pa_cons (pv 3) pa_nil))))) (pss_one (ps_if (pt_cmpR op_lt (pv 4) pe_int (nomark _)) (pss_one (ps_set (i := 5) SC.nd rfl (Or.inl rfl) (pcG (ok__law_spoil_right T) hg hr T.g__law_spoil_right passL (pa_cons (pv 0) (pa_cons (pv 3) pa_nil))))) (pss_one (ps_if (pt_cmpR op_lt (pe_callB (lenK K) rfl T.b_len rfl (pa_cons (pv 1) pa_nil)) pe_int (nomark _)) (pss_one (ps_expr (pe_bm PySem.F.plainAttrs_list PySem.F.slot_list_append PySem.F.type_list_append mt_append (pv 1) (pa_cons (pe_disp (pps_cons pe_str (pm0 (pe_dget (hu_of hr) (pv 3) pe_str (fun _ _ => rfl)) T.cl_Disk T.m_Disk_restarted (ok_Disk_restarted T) hr passL) (pps_cons pe_str (pe_callTy call_list_of rfl T.b_list rfl (pa_cons (pe_dget (hu_of hr) (pv 3) pe_str (fun _ _ => rfl)) pa_nil)) (pps_cons pe_str pe_non pps_nil))) rfl rfl (fun z => by cases z) (by decide)) pa_nil)))) pss_nil))))))) (pss_one (ps_if (PW.pt (pw_or (pt_not (pt_val (pv 5))) (pw_or1 (pt_not (pt_val (pcG (ok__law_state_right T hCmp) hg hr T.g__law_state_right passL (pa_cons (pv 1) pa_nil))))))) (pss_one (ps_ret pe_bl)) pss_nil)))))) (pss_one (ps_ret (pe_and (pe_cmpR op_eq (ClX.pe_cval (pe_glob (v := .ref c_Disk) rfl T.g_Disk rfl)) pe_int (nomark _)) (pe_and (pe_cmpR (op_neInst K hr) (pe_dget (hu_of hr) (pe_ix (ixL K) (pv 1) pe_int (fun _ _ => rfl)) pe_str (fun _ _ => rfl)) pe_str (nomark _)) (pe_one (pc NR hr T.g__law_named_right passL (pa_cons (pv 0) pa_nil))))))))), ?_⟩
  rw [show L2.start ["_law_pot_here", "_law_scenes", "_law_turn", "_law_scene", "_law_way", "_law_is_right"] [v0] = [some v0, none, none, none, none, none] from rfl]
  try dsimp only [cxOf, Cx.nox]
  obtain ⟨p, c, s, rfl, ep, hP, q⟩ := h
  simp only [tRet, tRetN, tNext, tSeq, tDrop, tAsg, gName, tIfS, tAndV, tOrV, tNotV, tAnd, tOr, tNot, tB, tTest, tIf, tCB, tCons, tVar, tC, tNil, tOp, tUn, tCall, tCallS, tMeth, tMake, tProp, tFld, sFld, sFldAug, tLst, tTup, tChain, tPar, tPar3, rI, rI0, rU, rEq, rNe, rIsi, rAppend, sp0, sp1, sp2, sp3, sp4, List.nil_append, List.append_nil, List.cons_append, List.cons.injEq, List.getElem?_cons_zero, List.getElem?_cons_succ, List.set_cons_zero, List.set_cons_succ, Option.some.injEq, V.int.injEq, V.str.injEq, V.bl.injEq, V.ref.injEq, V.ty.injEq, exists_eq_left', exists_eq_left, exists_eq_right, exists_and_left, exists_and_right, and_true, true_and, and_assoc, exists_const, exists_eq, reduceCtorEq, false_and, and_false, or_false, false_or, tDGet, tBM, rLen, tDisp, tPairs]
  intro p1 h1 x dx hx hdx hne
  have nx : p1 ≠ x := fun e => by rw [← e, upd_same] at hx; cases hx
  have ndx : p1 ≠ dx := fun e => by rw [← e, upd_same] at hdx; cases hdx
  have B1 : upd (upd (upd H p1 (HO.dK [])) dx (HO.own x)) x (HO.ins c_Disk dx []) p1 = some (.dK []) := by rw [upd_ne nx, upd_ne ndx, upd_same]
  have pp1 : p ≠ p1 := ne_of_none ep h1
  have px : p ≠ x := fun e => by rw [← e, upd_ne pp1, ep] at hx; cases hx
  have pdx : p ≠ dx := fun e => by rw [← e, upd_ne pp1, ep] at hdx; cases hdx
  have B2 : upd (upd (upd H p1 (HO.dK [])) dx (HO.own x)) x (HO.ins c_Disk dx []) p = some (potO c s) := by rw [upd_ne px, upd_ne pdx, upd_ne pp1]; exact ep
  refine ⟨dx, upd_same, fun l H1 hl k1 k2 k3 => ?_⟩
  have pl : p1 ≠ l := ne_of_none B1 hl
  have ppl : p ≠ l := ne_of_none B2 hl
  have e1 : H1 p1 = some (.dK []) := by rw [k1 p1 nx pl]; exact B1
  have eP : H1 p = some (potO c s) := by rw [k1 p px ppl]; exact B2
  refine ⟨Nat.zero_le _, fun p2 hp2 => ⟨?_, [(.inr "plate", .ref x), (.inr "pages", .ref p2), (.inr "left", .non)], rfl, by show 3 ≤ 15; omega, by show 1 ≤ sizeLine; rw [sizeLine_eq]; omega, fun p3 hp3 => ?_⟩⟩
  · rw [upd_ne (ne_of_none e1 hp2)]; exact e1
  · have mk : mergeK [] [((.inr "plate" : L2.Key), V.ref x), (.inr "pages", .ref p2), (.inr "left", .non)] = (Scn.kvs ⟨p1, x, dx, l, p2, none, []⟩) := by kernel_rfl
    rw [mk]
    rw [mk] at hp3
    have a0 : Al p p3 0 [⟨p1, x, dx, l, p2, none, []⟩] (upd (upd (upd H1 p2 (.lst [])) p1 (.dK (Scn.kvs ⟨p1, x, dx, l, p2, none, []⟩))) p3 (.lst [.ref p1])) := by
      have gp : upd (upd H1 p2 (.lst [])) p1 (.dK (Scn.kvs ⟨p1, x, dx, l, p2, none, []⟩)) p = some (potO c s) := by rw [upd_ne pp1, upd_ne (ne_of_none eP hp2)]; exact eP
      have gx : upd (upd H1 p2 (.lst [])) p1 (.dK (Scn.kvs ⟨p1, x, dx, l, p2, none, []⟩)) x = some (.ins c_Disk dx (dsk l none)) := by rw [upd_ne nx.symm, upd_ne (ne_of_none k2 hp2)]; exact k2
      have gl : upd (upd H1 p2 (.lst [])) p1 (.dK (Scn.kvs ⟨p1, x, dx, l, p2, none, []⟩)) l = some (strL []) := by rw [upd_ne pl.symm, upd_ne (ne_of_none k3 hp2)]; exact k3
      have g2 : upd (upd H1 p2 (.lst [])) p1 (.dK (Scn.kvs ⟨p1, x, dx, l, p2, none, []⟩)) p2 = some (strL []) := by rw [upd_ne (ne_of_none e1 hp2).symm, upd_same]; rfl
      have g1 : upd (upd H1 p2 (.lst [])) p1 (.dK (Scn.kvs ⟨p1, x, dx, l, p2, none, []⟩)) p1 = some (.dK (Scn.kvs ⟨p1, x, dx, l, p2, none, []⟩)) := upd_same
      generalize upd (upd H1 p2 (.lst [])) p1 (.dK (Scn.kvs ⟨p1, x, dx, l, p2, none, []⟩)) = G at *
      have q0 := ne_of_none gp hp3
      have q1 := ne_of_none gl hp3
      have q2 := ne_of_none g2 hp3
      have q3 := ne_of_none k3 hp2
      have q4 := ne_of_none eP hp2
      refine ⟨⟨c, s, hP, by rw [upd_ne q0]; exact gp⟩, upd_same, by simp, by show 1 ≤ 3; omega, fun S hS => ?_, by simp, by simp, ?_⟩
      · rw [List.mem_singleton.mp hS]
        exact ⟨⟨by show upd G p3 _ p1 = _; rw [upd_ne (ne_of_none g1 hp3)]; exact g1, by show upd G p3 _ x = _; rw [upd_ne (ne_of_none gx hp3)]; exact gx, by show upd G p3 _ l = _; rw [upd_ne q1]; exact gl, by show upd G p3 _ p2 = _; rw [upd_ne q2]; exact g2, q3, fun z hz => absurd hz (by simp)⟩, Nat.zero_le _⟩
      · show (p :: p3 :: [l, p2]).Nodup
        simp only [List.nodup_cons, List.mem_cons, List.not_mem_nil, or_false, not_or, List.nodup_nil, and_true, not_false_eq_true]
        exact ⟨⟨q0, ppl, q4⟩, ⟨q1.symm, q2.symm⟩, q3⟩
    have sH : Su H H1 := (Su.new h1).trans (su_disk hx hdx hl k1)
    have hp21 := sH.none hp2
    have sG : Su H (upd (upd H1 p2 (.lst [])) p1 (.dK (Scn.kvs ⟨p1, x, dx, l, p2, none, []⟩))) := fun b o e => by rw [upd_ne (ne_of_none e h1)]; exact at_new' (sH _ _ e) hp2
    have hp30 := sG.none hp3
    have gA0 : Gr p H (upd (upd (upd H1 p2 (.lst [])) p1 (.dK (Scn.kvs ⟨p1, x, dx, l, p2, none, []⟩))) p3 (.lst [.ref p1])) := fun b o _ e => by rw [upd_ne (ne_of_none e hp30)]; exact sG _ _ e
    have oA0 : OldN H [⟨p1, x, dx, l, p2, none, []⟩] := fun S hS => by
      rw [List.mem_singleton.mp hS]
      exact ⟨h1, (Su.new h1).none hx, (Su.new h1).none ((su_made hx hdx).none hl), hp21⟩
    generalize upd (upd (upd H1 p2 (.lst [])) p1 (.dK (Scn.kvs ⟨p1, x, dx, l, p2, none, []⟩))) p3 (.lst [.ref p1]) = H2 at a0 gA0
    refine tForR (n := 40) (fun i σ H' => ∃ Ss x2 x3 x4 x5, (Al p p3 i Ss H' ∧ Gr p H H' ∧ OldN H Ss) ∧ σ = [some (.ref p), some (.ref p3), x2, x3, x4, x5]) (by omega) (fun R r => r) ⟨_, _, _, _, _, ⟨a0, gA0, oA0⟩, rfl⟩ (fun i σ H' hi hP' => ?_) (fun σ H' hP' => ?_)
    · obtain ⟨Ss, x2, x3, x4, x5, ⟨A, GA, OA⟩, rfl⟩ := hP'
      simp only [tRet, tRetN, tNext, tSeq, tDrop, tAsg, gName, tIfS, tAndV, tOrV, tNotV, tAnd, tOr, tNot, tB, tTest, tIf, tCB, tCons, tVar, tC, tNil, tOp, tUn, tCall, tCallS, tMeth, tMake, tProp, tFld, sFld, sFldAug, tLst, tTup, tChain, tPar, tPar3, rI, rI0, rU, rEq, rNe, rIsi, rAppend, sp0, sp1, sp2, sp3, sp4, List.nil_append, List.append_nil, List.cons_append, List.cons.injEq, List.getElem?_cons_zero, List.getElem?_cons_succ, List.set_cons_zero, List.set_cons_succ, Option.some.injEq, V.int.injEq, V.str.injEq, V.bl.injEq, V.ref.injEq, V.ty.injEq, exists_eq_left', exists_eq_left, exists_eq_right, exists_and_left, exists_and_right, and_true, true_and, and_assoc, exists_const, exists_eq, reduceCtorEq, false_and, and_false, or_false, false_or, tDGet, tBM, rLen, tDisp, tPairs, tCall]
      obtain ⟨c0, s0, hP0, ep0⟩ := A.pot
      have nl := List.nodup_cons.mp A.nl
      have pne : p3 ≠ p := fun e => nl.1 (by rw [← e]; simp)
      refine ⟨c0, s0, ep0, hP0, _, sqL_of A.lst, by simpa using A.ne, by rw [List.length_map]; have := A.len; omega, pne, fun c1 s1 v hP1 hv => ⟨c1, s1, upd_same, hP1, by omega, by omega, fun c2 s2 d hP2 d0 d9 => ?_⟩⟩
      obtain ⟨S, hSm, rfl⟩ := List.mem_map.mp hv
      obtain ⟨j, hj⟩ := List.getElem?_of_mem hSm
      rw [upd_upd']
      have A2 : Al p p3 i Ss (upd H' p (potO c2 s2)) := A.repot hP2
      have ep2 : upd H' p (potO c2 s2) p = some (potO c2 s2) := upd_same
      have G2 : Gr p H (upd H' p (potO c2 s2)) := GA.pot
      have oS := OA S hSm
      generalize upd H' p (potO c2 s2) = H3 at A2 ep2 G2
      obtain ⟨hSc, hSn⟩ := A2.sc S hSm
      have inl : S.l ∈ (Ss.flatMap fun S => [S.l, S.m]) ∧ S.m ∈ (Ss.flatMap fun S => [S.l, S.m]) := ⟨List.mem_flatMap.mpr ⟨S, hSm, by simp⟩, List.mem_flatMap.mpr ⟨S, hSm, by simp⟩⟩
      have n1 : p ≠ S.l := fun e => nl.1 (by rw [e]; exact List.mem_cons_of_mem _ inl.1)
      have n2 : p ≠ S.m := fun e => nl.1 (by rw [e]; exact List.mem_cons_of_mem _ inl.2)
      have turn : ∀ H4 c4 s4 S', S.Like S' → PotOk c4 s4 → H4 p = some (potO c4 s4) → ScAt H4 S' → Fr p S H3 H4 → Al p p3 (i + 1) (Ss.set j S') H4 := fun H4 c4 s4 S' lk h4 e4 h5 fr => A2.step hj lk fr ⟨c4, s4, h4, e4⟩ h5
      by_cases h5 : d < 5
      · rw [decide_eq_true h5]
        refine iteT ⟨S, rfl, c2, s2, ep2, hP2, hSc, n1, n2, by omega, fun H4 c4 s4 S4 lk h4 e4 h5 fr => ?_⟩
        have A4 := turn H4 c4 s4 S4 lk h4 e4 h5 fr
        exact iteF ⟨_, A4.lst, A4.len, fun T hT => ⟨(A4.sc T hT).1, by have := (A4.sc T hT).2; omega⟩, A4.na, fun H5 g => iteF ⟨_, A4.su g, (Fr.gr G2 fr oS).su g, OA.set hSm lk, _, rfl⟩⟩
      rw [decide_eq_false h5]
      refine iteF ⟨rfl, ?_⟩
      by_cases h6 : d = 5
      · rw [decide_eq_true h6]
        refine iteT ⟨S, rfl, c2, s2, ep2, hP2, hSc, n1, n2, by omega, fun H4 c4 s4 S4 lk h4 e4 h5 fr => ?_⟩
        have A4 := turn H4 c4 s4 S4 lk h4 e4 h5 fr
        exact iteF ⟨_, A4.lst, A4.len, fun T hT => ⟨(A4.sc T hT).1, by have := (A4.sc T hT).2; omega⟩, A4.na, fun H5 g => iteF ⟨_, A4.su g, (Fr.gr G2 fr oS).su g, OA.set hSm lk, _, rfl⟩⟩
      rw [decide_eq_false h6]
      refine iteF ?_
      by_cases h8 : d < 8
      · rw [decide_eq_true h8]
        refine iteT ⟨S, rfl, c2, s2, ep2, hP2, hSc, n1, n2, by omega, fun H4 c4 s4 S4 lk h4 e4 h5 fr => ?_⟩
        have A4 := turn H4 c4 s4 S4 lk h4 e4 h5 fr
        exact iteF ⟨_, A4.lst, A4.len, fun T hT => ⟨(A4.sc T hT).1, by have := (A4.sc T hT).2; omega⟩, A4.na, fun H5 g => iteF ⟨_, A4.su g, (Fr.gr G2 fr oS).su g, OA.set hSm lk, _, rfl⟩⟩
      rw [decide_eq_false h8]
      refine iteF ⟨Ss.length, .inl ⟨_, sqL_of A2.lst, (List.length_map _).symm⟩, ?_⟩
      by_cases h3 : Ss.length < 3
      · rw [decide_eq_true (show ((Ss.length : Nat) : Int) < 3 by omega)]
        refine iteT ⟨.inl ⟨rfl, _, sqL_of A2.lst⟩, fun p5 hp5 => ?_⟩
        have g5 : Su H3 (upd H3 p5 (.dK [])) := .new hp5
        have e5 : upd H3 p5 (.dK []) p5 = some (.dK []) := upd_same
        generalize upd H3 p5 (.dK []) = H5 at g5 e5
        have S5 := hSc.su g5
        refine ⟨_, rfl, _, (dget S5).1, _, rfl, S.dx, _, S5.i, rfl, _, rfl, S.dx, S.l, ⟨_, S5.i⟩, S.pgs, S5.o, fun y dy m H6 hy hm hmy g6 e6 e7 => ?_⟩
        have S6 := S5.su g6
        have e5' := g6 _ _ e5
        have l3 := A2.lst
        have l5 := g5 _ _ l3
        have l6 := g6 _ _ l5
        refine ⟨_, rfl, _, (dget S6).2.1, S.m, rfl, _, .inl (sqL_str S6.p), fun m2 hm2 => ?_⟩
        have yn : y ≠ p3 := (ne_of_none l5 hy).symm
        have mn : m ≠ p3 := (ne_of_none l5 hm).symm
        have y5 : y ≠ p5 := (ne_of_none e5 hy).symm
        have m5 : m ≠ p5 := (ne_of_none e5 hm).symm
        have y2 : y ≠ m2 := ne_of_none e6 hm2
        have mm2 : m ≠ m2 := ne_of_none e7 hm2
        have p52 : p5 ≠ m2 := ne_of_none e5' hm2
        have p32 : p3 ≠ m2 := ne_of_none l6 hm2
        have p35 : p3 ≠ p5 := ne_of_none l3 hp5
        refine ⟨by rw [upd_ne p52]; exact e5', [(.inr "plate", .ref y), (.inr "pages", .ref m2), (.inr "left", .non)], rfl, by show 3 ≤ 15; omega, Ss.map (fun S => V.ref S.sc), by rw [upd_ne p35, upd_ne p32]; exact l6, by rw [List.length_map, sizeLine_eq]; omega, ?_⟩
        have mk2 : mergeK [] [((.inr "plate" : L2.Key), V.ref y), (.inr "pages", .ref m2), (.inr "left", .non)] = (Scn.kvs ⟨p5, y, dy, m, m2, none, S.pgs⟩) := by kernel_rfl
        rw [mk2]
        have up : ∀ {b : Addr} {o : HO}, H3 b = some o → H5 b = some o ∧ H6 b = some o := fun {b o} e => ⟨g5 _ _ e, g6 _ _ (g5 _ _ e)⟩
        have none3 : ∀ {b : Addr}, H5 b = none → H3 b = none := fun {b} e => by
          cases z : H3 b with
          | none => rfl
          | some o => have := g5 _ _ z; rw [e] at this; cases this
        have A7 : Al p p3 i (Ss ++ [⟨p5, y, dy, m, m2, none, S.pgs⟩]) (upd (upd (upd H6 m2 (HO.lst (S.pgs.map V.str))) p5 (.dK (Scn.kvs ⟨p5, y, dy, m, m2, none, S.pgs⟩))) p3 (.lst (Ss.map (fun S => V.ref S.sc) ++ [.ref p5]))) := by
          refine A2.more h3 (fun b o hb e => ?_) upd_same ⟨?_, ?_, ?_, ?_, mm2, S6.ok⟩ hSn hp5 (none3 hy) (none3 hm) ?_
          · rw [upd_ne hb, upd_ne (ne_of_none e hp5), upd_ne (ne_of_none (up e).2 hm2)]; exact (up e).2
          · show upd _ p3 _ p5 = _
            rw [upd_ne p35.symm, upd_same]
          · show upd _ p3 _ y = _
            rw [upd_ne yn, upd_ne y5, upd_ne y2]; exact e6
          · show upd _ p3 _ m = _
            rw [upd_ne mn, upd_ne m5, upd_ne mm2]; exact e7
          · show upd _ p3 _ m2 = _
            rw [upd_ne p32.symm, upd_ne p52.symm, upd_same]; rfl
          · cases z : H3 m2 with
            | none => rfl
            | some o => have := (up z).2; rw [hm2] at this; cases this
        have pp5 : p5 ≠ p := (ne_of_none ep2 hp5).symm
        have py : y ≠ p := (ne_of_none ep2 (none3 hy)).symm
        have pm : m ≠ p := (ne_of_none ep2 (none3 hm)).symm
        have pm2 : m2 ≠ p := (ne_of_none (up ep2).2 hm2).symm
        have n2 : H3 m2 = none := by
          cases z : H3 m2 with
          | none => rfl
          | some o => have := (up z).2; rw [hm2] at this; cases this
        have G6 : Gr p H (upd (upd (upd H6 m2 (HO.lst (S.pgs.map V.str))) p5 (.dK (Scn.kvs ⟨p5, y, dy, m, m2, none, S.pgs⟩))) p3 (.lst (Ss.map (fun S => V.ref S.sc) ++ [.ref p5]))) := fun b o hb e => by
          rw [upd_ne (ne_of_none e hp30), upd_ne (ne_of_none (G2 _ _ hb e) hp5)]; exact at_new' (up (G2 _ _ hb e)).2 hm2
        have O6 : OldN H (Ss ++ [⟨p5, y, dy, m, m2, none, S.pgs⟩]) := fun T hT => by
          rcases List.mem_append.mp hT with hT | hT
          · exact OA T hT
          · rw [List.mem_singleton.mp hT]
            exact ⟨G2.none pp5 hp5, G2.none py (none3 hy), G2.none pm (none3 hm), G2.none pm2 n2⟩
        have A4 : Al p p3 (i + 1) (Ss ++ [⟨p5, y, dy, m, m2, none, S.pgs⟩]) (upd (upd (upd H6 m2 (HO.lst (S.pgs.map V.str))) p5 (.dK (Scn.kvs ⟨p5, y, dy, m, m2, none, S.pgs⟩))) p3 (.lst (Ss.map (fun S => V.ref S.sc) ++ [.ref p5]))) := ⟨A7.pot, A7.lst, A7.ne, A7.len, fun T hT => ⟨(A7.sc T hT).1, by have := (A7.sc T hT).2; omega⟩, A7.na, A7.nsc, A7.nl⟩
        exact iteF ⟨_, A4.lst, A4.len, fun T hT => ⟨(A4.sc T hT).1, by have := (A4.sc T hT).2; omega⟩, A4.na, fun H5 g => iteF ⟨_, A4.su g, G6.su g, O6, _, rfl⟩⟩
      · rw [decide_eq_false (show ¬ ((Ss.length : Nat) : Int) < 3 by omega)]
        have A4 : Al p p3 (i + 1) Ss H3 := ⟨A2.pot, A2.lst, A2.ne, A2.len, fun T hT => ⟨(A2.sc T hT).1, by have := (A2.sc T hT).2; omega⟩, A2.na, A2.nsc, A2.nl⟩
        refine iteF ?_
        exact iteF ⟨_, A4.lst, A4.len, fun T hT => ⟨(A4.sc T hT).1, by have := (A4.sc T hT).2; omega⟩, A4.na, fun H5 g => iteF ⟨_, A4.su g, G2.su g, OA, _, rfl⟩⟩
    · obtain ⟨Ss, x2, x3, x4, x5, ⟨A, GA, OA⟩, rfl⟩ := hP'
      simp only [tRet, tRetN, tNext, tSeq, tDrop, tAsg, gName, tIfS, tAndV, tOrV, tNotV, tAnd, tOr, tNot, tB, tTest, tIf, tCB, tCons, tVar, tC, tNil, tOp, tUn, tCall, tCallS, tMeth, tMake, tProp, tFld, sFld, sFldAug, tLst, tTup, tChain, tPar, tPar3, rI, rI0, rU, rEq, rNe, rIsi, rAppend, sp0, sp1, sp2, sp3, sp4, List.nil_append, List.append_nil, List.cons_append, List.cons.injEq, List.getElem?_cons_zero, List.getElem?_cons_succ, List.set_cons_zero, List.set_cons_succ, Option.some.injEq, V.int.injEq, V.str.injEq, V.bl.injEq, V.ref.injEq, V.ty.injEq, exists_eq_left', exists_eq_left, exists_eq_right, exists_and_left, exists_and_right, and_true, true_and, and_assoc, exists_const, exists_eq, reduceCtorEq, false_and, and_false, or_false, false_or, tDGet, tBM, rLen, tDisp, tPairs, tCall]
      obtain ⟨u, hu⟩ := T.cv_Disk_PAGE
      obtain ⟨S, hS⟩ : ∃ S, Ss[0]? = some S := by
        cases Ss with
        | nil => exact absurd rfl A.ne
        | cons S r => exact ⟨S, rfl⟩
      have hSm := List.mem_of_getElem? hS
      obtain ⟨hSc, _⟩ := A.sc S hSm
      obtain ⟨c0, s0, hP0, ep0⟩ := A.pot
      refine ⟨_, _, _, u, rfl, T.cr_Disk, hu, rfl, ?_⟩
      rw [decide_eq_true rfl]
      refine iteT ⟨p3, _, 0, .ref S.sc, rfl, rfl, sqL_of A.lst, atI_nat (n := 0) rfl (by rw [List.getElem?_map, hS]; rfl), _, rfl, _, (dget hSc).1, _, _, _, _, _, rfl, rfl, hSc.i, hCmp, _, rfl, iteT ⟨c0, s0, ep0, hP0, fun H5 g => q H5 (GA.trans g)⟩⟩
end Gd
/-! ### k91: the next record of some pages -/
namespace Gd
open PySem PySem.Spec PyProof.Rows L2
theorem one_get {α : Type} {x y : α} {i : Nat} (h : [y][i]? = some x) : x = y := by
  cases i with
  | zero => exact (Option.some.inj h).symm
  | succ n => cases h
def nrF : Option Int → List (PySem.Str × V)
  | none => [("body", .non), ("count", .int 0)]
  | some m => [("body", .str (bodyS m)), ("count", .int 1)]
abbrev pgM (m : Int) : PySem.Str := pgS (recS (bodyS m))
theorem ps_of {H : Hp} {l a : Addr} {o u : HO} (h : l ≠ a) (e : H l = some o) : upd H a u l = some o := by rw [upd_ne h]; exact e
def pgL : Option Int → List PySem.Str
  | none => []
  | some m => [pgM m]
theorem sc_NextRecord_take_pages : FnScope ["self", "pages", "record", "page", "body"] ["self", "pages"] (defScope s_NextRecord_take_pages) := ⟨rfl, rfl, rfl, by decide +kernel, rfl, by decide +kernel, by decide +kernel⟩
theorem ok_NextRecord_take_pages {P : Program} {w : World} {K : PySem.W.Frag} {mg : PySem.Str → Option Value} {base : Heap} (T : Txt K mg)  : Fn P w K mg base 3 a_NextRecord_take_pages ["self", "pages"] (sp2 fun x y H Q _ => ∃ (a dx l : Addr) (m : Int), x = .ref a ∧ y = .ref l ∧ 1 ≤ m ∧ m ≤ 10 ∧ H a = some (.ins c_NextRecord dx (nrF none)) ∧ H l = some (strL [pgM m]) ∧ ∀ H1, Gr a H H1 → H1 a = some (.ins c_NextRecord dx (nrF (some m))) → Q .non H1) := by
  have SC := sc_NextRecord_take_pages
  refine Fn.of2 T.F_NextRecord_take_pages SC (fun fd F => F.bindsN fun _ _ _ _ _ _ us hl => match us, hl with | [_, _], _ => rfl) (fun cdv A outer s H v0 v1 Q E hr h => ?_)
  refine ⟨_, PSs.nox (pss_cons (ps_set (i := 2) SC.nd rfl (Or.inl rfl) (pe_bm PySem.F.plainAttrs_str PySem.F.slot_str_rstrip PySem.F.type_str_rstrip mt_rstripChars (pe_join pe_str (pe_lc (own := [("page", 3)]) (g := gName 3) (tt := tYes) rfl SC.nd (piL K (pv 1)) (blkOk_by (own := [("page", 3)]) (N := ["self", "pages", "record", "page", "body"]) (sc := defScope s_NextRecord_take_pages) (by decide +kernel)) (fun _ _ _ _ _ => pg_name (i := 3) SC.nd rfl (Or.inl rfl)) (fun _ _ _ _ _ => pts_nil) (fun _ _ _ _ _ => (pe_slice sl_str (pv 3) (po_some pe_int) po_none)))) (pa_cons pe_str pa_nil))) (pss_cons (ps_set (i := 4) SC.nd rfl (Or.inl rfl) (pe_slice sl_str (pv 2) po_none (po_some (pe_op op_sub (pe_un un_neg (pe_gint T.v_CHECK_DIGITS)) pe_int)))) (pss_one (ps_if (PW.pt (pw_and (pt_cmpR op_eq (pc (ok_record_text T) hr T.g_record_text passL (pa_cons (pv 4) pa_nil)) (pv 2) (nomark _)) (pw_and1 (pt_cmpR (op_eqD hr.units) (pc (ok_pages_of T) hr T.g_pages_of passL (pa_cons (pv 2) pa_nil)) (pv 1) (nomark _))))) (pss_cons (ps_fld (pv 0) (pv 4) rfl) (pss_one (ps_fld (pv 0) (pe_callB (lenK K) rfl T.b_len rfl (pa_cons (pv 1) pa_nil)) rfl))) pss_nil)))), ?_⟩
  rw [show L2.start ["self", "pages", "record", "page", "body"] [v0, v1] = [some v0, some v1, none, none, none] from rfl]
  try dsimp only [cxOf, Cx.nox]
  obtain ⟨a, dx, l, m, rfl, rfl, h1, h2, ea, el, q⟩ := h
  simp only [tRet, tRetN, tNext, tSeq, tDrop, tAsg, gName, tIfS, tAndV, tOrV, tNotV, tAnd, tOr, tNot, tB, tTest, tIf, tCB, tCons, tVar, tC, tNil, tOp, tUn, tCall, tCallS, tMeth, tMake, tProp, tFld, sFld, sFldAug, tLst, tTup, tChain, tPar, tPar3, rI, rI0, rU, rEq, rNe, rIsi, rAppend, sp0, sp1, sp2, sp3, sp4, List.nil_append, List.append_nil, List.cons_append, List.cons.injEq, List.getElem?_cons_zero, List.getElem?_cons_succ, List.set_cons_zero, List.set_cons_succ, Option.some.injEq, V.int.injEq, V.str.injEq, V.bl.injEq, V.ref.injEq, V.ty.injEq, exists_eq_left', exists_eq_left, exists_eq_right, exists_and_left, exists_and_right, and_true, true_and, and_assoc, exists_const, exists_eq, reduceCtorEq, false_and, and_false, or_false, false_or, tBM, rLen]
  obtain ⟨_, _, _, _, _, _, _, p8, p9, p10, p11, p12, p13, p14, p15, p16, p18, p17⟩ := okM_p h1 h2
  have hz : (pgM m).length ≤ sizeLine := by rw [sizeLine_eq]; show (pgS (recS (bodyS m))).length ≤ _; omega
  have hl0 : l ≠ a := ne2 el ea (fun z => by cases z)
  refine ⟨⟨_, rfl⟩, tLcP (a := l) (ys := [V.str (pgM m)]) (f := fun _ => V.str (cutS (pgM m) (some 1) none)) (fun R r => ⟨_, rfl, r⟩) (sqL_str el) (by rw [sizeLine_eq]; show 1 < 16777216; omega) (fun i x H2 R g hx r => ?_) (fun D H2 hD g e2 => ?_)⟩
  · rw [one_get hx]
    exact ⟨rfl, _, rfl, _, rfl, _, rfl, hz, r⟩
  · refine ⟨_, rfl, D, rfl, [cutS (pgM m) (some 1) none], .inl (sqL_of e2), ?_, rfl, _, rfl, by rw [sizeLine_eq]; exact Nat.le_trans p17 (by omega), ?_⟩
    · have := cutS_length (pgM m) (some 1) none
      rw [sizeLine_eq] at hz
      have h0 : ("" : PySem.Str).length = 0 := by decide +kernel
      show (cutS (pgM m) (some 1) none).length + 0 + 1 * ("" : PySem.Str).length ≤ _
      rw [h0]; omega
    · rw [p13]
      refine ⟨_, rfl, _, rfl, _, _, rfl, rfl, _, rfl, _, rfl, by rw [sizeLine_eq]; omega, ?_⟩
      rw [show cutS (recS (bodyS m)) none (some (-4 - 1)) = bodyS m from p14]
      refine ⟨bodyS m, rfl, by omega, by omega, fun H3 g3 => ⟨rfl, ?_⟩⟩
      rw [decide_eq_true rfl]
      refine iteT ⟨p9, p10, fun H4 l4 g4 n4 e4 => ?_⟩
      have g04 := (g.trans g3).trans g4
      have sh := shStrs (ps := [pgM m]) (fun z hz => by rw [List.mem_singleton.mp hz]; exact p15)
      refine ⟨_, _, dpStrs (ps := [pgM m]) (sqL_str e4), dpStrs (ps := [pgM m]) (sqL_str (g04 _ _ el)), shaped_of sh, shaped_of sh, _, rfl, ?_⟩
      rw [SeqAt.eqv_refl _ sh.1]
      refine iteT ⟨c_NextRecord, dx, _, g04 _ _ ea, T.cl_NextRecord, T.n_NextRecord_body, by show 2 < 1000; omega, 1, .inl ⟨_, sqL_str (ps_of hl0 (g04 _ _ el)), rfl⟩, c_NextRecord, dx, _, upd_same, T.cl_NextRecord, T.n_NextRecord_count, by show 2 < 1000; omega, q _ (fun b o hb e => by rw [upd_ne hb, upd_ne hb]; exact g04 _ _ e) upd_same⟩
theorem sc_NextRecord___init__ : FnScope ["self", "pages", "marks", "page"] ["self", "pages"] (defScope s_NextRecord___init__) := ⟨rfl, rfl, rfl, by decide +kernel, rfl, by decide +kernel, by decide +kernel⟩
theorem ok_NextRecord___init__ {P : Program} {w : World} {K : PySem.W.Frag} {mg : PySem.Str → Option Value} {base : Heap} (T : Txt K mg)  : Fn P w K mg base 4 a_NextRecord___init__ ["self", "pages"] (sp2 fun x y H Q _ => ∃ (a dx l : Addr) (om : Option Int), x = .ref a ∧ y = .ref l ∧ (∀ m, om = some m → 1 ≤ m ∧ m ≤ 10) ∧ H a = some (.ins c_NextRecord dx []) ∧ H l = some (strL (pgL om)) ∧ ∀ H1, Gr a H H1 → H1 a = some (.ins c_NextRecord dx (nrF om)) → Q .non H1) := by
  have SC := sc_NextRecord___init__
  refine Fn.of2 T.F_NextRecord___init__ SC (fun fd F => F.bindsN fun _ _ _ _ _ _ us hl => match us, hl with | [_, _], _ => rfl) (fun cdv A outer s H v0 v1 Q E hr h => ?_)
  refine ⟨_, PSs.nox (pss_cons (ps_fld (pv 0) pe_non rfl) (pss_cons (ps_fld (pv 0) pe_int rfl) (pss_cons (ps_setLc (i := 2) (own := [("page", 3)]) (g := gName 3) (tt := tYes) rfl SC.nd rfl rfl (sw_true rfl rfl rfl (by decide +kernel)) (piL K (pv 1)) (blkOk_by (own := [("page", 3)]) (N := ["self", "pages", "marks", "page"]) (sc := defScope s_NextRecord___init__) (by decide +kernel)) (fun _ _ _ _ _ => pg_name (i := 3) SC.nd rfl (Or.inl rfl)) (fun _ _ _ _ _ => pts_nil) (fun _ _ _ _ _ => (pe_ix ix_str (pv 3) pe_int (fun _ _ => rfl)))) (pss_one (ps_if (pt_cmpR op_in_seq (pe_gstr T.v_LAST) (pv 2) (by rfl)) (pss_one (ps_expr (pm (pv 0) T.cl_NextRecord T.m_NextRecord_take_pages (ok_NextRecord_take_pages T) hr passL (pa_cons (pe_slice sl_list (pv 1) po_none (po_some (pe_op op_add (pe_bm PySem.F.plainAttrs_list PySem.F.slot_list_index PySem.F.type_list_index mt_index (pv 2) (pa_cons (pe_gstr T.v_LAST) pa_nil)) pe_int))) pa_nil)))) pss_nil))))), ?_⟩
  rw [show L2.start ["self", "pages", "marks", "page"] [v0, v1] = [some v0, some v1, none, none] from rfl]
  try dsimp only [cxOf, Cx.nox]
  obtain ⟨a, dx, l, om, rfl, rfl, hm, ea, el, q⟩ := h
  simp only [tRet, tRetN, tNext, tSeq, tDrop, tAsg, gName, tIfS, tAndV, tOrV, tNotV, tAnd, tOr, tNot, tB, tTest, tIf, tCB, tCons, tVar, tC, tNil, tOp, tUn, tCall, tCallS, tMeth, tMake, tProp, tFld, sFld, sFldAug, tLst, tTup, tChain, tPar, tPar3, rI, rI0, rU, rEq, rNe, rIsi, rAppend, sp0, sp1, sp2, sp3, sp4, List.nil_append, List.append_nil, List.cons_append, List.cons.injEq, List.getElem?_cons_zero, List.getElem?_cons_succ, List.set_cons_zero, List.set_cons_succ, Option.some.injEq, V.int.injEq, V.str.injEq, V.bl.injEq, V.ref.injEq, V.ty.injEq, exists_eq_left', exists_eq_left, exists_eq_right, exists_and_left, exists_and_right, and_true, true_and, and_assoc, exists_const, exists_eq, reduceCtorEq, false_and, and_false, or_false, false_or, tBM, rLen]
  have hl0 : l ≠ a := ne2 el ea (fun z => by unfold strL at z; cases z)
  refine ⟨c_NextRecord, dx, [], ea, T.cl_NextRecord, T.n_NextRecord_body, by decide, c_NextRecord, dx, _, upd_same, T.cl_NextRecord, T.n_NextRecord_count, by show 1 < 1000; omega, ?_⟩
  have g0 : Gr a H (upd (upd H a (.ins c_NextRecord dx (putF "body" V.non []))) a (.ins c_NextRecord dx (putF "count" (V.int 0) (putF "body" V.non [])))) := fun b o hb e => by rw [upd_ne hb, upd_ne hb]; exact e
  have e0 : upd (upd H a (.ins c_NextRecord dx (putF "body" V.non []))) a (.ins c_NextRecord dx (putF "count" (V.int 0) (putF "body" V.non []))) a = some (.ins c_NextRecord dx (nrF none)) := upd_same
  have l0 := g0 _ _ hl0 el
  generalize upd (upd H a (.ins c_NextRecord dx (putF "body" V.non []))) a (.ins c_NextRecord dx (putF "count" (V.int 0) (putF "body" V.non []))) = H2 at *
  cases om with
  | none =>
    refine tLcP (a := l) (ys := []) (f := fun x => x) (fun R r => ⟨_, rfl, r⟩) (sqL_of l0) (by rw [sizeLine_eq]; show 0 < 16777216; omega) (fun i x H3 R g hx r => by cases hx) (fun D H3 hD g e3 => ?_)
    exact ⟨D, [], rfl, .inl (sqL_of e3), rfl, rfl, _, rfl, iteF (q _ (fun b o hb e => g _ _ (g0 _ _ hb e)) (g _ _ e0))⟩
  | some m =>
    obtain ⟨h1, h2⟩ := hm m rfl
    obtain ⟨_, _, _, _, _, _, _, p8, p9, p10, p11, p12, p13, p14, p15, p16, p18, p17⟩ := okM_p h1 h2
    have hz : (pgM m).length ≤ sizeLine := by rw [sizeLine_eq]; show (pgS (recS (bodyS m))).length ≤ _; omega
    refine tLcP (a := l) (ys := [V.str (pgM m)]) (f := fun _ => V.str ⟨#[46]⟩) (fun R r => ⟨_, rfl, r⟩) (sqL_of l0) (by rw [sizeLine_eq]; show 1 < 16777216; omega) (fun i x H3 R g hx r => ?_) (fun D H3 hD g e3 => ?_)
    · rw [one_get hx]
      exact ⟨rfl, _, rfl, _, 0, 46, rfl, rfl, hz, atI_nat (n := 0) rfl p12, r⟩
    · refine ⟨D, [V.str ⟨#[46]⟩], rfl, .inl (sqL_of e3), rfl, rfl, true, ?_, iteT ⟨dx, _, g _ _ e0, rfl, _, rfl, _, rfl, .inl ⟨rfl, _, sqL_of e3⟩, ?_⟩⟩
      · exact congrArg V.bl (by decide +kernel)
      · refine ⟨D, [V.str ⟨#[46]⟩], _, 0, _, rfl, rfl, sqL_of e3, rfl, rfl, rfl, by decide +kernel, fun k z hk => absurd hk (Nat.not_lt_zero _), _, _, rfl, rfl, _, rfl, l, _, rfl, sqL_of (g _ _ l0), fun p3 hp3 => ?_⟩
        have ea3 := g _ _ e0
        refine ⟨dx, p3, rfl, m, h1, h2, at_new ea3 hp3, upd_same, fun H4 g4 e4 => q H4 (fun b o hb e => g4 _ _ hb (at_new (g _ _ (g0 _ _ hb e)) hp3)) e4⟩
theorem sc_DurableStore_write_record : FnScope ["self", "body", "page"] ["self", "body"] (defScope s_DurableStore_write_record) := ⟨rfl, rfl, rfl, by decide +kernel, rfl, by decide +kernel, by decide +kernel⟩
theorem ok_DurableStore_write_record {P : Program} {w : World} {K : PySem.W.Frag} {mg : PySem.Str → Option Value} {base : Heap} (T : Txt K mg)  : Fn P w K mg base 5 a_DurableStore_write_record ["self", "body"] (sp2 fun x y H Q _ => ∃ (a dx p dxp lp : Addr) (fs : List (PySem.Str × V)) (m : Int), x = .ref a ∧ y = .str (bodyS m) ∧ 1 ≤ m ∧ m ≤ 10 ∧ H a = some (.ins c_DurableStore dx fs) ∧ fs.lookup ("own_disk" : PySem.Str) = some (.ref p) ∧ H p = some (.ins c_Disk dxp (dsk lp none)) ∧ H lp = some (strL []) ∧ ∀ H1, (∀ b o, b ≠ lp → H b = some o → H1 b = some o) → H1 lp = some (strL [pgM m]) → Q .non H1) := by
  have SC := sc_DurableStore_write_record
  refine Fn.of2 T.F_DurableStore_write_record SC (fun fd F => F.bindsN fun _ _ _ _ _ _ us hl => match us, hl with | [_, _], _ => rfl) (fun cdv A outer s H v0 v1 Q E hr h => ?_)
  refine ⟨_, PSs.nox (pss_one (ps_for PassesOwn.never rfl (piL K (pc (ok_pages_of T) hr T.g_pages_of passL (pa_cons (pc (ok_record_text T) hr T.g_record_text passL (pa_cons (pv 1) pa_nil)) pa_nil))) (pg_name (i := 2) SC.nd rfl (Or.inl rfl)) (pss_one (ps_expr (pm (fldK K (pv 0)) T.cl_Disk T.m_Disk_write (ok_Disk_write T) hr passL (pa_cons (pv 2) pa_nil)))))), ?_⟩
  rw [show L2.start ["self", "body", "page"] [v0, v1] = [some v0, some v1, none] from rfl]
  try dsimp only [cxOf, Cx.nox]
  obtain ⟨a, dx, p, dxp, lp, fs, m, rfl, rfl, h1, h2, ea, efs, ep, el, q⟩ := h
  simp only [tRet, tRetN, tNext, tSeq, tDrop, tAsg, gName, tIfS, tAndV, tOrV, tNotV, tAnd, tOr, tNot, tB, tTest, tIf, tCB, tCons, tVar, tC, tNil, tOp, tUn, tCall, tCallS, tMeth, tMake, tProp, tFld, sFld, sFldAug, tLst, tTup, tChain, tPar, tPar3, rI, rI0, rU, rEq, rNe, rIsi, rAppend, sp0, sp1, sp2, sp3, sp4, List.nil_append, List.append_nil, List.cons_append, List.cons.injEq, List.getElem?_cons_zero, List.getElem?_cons_succ, List.set_cons_zero, List.set_cons_succ, Option.some.injEq, V.int.injEq, V.str.injEq, V.bl.injEq, V.ref.injEq, V.ty.injEq, exists_eq_left', exists_eq_left, exists_eq_right, exists_and_left, exists_and_right, and_true, true_and, and_assoc, exists_const, exists_eq, reduceCtorEq, false_and, and_false, or_false, false_or, tBM, rLen]
  obtain ⟨_, _, _, _, _, _, _, p8, p9, p10, p11, p12, p13, p14, p15, p16, p18, p17⟩ := okM_p h1 h2
  have hz : (pgM m).length ≤ sizeLine := by rw [sizeLine_eq]; show (pgS (recS (bodyS m))).length ≤ _; omega
  refine ⟨_, rfl, bodyS m, rfl, by omega, by omega, fun H1 g1 => ⟨recS (bodyS m), rfl, p9, p10, fun H2 l g2 n2 e2 => ⟨l, rfl, ⟨_, sqL_str e2⟩, ?_⟩⟩⟩
  have g02 := g1.trans g2
  have lp2 := g02 _ _ el
  have nl : l ≠ lp := fun e => by rw [e] at n2; rw [g1 _ _ el] at n2; cases n2
  refine for_list (xs := [V.str (pgM m)]) (fun i σ H' => (∃ v2, σ = [some (.ref a), some (.str (bodyS m)), v2]) ∧ H' l = some (strL [pgM m]) ∧ (∀ b o, b ≠ lp → H b = some o → H' b = some o) ∧ H' lp = some (strL (if i = 0 then [] else [pgM m]))) ⟨⟨_, rfl⟩, e2, fun b o _ e => g02 _ _ e, lp2⟩ (fun i σ H' _ p => sqL_str p.2.1) (fun i x σ H' hx p => ?_) (fun σ H' p => ?_)
  · obtain ⟨⟨v2, rfl⟩, q1, q2, q3⟩ := p
    obtain rfl : i = 0 := by
      cases i with
      | zero => rfl
      | succ n => cases hx
    rw [one_get hx]
    simp only [tRet, tRetN, tNext, tSeq, tDrop, tAsg, gName, tIfS, tAndV, tOrV, tNotV, tAnd, tOr, tNot, tB, tTest, tIf, tCB, tCons, tVar, tC, tNil, tOp, tUn, tCall, tCallS, tMeth, tMake, tProp, tFld, sFld, sFldAug, tLst, tTup, tChain, tPar, tPar3, rI, rI0, rU, rEq, rNe, rIsi, rAppend, sp0, sp1, sp2, sp3, sp4, List.nil_append, List.append_nil, List.cons_append, List.cons.injEq, List.getElem?_cons_zero, List.getElem?_cons_succ, List.set_cons_zero, List.set_cons_succ, Option.some.injEq, V.int.injEq, V.str.injEq, V.bl.injEq, V.ref.injEq, V.ty.injEq, exists_eq_left', exists_eq_left, exists_eq_right, exists_and_left, exists_and_right, and_true, true_and, and_assoc, exists_const, exists_eq, reduceCtorEq, false_and, and_false, or_false, false_or, tBM, gCons, gNil, wipe, List.map_cons, List.map_nil]
    have pl : p ≠ lp := ne2 ep el (fun z => by unfold strL at z; cases z)
    have al : a ≠ lp := ne2 ea el (fun z => by unfold strL at z; cases z)
    have lP : l ≠ p := ne2 q1 (q2 _ _ pl ep) (fun z => by unfold strL at z; cases z)
    have hb : PageArg K H' (V.str (pgM m)) true := .inl ⟨_, rfl, hz, (decide_eq_true p11).symm⟩
    refine ⟨c_DurableStore, dx, fs, q2 _ _ al ea, T.cl_DurableStore, T.n_DurableStore_own_disk, _, efs, p, rfl, dxp, _, q2 _ _ pl ep, rfl, p, rfl, dxp, lp, none, q2 _ _ pl ep, [], q3, by rw [sizeLine_eq]; show 0 < 16777216; omega, true, hb, (fun z => by cases z), (fun _ z => by cases z), fun _ z ez _ => ?_⟩
    subst ez
    refine ⟨⟨_, rfl⟩, ?_, fun b o hb e => ?_, ?_⟩
    · rw [upd_ne nl, upd_ne lP]; exact q1
    · rw [upd_ne hb]
      by_cases h : b = p
      · subst h
        rw [upd_same]
        rw [ep] at e
        exact e
      · rw [upd_ne h]; exact q2 _ _ hb e
    · rw [upd_same, if_neg id]; rfl
  · obtain ⟨⟨v2, rfl⟩, q1, q2, q3⟩ := p
    exact q H' q2 q3
end Gd
/-! ### k91: durable stores, made and recovered -/
namespace Gd
open PySem PySem.Spec PyProof.Rows L2 NdefX
theorem sc_DurableStore___init__ : NScope ["self", "bits", "disk", "__class__"] ["self", "bits", "disk"] ["__class__"] (defScope s_DurableStore___init__) := nscope_by (by decide +kernel)
theorem ok_DurableStore___init__ {w : World} {K : PySem.W.Frag} {mg : PySem.Str → Option Value} {base : Heap} (T : Txt K mg) : Fn PW w K mg base 7 a_DurableStore___init__ ["self", "bits", "disk"] (sp3 fun x y z H Q E => ∃ (a dx : Addr) (m : Int) (p dxp lp : Addr), x = .ref a ∧ y = .int m ∧ z = .ref p ∧ 1 ≤ m ∧ m ≤ 10 ∧ H a = some (.ins c_DurableStore dx []) ∧ H p = some (.ins c_Disk dxp (dsk lp none)) ∧ H lp = some (strL []) ∧ ∀ H1 b dxb t k l1 l2 d, (∀ b' o, b' ≠ a → b' ≠ lp → H b' = some o → H1 b' = some o) → H1 a = some (.ins c_DurableStore dx (stF b k l1 l2 d ++ [(("own_disk" : PySem.Str), V.ref p)])) → H1 b = some (.ins c_Base dxb (bsF m t)) → H1 t = some (.dK []) → H1 lp = some (strL [pgM m]) → Q .non H1) := by
  have SC := sc_DurableStore___init__
  obtain ⟨fd, S⟩ := T.S_DurableStore___init__
  obtain ⟨fdI, FI, hbI, _⟩ := ok_Store___init__ (P := PW) (w := w) (base := base) T
  obtain ⟨oc, od, doc, pm', ct, osl, efd, hlk⟩ := id S.fn
  refine ⟨fd, fnSuper (F := nf_DurableStore___init__) (k := 6) S SC rfl rfl rfl (fun _ => rfl) (fun _ => rfl) (fun _ => rfl) (fun _ => rfl) (fun _ => rfl) (FI.raw hbI .nil) (fun vs H Q E z => ?_) (fun A outer s H vs Q E hr z => ?_), ?_, T.kf_DurableStore___init__, oc, od, osl, hlk⟩
  · match vs, z with
    | [_, _, _], _ => rfl
  · match vs, z with
    | [v0, v1, v2], h =>
      obtain ⟨a, dx, m, p, dxp, lp, rfl, rfl, rfl, h1, h2, ea, ep, el, q⟩ := h
      refine ⟨_, _, a, c_DurableStore, dx, [], rfl, ea, T.M_DurableStore___init__, pa_cons (pv 1) pa_nil, PSs.nox (pss_cons (ps_if (pt_cmpR op_gt (pe_callB (call_lenOwn T.m_Disk___len__ (ok_Disk___len__ T) hr) rfl T.b_len rfl (pa_cons (pv 2) pa_nil)) pe_int (nomark _)) (pss_one ps_never) pss_nil) (pss_cons (ps_fld (pv 0) (pv 2) rfl) (pss_one (ps_expr (pm (pv 0) T.cl_DurableStore T.m_DurableStore_write_record (ok_DurableStore_write_record T) hr passL (pa_cons (pc (ok_bits_body T) hr T.g_bits_body passL (pa_cons (pv 1) pa_nil)) pa_nil)))))), _, passL, ?_⟩
      rw [show startF ["self", "bits", "disk", "__class__"] [V.ref a, .int m, .ref p] [some (.ref c_DurableStore)] = [some (.ref a), some (.int m), some (.ref p), some (.ref c_DurableStore)] from rfl]
      try dsimp only [ncx, Cx.nox]
      simp only [tRet, tRetN, tNext, tSeq, tDrop, tAsg, gName, tIfS, tAndV, tOrV, tNotV, tAnd, tOr, tNot, tB, tTest, tIf, tCB, tCons, tVar, tC, tNil, tOp, tUn, tCall, tCallS, tMeth, tMake, tProp, tFld, sFld, sFldAug, tLst, tTup, tChain, tPar, tPar3, rI, rI0, rU, rEq, rNe, rIsi, rAppend, sp0, sp1, sp2, sp3, sp4, List.nil_append, List.append_nil, List.cons_append, List.cons.injEq, List.getElem?_cons_zero, List.getElem?_cons_succ, List.set_cons_zero, List.set_cons_succ, Option.some.injEq, V.int.injEq, V.str.injEq, V.bl.injEq, V.ref.injEq, V.ty.injEq, exists_eq_left', exists_eq_left, exists_eq_right, exists_and_left, exists_and_right, and_true, true_and, and_assoc, exists_const, exists_eq, reduceCtorEq, false_and, and_false, or_false, false_or, tBM, rLen]
      refine ⟨h1, h2, dx, ea, fun H1 b dxb t k l1 l2 d g1 e1 eb et => ?_⟩
      have pa : p ≠ a := ne2 ep ea (fun z => by cases z)
      have la : lp ≠ a := ne2 el ea (fun z => by unfold strL at z; cases z)
      have ep1 := g1 _ _ pa ep
      have el1 := g1 _ _ la el
      have ba : b ≠ a := ne2 eb e1 (fun z => by cases z)
      have ta : t ≠ a := ne2 et e1 (fun z => by cases z)
      refine ⟨p, dxp, _, rfl, ep1, ⟨p, rfl, dxp, lp, ⟨none, ep1⟩, [], el1, 0, rfl, by omega, by omega, 0, rfl, iteF ⟨c_DurableStore, dx, _, e1, T.cl_DurableStore, T.n_DurableStore_own_disk, by show 5 < 1000; omega, ?_⟩⟩⟩
      have g2 : Gr a H1 (upd H1 a (.ins c_DurableStore dx (putF "own_disk" (V.ref p) (stF b k l1 l2 d)))) := fun b' o hb' e => by rw [upd_ne hb']; exact e
      have e2 : upd H1 a (.ins c_DurableStore dx (putF "own_disk" (V.ref p) (stF b k l1 l2 d))) a = some (.ins c_DurableStore dx (stF b k l1 l2 d ++ [(("own_disk" : PySem.Str), V.ref p)])) := upd_same
      generalize upd H1 a (.ins c_DurableStore dx (putF "own_disk" (V.ref p) (stF b k l1 l2 d))) = H2 at *
      refine ⟨dx, _, e2, rfl, h1, h2, dx, p, dxp, lp, _, m, rfl, h1, h2, e2, rfl, g2 _ _ pa ep1, g2 _ _ la el1, fun H3 g3 e3 => ?_⟩
      have bl : b ≠ lp := ne2 eb el1 (fun z => by unfold strL at z; cases z)
      have tl : t ≠ lp := ne2 et el1 (fun z => by unfold strL at z; cases z)
      exact q H3 b dxb t k l1 l2 d (fun b' o n1 n2 e => g3 _ _ n2 (g2 _ _ n1 (g1 _ _ n1 e))) (g3 _ _ la.symm e2) (g3 _ _ bl (g2 _ _ ba eb)) (g3 _ _ tl (g2 _ _ ta et)) e3
  · subst efd
    exact .all fun us hl => match us, hl with | [_, _, _], _ => rfl
theorem sc_DurableStore_recovered : FnScope ["cls", "disk", "pages", "record", "bits", "found", "count"] ["cls", "disk"] (defScope s_DurableStore_recovered) := ⟨rfl, rfl, rfl, by decide +kernel, rfl, by decide +kernel, by decide +kernel⟩
theorem ok_DurableStore_recovered {w : World} {K : PySem.W.Frag} {mg : PySem.Str → Option Value} {base : Heap} (T : Txt K mg)  : Fn PW w K mg base 9 a_DurableStore_recovered ["cls", "disk"] (sp2 fun x y H Q _ => ∃ (p dxp lp : Addr) (m : Int), x = .ref c_DurableStore ∧ y = .ref p ∧ 1 ≤ m ∧ m ≤ 10 ∧ H p = some (.ins c_Disk dxp (dsk lp none)) ∧ H lp = some (strL [pgM m]) ∧ ∀ H1 a dx b dxb t fs, (∀ b' o, b' ≠ p → b' ≠ lp → H b' = some o → H1 b' = some o) → H1 a = some (.ins c_DurableStore dx ((("base" : PySem.Str), V.ref b) :: fs)) → H1 b = some (.ins c_Base dxb (bsF m t)) → H1 t = some (.dK []) → fs.lookup ("tables" : PySem.Str) = none → Q (.ref a) H1) := by
  have SC := sc_DurableStore_recovered
  refine Fn.of2 T.F_DurableStore_recovered SC (fun fd F => F.bindsN fun _ _ _ _ _ _ us hl => match us, hl with | [_, _], _ => rfl) (fun cdv A outer s H v0 v1 Q E hr h => ?_)
  refine ⟨_, PSs.nox (pss_cons (ps_set (i := 2) SC.nd rfl (Or.inl rfl) (pm0 (pv 1) T.cl_Disk T.m_Disk_pages (ok_Disk_pages T) hr passL)) (pss_cons (ps_set (i := 3) SC.nd rfl (Or.inl rfl) (pmk T.k_NextRecord (ok_NextRecord___init__ T) hr T.g_NextRecord passL (pa_cons (pv 2) pa_nil))) (pss_cons (ps_set (i := 4) SC.nd rfl (Or.inl rfl) (pc (ok_bits_in T) hr T.g_bits_in passL (pa_cons (fldK K (pv 3)) pa_nil))) (pss_cons (ps_if (pt_cmpR op_isN (pv 4) pe_non (nomark _)) (pss_one ps_never) pss_nil) (pss_cons (ps_set (i := 5) SC.nd rfl (Or.inl rfl) (pmkV T.k_DurableStore (ok_DurableStore___init__ T) hr (i := 0) rfl (.inl rfl) passL (pa_cons (pv 4) (pa_cons (pmk0 T.k_Disk (ok_Disk___init__ T) hr T.g_Disk passL) pa_nil)))) (pss_cons (ps_set (i := 6) SC.nd rfl (Or.inl rfl) pe_int) (pss_cons (ps_while PassesOwn.never (pt_cmpR op_notN (fldK K (pv 3)) pe_non (nomark _)) (pss_cons (ps_aug (i := 6) SC.nd rfl (Or.inl rfl) (fldK K (pv 3)) ip_add) (pss_cons (ps_set (i := 3) SC.nd rfl (Or.inl rfl) (pmk T.k_NextRecord (ok_NextRecord___init__ T) hr T.g_NextRecord passL (pa_cons (pe_slice sl_list (pv 2) (po_some (pv 6)) po_none) pa_nil))) (pss_one (ps_if (PW.pt (pw_and (pt_cmpR op_notN (fldK K (pv 3)) pe_non (nomark _)) (pw_and1 (pt_not (pt_val pe_never))))) (pss_one (ps_fld (pv 3) pe_non rfl)) pss_nil))))) (pss_cons (ps_expr (pm (pv 1) T.cl_Disk T.m_Disk_keep_first (ok_Disk_keep_first T) hr passL (pa_cons (pv 6) pa_nil))) (pss_cons (ps_fld (pv 5) (pv 1) rfl) (pss_one (ps_ret (pv 5)))))))))))), ?_⟩
  rw [show L2.start ["cls", "disk", "pages", "record", "bits", "found", "count"] [v0, v1] = [some v0, some v1, none, none, none, none, none] from rfl]
  try dsimp only [cxOf, Cx.nox]
  obtain ⟨p, dxp, lp, m, rfl, rfl, h1, h2, ep, el, q⟩ := h
  simp only [tRet, tRetN, tNext, tSeq, tDrop, tAsg, gName, tIfS, tAndV, tOrV, tNotV, tAnd, tOr, tNot, tB, tTest, tIf, tCB, tCons, tVar, tC, tNil, tOp, tUn, tCall, tCallS, tMeth, tMake, tProp, tFld, sFld, sFldAug, tLst, tTup, tChain, tPar, tPar3, rI, rI0, rU, rEq, rNe, rIsi, rAppend, sp0, sp1, sp2, sp3, sp4, List.nil_append, List.append_nil, List.cons_append, List.cons.injEq, List.getElem?_cons_zero, List.getElem?_cons_succ, List.set_cons_zero, List.set_cons_succ, Option.some.injEq, V.int.injEq, V.str.injEq, V.bl.injEq, V.ref.injEq, V.ty.injEq, exists_eq_left', exists_eq_left, exists_eq_right, exists_and_left, exists_and_right, and_true, true_and, and_assoc, exists_const, exists_eq, reduceCtorEq, false_and, and_false, or_false, false_or, tBM, rLen]
  refine ⟨dxp, _, ep, rfl, dxp, lp, ⟨none, ep⟩, [pgM m], el, fun p1 hp1 r dr hr1 hdr hne => ?_⟩
  have s0 : Su H (upd H p1 (strL [pgM m])) := .new hp1
  have e0 : upd H p1 (strL [pgM m]) p1 = some (strL [pgM m]) := upd_same
  generalize upd H p1 (strL [pgM m]) = H0 at *
  refine ⟨dr, some m, fun m' e => by cases e; exact ⟨h1, h2⟩, upd_same, by rw [upd_ne (ne_of_none e0 hr1), upd_ne (ne_of_none e0 hdr)]; exact e0, fun H1 g1 e1 => ⟨c_NextRecord, dr, _, e1, T.cl_NextRecord, T.n_NextRecord_body, .str (bodyS m), rfl, m, rfl, h1, h2, fun H2 g2 => iteF ⟨rfl, ?_⟩⟩⟩
  have s1 : Su H0 H1 := fun b o e => g1 b o (ne_of_none e hr1) (by rw [upd_ne (ne_of_none e hr1), upd_ne (ne_of_none e hdr)]; exact e)
  have s2 : Su H0 H2 := s1.trans g2
  refine ⟨_, rfl, fun y dy hy hdy hyn => ⟨y, rfl, dy, upd_same, fun l H3 hl k1 k2 k3 => ⟨rfl, fun f df hf hdf hfn => ?_⟩⟩⟩
  have s3 : Su H2 H3 := su_disk hy hdy hl k1
  have l2 : H2 l = none := (su_made hy hdy).none hl
  have s4 := su_made (o := .ins c_DurableStore df []) hf hdf
  refine ⟨f, rfl, df, m, rfl, y, rfl, h1, h2, upd_same, dy, l, s4 _ _ k2, s4 _ _ k3, fun H4 b dxb t k l1 l3 d g4 e4 eb et el4 => ⟨rfl, ?_⟩⟩
  have s24 : Su H2 H4 := fun b' o e => g4 b' o (ne_of_none (s3 _ _ e) hf) (ne_of_none e l2) (s4 _ _ (s3 _ _ e))
  refine ⟨fun j σ H' => (j = 1 ∧ σ = [some (.ref c_DurableStore), some (.ref p), some (.ref p1), some (.ref r), some (.int m), some (.ref f), some (.int 0)] ∧ H' = H4) ∨ (j = 0 ∧ ∃ r2 dr2, σ = [some (.ref c_DurableStore), some (.ref p), some (.ref p1), some (.ref r2), some (.int m), some (.ref f), some (.int 1)] ∧ Su H4 H' ∧ H' r2 = some (.ins c_NextRecord dr2 (nrF none))), ⟨1, .inl ⟨rfl, rfl, rfl⟩⟩, fun j σ H' w => ?_⟩
  rcases w with ⟨rfl, rfl, rfl⟩ | ⟨rfl, r2, dr2, rfl, g5, e5⟩
  · simp only [tRet, tRetN, tNext, tSeq, tDrop, tAsg, gName, tIfS, tAndV, tOrV, tNotV, tAnd, tOr, tNot, tB, tTest, tIf, tCB, tCons, tVar, tC, tNil, tOp, tUn, tCall, tCallS, tMeth, tMake, tProp, tFld, sFld, sFldAug, tLst, tTup, tChain, tPar, tPar3, rI, rI0, rU, rEq, rNe, rIsi, rAppend, sp0, sp1, sp2, sp3, sp4, List.nil_append, List.append_nil, List.cons_append, List.cons.injEq, List.getElem?_cons_zero, List.getElem?_cons_succ, List.set_cons_zero, List.set_cons_succ, Option.some.injEq, V.int.injEq, V.str.injEq, V.bl.injEq, V.ref.injEq, V.ty.injEq, exists_eq_left', exists_eq_left, exists_eq_right, exists_and_left, exists_and_right, and_true, true_and, and_assoc, exists_const, exists_eq, reduceCtorEq, false_and, and_false, or_false, false_or, tBM, rLen, tSl, tPart, tNoPart, rSlL, ipI, tAug]
    have er := s24 _ _ (g2 _ _ e1)
    have ep1 := s24 _ _ (s2 _ _ e0)
    refine ⟨c_NextRecord, dr, _, er, T.cl_NextRecord, T.n_NextRecord_body, .str (bodyS m), rfl, ?_⟩
    rw [decide_eq_false (show ¬ V.str (bodyS m) = V.non from fun z => by cases z)]
    refine iteT ⟨fun σ' H5 => ∃ r2 dr2, σ' = [some (.ref c_DurableStore), some (.ref p), some (.ref p1), some (.ref r2), some (.int m), some (.ref f), some (.int 1)] ∧ Su H' H5 ∧ H5 r2 = some (.ins c_NextRecord dr2 (nrF none)), fun σ' H5 z => ?_, ?_⟩
    · obtain ⟨r2, dr2, z1, z2, z3⟩ := z
      exact ⟨0, by omega, .inr ⟨rfl, r2, z1, z2, dr2, z3⟩⟩
    · refine ⟨c_NextRecord, dr, _, er, T.cl_NextRecord, T.n_NextRecord_count, _, rfl, 1, rfl, _, sqL_str ep1, fun p3 hp3 r2 dr2 hr2 hdr2 hn2 => ?_⟩
      have e3 : upd H' p3 (.lst (cutV ([pgM m].map V.str) (some (0 + 1)) none)) p3 = some (strL []) := upd_same
      refine ⟨dr2, none, (fun m' e => by cases e), upd_same, by rw [upd_ne (ne_of_none e3 hr2), upd_ne (ne_of_none e3 hdr2)]; exact e3, fun H6 g6 e6 => ⟨c_NextRecord, dr2, _, e6, T.cl_NextRecord, T.n_NextRecord_body, .non, rfl, ?_⟩⟩
      rw [decide_eq_true rfl]
      exact iteF (ifF ⟨r2, dr2, rfl, fun b' o e => g6 b' o (ne_of_none (at_new e hp3) hr2) (by rw [upd_ne (ne_of_none (at_new e hp3) hr2), upd_ne (ne_of_none (at_new e hp3) hdr2)]; exact at_new e hp3), e6⟩)
  · simp only [tRet, tRetN, tNext, tSeq, tDrop, tAsg, gName, tIfS, tAndV, tOrV, tNotV, tAnd, tOr, tNot, tB, tTest, tIf, tCB, tCons, tVar, tC, tNil, tOp, tUn, tCall, tCallS, tMeth, tMake, tProp, tFld, sFld, sFldAug, tLst, tTup, tChain, tPar, tPar3, rI, rI0, rU, rEq, rNe, rIsi, rAppend, sp0, sp1, sp2, sp3, sp4, List.nil_append, List.append_nil, List.cons_append, List.cons.injEq, List.getElem?_cons_zero, List.getElem?_cons_succ, List.set_cons_zero, List.set_cons_succ, Option.some.injEq, V.int.injEq, V.str.injEq, V.bl.injEq, V.ref.injEq, V.ty.injEq, exists_eq_left', exists_eq_left, exists_eq_right, exists_and_left, exists_and_right, and_true, true_and, and_assoc, exists_const, exists_eq, reduceCtorEq, false_and, and_false, or_false, false_or, tBM, rLen, tSl, tPart, tNoPart, rSlL, ipI, tAug]
    refine ⟨c_NextRecord, dr2, _, e5, T.cl_NextRecord, T.n_NextRecord_body, .non, rfl, ?_⟩
    rw [decide_eq_true rfl]
    have up : Su H H' := ((s0.trans s2).trans s24).trans g5
    have uq := s2.trans s3
    have ep' := up _ _ ep
    have ef' := g5 _ _ e4
    have eb' := g5 _ _ eb
    have et' := g5 _ _ et
    have bp : b ≠ p := ne2 eb' ep' (fun z => absurd (HO.ins.inj z).1 (by decide))
    have tp : t ≠ p := ne2 et' ep' (fun z => by cases z)
    have bf : b ≠ f := ne2 eb' ef' (fun z => absurd (HO.ins.inj z).1 (by decide))
    have tf : t ≠ f := ne2 et' ef' (fun z => by cases z)
    have fp : f ≠ p := ne2 ef' ep' (fun z => absurd (HO.ins.inj z).1 (by decide))
    refine iteF ⟨dxp, _, ep', rfl, dxp, lp, none, ep', [pgM m], up _ _ el, 1, rfl, fun l9 hl9 => ⟨c_DurableStore, df, _, by rw [upd_ne fp]; exact at_new ef' hl9, T.cl_DurableStore, T.n_DurableStore_own_disk, by show 6 < 1000; omega, q _ f df b dxb t [(("own_keeper" : PySem.Str), V.ref k), ("own_constraints", .ref l1), ("begun", .ref l3), ("own_pins", .ref d), ("own_disk", .ref p)] (fun b' o n1 n2 e => ?_) upd_same ?_ ?_ rfl⟩⟩
    · rw [upd_ne (ne_of_none (uq _ _ (s0 _ _ e)) hf), upd_ne n1]; exact at_new (up _ _ e) hl9
    · rw [upd_ne bf, upd_ne bp]; exact at_new eb' hl9
    · rw [upd_ne tf, upd_ne tp]; exact at_new et' hl9
end Gd
/-! ### k91: a store by the names of the parameters -/
namespace Gd
open PySem PySem.Spec PyProof.Rows L2
theorem look_tables {v : V} {fs : List (PySem.Str × V)} (h : List.lookup ("tables" : PySem.Str) fs = none) : List.lookup ("tables" : PySem.Str) ((("base" : PySem.Str), v) :: fs) = none := by
  show (match (("tables" : PySem.Str) == "base") with | true => some v | false => List.lookup ("tables" : PySem.Str) fs) = none
  rw [show (("tables" : PySem.Str) == "base") = false from by decide]; exact h
theorem sc__law_named_right : FnScope ["_law_pot_here", "_law_most", "_law_plate", "_law_text", "_law_store", "_law_again"] ["_law_pot_here"] (defScope s__law_named_right) := ⟨rfl, rfl, rfl, by decide +kernel, rfl, by decide +kernel, by decide +kernel⟩
theorem ok__law_named_right {w : World} {K : PySem.W.Frag} {mg : PySem.Str → Option Value} {base : Heap} (T : Txt K mg)  : Fn PW w K mg base 10 a__law_named_right ["_law_pot_here"] (sp1 fun x H Q _ => ∃ (p : Addr) (c s : Int), x = .ref p ∧ H p = some (potO c s) ∧ PotOk c s ∧ ∀ H', Gr p H H' → Q (.bl true) H') := by
  have SC := sc__law_named_right
  refine Fn.of1 T.F__law_named_right SC (fun fd F => F.bindsN fun _ _ _ _ _ _ us hl => match us, hl with | [_], _ => rfl) (fun cdv A outer s H v0 Q E hr h => ?_)
  refine ⟨_, PSs.nox (pss_cons (ps_par (i := 1) (j := 2) rfl SC.nd rfl rfl (by decide) rfl rfl (pa_cons (pe_op op_add pe_int (pc (ok__law_take T) hr T.g__law_take passL (pa_cons (pv 0) (pa_cons pe_int pa_nil)))) (pa_cons (pmk0 T.k_Disk (ok_Disk___init__ T) hr T.g_Disk passL) pa_nil)) rfl) (pss_cons (ps_set (i := 3) SC.nd rfl (Or.inl rfl) (pe_op op_add_str pe_str (pe_callTy call_str_int rfl T.b_str rfl (pa_cons (pv 1) pa_nil)))) (pss_cons (ps_set (i := 4) SC.nd rfl (Or.inl rfl) (pmkK0 T.k_DurableStore ((ok_DurableStore___init__ T).kbnS T.S_DurableStore___init__ 1 ["disk", "bits"] (fun us ws => us ++ ws.reverse) (fun r1 r2 => r1.append r2.reverseV) (fun _ _ _ us ws h1 h2 => match us, h1, ws, h2 with | [_], _, [_, _], _ => rfl)) hr T.g_DurableStore passL (pk_cons (pv 2) (pk_cons (pv 1) pk_nil)))) (pss_cons (ps_if (PW.pt (pw_or (pt_cmpR (op_neD hr.units) (pm0 (pv 2) T.cl_Disk T.m_Disk_pages (ok_Disk_pages T) hr passL) (pcK0 ((ok_pages_of T).kbn T.F_pages_of 0 ["record"] (fun us ws => us ++ ws) (fun r1 r2 => r1.append r2) (fun _ _ _ _ _ _ us ws h1 h2 => match us, h1, ws, h2 with | [], _, [_], _ => rfl)) hr T.g_pages_of passL (pk_cons (pcK0 ((ok_record_text T).kbn T.F_record_text 0 ["body"] (fun us ws => us ++ ws) (fun r1 r2 => r1.append r2) (fun _ _ _ _ _ _ us ws h1 h2 => match us, h1, ws, h2 with | [], _, [_], _ => rfl)) hr T.g_record_text passL (pk_cons (pv 3) pk_nil)) pk_nil)) (nomark _)) (pw_or1 (pt_cmpR (op_neD hr.units) (pm0 (pv 2) T.cl_Disk T.m_Disk_pages (ok_Disk_pages T) hr passL) (pc (ok_pages_of T) hr T.g_pages_of passL (pa_cons (pc (ok_record_text T) hr T.g_record_text passL (pa_cons (pv 3) pa_nil)) pa_nil)) (nomark _))))) (pss_one (ps_ret pe_bl)) pss_nil) (pss_cons (ps_set (i := 5) SC.nd rfl (Or.inl rfl) (pcmK0 (pe_glob (v := .ref c_DurableStore) rfl T.g_DurableStore rfl) T.cr_DurableStore T.w_DurableStore_recovered ((ok_DurableStore_recovered T).kbn T.F_DurableStore_recovered 1 ["disk"] (fun us ws => us ++ ws) (fun r1 r2 => r1.append r2) (fun _ _ _ _ _ _ us ws h1 h2 => match us, h1, ws, h2 with | [_], _, [_], _ => rfl)) hr passL (pk_cons (pm0 (pv 2) T.cl_Disk T.m_Disk_restarted (ok_Disk_restarted T) hr passL) pk_nil))) (pss_one (ps_ret (pe_and (pe_cmpR (op_eqD hr.units) (pe_lst (pa_cons (pprop (pv 5) T.cl_DurableStore T.q_DurableStore_bits (ok_Store_bits T) hr passL) (pa_cons (pprop (pv 5) T.cl_DurableStore T.q_DurableStore_version (ok_Store_version T) hr passL) (pa_cons (pm0 (pv 5) T.cl_DurableStore T.m_DurableStore_tables (ok_Store_tables T) hr passL) pa_nil)))) (pe_lst (pa_cons (pv 1) (pa_cons pe_int (pa_cons (pe_lst pa_nil) pa_nil)))) (nomark _)) (pe_one (pe_cmpR op_eq (pprop (pv 4) T.cl_DurableStore T.q_DurableStore_bits (ok_Store_bits T) hr passL) (pv 1) (nomark _))))))))))), ?_⟩
  rw [show L2.start ["_law_pot_here", "_law_most", "_law_plate", "_law_text", "_law_store", "_law_again"] [v0] = [some v0, none, none, none, none, none] from rfl]
  try dsimp only [cxOf, Cx.nox]
  obtain ⟨p, c, s, rfl, ep, hP, q⟩ := h
  simp (maxSteps := 3000000) only [tRet, tRetN, tNext, tSeq, tDrop, tAsg, gName, tIfS, tAndV, tOrV, tNotV, tAnd, tOr, tNot, tB, tTest, tIf, tCB, tCons, tVar, tC, tNil, tOp, tUn, tCall, tCallS, tMeth, tMake, tProp, tFld, sFld, sFldAug, tLst, tTup, tChain, tPar, tPar3, rI, rI0, rU, rEq, rNe, rIsi, rAppend, sp0, sp1, sp2, sp3, sp4, List.nil_append, List.append_nil, List.cons_append, List.cons.injEq, List.getElem?_cons_zero, List.getElem?_cons_succ, List.set_cons_zero, List.set_cons_succ, Option.some.injEq, V.int.injEq, V.str.injEq, V.bl.injEq, V.ref.injEq, V.ty.injEq, exists_eq_left', exists_eq_left, exists_eq_right, exists_and_left, exists_and_right, and_true, true_and, and_assoc, exists_const, exists_eq, reduceCtorEq, false_and, and_false, or_false, false_or, tBM, rLen, tCallN, tMakeK, tCMethK]
  refine ⟨c, s, ep, hP, by decide, by decide, fun c1 s1 d hP1 d0 d9 y dy hy hdy hyn => ?_⟩
  have h1 : 1 ≤ 1 + d := by omega
  have h2 : 1 + d ≤ 10 := by omega
  generalize 1 + d = m at *
  have g0 : Gr p H (upd H p (potO c1 s1)) := fun b o hb e => by rw [upd_ne hb]; exact e
  generalize upd H p (potO c1 s1) = H1 at *
  obtain ⟨_, _, p3, _, _, _, _, p8, p9, p10, p11, p12, p13, p14, p15, p16, p18, p17⟩ := okM_p h1 h2
  refine ⟨dy, upd_same, fun l H2 hl k1 k2 k3 => ⟨small_log (by omega), ?_, rfl, rfl, fun f df hf hdf hfn => ?_⟩⟩
  · have h5 : ("bits " : PySem.Str).length = 5 := by decide +kernel
    rw [h5, sizeLine_eq]
    show 5 + (nS m).length ≤ _
    omega
  rw [show ("bits " : PySem.Str) ++ Str.ofString (toString m) = bodyS m from p18]
  have s1 : Su H1 H2 := su_disk hy hdy hl k1
  have s2 := su_made (o := .ins c_DurableStore df []) hf hdf
  refine ⟨f, rfl, df, m, rfl, y, rfl, h1, h2, upd_same, dy, l, s2 _ _ k2, s2 _ _ k3, fun H4 b dxb t k l1 l3 dd g4 e4 eb et el4 => ?_⟩
  have yl : y ≠ l := ne2 k2 k3 (fun z => by unfold strL at z; cases z)
  have yf : y ≠ f := ne_of_none k2 hf
  have ep4 := g4 _ _ yf yl (s2 _ _ k2)
  have sh := shStrs (ps := [pgM m]) (fun z hz => by rw [List.mem_singleton.mp hz]; exact p15)
  refine ⟨dy, _, ep4, rfl, dy, l, ⟨none, ep4⟩, [pgM m], el4, fun q1 hq1 => ⟨rfl, rfl, by omega, by omega, fun H5 g5 => ⟨rfl, rfl, p9, p10, fun H6 l6 g6 n6 e6 => ?_⟩⟩⟩
  have s46 : Su H4 H6 := ((Su.new hq1).trans g5).trans g6
  refine ⟨_, _, dpStrs (ps := [pgM m]) (sqL_str (g6 _ _ (g5 _ _ upd_same))), dpStrs (ps := [pgM m]) (sqL_str e6), shaped_of sh, shaped_of sh, _, rfl, ?_⟩
  rw [SeqAt.eqv_refl _ sh.1]
  have ep6 := s46 _ _ ep4
  have el6 := s46 _ _ el4
  refine iteF ⟨dy, _, ep6, rfl, dy, l, ⟨none, ep6⟩, [pgM m], el6, fun q2 hq2 => ⟨by omega, by omega, fun H7 g7 => ⟨p9, p10, fun H8 l8 g8 n8 e8 => ?_⟩⟩⟩
  have s68 : Su H6 H8 := ((Su.new hq2).trans g7).trans g8
  refine ⟨_, _, dpStrs (ps := [pgM m]) (sqL_str (g8 _ _ (g7 _ _ upd_same))), dpStrs (ps := [pgM m]) (sqL_str e8), shaped_of sh, shaped_of sh, _, rfl, ?_⟩
  rw [SeqAt.eqv_refl _ sh.1]
  have ep8 := s68 _ _ ep6
  have el8 := s68 _ _ el6
  refine iteF ⟨dy, _, ep8, rfl, dy, l, ⟨none, ep8⟩, [pgM m], el8, fun z dz lz H9 hz hlz nlz g9 ez elz => ⟨rfl, dz, lz, m, h1, h2, ez, elz, fun H10 a dxa b2 dxb2 t2 fs g10 ea10 eb10 et10 hfs => ?_⟩⟩
  have s48 : Su H4 H8 := s46.trans s68
  have s49 : ∀ {b' o}, H4 b' = some o → H9 b' = some o := fun {b' o} e => g9 _ _ (s48 _ _ e)
  have old : ∀ {b' o}, H4 b' = some o → H10 b' = some o := fun {b' o} e => g10 _ _ (ne_of_none (s48 _ _ e) hz) (ne_of_none (s48 _ _ e) hlz) (s49 e)
  refine ⟨⟨_, _, ea10⟩, dxa, b2, ⟨_, ea10⟩, dxb2, t2, m, eb10, et10, ⟨_, _, ea10⟩, dxa, b2, ⟨_, ea10⟩, dxb2, t2, ⟨m, eb10⟩, et10, dxa, _, ea10, look_tables hfs, dxa, b2, ⟨_, ea10⟩, dxb2, t2, ⟨m, eb10⟩, et10, fun lt hlt => ?_⟩
  have s11 : Su H10 (upd H10 lt (.lst [])) := .new hlt
  have e11 : upd H10 lt (.lst []) lt = some (.lst []) := upd_same
  generalize upd H10 lt (.lst []) = H11 at *
  refine ⟨by rw [sizeLine_eq]; show 3 ≤ 16777216; omega, fun la hla => ⟨Nat.zero_le _, fun le hle => ⟨by rw [sizeLine_eq]; show 3 ≤ 16777216; omega, fun lb hlb => ?_⟩⟩⟩
  have n1 : Su H11 (upd (upd (upd H11 la (.lst [.int m, .int 0, .ref lt])) le (.lst [])) lb (.lst [.int m, .int 0, .ref le])) := ((Su.new hla).trans (Su.new hle)).trans (Su.new hlb)
  have a1 : upd (upd (upd H11 la (.lst [.int m, .int 0, .ref lt])) le (.lst [])) lb (.lst [.int m, .int 0, .ref le]) la = some (.lst [.int m, .int 0, .ref lt]) := at_new (at_new upd_same hle) hlb
  have a2 : upd (upd (upd H11 la (.lst [.int m, .int 0, .ref lt])) le (.lst [])) lb (.lst [.int m, .int 0, .ref le]) le = some (.lst []) := at_new upd_same hlb
  have a3 : upd (upd (upd H11 la (.lst [.int m, .int 0, .ref lt])) le (.lst [])) lb (.lst [.int m, .int 0, .ref le]) lb = some (.lst [.int m, .int 0, .ref le]) := upd_same
  generalize upd (upd (upd H11 la (.lst [.int m, .int 0, .ref lt])) le (.lst [])) lb (.lst [.int m, .int 0, .ref le]) = H14 at *
  have all : ∀ {b' o}, H4 b' = some o → H14 b' = some o := fun {b' o} e => n1 _ _ (s11 _ _ (old e))
  have sd : (PyData.list [.int m, .int 0, .list []]).canLay0 = true ∧ (PyData.list [.int m, .int 0, .list []]).depth ≤ 64 := ⟨rfl, by simp only [PyData.depth, PyData.depthAll]; omega⟩
  refine ⟨.list [.int m, .int 0, .list []], .list [.int m, .int 0, .list []], .lst (sqL_of a1) (.cons (.int m) (.cons (.int 0) (.cons (.lst (sqL_of (n1 _ _ e11)) .nil) .nil))), .lst (sqL_of a3) (.cons (.int m) (.cons (.int 0) (.cons (.lst (sqL_of a2) .nil) .nil))), shaped_of sd, shaped_of sd, _, rfl, ?_⟩
  rw [SeqAt.eqv_refl _ sd.1]
  refine iteT ⟨⟨_, _, all e4⟩, df, b, ⟨_, all e4⟩, dxb, t, m, all eb, all et, rfl, ?_⟩
  rw [decide_eq_true rfl]
  exact q _ fun b' o hb' e => all (g4 _ _ (ne_of_none (s1 _ _ (g0 _ _ hb' e)) hf) (ne_of_none (g0 _ _ hb' e) ((su_made hy hdy).none hl)) (s2 _ _ (s1 _ _ (g0 _ _ hb' e))))
end Gd
/-! ### k91: the law -/
namespace Gd
open PySem PySem.Spec PyProof.Rows L2
theorem sc_law : FnScope ["_law_script", "_law_k"] ["_law_script"] (defScope s_law) := ⟨rfl, rfl, rfl, by decide +kernel, rfl, by decide +kernel, by decide +kernel⟩
theorem ok_law {w : World} {K : PySem.W.Frag} {mg : PySem.Str → Option Value} {base : Heap} (T : Txt K mg) {fd : FuncData} (F0 : FunD K "law" "law" (defArgs s_law) (defBody s_law) (defScope s_law) [] [] a_law fd) : FnG PW w K mg base (L2.CX PW w) 12 a_law fd ["_law_script"] (sp1 fun x H Q _ => ∃ (a : Addr) (ns : List Int), x = .ref a ∧ SqL K H a (ns.map V.int) ∧ ns.length ≤ 63 ∧ ∀ H', Q (.bl true) H') := by
  have SC := sc_law
  refine fnG1 F0 SC (fun cdv A outer s H v0 Q E hg hr h => ?_)
  refine ⟨_, PSs.nox (pss_one (ps_ret (pe_callB (cr_all rfl) rfl T.b_all rfl (pa_cons (pe_lc (own := [("_law_k", 1)]) (g := gName 1) (tt := tYes) rfl SC.nd (pi_range1 rfl T.b_range (pa_cons (pe_callB (call_max2 rfl) rfl T.b_max rfl (pa_cons pe_int (pa_cons (pe_callB (call_min2 rfl) rfl T.b_min rfl (pa_cons (pe_callB (lenK K) rfl T.b_len rfl (pa_cons (pv 0) pa_nil)) (pa_cons pe_int pa_nil))) pa_nil))) pa_nil)) (blkOk_by (own := [("_law_k", 1)]) (N := ["_law_script", "_law_k"]) (sc := defScope s_law) (by decide +kernel)) (fun _ _ _ _ _ => pg_name (i := 1) SC.nd rfl (Or.inl rfl)) (fun _ _ _ _ _ => pts_nil) (fun _ _ _ _ _ => (pcG (ok__law_right T T.cmp_Disk (ok__law_named_right T)) hg hr T.g__law_right passL (pa_cons (pc (ok__law_pot T) hr T.g__law_pot passL (pa_cons (pv 0) (pa_cons (pv 1) pa_nil))) pa_nil)))) pa_nil)))), ?_⟩
  rw [show L2.start ["_law_script", "_law_k"] [v0] = [some v0, none] from rfl]
  try dsimp only [cxOf, Cx.nox]
  obtain ⟨a, ns, rfl, ha, hn, q⟩ := h
  simp only [tRet, tRetN, tNext, tSeq, tDrop, tAsg, gName, tIfS, tAndV, tOrV, tNotV, tAnd, tOr, tNot, tB, tTest, tIf, tCB, tCons, tVar, tC, tNil, tOp, tUn, tCall, tCallS, tMeth, tMake, tProp, tFld, sFld, sFldAug, tLst, tTup, tChain, tPar, tPar3, rI, rI0, rU, rEq, rNe, rIsi, rAppend, sp0, sp1, sp2, sp3, sp4, List.nil_append, List.append_nil, List.cons_append, List.cons.injEq, List.getElem?_cons_zero, List.getElem?_cons_succ, List.set_cons_zero, List.set_cons_succ, Option.some.injEq, V.int.injEq, V.str.injEq, V.bl.injEq, V.ref.injEq, V.ty.injEq, exists_eq_left', exists_eq_left, exists_eq_right, exists_and_left, exists_and_right, and_true, true_and, and_assoc, exists_const, exists_eq, reduceCtorEq, false_and, and_false, or_false, false_or, tBM, rLen]
  have hm : (if (if (6 : Int) < (ns.length : Nat) then (6 : Int) else (ns.length : Nat)) > 1 then (if (6 : Int) < (ns.length : Nat) then (6 : Int) else (ns.length : Nat)) else 1) = ((max 1 (min ns.length 6) : Nat) : Int) := by
    split <;> split at * <;> omega
  refine tLcR (n := max 1 (min ns.length 6)) (fun D i H' => H D = none ∧ Su H H' ∧ H' D = some (.lst ((List.replicate i true).map V.bl))) (by omega) (fun R r => ⟨_, rfl, _, ns.length, rfl, .inl ⟨_, ha, (List.length_map _).symm⟩, _, _, rfl, _, _, rfl, by rw [hm]; exact r⟩) (fun D hD => ⟨hD, .new hD, upd_same⟩) (fun D i H' hi p => ?_) (fun D H' hD p => ?_)
  · obtain ⟨hD, g, e⟩ := p
    refine ⟨rfl, _, rfl, _, rfl, a, rfl, ns, i, rfl, by omega, sqL_su g ha, fun q c s hq hP => ⟨q, rfl, c, s, upd_same, hP, fun H3 g3 => ⟨_, g3 _ _ (ne_of_none e hq) (at_new e hq), ?_, hD, su_at (fun b o z => g3 _ _ (ne_of_none (g _ _ z) hq) (at_new (g _ _ z) hq)) hD, ?_⟩⟩⟩
    · rw [List.length_map, List.length_replicate, sizeLine_eq]; omega
    · rw [upd_same, List.replicate_succ', List.map_append]; rfl
  · refine ⟨D, _, rfl, sqL_of p.2.2, ?_⟩
    rw [show (List.replicate (max 1 (min ns.length 6)) true).all id = true from by simp]
    exact q _
end Gd
namespace Hd
open PySem PySem.W PySem.Calls PyProof.Rows L2 Gd
theorem txt (w : World) (mg0f : PySem.Str → Option Value) (mg : ∀ n v, nsIn (KL w) mainGlobals n = some (some v) → mg0f n = some v) (mg0 : ∀ n, nsIn (KL w) mainGlobals n = some none → mg0f n = none) : Txt (KL w) mg0f where
  F_law := ⟨(fu (top 256) "law" "law" 3 [] vN vN vN (vs "law_coverstore_k91_disks" 4282) none (vr 3099) vN 0), ⟨(vt "function"), none, vN, vN, vN, (vs "law_coverstore_k91_disks" 4282), none, (vr 3099), vN, #[], by kernel_rfl, by kernel_rfl, by kernel_rfl, .inl ⟨rfl, rfl⟩, .inl rfl⟩, by kernel_rfl⟩
  g_law := mg _ _ (by kernel_rfl)
  F__law_pot := ⟨(fu (top 242) "_law_pot" "_law_pot" 3 [] vN vN vN (vs "law_coverstore_k91_disks" 4282) none (vr 3007) vN 0), ⟨(vt "function"), none, vN, vN, vN, (vs "law_coverstore_k91_disks" 4282), none, (vr 3007), vN, #[], by kernel_rfl, by kernel_rfl, by kernel_rfl, .inl ⟨rfl, rfl⟩, .inl rfl⟩, by kernel_rfl⟩
  g__law_pot := mg _ _ (by kernel_rfl)
  F__law_take := ⟨(fu (top 243) "_law_take" "_law_take" 3 [] vN vN vN (vs "law_coverstore_k91_disks" 4282) none (vr 3014) vN 0), ⟨(vt "function"), none, vN, vN, vN, (vs "law_coverstore_k91_disks" 4282), none, (vr 3014), vN, #[], by kernel_rfl, by kernel_rfl, by kernel_rfl, .inl ⟨rfl, rfl⟩, .inl rfl⟩, by kernel_rfl⟩
  g__law_take := mg _ _ (by kernel_rfl)
  F__law_pick := ⟨(fu (top 244) "_law_pick" "_law_pick" 3 [] vN vN vN (vs "law_coverstore_k91_disks" 4282) none (vr 3021) vN 0), ⟨(vt "function"), none, vN, vN, vN, (vs "law_coverstore_k91_disks" 4282), none, (vr 3021), vN, #[], by kernel_rfl, by kernel_rfl, by kernel_rfl, .inl ⟨rfl, rfl⟩, .inl rfl⟩, by kernel_rfl⟩
  g__law_pick := mg _ _ (by kernel_rfl)
  F__law_page := ⟨(fu (top 245) "_law_page" "_law_page" 3 [] vN vN vN (vs "law_coverstore_k91_disks" 4282) none (vr 3026) vN 0), ⟨(vt "function"), none, vN, vN, vN, (vs "law_coverstore_k91_disks" 4282), none, (vr 3026), vN, #[], by kernel_rfl, by kernel_rfl, by kernel_rfl, .inl ⟨rfl, rfl⟩, .inl rfl⟩, by kernel_rfl⟩
  g__law_page := mg _ _ (by kernel_rfl)
  F__law_is_page := ⟨(fu (top 246) "_law_is_page" "_law_is_page" 3 [] vN vN vN (vs "law_coverstore_k91_disks" 4282) none (vr 3033) vN 0), ⟨(vt "function"), none, vN, vN, vN, (vs "law_coverstore_k91_disks" 4282), none, (vr 3033), vN, #[], by kernel_rfl, by kernel_rfl, by kernel_rfl, .inl ⟨rfl, rfl⟩, .inl rfl⟩, by kernel_rfl⟩
  g__law_is_page := mg _ _ (by kernel_rfl)
  F__law_number := ⟨(fu (top 247) "_law_number" "_law_number" 3 [] vN vN vN (vs "law_coverstore_k91_disks" 4282) none (vr 3040) vN 0), ⟨(vt "function"), none, vN, vN, vN, (vs "law_coverstore_k91_disks" 4282), none, (vr 3040), vN, #[], by kernel_rfl, by kernel_rfl, by kernel_rfl, .inl ⟨rfl, rfl⟩, .inl rfl⟩, by kernel_rfl⟩
  g__law_number := mg _ _ (by kernel_rfl)
  F__law_is_count := ⟨(fu (top 248) "_law_is_count" "_law_is_count" 3 [] vN vN vN (vs "law_coverstore_k91_disks" 4282) none (vr 3047) vN 0), ⟨(vt "function"), none, vN, vN, vN, (vs "law_coverstore_k91_disks" 4282), none, (vr 3047), vN, #[], by kernel_rfl, by kernel_rfl, by kernel_rfl, .inl ⟨rfl, rfl⟩, .inl rfl⟩, by kernel_rfl⟩
  g__law_is_count := mg _ _ (by kernel_rfl)
  F__law_told := ⟨(fu (top 249) "_law_told" "_law_told" 3 [] vN vN vN (vs "law_coverstore_k91_disks" 4282) none (vr 3054) vN 0), ⟨(vt "function"), none, vN, vN, vN, (vs "law_coverstore_k91_disks" 4282), none, (vr 3054), vN, #[], by kernel_rfl, by kernel_rfl, by kernel_rfl, .inl ⟨rfl, rfl⟩, .inl rfl⟩, by kernel_rfl⟩
  g__law_told := mg _ _ (by kernel_rfl)
  F__law_write_right := ⟨(fu (top 250) "_law_write_right" "_law_write_right" 3 [] vN vN vN (vs "law_coverstore_k91_disks" 4282) none (vr 3061) vN 0), ⟨(vt "function"), none, vN, vN, vN, (vs "law_coverstore_k91_disks" 4282), none, (vr 3061), vN, #[], by kernel_rfl, by kernel_rfl, by kernel_rfl, .inl ⟨rfl, rfl⟩, .inl rfl⟩, by kernel_rfl⟩
  g__law_write_right := mg _ _ (by kernel_rfl)
  F__law_crash_right := ⟨(fu (top 251) "_law_crash_right" "_law_crash_right" 3 [] vN vN vN (vs "law_coverstore_k91_disks" 4282) none (vr 3068) vN 0), ⟨(vt "function"), none, vN, vN, vN, (vs "law_coverstore_k91_disks" 4282), none, (vr 3068), vN, #[], by kernel_rfl, by kernel_rfl, by kernel_rfl, .inl ⟨rfl, rfl⟩, .inl rfl⟩, by kernel_rfl⟩
  g__law_crash_right := mg _ _ (by kernel_rfl)
  F__law_spoil_right := ⟨(fu (top 252) "_law_spoil_right" "_law_spoil_right" 3 [] vN vN vN (vs "law_coverstore_k91_disks" 4282) none (vr 3075) vN 0), ⟨(vt "function"), none, vN, vN, vN, (vs "law_coverstore_k91_disks" 4282), none, (vr 3075), vN, #[], by kernel_rfl, by kernel_rfl, by kernel_rfl, .inl ⟨rfl, rfl⟩, .inl rfl⟩, by kernel_rfl⟩
  g__law_spoil_right := mg _ _ (by kernel_rfl)
  F__law_state_right := ⟨(fu (top 253) "_law_state_right" "_law_state_right" 3 [] vN vN vN (vs "law_coverstore_k91_disks" 4282) none (vr 3080) vN 0), ⟨(vt "function"), none, vN, vN, vN, (vs "law_coverstore_k91_disks" 4282), none, (vr 3080), vN, #[], by kernel_rfl, by kernel_rfl, by kernel_rfl, .inl ⟨rfl, rfl⟩, .inl rfl⟩, by kernel_rfl⟩
  g__law_state_right := mg _ _ (by kernel_rfl)
  F__law_named_right := ⟨(fu (top 254) "_law_named_right" "_law_named_right" 3 [] vN vN vN (vs "law_coverstore_k91_disks" 4282) none (vr 3087) vN 0), ⟨(vt "function"), none, vN, vN, vN, (vs "law_coverstore_k91_disks" 4282), none, (vr 3087), vN, #[], by kernel_rfl, by kernel_rfl, by kernel_rfl, .inl ⟨rfl, rfl⟩, .inl rfl⟩, by kernel_rfl⟩
  g__law_named_right := mg _ _ (by kernel_rfl)
  F__law_right := ⟨(fu (top 255) "_law_right" "_law_right" 3 [] vN vN vN (vs "law_coverstore_k91_disks" 4282) none (vr 3094) vN 0), ⟨(vt "function"), none, vN, vN, vN, (vs "law_coverstore_k91_disks" 4282), none, (vr 3094), vN, #[], by kernel_rfl, by kernel_rfl, by kernel_rfl, .inl ⟨rfl, rfl⟩, .inl rfl⟩, by kernel_rfl⟩
  g__law_right := mg _ _ (by kernel_rfl)
  F_is_integer := ⟨(fu (top 42) "is_integer" "is_integer" 3 [] vN vN vN (vs "coverstore.ranges" 1114) none (vr 702) vN 0), ⟨(vt "function"), none, vN, vN, vN, (vs "coverstore.ranges" 1114), none, (vr 702), vN, #[], by kernel_rfl, by kernel_rfl, by kernel_rfl, .inl ⟨rfl, rfl⟩, .inl rfl⟩, by kernel_rfl⟩
  g_is_integer := mg _ _ (by kernel_rfl)
  F_require_page := ⟨(fu (top 57) "require_page" "require_page" 3 [] vN vN vN (vs "coverstore.disks" 1226) none (vr 791) vN 0), ⟨(vt "function"), none, vN, vN, vN, (vs "coverstore.disks" 1226), none, (vr 791), vN, #[], by kernel_rfl, by kernel_rfl, by kernel_rfl, .inl ⟨rfl, rfl⟩, .inl rfl⟩, by kernel_rfl⟩
  g_require_page := mg _ _ (by kernel_rfl)
  g_Disk := mg _ _ (by kernel_rfl)
  kp_Disk := by kernel_rfl
  cl_Disk := ⟨by kernel_rfl, by kernel_rfl, by kernel_rfl, by kernel_rfl⟩
  n_Disk_own_pages := by unfold L2.NoAttr; kernel_rfl
  n_Disk_pages_left := by unfold L2.NoAttr; kernel_rfl
  F_Disk___len__ := ⟨(fu (inClass (top 58) 2) "__len__" "Disk.__len__" 3 [] vN vN vN (vs "coverstore.disks" 1226) none (vr 812) vN 0), ⟨(vt "function"), none, vN, vN, vN, (vs "coverstore.disks" 1226), none, (vr 812), vN, #[], by kernel_rfl, by kernel_rfl, by kernel_rfl, .inl ⟨rfl, rfl⟩, .inl rfl⟩, by kernel_rfl⟩
  m_Disk___len__ := ⟨by kernel_rfl, by kernel_rfl, by kernel_rfl⟩
  F_Disk_pages := ⟨(fu (inClass (top 58) 4) "pages" "Disk.pages" 3 [] vN vN vN (vs "coverstore.disks" 1226) none (vr 827) vN 0), ⟨(vt "function"), none, vN, vN, vN, (vs "coverstore.disks" 1226), none, (vr 827), vN, #[], by kernel_rfl, by kernel_rfl, by kernel_rfl, .inl ⟨rfl, rfl⟩, .inl rfl⟩, by kernel_rfl⟩
  m_Disk_pages := ⟨by kernel_rfl, by kernel_rfl, by kernel_rfl⟩
  F_Disk_write := ⟨(fu (inClass (top 58) 5) "write" "Disk.write" 3 [] vN vN vN (vs "coverstore.disks" 1226) none (vr 834) vN 0), ⟨(vt "function"), none, vN, vN, vN, (vs "coverstore.disks" 1226), none, (vr 834), vN, #[], by kernel_rfl, by kernel_rfl, by kernel_rfl, .inl ⟨rfl, rfl⟩, .inl rfl⟩, by kernel_rfl⟩
  m_Disk_write := ⟨by kernel_rfl, by kernel_rfl, by kernel_rfl⟩
  F_Disk_crash_after := ⟨(fu (inClass (top 58) 6) "crash_after" "Disk.crash_after" 3 [] vN vN vN (vs "coverstore.disks" 1226) none (vr 841) vN 0), ⟨(vt "function"), none, vN, vN, vN, (vs "coverstore.disks" 1226), none, (vr 841), vN, #[], by kernel_rfl, by kernel_rfl, by kernel_rfl, .inl ⟨rfl, rfl⟩, .inl rfl⟩, by kernel_rfl⟩
  m_Disk_crash_after := ⟨by kernel_rfl, by kernel_rfl, by kernel_rfl⟩
  F_Disk_restarted := ⟨(fu (inClass (top 58) 7) "restarted" "Disk.restarted" 3 [] vN vN vN (vs "coverstore.disks" 1226) none (vr 848) vN 0), ⟨(vt "function"), none, vN, vN, vN, (vs "coverstore.disks" 1226), none, (vr 848), vN, #[], by kernel_rfl, by kernel_rfl, by kernel_rfl, .inl ⟨rfl, rfl⟩, .inl rfl⟩, by kernel_rfl⟩
  m_Disk_restarted := ⟨by kernel_rfl, by kernel_rfl, by kernel_rfl⟩
  F_Disk_spoil := ⟨(fu (inClass (top 58) 8) "spoil" "Disk.spoil" 3 [] vN vN vN (vs "coverstore.disks" 1226) none (vr 855) vN 0), ⟨(vt "function"), none, vN, vN, vN, (vs "coverstore.disks" 1226), none, (vr 855), vN, #[], by kernel_rfl, by kernel_rfl, by kernel_rfl, .inl ⟨rfl, rfl⟩, .inl rfl⟩, by kernel_rfl⟩
  m_Disk_spoil := ⟨by kernel_rfl, by kernel_rfl, by kernel_rfl⟩
  F_Disk_keep_first := ⟨(fu (inClass (top 58) 9) "keep_first" "Disk.keep_first" 3 [] vN vN vN (vs "coverstore.disks" 1226) none (vr 862) vN 0), ⟨(vt "function"), none, vN, vN, vN, (vs "coverstore.disks" 1226), none, (vr 862), vN, #[], by kernel_rfl, by kernel_rfl, by kernel_rfl, .inl ⟨rfl, rfl⟩, .inl rfl⟩, by kernel_rfl⟩
  m_Disk_keep_first := ⟨by kernel_rfl, by kernel_rfl, by kernel_rfl⟩
  F_Disk_has_crashed := ⟨(fu (inClass (top 58) 3) "has_crashed" "Disk.has_crashed" 3 [] vN vN vN (vs "coverstore.disks" 1226) none (vr 819) vN 0), ⟨(vt "function"), none, vN, vN, vN, (vs "coverstore.disks" 1226), none, (vr 819), vN, #[], by kernel_rfl, by kernel_rfl, by kernel_rfl, .inl ⟨rfl, rfl⟩, .inl rfl⟩, by kernel_rfl⟩
  q_Disk_has_crashed := ⟨by kernel_rfl, by kernel_rfl, by kernel_rfl, ⟨[vN, vN, vN, (vs "has_crashed" 1272), vF], by kernel_rfl⟩⟩
  F_Disk___init__ := ⟨(fu (inClass (top 58) 1) "__init__" "Disk.__init__" 3 [] vN vN vN (vs "coverstore.disks" 1226) none (vr 805) vN 0), ⟨(vt "function"), none, vN, vN, vN, (vs "coverstore.disks" 1226), none, (vr 805), vN, #[], by kernel_rfl, by kernel_rfl, by kernel_rfl, .inl ⟨rfl, rfl⟩, .inl rfl⟩, by kernel_rfl⟩
  k_Disk := ⟨by kernel_rfl, by kernel_rfl, by kernel_rfl, by kernel_rfl⟩
  cmp_Disk := cmpC_of "Disk" "Disk" 865 [(vt "object")] true [] [] false none none none none (some (vs "Disk" 1237)) (some (vs "Disk" 1245)) (some vT) "object.__new__" (by kernel_rfl) (by kernel_rfl)
  cr_Disk := ⟨by kernel_rfl, by kernel_rfl⟩
  cv_Disk_PAGE := ⟨vi 32 1249, by kernel_rfl, ⟨_, rfl⟩⟩
  g_InvalidPage := mg _ _ (by kernel_rfl)
  x_InvalidPage := ⟨⟨"InvalidPage", "InvalidPage", 335, [(vr 31)], [(vr 31), (vt "ValueError"), (vt "Exception"), (vt "BaseException"), (vt "object")], [], [], false, none, none, (some (vr 320)), none, (some (vs "InvalidPage" 591)), (some (vs "InvalidPage" 599)), (some vT), by kernel_rfl, by kernel_rfl⟩, by kernel_rfl, by kernel_rfl, by kernel_rfl, by kernel_rfl⟩
  xf_InvalidPage := ⟨by kernel_rfl, by kernel_rfl, by kernel_rfl, by kernel_rfl⟩
  xc_InvalidPage := ⟨by kernel_rfl, by kernel_rfl, by kernel_rfl, by kernel_rfl, by kernel_rfl, by kernel_rfl, by kernel_rfl, by kernel_rfl⟩
  F_InvalidPage___init__ := ⟨(fu (inClass (top 18) 0) "__init__" "InvalidPage.__init__" 3 [] vN vN vN (vs "coverstore.errors" 194) none (vr 332) vN 0), ⟨(vt "function"), none, vN, vN, vN, (vs "coverstore.errors" 194), none, (vr 332), vN, #[], by kernel_rfl, by kernel_rfl, by kernel_rfl, .inl ⟨rfl, rfl⟩, .inl rfl⟩, by kernel_rfl⟩
  xi_InvalidPage := by kernel_rfl
  xt_InvalidPage := by kernel_rfl
  n_InvalidPage_value := by kernel_rfl
  g_InvalidPlace := mg _ _ (by kernel_rfl)
  x_InvalidPlace := ⟨⟨"InvalidPlace", "InvalidPlace", 126, [(vr 31)], [(vr 31), (vt "ValueError"), (vt "Exception"), (vt "BaseException"), (vt "object")], [], [], false, none, none, (some (vr 111)), none, (some (vs "InvalidPlace" 314)), (some (vs "InvalidPlace" 322)), (some vT), by kernel_rfl, by kernel_rfl⟩, by kernel_rfl, by kernel_rfl, by kernel_rfl, by kernel_rfl⟩
  xf_InvalidPlace := ⟨by kernel_rfl, by kernel_rfl, by kernel_rfl, by kernel_rfl⟩
  xc_InvalidPlace := ⟨by kernel_rfl, by kernel_rfl, by kernel_rfl, by kernel_rfl, by kernel_rfl, by kernel_rfl, by kernel_rfl, by kernel_rfl⟩
  F_InvalidPlace___init__ := ⟨(fu (inClass (top 7) 0) "__init__" "InvalidPlace.__init__" 3 [] vN vN vN (vs "coverstore.errors" 194) none (vr 123) vN 0), ⟨(vt "function"), none, vN, vN, vN, (vs "coverstore.errors" 194), none, (vr 123), vN, #[], by kernel_rfl, by kernel_rfl, by kernel_rfl, .inl ⟨rfl, rfl⟩, .inl rfl⟩, by kernel_rfl⟩
  xi_InvalidPlace := by kernel_rfl
  xt_InvalidPlace := by kernel_rfl
  n_InvalidPlace_value := by kernel_rfl
  g_InvalidCount := mg _ _ (by kernel_rfl)
  x_InvalidCount := ⟨⟨"InvalidCount", "InvalidCount", 145, [(vr 31)], [(vr 31), (vt "ValueError"), (vt "Exception"), (vt "BaseException"), (vt "object")], [], [], false, none, none, (some (vr 130)), none, (some (vs "InvalidCount" 339)), (some (vs "InvalidCount" 347)), (some vT), by kernel_rfl, by kernel_rfl⟩, by kernel_rfl, by kernel_rfl, by kernel_rfl, by kernel_rfl⟩
  xf_InvalidCount := ⟨by kernel_rfl, by kernel_rfl, by kernel_rfl, by kernel_rfl⟩
  xc_InvalidCount := ⟨by kernel_rfl, by kernel_rfl, by kernel_rfl, by kernel_rfl, by kernel_rfl, by kernel_rfl, by kernel_rfl, by kernel_rfl⟩
  F_InvalidCount___init__ := ⟨(fu (inClass (top 8) 0) "__init__" "InvalidCount.__init__" 3 [] vN vN vN (vs "coverstore.errors" 194) none (vr 142) vN 0), ⟨(vt "function"), none, vN, vN, vN, (vs "coverstore.errors" 194), none, (vr 142), vN, #[], by kernel_rfl, by kernel_rfl, by kernel_rfl, .inl ⟨rfl, rfl⟩, .inl rfl⟩, by kernel_rfl⟩
  xi_InvalidCount := by kernel_rfl
  xt_InvalidCount := by kernel_rfl
  n_InvalidCount_value := by kernel_rfl
  g_CoverError := mg _ _ (by kernel_rfl)
  cr_CoverError := ⟨by kernel_rfl, by kernel_rfl⟩
  ci_CoverError := by kernel_rfl
  g_Crashed := mg _ _ (by kernel_rfl)
  xc_Crashed := ⟨by kernel_rfl, by kernel_rfl, by kernel_rfl, by kernel_rfl, by kernel_rfl, by kernel_rfl, by kernel_rfl, by kernel_rfl⟩
  ex_InvalidPage_InvalidPage := by kernel_rfl
  ex_InvalidPage_InvalidPlace := by kernel_rfl
  ex_InvalidPage_InvalidCount := by kernel_rfl
  ex_InvalidPage_Crashed := by kernel_rfl
  ex_InvalidPlace_InvalidPage := by kernel_rfl
  ex_InvalidPlace_InvalidPlace := by kernel_rfl
  ex_InvalidPlace_InvalidCount := by kernel_rfl
  ex_InvalidPlace_Crashed := by kernel_rfl
  ex_InvalidCount_InvalidPage := by kernel_rfl
  ex_InvalidCount_InvalidPlace := by kernel_rfl
  ex_InvalidCount_InvalidCount := by kernel_rfl
  ex_InvalidCount_Crashed := by kernel_rfl
  ex_Crashed_InvalidPage := by kernel_rfl
  ex_Crashed_InvalidPlace := by kernel_rfl
  ex_Crashed_InvalidCount := by kernel_rfl
  ex_Crashed_Crashed := by kernel_rfl
  is_InvalidPage := by kernel_rfl
  is_InvalidPlace := by kernel_rfl
  is_InvalidCount := by kernel_rfl
  is_Crashed := by kernel_rfl
  kp_Crashed := by kernel_rfl
  xr_Crashed := by kernel_rfl
  xs_Crashed := by kernel_rfl
  xy_Crashed := by kernel_rfl
  b_isinstance := mg0 _ (by kernel_rfl)
  b_int := mg0 _ (by kernel_rfl)
  b_bool := mg0 _ (by kernel_rfl)
  b_str := mg0 _ (by kernel_rfl)
  b_len := mg0 _ (by kernel_rfl)
  b_list := mg0 _ (by kernel_rfl)
  b_range := mg0 _ (by kernel_rfl)
  b_repr := mg0 _ (by kernel_rfl)
  b_abs := mg0 _ (by kernel_rfl)
  b_max := mg0 _ (by kernel_rfl)
  b_min := mg0 _ (by kernel_rfl)
  b_all := mg0 _ (by kernel_rfl)
  b_enumerate := mg0 _ (by kernel_rfl)
  b_RuntimeError := mg0 _ (by kernel_rfl)
  b_ValueError := mg0 _ (by kernel_rfl)
  b_sum := mg0 _ (by kernel_rfl)
  b_ord := mg0 _ (by kernel_rfl)
  b_super := mg0 _ (by kernel_rfl)
  v_PAGE_SIZE := ⟨1228, mg _ _ (by kernel_rfl)⟩
  v_MAX_BITS := ⟨1116, mg _ _ (by kernel_rfl)⟩
  v_PART_SIZE := ⟨4017, mg _ _ (by kernel_rfl)⟩
  v_MORE := ⟨4019, mg _ _ (by kernel_rfl)⟩
  v_LAST := ⟨4021, mg _ _ (by kernel_rfl)⟩
  v_CHECK_DIGITS := ⟨4025, mg _ _ (by kernel_rfl)⟩
  v_CHECK_MODULUS := ⟨4027, mg _ _ (by kernel_rfl)⟩
  v_BITS := ⟨4029, mg _ _ (by kernel_rfl)⟩
  v_DIGITS_durable := ⟨4037, mg _ _ (by kernel_rfl)⟩
  v_MOST_DIGITS_durable := ⟨4039, mg _ _ (by kernel_rfl)⟩
  F_is_bits := ⟨(fu (top 43) "is_bits" "is_bits" 3 [] vN vN vN (vs "coverstore.ranges" 1114) none (vr 709) vN 0), ⟨(vt "function"), none, vN, vN, vN, (vs "coverstore.ranges" 1114), none, (vr 709), vN, #[], by kernel_rfl, by kernel_rfl, by kernel_rfl, .inl ⟨rfl, rfl⟩, .inl rfl⟩, by kernel_rfl⟩
  g_is_bits := mg _ _ (by kernel_rfl)
  F_require_bits := ⟨(fu (top 46) "require_bits" "require_bits" 3 [] vN vN vN (vs "coverstore.ranges" 1114) none (vr 728) vN 0), ⟨(vt "function"), none, vN, vN, vN, (vs "coverstore.ranges" 1114), none, (vr 728), vN, #[], by kernel_rfl, by kernel_rfl, by kernel_rfl, .inl ⟨rfl, rfl⟩, .inl rfl⟩, by kernel_rfl⟩
  g_require_bits := mg _ _ (by kernel_rfl)
  F_check_sum := ⟨(fu (top 225) "check_sum" "check_sum" 3 [] vN vN vN (vs "coverstore.durable" 4014) none (vr 2825) vN 0), ⟨(vt "function"), none, vN, vN, vN, (vs "coverstore.durable" 4014), none, (vr 2825), vN, #[], by kernel_rfl, by kernel_rfl, by kernel_rfl, .inl ⟨rfl, rfl⟩, .inl rfl⟩, by kernel_rfl⟩
  g_check_sum := mg _ _ (by kernel_rfl)
  F_record_text := ⟨(fu (top 226) "record_text" "record_text" 3 [] vN vN vN (vs "coverstore.durable" 4014) none (vr 2832) vN 0), ⟨(vt "function"), none, vN, vN, vN, (vs "coverstore.durable" 4014), none, (vr 2832), vN, #[], by kernel_rfl, by kernel_rfl, by kernel_rfl, .inl ⟨rfl, rfl⟩, .inl rfl⟩, by kernel_rfl⟩
  g_record_text := mg _ _ (by kernel_rfl)
  F_pages_of := ⟨(fu (top 227) "pages_of" "pages_of" 3 [] vN vN vN (vs "coverstore.durable" 4014) none (vr 2837) vN 0), ⟨(vt "function"), none, vN, vN, vN, (vs "coverstore.durable" 4014), none, (vr 2837), vN, #[], by kernel_rfl, by kernel_rfl, by kernel_rfl, .inl ⟨rfl, rfl⟩, .inl rfl⟩, by kernel_rfl⟩
  g_pages_of := mg _ _ (by kernel_rfl)
  F_bits_body := ⟨(fu (top 229) "bits_body" "bits_body" 3 [] vN vN vN (vs "coverstore.durable" 4014) none (vr 2849) vN 0), ⟨(vt "function"), none, vN, vN, vN, (vs "coverstore.durable" 4014), none, (vr 2849), vN, #[], by kernel_rfl, by kernel_rfl, by kernel_rfl, .inl ⟨rfl, rfl⟩, .inl rfl⟩, by kernel_rfl⟩
  g_bits_body := mg _ _ (by kernel_rfl)
  F_integer_in := ⟨(fu (top 234) "integer_in" "integer_in" 3 [] vN vN vN (vs "coverstore.durable" 4014) none (vr 2876) vN 0), ⟨(vt "function"), none, vN, vN, vN, (vs "coverstore.durable" 4014), none, (vr 2876), vN, #[], by kernel_rfl, by kernel_rfl, by kernel_rfl, .inl ⟨rfl, rfl⟩, .inl rfl⟩, by kernel_rfl⟩
  g_integer_in := mg _ _ (by kernel_rfl)
  F_bits_in := ⟨(fu (top 240) "bits_in" "bits_in" 3 [] vN vN vN (vs "coverstore.durable" 4014) none (vr 3000) vN 0), ⟨(vt "function"), none, vN, vN, vN, (vs "coverstore.durable" 4014), none, (vr 3000), vN, #[], by kernel_rfl, by kernel_rfl, by kernel_rfl, .inl ⟨rfl, rfl⟩, .inl rfl⟩, by kernel_rfl⟩
  g_bits_in := mg _ _ (by kernel_rfl)
  g_Base := mg _ _ (by kernel_rfl)
  kp_Base := by kernel_rfl
  cl_Base := ⟨by kernel_rfl, by kernel_rfl, by kernel_rfl, by kernel_rfl⟩
  n_Base_own_bits := by unfold L2.NoAttr; kernel_rfl
  n_Base_own_tables := by unfold L2.NoAttr; kernel_rfl
  n_Base_newest := by unfold L2.NoAttr; kernel_rfl
  n_Base_own_oldest := by unfold L2.NoAttr; kernel_rfl
  F_Base_tables := ⟨(fu (inClass (top 102) 9) "tables" "Base.tables" 3 [] vN vN vN (vs "coverstore.bases" 1979) none (vr 1514) vN 0), ⟨(vt "function"), none, vN, vN, vN, (vs "coverstore.bases" 1979), none, (vr 1514), vN, #[], by kernel_rfl, by kernel_rfl, by kernel_rfl, .inl ⟨rfl, rfl⟩, .inl rfl⟩, by kernel_rfl⟩
  m_Base_tables := ⟨by kernel_rfl, by kernel_rfl, by kernel_rfl⟩
  F_Base_bits := ⟨(fu (inClass (top 102) 3) "bits" "Base.bits" 3 [] vN vN vN (vs "coverstore.bases" 1979) none (vr 1469) vN 0), ⟨(vt "function"), none, vN, vN, vN, (vs "coverstore.bases" 1979), none, (vr 1469), vN, #[], by kernel_rfl, by kernel_rfl, by kernel_rfl, .inl ⟨rfl, rfl⟩, .inl rfl⟩, by kernel_rfl⟩
  q_Base_bits := ⟨by kernel_rfl, by kernel_rfl, by kernel_rfl, ⟨[vN, vN, vN, (vs "bits" 2158), vF], by kernel_rfl⟩⟩
  F_Base_version := ⟨(fu (inClass (top 102) 4) "version" "Base.version" 3 [] vN vN vN (vs "coverstore.bases" 1979) none (vr 1477) vN 0), ⟨(vt "function"), none, vN, vN, vN, (vs "coverstore.bases" 1979), none, (vr 1477), vN, #[], by kernel_rfl, by kernel_rfl, by kernel_rfl, .inl ⟨rfl, rfl⟩, .inl rfl⟩, by kernel_rfl⟩
  q_Base_version := ⟨by kernel_rfl, by kernel_rfl, by kernel_rfl, ⟨[vN, vN, vN, (vs "version" 2166), vF], by kernel_rfl⟩⟩
  F_Base___init__ := ⟨(fu (inClass (top 102) 2) "__init__" "Base.__init__" 3 [] vN vN vN (vs "coverstore.bases" 1979) none (vr 1462) vN 0), ⟨(vt "function"), none, vN, vN, vN, (vs "coverstore.bases" 1979), none, (vr 1462), vN, #[], by kernel_rfl, by kernel_rfl, by kernel_rfl, .inl ⟨rfl, rfl⟩, .inl rfl⟩, by kernel_rfl⟩
  k_Base := ⟨by kernel_rfl, by kernel_rfl, by kernel_rfl, by kernel_rfl⟩
  g_Keeper := mg _ _ (by kernel_rfl)
  kp_Keeper := by kernel_rfl
  cl_Keeper := ⟨by kernel_rfl, by kernel_rfl, by kernel_rfl, by kernel_rfl⟩
  n_Keeper_base := by unfold L2.NoAttr; kernel_rfl
  n_Keeper_entries := by unfold L2.NoAttr; kernel_rfl
  n_Keeper_many_kept := by unfold L2.NoAttr; kernel_rfl
  F_Keeper___init__ := ⟨(fu (inClass (top 207) 0) "__init__" "Keeper.__init__" 3 [] vN vN vN (vs "coverstore.keepers" 3456) none (vr 2394) vN 0), ⟨(vt "function"), none, vN, vN, vN, (vs "coverstore.keepers" 3456), none, (vr 2394), vN, #[], by kernel_rfl, by kernel_rfl, by kernel_rfl, .inl ⟨rfl, rfl⟩, .inl rfl⟩, by kernel_rfl⟩
  k_Keeper := ⟨by kernel_rfl, by kernel_rfl, by kernel_rfl, by kernel_rfl⟩
  g_Store := mg _ _ (by kernel_rfl)
  kp_Store := by kernel_rfl
  cl_Store := ⟨by kernel_rfl, by kernel_rfl, by kernel_rfl, by kernel_rfl⟩
  F_Store_tables := ⟨(fu (inClass (top 211) 6) "tables" "Store.tables" 3 [] vN vN vN (vs "coverstore.stores" 3797) none (vr 2703) vN 0), ⟨(vt "function"), none, vN, vN, vN, (vs "coverstore.stores" 3797), none, (vr 2703), vN, #[], by kernel_rfl, by kernel_rfl, by kernel_rfl, .inl ⟨rfl, rfl⟩, .inl rfl⟩, by kernel_rfl⟩
  m_Store_tables := ⟨by kernel_rfl, by kernel_rfl, by kernel_rfl⟩
  F_Store_bits := ⟨(fu (inClass (top 211) 1) "bits" "Store.bits" 3 [] vN vN vN (vs "coverstore.stores" 3797) none (vr 2664) vN 0), ⟨(vt "function"), none, vN, vN, vN, (vs "coverstore.stores" 3797), none, (vr 2664), vN, #[], by kernel_rfl, by kernel_rfl, by kernel_rfl, .inl ⟨rfl, rfl⟩, .inl rfl⟩, by kernel_rfl⟩
  q_Store_bits := ⟨by kernel_rfl, by kernel_rfl, by kernel_rfl, ⟨[vN, vN, vN, (vs "bits" 3826), vF], by kernel_rfl⟩⟩
  F_Store_version := ⟨(fu (inClass (top 211) 2) "version" "Store.version" 3 [] vN vN vN (vs "coverstore.stores" 3797) none (vr 2672) vN 0), ⟨(vt "function"), none, vN, vN, vN, (vs "coverstore.stores" 3797), none, (vr 2672), vN, #[], by kernel_rfl, by kernel_rfl, by kernel_rfl, .inl ⟨rfl, rfl⟩, .inl rfl⟩, by kernel_rfl⟩
  q_Store_version := ⟨by kernel_rfl, by kernel_rfl, by kernel_rfl, ⟨[vN, vN, vN, (vs "version" 3834), vF], by kernel_rfl⟩⟩
  F_Store___init__ := ⟨(fu (inClass (top 211) 0) "__init__" "Store.__init__" 3 [] vN vN vN (vs "coverstore.stores" 3797) none (vr 2657) vN 0), ⟨(vt "function"), none, vN, vN, vN, (vs "coverstore.stores" 3797), none, (vr 2657), vN, #[], by kernel_rfl, by kernel_rfl, by kernel_rfl, .inl ⟨rfl, rfl⟩, .inl rfl⟩, by kernel_rfl⟩
  k_Store := ⟨by kernel_rfl, by kernel_rfl, by kernel_rfl, by kernel_rfl⟩
  g_NextRecord := mg _ _ (by kernel_rfl)
  kp_NextRecord := by kernel_rfl
  cl_NextRecord := ⟨by kernel_rfl, by kernel_rfl, by kernel_rfl, by kernel_rfl⟩
  n_NextRecord_body := by unfold L2.NoAttr; kernel_rfl
  n_NextRecord_count := by unfold L2.NoAttr; kernel_rfl
  F_NextRecord_take_pages := ⟨(fu (inClass (top 238) 1) "take_pages" "NextRecord.take_pages" 3 [] vN vN vN (vs "coverstore.durable" 4014) none (vr 2903) vN 0), ⟨(vt "function"), none, vN, vN, vN, (vs "coverstore.durable" 4014), none, (vr 2903), vN, #[], by kernel_rfl, by kernel_rfl, by kernel_rfl, .inl ⟨rfl, rfl⟩, .inl rfl⟩, by kernel_rfl⟩
  m_NextRecord_take_pages := ⟨by kernel_rfl, by kernel_rfl, by kernel_rfl⟩
  F_NextRecord___init__ := ⟨(fu (inClass (top 238) 0) "__init__" "NextRecord.__init__" 3 [] vN vN vN (vs "coverstore.durable" 4014) none (vr 2898) vN 0), ⟨(vt "function"), none, vN, vN, vN, (vs "coverstore.durable" 4014), none, (vr 2898), vN, #[], by kernel_rfl, by kernel_rfl, by kernel_rfl, .inl ⟨rfl, rfl⟩, .inl rfl⟩, by kernel_rfl⟩
  k_NextRecord := ⟨by kernel_rfl, by kernel_rfl, by kernel_rfl, by kernel_rfl⟩
  g_DurableStore := mg _ _ (by kernel_rfl)
  kp_DurableStore := by kernel_rfl
  cl_DurableStore := ⟨by kernel_rfl, by kernel_rfl, by kernel_rfl, by kernel_rfl⟩
  n_DurableStore_own_disk := by unfold L2.NoAttr; kernel_rfl
  n_DurableStore_base := by unfold L2.NoAttr; kernel_rfl
  n_DurableStore_own_keeper := by unfold L2.NoAttr; kernel_rfl
  n_DurableStore_own_constraints := by unfold L2.NoAttr; kernel_rfl
  n_DurableStore_begun := by unfold L2.NoAttr; kernel_rfl
  n_DurableStore_own_pins := by unfold L2.NoAttr; kernel_rfl
  F_DurableStore_write_record := ⟨(fu (inClass (top 239) 2) "write_record" "DurableStore.write_record" 3 [] vN vN vN (vs "coverstore.durable" 4014) none (vr 2943) vN 0), ⟨(vt "function"), none, vN, vN, vN, (vs "coverstore.durable" 4014), none, (vr 2943), vN, #[], by kernel_rfl, by kernel_rfl, by kernel_rfl, .inl ⟨rfl, rfl⟩, .inl rfl⟩, by kernel_rfl⟩
  m_DurableStore_write_record := ⟨by kernel_rfl, by kernel_rfl, by kernel_rfl⟩
  m_DurableStore_tables := ⟨by kernel_rfl, by kernel_rfl, by kernel_rfl⟩
  q_DurableStore_bits := ⟨by kernel_rfl, by kernel_rfl, by kernel_rfl, ⟨[vN, vN, vN, (vs "bits" 3826), vF], by kernel_rfl⟩⟩
  q_DurableStore_version := ⟨by kernel_rfl, by kernel_rfl, by kernel_rfl, ⟨[vN, vN, vN, (vs "version" 3834), vF], by kernel_rfl⟩⟩
  F_DurableStore_recovered := ⟨(fu (inClass (top 239) 1) "recovered" "DurableStore.recovered" 3 [] vN vN vN (vs "coverstore.durable" 4014) (some 2937) (vr 2933) vN 0), ⟨(vt "function"), none, vN, vN, vN, (vs "coverstore.durable" 4014), (some 2937), (vr 2933), vN, #[], by kernel_rfl, by kernel_rfl, by kernel_rfl, .inl ⟨rfl, rfl⟩, .inl rfl⟩, by kernel_rfl⟩
  w_DurableStore_recovered := ⟨by kernel_rfl, ⟨[vF], by kernel_rfl⟩, by kernel_rfl⟩
  cr_DurableStore := ⟨by kernel_rfl, by kernel_rfl⟩
  S_DurableStore___init__ := ⟨_, ⟨(vt "function"), none, vN, (vs "coverstore.durable" 4014), (vr 2920), #[], rfl, by kernel_rfl⟩, rfl, by kernel_rfl, by kernel_rfl, by kernel_rfl, by kernel_rfl, by kernel_rfl, ⟨(vt "code"), none, #[(vs "__init__" 4164), (vs "DurableStore.__init__" 4165), (vs "/claim/cut.py" 4166), (vi 1671 0), (vi 3 0), (vi 0 0), (vi 0 0), (vi 3 0), (vr 2921), vT, (vi 181 0), (vr 2922), vN, (vr 2923), (vr 2924), (vr 2925), (vi 4171 0), (vi 1671 0), (vs "/claim/cut.py" 4172)], #[], "/claim/cut.py", 4166, by kernel_rfl, by kernel_rfl, by kernel_rfl⟩, by kernel_rfl, ⟨(vt "cell"), none, #[], by kernel_rfl⟩, by kernel_rfl, by kernel_rfl, mg0 _ (by kernel_rfl), by kernel_rfl⟩
  M_DurableStore___init__ := ⟨by kernel_rfl, by kernel_rfl, by kernel_rfl, by kernel_rfl⟩
  k_DurableStore := ⟨by kernel_rfl, by kernel_rfl, by kernel_rfl, by kernel_rfl⟩
  kf_DurableStore___init__ := by kernel_rfl
end Hd
/-! ### k91: the end -/
namespace Gd
open PySem PySem.Spec PyProof.Rows L2
theorem law_end (w : World) (mg : Str → Option Value) (fa : Addr) (h : Heap) (X : (Hd.KL w).In h) (G : h.Ns mainGlobals mg) (hmg : mg ("law" : Str) = some (.ref fa)) :
    ∃ (K : PySem.W.Frag) (fd : FuncData) (sp : Sp), K.In h ∧ (∀ (s : Shared) (u : Value), BindsTo s fd ⟨[u], []⟩ [("_law_script", u)]) ∧
      (∀ (H : Hp) (a : Addr) (ns : List Int), ns.length ≤ 63 → SqL K H a (ns.map V.int) → sp [.ref a] H (fun v _ => v = .bl true) fun _ _ _ => False) ∧
      ∀ base : Heap, K.In base → base.Ns mainGlobals mg → FnG PW w K mg base (L2.CX PW w) 12 fa fd ["_law_script"] sp := by
  have T := Hd.txt w mg (fun n v e => PySem.W.mg_of X G e) (fun n e => PySem.W.mg_none_of X G e)
  have e := hmg.symm.trans T.g_law
  cases e
  obtain ⟨fd, F⟩ := T.F_law
  have b := FunD.bindsA (ps := ["_law_script"]) F fun _ _ _ _ _ _ us hl => match us, hl with | [_], _ => rfl
  refine ⟨Hd.KL w, fd, sp1 fun x H Q _ => ∃ (a : Addr) (ns : List Int), x = .ref a ∧ SqL (Hd.KL w) H a (ns.map V.int) ∧ ns.length ≤ 63 ∧ ∀ H', Q (.bl true) H', X, fun s u => b s [u] rfl, fun H a ns hl hS => ⟨a, ns, rfl, hS, hl, fun _ => rfl⟩, fun base KB GB => ?_⟩
  exact ok_law T F
end Gd
open PySem PySem.W PySem.Calls PyProof.Rows
theorem PySem.Challenge.cw_coverstore_k91_disks_holds : PySem.Challenge.rw_coverstore_k91_disks.Holds := by
  refine Gd.law_said fun k1 => ?_
  refine holds_open (r := OpenLaw.row PySem.Challenge.rw_coverstore_k91_disks) (q := Hd.qv) (loose := Hd.names) (XP := XL Hd.qv []) (YP := Hd.hk.says) (d := HandSHeadRun.topDef (OpenLaw.row PySem.Challenge.rw_coverstore_k91_disks).prog 256) (kwd := []) (Hd.left Hd.obv_eq) Hd.hk.of Hd.hk.keeps (fun s z => xl_of s (Bool.and_eq_true_iff.mp z).1) XL.keeps
    (by kernel_rfl) (by kernel_rfl) (by kernel_rfl) (fun s z => recFacts_of (Bool.and_eq_true_iff.mp z).2) (by rfl) k1 (by decide +kernel) ⟨rfl, rfl, rfl, rfl, rfl, Hd.pw_whole⟩ ?hw ?hc
  case hw => w_witness2
  case hc =>
    refine Gd.walkG (l := PySem.Challenge.rw_coverstore_k91_disks) (n := 63) (k := 12) (x := "_law_script") (CX := fun w => L2.CX Gd.PW w) rfl (by decide) (by kernel_rfl) ⟨rfl, by decide, by decide⟩ (fun w mg fa h Y G hmg0 => ?_) (fun w H s e s' z => ?_)
    · have hmg : mg ("law" : PySem.Str) = some (.ref fa) := by
        have e : (HandSHeadRun.topDef (OpenLaw.row PySem.Challenge.rw_coverstore_k91_disks).prog 256).name = ("law" : PySem.Str) := by kernel_rfl
        rw [← e]
        exact hmg0
      exact Gd.law_end w mg fa h Y G hmg
    · obtain ⟨_, _, _, _, _, _, _, _, _, _, _, _, hE⟩ := z
      exact hE
